import PyProof.Rows.All
import Wide.All
import OpenK.AllK
import Wide.FinOn
import HandS.ForMost
import HandS.Walk
import HandS.Conv
import HandS.Flow
import HandS.Codes
import HandS.IsInst
import HandS.TupAny
import HandS.TupMul
import HandS.Star
import HandS.SortKw
import HandS.TupSets
import HandS.Zip
import HandS.SortRule
import HandS.SortInts
import HandS.Style
import HandS.Exc
import HandS.TryMany
import HandS.ForExc
import HandS.ExcOwn
import KE.GoesEnum
import KE.KDictZip
import HandS.Slots
import HandS.Dict
import PyProof.Rows.TupMore
import KE.KDictPairs
import PySem.Challenge.RW_anydlooks_k86_whole_renewals_harm_by_the
set_option Elab.async false
set_option linter.all false
set_option maxRecDepth 100000
set_option maxHeartbeats 8000000
/-! VY: a calculus over pure data on top of the hand layer. The heap is hidden: slots hold data (D), own lists (changed in place), or nothing. -/
namespace VY
open PySem PySem.Spec PyProof.Rows L2

/-- data: what never changes -/
inductive D where
  | non | bl (b : Bool) | int (i : Int) | str (s : Str) | tup (ts : List D) | lst (ts : List D) | scr (ts : List D) | pt (ts : List D)

mutual
inductive Rep (K : PySem.W.Frag) (H : Hp) : D → V → Prop
  | non : Rep K H .non .non
  | bl (b : Bool) : Rep K H (.bl b) (.bl b)
  | int (i : Int) : Rep K H (.int i) (.int i)
  | str (x : Str) : Rep K H (.str x) (.str x)
  | tup {a : Addr} {xs : List V} {ts : List D} : H a = some (.tup xs) → Reps K H ts xs → Rep K H (.tup ts) (.ref a)
  | lst {a : Addr} {xs : List V} {ts : List D} : H a = some (.lst xs) → Reps K H ts xs → Rep K H (.lst ts) (.ref a)
  | scr {a : Addr} {xs : List V} {ts : List D} : SqL K H a xs → Reps K H ts xs → Rep K H (.scr ts) (.ref a)
  | pt {a : Addr} {o : Obj} {xs : List V} {ts : List D} : H a = some (.frz o (.tup xs)) → o.dict = none → Reps K H ts xs → Rep K H (.pt ts) (.ref a)
inductive Reps (K : PySem.W.Frag) (H : Hp) : List D → List V → Prop
  | nil : Reps K H [] []
  | cons {t : D} {v : V} {ts : List D} {vs : List V} : Rep K H t v → Reps K H ts vs → Reps K H (t :: ts) (v :: vs)
end

def Ex (H H' : Hp) : Prop := ∀ a o, H a = some o → H' a = some o
theorem Ex.refl (H : Hp) : Ex H H := fun _ _ h => h
theorem Ex.trans {H H1 H2 : Hp} (a : Ex H H1) (b : Ex H1 H2) : Ex H H2 := fun x o h => b x o (a x o h)
theorem Ex.new {H : Hp} {p : Addr} {o : HO} (h : H p = none) : Ex H (upd H p o) := fun a u e => by
  rw [upd_ne (ne_of_none e h)]
  exact e
theorem Ex.sq {K : PySem.W.Frag} {H H' : Hp} {a : Addr} {xs : List V} (e : Ex H H') (h : SqL K H a xs) : SqL K H' a xs := by
  rcases h with (h | ⟨o, h⟩) | h
  · exact .inl (.inl (e _ _ h))
  · exact .inl (.inr ⟨o, e _ _ h⟩)
  · exact .inr h

mutual
theorem Rep.ex {K : PySem.W.Frag} {H H' : Hp} (e : Ex H H') : ∀ {t : D} {v : V}, Rep K H t v → Rep K H' t v
  | _, _, .non => .non
  | _, _, .bl b => .bl b
  | _, _, .int i => .int i
  | _, _, .str x => .str x
  | _, _, .tup h r => .tup (e _ _ h) (Reps.ex e r)
  | _, _, .lst h r => .lst (e _ _ h) (Reps.ex e r)
  | _, _, .scr h r => .scr (e.sq h) (Reps.ex e r)
  | _, _, .pt h d r => .pt (e _ _ h) d (Reps.ex e r)
theorem Reps.ex {K : PySem.W.Frag} {H H' : Hp} (e : Ex H H') : ∀ {ts : List D} {vs : List V}, Reps K H ts vs → Reps K H' ts vs
  | _, _, .nil => .nil
  | _, _, .cons r s => .cons (Rep.ex e r) (Reps.ex e s)
end
section
variable {K : PySem.W.Frag} {H : Hp}
theorem Reps.len : ∀ {ts : List D} {vs : List V}, Reps K H ts vs → ts.length = vs.length
  | _, _, .nil => rfl
  | _, _, .cons _ s => congrArg (· + 1) s.len
theorem Reps.get : ∀ {ts : List D} {vs : List V} {i : Nat} {t : D}, Reps K H ts vs → ts[i]? = some t → ∃ v, vs[i]? = some v ∧ Rep K H t v
  | _, _, _, _, .nil, h => by simp at h
  | _, _, 0, _, .cons r _, h => by simp at h; subst h; exact ⟨_, rfl, r⟩
  | _, _, i + 1, t, .cons _ s, h => by
    obtain ⟨v, e, r⟩ := Reps.get (i := i) (t := t) s (by simpa using h)
    exact ⟨v, by simpa using e, r⟩
theorem Reps.getV : ∀ {ts : List D} {vs : List V} {i : Nat} {v : V}, Reps K H ts vs → vs[i]? = some v → ∃ t, ts[i]? = some t ∧ Rep K H t v
  | _, _, _, _, .nil, h => by simp at h
  | _, _, 0, _, .cons r _, h => by simp at h; subst h; exact ⟨_, rfl, r⟩
  | _, _, i + 1, v, .cons _ s, h => by
    obtain ⟨t, e, r⟩ := Reps.getV (i := i) (v := v) s (by simpa using h)
    exact ⟨t, by simpa using e, r⟩
theorem Reps.append : ∀ {ts us : List D} {vs ws : List V}, Reps K H ts vs → Reps K H us ws → Reps K H (ts ++ us) (vs ++ ws)
  | _, _, _, _, .nil, s => s
  | _, _, _, _, .cons r t, s => .cons r (Reps.append t s)
theorem Reps.one {t : D} {v : V} (r : Rep K H t v) : Reps K H [t] [v] := .cons r .nil
theorem Reps.take : ∀ {ts : List D} {vs : List V} (n : Nat), Reps K H ts vs → Reps K H (ts.take n) (vs.take n)
  | _, _, 0, _ => .nil
  | _, _, _ + 1, .nil => .nil
  | _, _, n + 1, .cons r t => .cons r (Reps.take n t)
theorem Reps.drop : ∀ {ts : List D} {vs : List V} (n : Nat), Reps K H ts vs → Reps K H (ts.drop n) (vs.drop n)
  | _, _, 0, r => r
  | _, _, _ + 1, .nil => .nil
  | _, _, n + 1, .cons _ t => Reps.drop n t
theorem Reps.set {t : D} {v : V} (r : Rep K H t v) : ∀ {ts : List D} {vs : List V} (i : Nat), Reps K H ts vs → Reps K H (ts.set i t) (vs.set i v)
  | _, _, _, .nil => .nil
  | _, _, 0, .cons _ s => .cons r s
  | _, _, i + 1, .cons q s => .cons q (Reps.set r i s)
theorem Reps.erase : ∀ {ts : List D} {vs : List V} (i : Nat), Reps K H ts vs → Reps K H (ts.eraseIdx i) (vs.eraseIdx i)
  | _, _, _, .nil => .nil
  | _, _, 0, .cons _ s => s
  | _, _, i + 1, .cons q s => .cons q (Reps.erase i s)
theorem Reps.rep {ts : List D} {vs : List V} (r : Reps K H ts vs) : ∀ n : Nat, Reps K H (List.replicate n ts).flatten (List.replicate n vs).flatten
  | 0 => .nil
  | n + 1 => by
    rw [List.replicate_succ, List.replicate_succ, List.flatten_cons, List.flatten_cons]
    exact r.append (Reps.rep r n)
theorem Reps.ints : ∀ {ns : List Int}, Reps K H (ns.map D.int) (ns.map V.int)
  | [] => .nil
  | n :: ns => .cons (.int n) Reps.ints
theorem Reps.ints_eq : ∀ {ns : List Int} {vs : List V}, Reps K H (ns.map D.int) vs → vs = ns.map V.int
  | [], _, .nil => rfl
  | n :: ns, _, .cons r s => by
    cases r
    rw [Reps.ints_eq s]
    rfl
theorem Reps.bools_eq : ∀ {bs : List Bool} {vs : List V}, Reps K H (bs.map D.bl) vs → vs = bs.map V.bl
  | [], _, .nil => rfl
  | b :: bs, _, .cons r s => by
    cases r
    rw [Reps.bools_eq s]
    rfl
theorem Rep.int_eq {i : Int} {v : V} (r : Rep K H (.int i) v) : v = .int i := by cases r; rfl
theorem Rep.bl_eq {b : Bool} {v : V} (r : Rep K H (.bl b) v) : v = .bl b := by cases r; rfl
theorem Rep.str_eq {b : Str} {v : V} (r : Rep K H (.str b) v) : v = .str b := by cases r; rfl
theorem Rep.non_eq {v : V} (r : Rep K H .non v) : v = .non := by cases r; rfl
end

/-! ### what is changed in place -/
/-- a container's contents -/
inductive Cl where
  | lst (ds : List D) | dct (kvs : List (Key × D))
/-- an attribute: data, or a container of the object's own (at b) -/
inductive Fd where
  | dat (d : D) | own (b : Addr) (c : Cl)
/-- a container, or an instance of the class at C -/
inductive T where
  | cl (c : Cl) | ins (C : Addr) (fs : List (Str × Fd))
abbrev T.l (ds : List D) : T := .cl (.lst ds)
abbrev KReps (K : PySem.W.Frag) (F : Hp) : List (Key × D) → List (Key × V) → Prop := Paired fun (p : Key × D) (q : Key × V) => p.1 = q.1 ∧ Rep K F p.2 q.2
def ClAt (K : PySem.W.Frag) (F H : Hp) (a : Addr) : Cl → Prop
  | .lst ds => (∃ xs, H a = some (.lst xs) ∧ Reps K F ds xs) ∧ F a = none
  | .dct kvs => (∃ ps, H a = some (.dK ps) ∧ KReps K F kvs ps) ∧ F a = none
def FdAt (K : PySem.W.Frag) (F H : Hp) : Fd → V → Prop
  | .dat d, v => Rep K F d v
  | .own b c, v => v = .ref b ∧ ClAt K F H b c
abbrev FsAt (K : PySem.W.Frag) (F H : Hp) : List (Str × Fd) → List (Str × V) → Prop := Paired fun (p : Str × Fd) (q : Str × V) => p.1 = q.1 ∧ FdAt K F H p.2 q.2
def fAddrs : List (Str × Fd) → List Addr
  | [] => []
  | (_, .own b _) :: r => b :: fAddrs r
  | (_, .dat _) :: r => fAddrs r
def tAddrs (a : Addr) : T → List Addr
  | .cl _ => [a]
  | .ins _ fs => a :: fAddrs fs
def TAt (K : PySem.W.Frag) (F H : Hp) (a : Addr) : T → Prop
  | .cl c => ClAt K F H a c
  | .ins C fs => (∃ dx vs, H a = some (.ins C dx vs) ∧ FsAt K F H fs vs) ∧ F a = none ∧ (a :: fAddrs fs).Nodup
theorem root_mem {a : Addr} {t : T} : a ∈ tAddrs a t := by
  cases t <;> exact List.mem_cons_self
section
variable {K : PySem.W.Frag} {F H F' H' : Hp} {a b : Addr}
theorem ClAt.there {c : Cl} (h : ClAt K F H a c) : (∃ o, H a = some o) ∧ F a = none := by
  cases c <;> obtain ⟨⟨xs, e, _⟩, z⟩ := h <;> exact ⟨⟨_, e⟩, z⟩
theorem KReps.ex (e : Ex F F') : ∀ {ts : List (Key × D)} {vs : List (Key × V)}, KReps K F ts vs → KReps K F' ts vs
  | _, _, .nil => .nil
  | _, _, .cons r s => .cons ⟨r.1, r.2.ex e⟩ (KReps.ex e s)
theorem ClAt.grow {c : Cl} (h : ClAt K F H a c) (f : Ex F F') (k : ∀ o, H a = some o → F a = none → H' a = some o ∧ F' a = none) : ClAt K F' H' a c := by
  cases c with
  | lst ds =>
    obtain ⟨⟨xs, e, r⟩, z⟩ := h
    obtain ⟨k1, k2⟩ := k _ e z
    exact ⟨⟨xs, k1, r.ex f⟩, k2⟩
  | dct kvs =>
    obtain ⟨⟨xs, e, r⟩, z⟩ := h
    obtain ⟨k1, k2⟩ := k _ e z
    exact ⟨⟨xs, k1, KReps.ex f r⟩, k2⟩
theorem FsAt.there : ∀ {fs : List (Str × Fd)} {vs : List (Str × V)}, FsAt K F H fs vs → b ∈ fAddrs fs → (∃ o, H b = some o) ∧ F b = none
  | _, _, .nil, m => by cases m
  | (_, .dat _) :: _, _, .cons _ s, m => FsAt.there s m
  | (_, .own c _) :: _, _, .cons r s, m => by
    rcases List.mem_cons.mp m with rfl | m
    · exact r.2.2.there
    · exact FsAt.there s m
theorem FsAt.grow (f : Ex F F') : ∀ {fs : List (Str × Fd)} {vs : List (Str × V)}, FsAt K F H fs vs → (∀ b ∈ fAddrs fs, ∀ o, H b = some o → F b = none → H' b = some o ∧ F' b = none) → FsAt K F' H' fs vs
  | _, _, .nil, _ => .nil
  | (_, .dat _) :: _, _, .cons r s, k => .cons ⟨r.1, Rep.ex f r.2⟩ (FsAt.grow f s k)
  | (_, .own c _) :: _, _, .cons r s, k => .cons ⟨r.1, r.2.1, r.2.2.grow f (k c List.mem_cons_self)⟩ (FsAt.grow f s fun b m => k b (List.mem_cons_of_mem _ m))
theorem TAt.there {t : T} (h : TAt K F H a t) (m : b ∈ tAddrs a t) : (∃ o, H b = some o) ∧ F b = none := by
  cases t with
  | cl c =>
    rcases List.mem_cons.mp m with rfl | m
    · exact ClAt.there h
    · cases m
  | ins C fs =>
    obtain ⟨⟨dx, vs, e, r⟩, z, _⟩ := h
    rcases List.mem_cons.mp m with rfl | m
    · exact ⟨⟨_, e⟩, z⟩
    · exact FsAt.there r m
theorem TAt.grow {t : T} (h : TAt K F H a t) (f : Ex F F') (k : ∀ b ∈ tAddrs a t, ∀ o, H b = some o → F b = none → H' b = some o ∧ F' b = none) : TAt K F' H' a t := by
  cases t with
  | cl c => exact ClAt.grow h f (k a List.mem_cons_self)
  | ins C fs =>
    obtain ⟨⟨dx, vs, e, r⟩, z, nd⟩ := h
    obtain ⟨k1, k2⟩ := k a List.mem_cons_self _ e z
    exact ⟨⟨dx, vs, k1, FsAt.grow f r fun b m => k b (List.mem_cons_of_mem _ m)⟩, k2, nd⟩
theorem TAt.nodup {t : T} (h : TAt K F H a t) : (tAddrs a t).Nodup := by
  cases t with
  | cl c => exact List.nodup_cons.mpr ⟨nofun, List.nodup_nil⟩
  | ins C fs => exact h.2.2
end

/-! ### slots -/
inductive Dsc where
  | un | dat (d : D) | own (t : T) | io (t : T)
/-- the activation: its in-and-out things by slot, all addresses handed in, the heap at the entry, what was frozen there -/
structure Ac where
  io : Nat → Option Addr
  ps : Nat → Addr → Prop
  H0 : Hp
  F0 : Hp
/-- b is one of the addresses of the thing in slot i -/
def OwnAt (σ : L2.St) (Γ : List Dsc) (i : Nat) (b : Addr) : Prop := ∃ a t, σ[i]? = some (some (.ref a)) ∧ (Γ[i]? = some (.own t) ∨ Γ[i]? = some (.io t)) ∧ b ∈ tAddrs a t
def RtAt (σ : L2.St) (Γ : List Dsc) (i : Nat) (a : Addr) : Prop := σ[i]? = some (some (.ref a)) ∧ ∃ t, Γ[i]? = some (.own t) ∨ Γ[i]? = some (.io t)
theorem RtAt.own {σ : L2.St} {Γ : List Dsc} {i : Nat} {a : Addr} (h : RtAt σ Γ i a) : OwnAt σ Γ i a := by
  obtain ⟨h1, t, h2⟩ := h
  exact ⟨a, t, h1, h2, root_mem⟩
def Own (σ : L2.St) (Γ : List Dsc) (a : Addr) : Prop := ∃ i, OwnAt σ Γ i a
structure Fm (K : PySem.W.Frag) (A : Ac) (F H : Hp) (σ : L2.St) (Γ : List Dsc) : Prop where
  len : σ.length = Γ.length
  fh : Ex F H
  ff : Ex A.F0 F
  base : ∀ b o, A.H0 b = some o → (∀ i, ¬ A.ps i b) → H b = some o
  gg : ∀ b, H b = none → A.H0 b = none
  nf : ∀ b o, A.H0 b = some o → A.F0 b = none → F b = none
  dat : ∀ (i : Nat) (d : D), Γ[i]? = some (.dat d) → ∃ v, σ[i]? = some (some v) ∧ Rep K F d v
  own : ∀ (i : Nat) (t : T), Γ[i]? = some (.own t) → ∃ a, σ[i]? = some (some (.ref a)) ∧ TAt K F H a t ∧ ∀ b ∈ tAddrs a t, A.H0 b = none
  iio : ∀ (i : Nat) (t : T), Γ[i]? = some (.io t) → ∃ a, σ[i]? = some (some (.ref a)) ∧ TAt K F H a t ∧ A.io i = some a ∧ ∀ b ∈ tAddrs a t, A.H0 b = none ∨ A.ps i b
  ia : ∀ (i : Nat) (a : Addr), A.io i = some a → ∃ t, Γ[i]? = some (.io t)
  dj : ∀ (i j : Nat) (a : Addr), OwnAt σ Γ i a → OwnAt σ Γ j a → i = j
def Sim (Γ Γ' : List Dsc) : Prop := Γ.length = Γ'.length ∧ ∀ i : Nat, Γ'[i]? = Γ[i]? ∨ (∃ ds ds', Γ[i]? = some (.own ds) ∧ Γ'[i]? = some (.own ds')) ∨ (∃ ds ds', Γ[i]? = some (.io ds) ∧ Γ'[i]? = some (.io ds'))
theorem Sim.refl (Γ : List Dsc) : Sim Γ Γ := ⟨rfl, fun _ => .inl rfl⟩
theorem Sim.trans {Γ Γ1 Γ2 : List Dsc} (a : Sim Γ Γ1) (b : Sim Γ1 Γ2) : Sim Γ Γ2 := ⟨a.1.trans b.1, fun i => by
  rcases a.2 i with h | ⟨ds, es, h1, h2⟩ | ⟨ds, es, h1, h2⟩ <;> rcases b.2 i with g | ⟨us, ws, g1, g2⟩ | ⟨us, ws, g1, g2⟩
  · exact .inl (g.trans h)
  · exact .inr (.inl ⟨us, ws, by rw [← h]; exact g1, g2⟩)
  · exact .inr (.inr ⟨us, ws, by rw [← h]; exact g1, g2⟩)
  · exact .inr (.inl ⟨ds, es, h1, by rw [g]; exact h2⟩)
  · exact .inr (.inl ⟨ds, ws, h1, g2⟩)
  · rw [h2] at g1; cases g1
  · exact .inr (.inr ⟨ds, es, h1, by rw [g]; exact h2⟩)
  · rw [h2] at g1; cases g1
  · exact .inr (.inr ⟨ds, ws, h1, g2⟩)⟩
theorem Sim.rtAt {Γ Γ' : List Dsc} {σ : L2.St} {i : Nat} {a : Addr} (s : Sim Γ Γ') : RtAt σ Γ' i a ↔ RtAt σ Γ i a := by
  constructor
  · rintro ⟨h, ds, e⟩
    refine ⟨h, ?_⟩
    rcases s.2 i with g | ⟨us, ws, g1, g2⟩ | ⟨us, ws, g1, g2⟩
    · exact ⟨ds, by rw [← g]; exact e⟩
    · exact ⟨us, .inl g1⟩
    · exact ⟨us, .inr g1⟩
  · rintro ⟨h, ds, e⟩
    refine ⟨h, ?_⟩
    rcases s.2 i with g | ⟨us, ws, g1, g2⟩ | ⟨us, ws, g1, g2⟩
    · exact ⟨ds, by rw [g]; exact e⟩
    · exact ⟨ws, .inl g2⟩
    · exact ⟨ws, .inr g2⟩
/-- what an expression may do -/
structure Stp (σ : L2.St) (Γ Γ' : List Dsc) (F H F' H' : Hp) : Prop where
  f : Ex F F'
  k : ∀ b o, H b = some o → ¬ Own σ Γ b → H' b = some o
  n : ∀ b o, H b = some o → F b = none → F' b = none
  g : ∀ b, H' b = none → H b = none
  sm : Sim Γ Γ'
  o : ∀ i b, OwnAt σ Γ' i b → OwnAt σ Γ i b ∨ H b = none
theorem Stp.refl {σ : L2.St} {Γ : List Dsc} {F H : Hp} : Stp σ Γ Γ F H F H := ⟨Ex.refl _, fun _ _ h _ => h, fun _ _ _ h => h, fun _ h => h, Sim.refl _, fun _ _ h => .inl h⟩
/-- what nobody owned nobody owns -/
theorem Stp.no {σ : L2.St} {Γ Γ' : List Dsc} {F H F' H' : Hp} (a : Stp σ Γ Γ' F H F' H') {b : Addr} {o : HO} (h : H b = some o) (n : ¬ Own σ Γ b) : ¬ Own σ Γ' b := fun z => by
  obtain ⟨i, z⟩ := z
  rcases a.o i b z with z | z
  · exact n ⟨i, z⟩
  · rw [h] at z; cases z
theorem Stp.trans {σ : L2.St} {Γ Γ1 Γ2 : List Dsc} {F H F1 H1 F2 H2 : Hp} (a : Stp σ Γ Γ1 F H F1 H1) (b : Stp σ Γ1 Γ2 F1 H1 F2 H2) : Stp σ Γ Γ2 F H F2 H2 where
  f := a.f.trans b.f
  k := fun x o h n => b.k x o (a.k x o h n) (a.no h n)
  n := fun x o h n => by
    cases q : H1 x with
    | none => rw [a.g x q] at h; cases h
    | some u => exact b.n x u q (a.n x o h n)
  g := fun x h => a.g x (b.g x h)
  sm := a.sm.trans b.sm
  o := fun i x h => by
    rcases b.o i x h with h | h
    · exact a.o i x h
    · exact .inr (a.g x h)

/-! ### values of expressions -/
inductive Dv where
  | dat (d : D) | new (t : T) | loc (i : Nat) | fld (i : Nat) (f : Str) (b : Addr)
def VOk (K : PySem.W.Frag) (A : Ac) (Hs F H : Hp) (σ : L2.St) (Γ : List Dsc) : Dv → V → Prop
  | .dat d, v => Rep K F d v
  | .new t, v => ∃ a, v = .ref a ∧ TAt K F H a t ∧ ∀ b ∈ tAddrs a t, A.H0 b = none ∧ ¬ Own σ Γ b ∧ Hs b = none
  | .loc i, v => ∃ a, v = .ref a ∧ RtAt σ Γ i a
  | .fld _ _ b, v => v = .ref b
section
variable {K : PySem.W.Frag} {A : Ac} {Hs Hs' F H F' H' : Hp} {σ : L2.St} {Γ Γ' : List Dsc} {d : Dv} {v : V}
theorem VOk.stp (h : VOk K A Hs F H σ Γ d v) (s : Stp σ Γ Γ' F H F' H') : VOk K A Hs F' H' σ Γ' d v := by
  cases d with
  | dat d => exact Rep.ex s.f h
  | new t =>
    obtain ⟨a, rfl, l, no⟩ := h
    refine ⟨a, rfl, l.grow s.f fun b m o e z => ⟨s.k b o e (no b m).2.1, s.n b o e z⟩, fun b m => ⟨(no b m).1, ?_, (no b m).2.2⟩⟩
    obtain ⟨⟨o, e⟩, _⟩ := l.there m
    exact s.no e (no b m).2.1
  | loc i =>
    obtain ⟨a, rfl, o⟩ := h
    exact ⟨a, rfl, s.sm.rtAt.mpr o⟩
  | fld i f b => exact h
theorem VOk.back (h : VOk K A Hs F H σ Γ d v) (b : ∀ x, Hs x = none → Hs' x = none) : VOk K A Hs' F H σ Γ d v := by
  cases d with
  | dat d => exact h
  | new t =>
    obtain ⟨a, e, l, no⟩ := h
    exact ⟨a, e, l, fun x m => ⟨(no x m).1, (no x m).2.1, b x (no x m).2.2⟩⟩
  | loc i => exact h
  | fld i f b => exact h
end
abbrev VsOk (K : PySem.W.Frag) (A : Ac) (Hs F H : Hp) (σ : L2.St) (Γ : List Dsc) : List Dv → List V → Prop := Paired (VOk K A Hs F H σ Γ)
section
variable {K : PySem.W.Frag} {A : Ac} {Hs Hs' F H F' H' : Hp} {σ : L2.St} {Γ Γ' : List Dsc}
theorem VsOk.stp (s : Stp σ Γ Γ' F H F' H') : ∀ {ds : List Dv} {vs : List V}, VsOk K A Hs F H σ Γ ds vs → VsOk K A Hs F' H' σ Γ' ds vs
  | _, _, .nil => .nil
  | _, _, .cons r t => .cons (VOk.stp r s) (VsOk.stp s t)
theorem VsOk.back (b : ∀ x, Hs x = none → Hs' x = none) : ∀ {ds : List Dv} {vs : List V}, VsOk K A Hs F H σ Γ ds vs → VsOk K A Hs' F H σ Γ ds vs
  | _, _, .nil => .nil
  | _, _, .cons r t => .cons (VOk.back r b) (VsOk.back b t)
end

/-! ### the frame is kept -/
section
variable {K : PySem.W.Frag} {A : Ac} {F H : Hp} {σ : L2.St} {Γ : List Dsc} {p : Addr} {o : HO}
theorem Fm.g0 (fm : Fm K A F H σ Γ) {b : Addr} {o : HO} (h : A.H0 b = some o) : ∃ o', H b = some o' := by
  cases q : H b with
  | some o' => exact ⟨o', rfl⟩
  | none => rw [fm.gg b q] at h; cases h
theorem Fm.h0 (fm : Fm K A F H σ Γ) {b : Addr} (h : H b = none) : A.H0 b = none := fm.gg b h
/-- the thing that owns an address -/
theorem Fm.thing (fm : Fm K A F H σ Γ) {i : Nat} {a : Addr} {t : T} (e : σ[i]? = some (some (.ref a))) (g : Γ[i]? = some (.own t) ∨ Γ[i]? = some (.io t)) : TAt K F H a t ∧ ∀ b ∈ tAddrs a t, A.H0 b = none ∨ A.ps i b := by
  rcases g with g | g
  · obtain ⟨a', e1, l, h0⟩ := fm.own i t g
    rw [e] at e1; cases e1
    exact ⟨l, fun b m => .inl (h0 b m)⟩
  · obtain ⟨a', e1, l, _, h0⟩ := fm.iio i t g
    rw [e] at e1; cases e1
    exact ⟨l, h0⟩
theorem Fm.ownSome (fm : Fm K A F H σ Γ) {b : Addr} (h : Own σ Γ b) : (∃ o, H b = some o) ∧ F b = none ∧ (A.H0 b = none ∨ ∃ i, A.ps i b) := by
  obtain ⟨i, a, t, e, g, m⟩ := h
  obtain ⟨l, h0⟩ := fm.thing e g
  obtain ⟨h1, h2⟩ := l.there m
  exact ⟨h1, h2, (h0 b m).imp id fun z => ⟨i, z⟩⟩
theorem Fm.notOwn (fm : Fm K A F H σ Γ) {b : Addr} (h : H b = none) : ¬ Own σ Γ b := fun z => by
  obtain ⟨⟨o, e⟩, _⟩ := fm.ownSome z
  rw [h] at e; cases e
theorem Fm.fnone (fm : Fm K A F H σ Γ) {b : Addr} (h : H b = none) : F b = none := by
  cases q : F b with
  | none => rfl
  | some o => rw [fm.fh b o q] at h; cases h
/-- the heap changes at what nobody owns, or grows; some is frozen -/
theorem Fm.mv (fm : Fm K A F H σ Γ) {F' H' : Hp} (fh : Ex F' H') (f : Ex F F') (hb : ∀ b o, A.H0 b = some o → (∀ i, ¬ A.ps i b) → H b = some o → H' b = some o) (gg : ∀ b, H' b = none → H b = none)
    (nf : ∀ b o, A.H0 b = some o → F b = none → F' b = none) (k : ∀ b, Own σ Γ b → ∀ o, H b = some o → F b = none → H' b = some o ∧ F' b = none) : Fm K A F' H' σ Γ where
  len := fm.len
  fh := fh
  ff := fm.ff.trans f
  base := fun b u h n => hb b u h n (fm.base b u h n)
  gg := fun b h => fm.gg b (gg b h)
  nf := fun b u h z => nf b u h (fm.nf b u h z)
  dat := fun i d h => by
    obtain ⟨v, e, r⟩ := fm.dat i d h
    exact ⟨v, e, r.ex f⟩
  own := fun i t h => by
    obtain ⟨a, e, l, z⟩ := fm.own i t h
    exact ⟨a, e, l.grow f fun b m => k b ⟨i, a, t, e, .inl h, m⟩, z⟩
  iio := fun i t h => by
    obtain ⟨a, e, l, z⟩ := fm.iio i t h
    exact ⟨a, e, l.grow f fun b m => k b ⟨i, a, t, e, .inr h, m⟩, z⟩
  ia := fm.ia
  dj := fm.dj
theorem ex_allocF {F H : Hp} {p : Addr} {o : HO} (h : Ex F H) : Ex (upd F p o) (upd H p o) := fun b u e => by
  by_cases q : b = p
  · subst q; rw [upd_same] at e ⊢; exact e
  · rw [upd_ne q] at e ⊢; exact h b u e
theorem upd_none {H : Hp} {p b : Addr} {o : HO} (h : upd H p o b = none) : H b = none ∧ b ≠ p := by
  by_cases q : b = p
  · subst q; rw [upd_same] at h; cases h
  · rw [upd_ne q] at h; exact ⟨h, q⟩
/-- a new object, not frozen -/
theorem Fm.alloc (fm : Fm K A F H σ Γ) (hp : H p = none) : Fm K A F (upd H p o) σ Γ :=
  fm.mv (fm.fh.trans (Ex.new hp)) (Ex.refl _) (fun b u _ _ e => Ex.new hp _ _ e) (fun b h => (upd_none h).1) (fun _ _ _ z => z) fun b w u e z => ⟨Ex.new hp _ _ e, z⟩
/-- a new object, frozen at once -/
theorem Fm.allocF (fm : Fm K A F H σ Γ) (hp : H p = none) : Fm K A (upd F p o) (upd H p o) σ Γ :=
  fm.mv (ex_allocF fm.fh) (Ex.new (fm.fnone hp)) (fun b u _ _ e => Ex.new hp _ _ e) (fun b h => (upd_none h).1) (fun b u h z => by
    obtain ⟨o', e⟩ := fm.g0 h
    rw [upd_ne (ne_of_none e hp)]; exact z) fun b w u e z => ⟨Ex.new hp _ _ e, by rw [upd_ne (ne_of_none e hp)]; exact z⟩
/-- an object that nobody owns is frozen -/
theorem Fm.freeze (fm : Fm K A F H σ Γ) (hp : H p = some o) (hf : F p = none) (no : ¬ Own σ Γ p) (h0 : A.H0 p = none) : Fm K A (upd F p o) H σ Γ :=
  fm.mv (fun b u h => by
    by_cases q : b = p
    · subst q; rw [upd_same] at h; rw [hp]; exact h
    · rw [upd_ne q] at h; exact fm.fh b u h) (Ex.new hf) (fun b u _ _ e => e) (fun b h => h) (fun b u h z => by rw [upd_ne (ne_of_none h h0)]; exact z) fun b w u e z => ⟨e, by rw [upd_ne (fun q => no (by rw [← q]; exact w))]; exact z⟩
/-- what nobody owns and is not frozen may change -/
theorem Fm.scratch (fm : Fm K A F H σ Γ) (hf : F p = none) (no : ¬ Own σ Γ p) (h0 : A.H0 p = none) : Fm K A F (L2.upd H p o) σ Γ :=
  fm.mv (fun b u h => by rw [upd_ne (ne_of_none h hf)]; exact fm.fh b u h) (Ex.refl _) (fun b u h _ e => by rw [upd_ne (ne_of_none h h0)]; exact e) (fun b h => (upd_none h).1) (fun _ _ _ z => z)
    fun b w u e z => ⟨by rw [upd_ne (fun q => no (by rw [← q]; exact w))]; exact e, z⟩
theorem Stp.alloc (hp : H p = none) : Stp σ Γ Γ F H F (upd H p o) :=
  ⟨Ex.refl _, fun b u h _ => Ex.new hp _ _ h, fun _ _ _ z => z, fun b h => (upd_none h).1, Sim.refl _, fun _ _ h => .inl h⟩
theorem Stp.allocF (hp : H p = none) (hf : F p = none) : Stp σ Γ Γ F H (upd F p o) (upd H p o) :=
  ⟨Ex.new hf, fun b u h _ => Ex.new hp _ _ h, fun b u h z => by rw [upd_ne (ne_of_none h hp)]; exact z, fun b h => (upd_none h).1, Sim.refl _, fun _ _ h => .inl h⟩
/-- freezing what is younger than the start -/
theorem Stp.freeze {Γs : List Dsc} {Fs Hs : Hp} (s : Stp σ Γs Γ Fs Hs F H) (hf : F p = none) (hs : Hs p = none) : Stp σ Γs Γ Fs Hs (upd F p o) H :=
  ⟨s.f.trans (Ex.new hf), s.k, fun b u h z => by rw [upd_ne (ne_of_none h hs)]; exact s.n b u h z, s.g, s.sm, s.o⟩
theorem Stp.scratch {σ : L2.St} {Γs Γ : List Dsc} {Fs Hs F H : Hp} {p : Addr} {o : HO} (s : Stp σ Γs Γ Fs Hs F H) (hs : Hs p = none) : Stp σ Γs Γ Fs Hs F (L2.upd H p o) :=
  ⟨s.f, fun b u e n => by rw [upd_ne (ne_of_none e hs)]; exact s.k b u e n, s.n, fun b e => s.g b (upd_none e).1, s.sm, s.o⟩
end
end VY

/-! VY: the judgements (EW, TW, AW, Kw) and the rules for expressions. -/
namespace VY
open PySem PySem.Spec PyProof.Rows L2

/-! ### readings at their strongest -/
def EV (X : Cx) (e : Expr) : TE := fun σ H Q => ∃ t, PE X e t ∧ t σ H Q
theorem pe_top {X : Cx} {e : Expr} : PE X e (EV X e) := ⟨fun pins s σ H Q I ⟨_, h, q⟩ => h.run pins s σ H Q I q⟩
theorem EV.of {X : Cx} {e : Expr} {t : TE} {σ : L2.St} {H : Hp} {Q : VK} (h : PE X e t) (q : t σ H Q) : EV X e σ H Q := ⟨t, h, q⟩
def TV (X : Cx) (e : Expr) : TT := fun σ H Q => ∃ t, PT X e t ∧ t σ H Q
theorem pt_top {X : Cx} {e : Expr} : PT X e (TV X e) := ⟨fun pins s σ H Q I ⟨_, h, q⟩ => h.run pins s σ H Q I q⟩
def WV (X : Cx) (e : Expr) : TT := fun σ H Q => ∃ t, PW X e t ∧ t σ H Q
theorem pw_top {X : Cx} {e : Expr} : PW X e (WV X e) := ⟨fun wh pins s σ H Q I ⟨_, h, q⟩ => h.run wh pins s σ H Q I q⟩
def AV (X : Cx) (es : List Expr) : TA := fun σ H Q => ∃ t, PA X es t ∧ t σ H Q
theorem pa_top {X : Cx} {es : List Expr} : PA X es (AV X es) := ⟨fun pos pins s σ H Q I ⟨_, h, q⟩ => h.run pos pins s σ H Q I q⟩

/-! ### the judgements -/
abbrev PD := Dv → List Dsc → Prop
def EW (X : Cx) (e : Expr) (Γ : List Dsc) (P : PD) : Prop := ∀ A F H σ, Fm X.K A F H σ Γ → ∀ Q : VK,
  (∀ d Γ' v F' H', P d Γ' → Stp σ Γ Γ' F H F' H' → Fm X.K A F' H' σ Γ' → VOk X.K A H F' H' σ Γ' d v → Q v H') → EV X e σ H Q
def TW (X : Cx) (e : Expr) (Γ : List Dsc) (P : Bool → List Dsc → Prop) : Prop := ∀ A F H σ, Fm X.K A F H σ Γ → ∀ Q : Bool → Hp → Prop,
  (∀ b Γ' F' H', P b Γ' → Stp σ Γ Γ' F H F' H' → Fm X.K A F' H' σ Γ' → Q b H') → TV X e σ H Q
def WW (X : Cx) (e : Expr) (Γ : List Dsc) (P : Bool → List Dsc → Prop) : Prop := ∀ A F H σ, Fm X.K A F H σ Γ → ∀ Q : Bool → Hp → Prop,
  (∀ b Γ' F' H', P b Γ' → Stp σ Γ Γ' F H F' H' → Fm X.K A F' H' σ Γ' → Q b H') → WV X e σ H Q
def AW (X : Cx) (es : List Expr) (Γ : List Dsc) (P : List Dv → List Dsc → Prop) : Prop := ∀ A F H σ, Fm X.K A F H σ Γ → ∀ Q : List V → Hp → Prop,
  (∀ ds Γ' vs F' H', P ds Γ' → Stp σ Γ Γ' F H F' H' → Fm X.K A F' H' σ Γ' → VsOk X.K A H F' H' σ Γ' ds vs → Q vs H') → AV X es σ H Q
/-- an operation on values that are there -/
def Kw (X : Cx) (Γ : List Dsc) (xs : List Dv) (r : List V → Hp → VK → Prop) (P : PD) : Prop := ∀ A Fs Hs Γs F H σ vs, Fm X.K A F H σ Γ → Stp σ Γs Γ Fs Hs F H → VsOk X.K A Hs F H σ Γ xs vs →
  ∀ Q : VK, (∀ d Γ' v F' H', P d Γ' → Stp σ Γs Γ' Fs Hs F' H' → Fm X.K A F' H' σ Γ' → VOk X.K A Hs F' H' σ Γ' d v → Q v H') → r vs H Q
section
variable {X : Cx} {A : Ac} {Fs Hs F H : Hp} {σ : L2.St} {Γs Γ : List Dsc}
theorem EW.run {e : Expr} {P : PD} (h : EW X e Γ P) (fm : Fm X.K A F H σ Γ) (st : Stp σ Γs Γ Fs Hs F H) {Q : VK}
    (q : ∀ d Γ' v F' H', P d Γ' → Stp σ Γs Γ' Fs Hs F' H' → Stp σ Γ Γ' F H F' H' → Fm X.K A F' H' σ Γ' → VOk X.K A Hs F' H' σ Γ' d v → Q v H') : EV X e σ H Q :=
  h A F H σ fm Q fun d Γ' v F' H' p s fm' ok => q d Γ' v F' H' p (st.trans s) s fm' (ok.back st.g)
theorem TW.run {e : Expr} {P : Bool → List Dsc → Prop} (h : TW X e Γ P) (fm : Fm X.K A F H σ Γ) (st : Stp σ Γs Γ Fs Hs F H) {Q : Bool → Hp → Prop}
    (q : ∀ b Γ' F' H', P b Γ' → Stp σ Γs Γ' Fs Hs F' H' → Stp σ Γ Γ' F H F' H' → Fm X.K A F' H' σ Γ' → Q b H') : TV X e σ H Q :=
  h A F H σ fm Q fun d Γ' F' H' p s fm' => q d Γ' F' H' p (st.trans s) s fm'
theorem WW.run {e : Expr} {P : Bool → List Dsc → Prop} (h : WW X e Γ P) (fm : Fm X.K A F H σ Γ) (st : Stp σ Γs Γ Fs Hs F H) {Q : Bool → Hp → Prop}
    (q : ∀ b Γ' F' H', P b Γ' → Stp σ Γs Γ' Fs Hs F' H' → Stp σ Γ Γ' F H F' H' → Fm X.K A F' H' σ Γ' → Q b H') : WV X e σ H Q :=
  h A F H σ fm Q fun d Γ' F' H' p s fm' => q d Γ' F' H' p (st.trans s) s fm'
theorem AW.run {es : List Expr} {P : List Dv → List Dsc → Prop} (h : AW X es Γ P) (fm : Fm X.K A F H σ Γ) (st : Stp σ Γs Γ Fs Hs F H) {Q : List V → Hp → Prop}
    (q : ∀ ds Γ' vs F' H', P ds Γ' → Stp σ Γs Γ' Fs Hs F' H' → Stp σ Γ Γ' F H F' H' → Fm X.K A F' H' σ Γ' → VsOk X.K A Hs F' H' σ Γ' ds vs → Q vs H') : AV X es σ H Q :=
  h A F H σ fm Q fun d Γ' v F' H' p s fm' ok => q d Γ' v F' H' p (st.trans s) s fm' (VsOk.back st.g ok)
theorem EW.mono {e : Expr} {P P' : PD} (h : EW X e Γ P) (k : ∀ d Γ', P d Γ' → P' d Γ') : EW X e Γ P' :=
  fun A F H σ fm Q q => h A F H σ fm Q fun d Γ' v F' H' p => q d Γ' v F' H' (k d Γ' p)
theorem TW.mono {e : Expr} {P P' : Bool → List Dsc → Prop} (h : TW X e Γ P) (k : ∀ d Γ', P d Γ' → P' d Γ') : TW X e Γ P' :=
  fun A F H σ fm Q q => h A F H σ fm Q fun d Γ' F' H' p => q d Γ' F' H' (k d Γ' p)
end

/-! ### lists and tuples among values -/
def locT (Γ : List Dsc) (i : Nat) : Option T := match Γ[i]? with
  | some (.own t) => some t
  | some (.io t) => some t
  | _ => none
def fldT (Γ : List Dsc) (i : Nat) (f : Str) : Option Fd := match locT Γ i with
  | some (.ins _ fs) => fs.lookup f
  | _ => none
def Con1 (Γ : List Dsc) : Dv → Cl → Prop
  | .new (.cl e), c => e = c
  | .loc i, c => locT Γ i = some (.cl c)
  | .fld i f b, c => fldT Γ i f = some (.own b c)
  | _, _ => False
def Lst (Γ : List Dsc) : Dv → List D → Prop
  | .dat (.lst es), ds => es = ds
  | .new (.cl (.lst es)), ds => es = ds
  | .loc i, ds => locT Γ i = some (.cl (.lst ds))
  | .fld i f b, ds => fldT Γ i f = some (.own b (.lst ds))
  | _, _ => False
def Sq (Γ : List Dsc) : Dv → List D → Prop
  | .dat (.tup es), ds => es = ds
  | .dat (.scr es), ds => es = ds
  | .dat (.pt es), ds => es = ds
  | x, ds => Lst Γ x ds
theorem locT_some {Γ : List Dsc} {i : Nat} {t : T} (h : locT Γ i = some t) : Γ[i]? = some (.own t) ∨ Γ[i]? = some (.io t) := by
  unfold locT at h
  split at h
  · rename_i e; cases h; exact .inl e
  · rename_i e; cases h; exact .inr e
  · cases h
theorem fldT_some {Γ : List Dsc} {i : Nat} {f : Str} {d : Fd} (h : fldT Γ i f = some d) : ∃ C fs, locT Γ i = some (.ins C fs) ∧ fs.lookup f = some d := by
  unfold fldT at h
  split at h
  · rename_i e; exact ⟨_, _, e, h⟩
  · cases h
theorem FsAt.look {K : PySem.W.Frag} {F H : Hp} {f : Str} {d : Fd} : ∀ {fs : List (Str × Fd)} {vs : List (Str × V)}, FsAt K F H fs vs → fs.lookup f = some d → ∃ v, vs.lookup f = some v ∧ FdAt K F H d v
  | _, _, .nil, h => by cases h
  | (g, d') :: fs, (g', v') :: vs, .cons r s, h => by
    have e : g = g' := r.1
    subst e
    rw [List.lookup_cons] at h ⊢
    cases q : f == g with
    | true => rw [q] at h; cases h; exact ⟨v', rfl, r.2⟩
    | false => rw [q] at h; exact FsAt.look s h
theorem fAddrs_look {f : Str} {b : Addr} {c : Cl} : ∀ {fs : List (Str × Fd)}, fs.lookup f = some (.own b c) → b ∈ fAddrs fs
  | (g, d') :: fs, h => by
    rw [List.lookup_cons] at h
    cases q : f == g with
    | true => rw [q] at h; cases h; exact List.mem_cons_self
    | false =>
      rw [q] at h
      have := fAddrs_look h
      cases d' with
      | dat _ => exact this
      | own _ _ => exact List.mem_cons_of_mem _ this
/-- the container that a place holds -/
theorem VOk.con {K : PySem.W.Frag} {A : Ac} {Hs F H : Hp} {σ : L2.St} {Γ : List Dsc} {x : Dv} {v : V} {c : Cl} (ok : VOk K A Hs F H σ Γ x v) (fm : Fm K A F H σ Γ) (h : Con1 Γ x c) : ∃ a, v = .ref a ∧ ClAt K F H a c := by
  cases x with
  | dat d => exact h.elim
  | new t =>
    cases t with
    | cl e =>
      obtain ⟨a, e1, l, _⟩ := ok
      cases (show e = c from h)
      exact ⟨a, e1, l⟩
    | ins C fs => exact h.elim
  | loc i =>
    obtain ⟨a, e1, e2, _⟩ := ok
    obtain ⟨l, _⟩ := fm.thing e2 (locT_some h)
    exact ⟨a, e1, l⟩
  | fld i f b =>
    obtain ⟨C, fs, h1, h2⟩ := fldT_some (show fldT Γ i f = some (.own b c) from h)
    have h3 := locT_some h1
    have h4 : ∃ a, σ[i]? = some (some (.ref a)) := by
      rcases h3 with h3 | h3
      · obtain ⟨a, e, _⟩ := fm.own i _ h3; exact ⟨a, e⟩
      · obtain ⟨a, e, _⟩ := fm.iio i _ h3; exact ⟨a, e⟩
    obtain ⟨a, e⟩ := h4
    obtain ⟨l, _⟩ := fm.thing e h3
    obtain ⟨⟨dx, vs, _, r⟩, _⟩ := l
    obtain ⟨u, _, r2⟩ := r.look h2
    obtain ⟨_, r3⟩ := r2
    exact ⟨b, ok, r3⟩
section
variable {K : PySem.W.Frag} {A : Ac} {Hs F H : Hp} {σ : L2.St} {Γ : List Dsc} {x : Dv} {v : V} {ds : List D}
theorem Lst.con (h : Lst Γ x ds) : x = .dat (.lst ds) ∨ Con1 Γ x (.lst ds) := by
  cases x with
  | dat d =>
    cases d with
    | lst es => cases (show es = ds from h); exact .inl rfl
    | _ => exact h.elim
  | new t =>
    cases t with
    | cl e =>
      cases e with
      | lst es => cases (show es = ds from h); exact .inr rfl
      | dct _ => exact h.elim
    | ins _ _ => exact h.elim
  | loc i => exact .inr h
  | fld i f b => exact .inr h
theorem VOk.lst (ok : VOk K A Hs F H σ Γ x v) (fm : Fm K A F H σ Γ) (h : Lst Γ x ds) : ∃ a vs, v = .ref a ∧ H a = some (.lst vs) ∧ Reps K F ds vs := by
  rcases h.con with rfl | h
  · cases ok with
    | lst e r => exact ⟨_, _, rfl, fm.fh _ _ e, r⟩
  · obtain ⟨a, e, ⟨⟨xs, e1, r⟩, _⟩⟩ := ok.con fm h
    exact ⟨a, xs, e, e1, r⟩
theorem Sq.cases (h : Sq Γ x ds) : x = .dat (.tup ds) ∨ x = .dat (.scr ds) ∨ x = .dat (.pt ds) ∨ Lst Γ x ds := by
  cases x with
  | dat d =>
    cases d with
    | tup es => cases (show es = ds from h); exact .inl rfl
    | scr es => cases (show es = ds from h); exact .inr (.inl rfl)
    | pt es => cases (show es = ds from h); exact .inr (.inr (.inl rfl))
    | lst es => exact .inr (.inr (.inr h))
    | _ => exact h.elim
  | new t => exact .inr (.inr (.inr h))
  | loc i => exact .inr (.inr (.inr h))
  | fld i f b => exact .inr (.inr (.inr h))
theorem VOk.seq (ok : VOk K A Hs F H σ Γ x v) (fm : Fm K A F H σ Γ) (h : Sq Γ x ds) : ∃ a vs, v = .ref a ∧ (SqL K H a vs ∨ SqT K H a vs) ∧ Reps K F ds vs := by
  rcases h.cases with rfl | rfl | rfl | h
  · cases ok with
    | tup e r => exact ⟨_, _, rfl, .inr (.inl (.inl (fm.fh _ _ e))), r⟩
  · cases ok with
    | scr e r => exact ⟨_, _, rfl, .inl (fm.fh.sq e), r⟩
  · cases ok with
    | pt e z r => exact ⟨_, _, rfl, .inr (.inl (.inr ⟨_, fm.fh _ _ e⟩)), r⟩
  · obtain ⟨a, vs, e, e1, r⟩ := ok.lst fm h
    exact ⟨a, vs, e, .inl (.inl (.inl e1)), r⟩
end
theorem sz {n : Nat} (h : n ≤ 1000000) : n ≤ sizeLine := Nat.le_trans h (by decide)
theorem sz1 {n : Nat} (h : n < 1000000) : n < sizeLine := Nat.lt_of_lt_of_le h (by decide)

section
variable {X : Cx} {Γ : List Dsc} {P : PD} {a b c e o : Expr} {es : List Expr} {pos p pos' : Pos} {x : Str}

/-! ### names, constants -/
def dvOf (i : Nat) : Dsc → Dv
  | .dat d => .dat d
  | .un => .dat .non
  | _ => .loc i
theorem ew_name (i : Nat) {d : Dsc} (h : Γ[i]? = some d) (hd : d ≠ .un) (q : P (dvOf i d) Γ) (hN : X.N[i]? = some x := by rfl) (hv : Vis X.env.scope x := by first | exact Or.inl rfl | exact Or.inr (Or.inl rfl) | exact Or.inr (Or.inr rfl))
    (hb : (x == ("__debug__" : Str)) = false := by decide) (hcd : (x == ("__classdict__" : Str)) = false := by decide) : EW X (.Name x pos) Γ P := by
  intro A F H σ fm Q k
  refine ⟨_, pe_var hN hv hb hcd, ?_⟩
  cases d with
  | un => exact absurd rfl hd
  | dat d =>
    obtain ⟨v, e, r⟩ := fm.dat i d h
    exact ⟨v, e, k _ _ v F H q Stp.refl fm r⟩
  | own t =>
    obtain ⟨a, e, l, z⟩ := fm.own i t h
    exact ⟨.ref a, e, k _ _ _ F H q Stp.refl fm ⟨a, rfl, e, t, .inl h⟩⟩
  | io t =>
    obtain ⟨a, e, l, z⟩ := fm.iio i t h
    exact ⟨.ref a, e, k _ _ _ F H q Stp.refl fm ⟨a, rfl, e, t, .inr h⟩⟩
theorem ew_int {i : Int} {j : Nat} (q : P (.dat (.int i)) Γ) : EW X (.Constant (.int i) j pos) Γ P := fun A F H σ fm Q k => ⟨_, pe_int, k _ _ _ F H q Stp.refl fm (.int i)⟩
theorem ew_bl {i : Bool} {j : Nat} (q : P (.dat (.bl i)) Γ) : EW X (.Constant (.bool i) j pos) Γ P := fun A F H σ fm Q k => ⟨_, pe_bl, k _ _ _ F H q Stp.refl fm (.bl i)⟩
theorem ew_non {j : Nat} (q : P (.dat .non) Γ) : EW X (.Constant .none j pos) Γ P := fun A F H σ fm Q k => ⟨_, pe_non, k _ _ _ F H q Stp.refl fm .non⟩
theorem ew_str {s : Str} {j : Nat} (q : P (.dat (.str s)) Γ) : EW X (.Constant (.str s) j pos) Γ P := fun A F H σ fm Q k => ⟨_, pe_str, k _ _ _ F H q Stp.refl fm (.str s)⟩
/-- a module's constant -/
def scV : D → Option V
  | .non => some .non
  | .bl b => some (.bl b)
  | .int i => some (.int i)
  | .str s => some (.str s)
  | _ => none
theorem scV_rep {K : PySem.W.Frag} {H : Hp} {d : D} {v : V} (h : scV d = some v) : Rep K H d v := by
  cases d <;> cases h
  · exact .non
  · exact .bl _
  · exact .int _
  · exact .str _
theorem rep_scV {K : PySem.W.Frag} {H : Hp} {d : D} {v v' : V} (h : scV d = some v) (r : Rep K H d v') : v' = v := by
  cases d <;> cases h <;> cases r <;> rfl
theorem ew_glob {d : D} {v : V} {u : Value} (hm : X.mg x = some u) (hd : scV d = some v) (r : RelV v u) (q : P (.dat d) Γ) (hg : Gl X x := by rfl) (hb : (x == ("__debug__" : Str)) = false := by decide) : EW X (.Name x pos) Γ P :=
  fun A F H σ fm Q k => ⟨_, pe_glob hg hm r hb, k _ _ _ F H q Stp.refl fm (scV_rep hd)⟩

/-! ### operators -/
def r2 (r : R2) : List V → Hp → VK → Prop := fun vs H Q => ∃ u v, vs = [u, v] ∧ r u v H Q
theorem ew_bin {op : Operator} {r : R2} (ho : OpR X (binaryOp op) r) (h : EW X a Γ fun x Γ1 => EW X b Γ1 fun y Γ2 => Kw X Γ2 [x, y] (r2 r) P) : EW X (.BinOp a op b pos) Γ P := by
  intro A F H σ fm Q q
  refine ⟨_, pe_op ho pe_top pe_top, ?_⟩
  show EV X a σ H (fun x H1 => EV X b σ H1 fun y H2 => r x y H2 Q)
  refine h.run fm Stp.refl fun x Γ1 vx F1 H1 hx s1 _ fm1 ox => ?_
  refine hx.run fm1 s1 fun y Γ2 vy F2 H2 hk s2 s12 fm2 oy => ?_
  obtain ⟨_, _, e, hr⟩ := hk A F H Γ F2 H2 σ [vx, vy] fm2 s2 (.cons (ox.stp s12) (.cons oy .nil)) Q q
  cases e
  exact hr
theorem ew_cmp {op : CmpOp} {r : R2} (ho : OpR X (compareOp op) r) (h : EW X a Γ fun x Γ1 => EW X b Γ1 fun y Γ2 => Kw X Γ2 [x, y] (r2 r) P) (hm : behindInMarks op b = false := by first | exact nomark _ | rfl) : EW X (.Compare a [op] [b] pos) Γ P := by
  intro A F H σ fm Q q
  refine ⟨_, pe_cmpR ho pe_top pe_top hm, ?_⟩
  show EV X a σ H (fun x H1 => EV X b σ H1 fun y H2 => r x y H2 Q)
  refine h.run fm Stp.refl fun x Γ1 vx F1 H1 hx s1 _ fm1 ox => ?_
  refine hx.run fm1 s1 fun y Γ2 vy F2 H2 hk s2 s12 fm2 oy => ?_
  obtain ⟨_, _, e, hr⟩ := hk A F H Γ F2 H2 σ [vx, vy] fm2 s2 (.cons (ox.stp s12) (.cons oy .nil)) Q q
  cases e
  exact hr
theorem tw_cmp {P : Bool → List Dsc → Prop} {op : CmpOp} {r : R2} (ho : OpR X (compareOp op) r) (h : EW X a Γ fun x Γ1 => EW X b Γ1 fun y Γ2 => Kw X Γ2 [x, y] (r2 r) fun d Γ3 => ∃ k, d = .dat (.bl k) ∧ P k Γ3)
    (hm : behindInMarks op b = false := by first | exact nomark _ | rfl) : TW X (.Compare a [op] [b] pos) Γ P := by
  intro A F H σ fm Q q
  refine ⟨_, pt_cmpR ho pe_top pe_top hm, ?_⟩
  show EV X a σ H (fun x H1 => EV X b σ H1 fun y H2 => r x y H2 fun z H3 => ∃ k, z = .bl k ∧ Q k H3)
  refine h.run fm Stp.refl fun x Γ1 vx F1 H1 hx s1 _ fm1 ox => ?_
  refine hx.run fm1 s1 fun y Γ2 vy F2 H2 hk s2 s12 fm2 oy => ?_
  obtain ⟨_, _, e, hr⟩ := hk A F H Γ F2 H2 σ [vx, vy] fm2 s2 (.cons (ox.stp s12) (.cons oy .nil)) (fun z H3 => ∃ k, z = .bl k ∧ Q k H3) fun d Γ' v F' H' p s fm' ok => by
    obtain ⟨k, rfl, p⟩ := p
    exact ⟨k, Rep.bl_eq ok, q k Γ' F' H' p s fm'⟩
  cases e
  exact hr
theorem Kw.or {xs : List Dv} {r r' : List V → Hp → VK → Prop} (h : Kw X Γ xs r P ∨ Kw X Γ xs r' P) : Kw X Γ xs (fun vs H Q => r vs H Q ∨ r' vs H Q) P :=
  fun A Fs Hs Γs F H σ vs fm st ok Q q => h.elim (fun h => .inl (h A Fs Hs Γs F H σ vs fm st ok Q q)) fun h => .inr (h A Fs Hs Γs F H σ vs fm st ok Q q)
theorem Kw.mono {xs : List Dv} {r r' : List V → Hp → VK → Prop} (h : Kw X Γ xs r P) (k : ∀ vs H Q, r vs H Q → r' vs H Q) : Kw X Γ xs r' P :=
  fun A Fs Hs Γs F H σ vs fm st ok Q q => k _ _ _ (h A Fs Hs Γs F H σ vs fm st ok Q q)
/-- ints -/
theorem kw_int {C : Int → Int → Prop} {g : Int → Int → V} {f : Int → Int → D} {x y : Dv} (hf : ∀ i j, scV (f i j) = some (g i j)) (h : ∃ i j, x = .dat (.int i) ∧ y = .dat (.int j) ∧ C i j ∧ P (.dat (f i j)) Γ) : Kw X Γ [x, y] (r2 (rI C g)) P := by
  intro A Fs Hs Γs F H σ vs fm st ok Q q
  obtain ⟨i, j, rfl, rfl, hc, hp⟩ := h
  cases ok with
  | cons o1 ok =>
    cases ok with
    | cons o2 ok =>
      cases ok
      exact ⟨_, _, rfl, i, j, Rep.int_eq o1, Rep.int_eq o2, hc, q _ _ _ F H hp st fm (scV_rep (hf i j))⟩
theorem kw_int0 {g : Int → Int → V} {f : Int → Int → D} {x y : Dv} (hf : ∀ i j, scV (f i j) = some (g i j)) (h : ∃ i j, x = .dat (.int i) ∧ y = .dat (.int j) ∧ P (.dat (f i j)) Γ) : Kw X Γ [x, y] (r2 (rI0 g)) P := by
  intro A Fs Hs Γs F H σ vs fm st ok Q q
  obtain ⟨i, j, rfl, rfl, hp⟩ := h
  cases ok with
  | cons o1 ok =>
    cases ok with
    | cons o2 ok =>
      cases ok
      exact ⟨_, _, rfl, i, j, Rep.int_eq o1, Rep.int_eq o2, q _ _ _ F H hp st fm (scV_rep (hf i j))⟩
theorem ew_add (h : EW X a Γ fun x Γ1 => EW X b Γ1 fun y Γ2 => ∃ i j, x = .dat (.int i) ∧ y = .dat (.int j) ∧ P (.dat (.int (i + j))) Γ2) : EW X (.BinOp a .Add b pos) Γ P :=
  ew_bin op_add (h.mono fun x Γ1 h1 => h1.mono fun y Γ2 h2 => kw_int0 (f := fun i j => .int (i + j)) (fun _ _ => rfl) h2)
theorem ew_sub (h : EW X a Γ fun x Γ1 => EW X b Γ1 fun y Γ2 => ∃ i j, x = .dat (.int i) ∧ y = .dat (.int j) ∧ P (.dat (.int (i - j))) Γ2) : EW X (.BinOp a .Sub b pos) Γ P :=
  ew_bin op_sub (h.mono fun x Γ1 h1 => h1.mono fun y Γ2 h2 => kw_int0 (f := fun i j => .int (i - j)) (fun _ _ => rfl) h2)
theorem ew_mul (h : EW X a Γ fun x Γ1 => EW X b Γ1 fun y Γ2 => ∃ i j, x = .dat (.int i) ∧ y = .dat (.int j) ∧ CMul i j ∧ P (.dat (.int (i * j))) Γ2) : EW X (.BinOp a .Mult b pos) Γ P :=
  ew_bin op_mul (h.mono fun x Γ1 h1 => h1.mono fun y Γ2 h2 => kw_int (f := fun i j => .int (i * j)) (fun _ _ => rfl) h2)
theorem ew_mod (h : EW X a Γ fun x Γ1 => EW X b Γ1 fun y Γ2 => ∃ i j, x = .dat (.int i) ∧ y = .dat (.int j) ∧ 0 < j ∧ P (.dat (.int (i % j))) Γ2) : EW X (.BinOp a .Mod b pos) Γ P :=
  ew_bin op_mod (h.mono fun x Γ1 h1 => h1.mono fun y Γ2 h2 => kw_int (f := fun i j => .int (i % j)) (fun _ _ => rfl) h2)
theorem ew_fdiv (h : EW X a Γ fun x Γ1 => EW X b Γ1 fun y Γ2 => ∃ i j, x = .dat (.int i) ∧ y = .dat (.int j) ∧ CDiv i j ∧ P (.dat (.int (i / j))) Γ2) : EW X (.BinOp a .FloorDiv b pos) Γ P :=
  ew_bin op_fdiv (h.mono fun x Γ1 h1 => h1.mono fun y Γ2 h2 => kw_int (f := fun i j => .int (i / j)) (fun _ _ => rfl) h2)
theorem ew_pow (h : EW X a Γ fun x Γ1 => EW X b Γ1 fun y Γ2 => ∃ i j, x = .dat (.int i) ∧ y = .dat (.int j) ∧ CPow i j ∧ P (.dat (.int (i ^ j.toNat))) Γ2) : EW X (.BinOp a .Pow b pos) Γ P :=
  ew_bin op_pow (h.mono fun x Γ1 h1 => h1.mono fun y Γ2 h2 => kw_int (f := fun i j => .int (i ^ j.toNat)) (fun _ _ => rfl) h2)
/-- comparisons of ints -/
theorem ew_lt (h : EW X a Γ fun x Γ1 => EW X b Γ1 fun y Γ2 => ∃ i j, x = .dat (.int i) ∧ y = .dat (.int j) ∧ P (.dat (.bl (decide (i < j)))) Γ2) : EW X (.Compare a [.Lt] [b] pos) Γ P :=
  ew_cmp op_lt (h.mono fun x Γ1 h1 => h1.mono fun y Γ2 h2 => kw_int0 (f := fun i j => .bl (decide (i < j))) (fun _ _ => rfl) h2)
theorem ew_le (h : EW X a Γ fun x Γ1 => EW X b Γ1 fun y Γ2 => ∃ i j, x = .dat (.int i) ∧ y = .dat (.int j) ∧ P (.dat (.bl (decide (i ≤ j)))) Γ2) : EW X (.Compare a [.LtE] [b] pos) Γ P :=
  ew_cmp op_le (h.mono fun x Γ1 h1 => h1.mono fun y Γ2 h2 => kw_int0 (f := fun i j => .bl (decide (i ≤ j))) (fun _ _ => rfl) h2)
theorem ew_gt (h : EW X a Γ fun x Γ1 => EW X b Γ1 fun y Γ2 => ∃ i j, x = .dat (.int i) ∧ y = .dat (.int j) ∧ P (.dat (.bl (decide (j < i)))) Γ2) : EW X (.Compare a [.Gt] [b] pos) Γ P :=
  ew_cmp op_gt (h.mono fun x Γ1 h1 => h1.mono fun y Γ2 h2 => kw_int0 (f := fun i j => .bl (decide (j < i))) (fun _ _ => rfl) h2)
theorem ew_ge (h : EW X a Γ fun x Γ1 => EW X b Γ1 fun y Γ2 => ∃ i j, x = .dat (.int i) ∧ y = .dat (.int j) ∧ P (.dat (.bl (decide (j ≤ i)))) Γ2) : EW X (.Compare a [.GtE] [b] pos) Γ P :=
  ew_cmp op_ge (h.mono fun x Γ1 h1 => h1.mono fun y Γ2 h2 => kw_int0 (f := fun i j => .bl (decide (j ≤ i))) (fun _ _ => rfl) h2)
theorem tw_lt {P : Bool → List Dsc → Prop} (h : EW X a Γ fun x Γ1 => EW X b Γ1 fun y Γ2 => ∃ i j, x = .dat (.int i) ∧ y = .dat (.int j) ∧ P (decide (i < j)) Γ2) : TW X (.Compare a [.Lt] [b] pos) Γ P :=
  tw_cmp op_lt (h.mono fun x Γ1 h1 => h1.mono fun y Γ2 ⟨i, j, e1, e2, h2⟩ => kw_int0 (f := fun i j => .bl (decide (i < j))) (fun _ _ => rfl) ⟨i, j, e1, e2, _, rfl, h2⟩)
theorem tw_le {P : Bool → List Dsc → Prop} (h : EW X a Γ fun x Γ1 => EW X b Γ1 fun y Γ2 => ∃ i j, x = .dat (.int i) ∧ y = .dat (.int j) ∧ P (decide (i ≤ j)) Γ2) : TW X (.Compare a [.LtE] [b] pos) Γ P :=
  tw_cmp op_le (h.mono fun x Γ1 h1 => h1.mono fun y Γ2 ⟨i, j, e1, e2, h2⟩ => kw_int0 (f := fun i j => .bl (decide (i ≤ j))) (fun _ _ => rfl) ⟨i, j, e1, e2, _, rfl, h2⟩)
theorem tw_gt {P : Bool → List Dsc → Prop} (h : EW X a Γ fun x Γ1 => EW X b Γ1 fun y Γ2 => ∃ i j, x = .dat (.int i) ∧ y = .dat (.int j) ∧ P (decide (j < i)) Γ2) : TW X (.Compare a [.Gt] [b] pos) Γ P :=
  tw_cmp op_gt (h.mono fun x Γ1 h1 => h1.mono fun y Γ2 ⟨i, j, e1, e2, h2⟩ => kw_int0 (f := fun i j => .bl (decide (j < i))) (fun _ _ => rfl) ⟨i, j, e1, e2, _, rfl, h2⟩)
theorem tw_ge {P : Bool → List Dsc → Prop} (h : EW X a Γ fun x Γ1 => EW X b Γ1 fun y Γ2 => ∃ i j, x = .dat (.int i) ∧ y = .dat (.int j) ∧ P (decide (j ≤ i)) Γ2) : TW X (.Compare a [.GtE] [b] pos) Γ P :=
  tw_cmp op_ge (h.mono fun x Γ1 h1 => h1.mono fun y Γ2 ⟨i, j, e1, e2, h2⟩ => kw_int0 (f := fun i j => .bl (decide (j ≤ i))) (fun _ _ => rfl) ⟨i, j, e1, e2, _, rfl, h2⟩)
/-- == of flat data -/
theorem kw_eqS {x y : Dv} (h : ∃ d e u v, x = .dat d ∧ y = .dat e ∧ scV d = some u ∧ scV e = some v ∧ scal u v = true ∧ P (.dat (.bl (decide (u = v)))) Γ) : Kw X Γ [x, y] (r2 rEq) P := by
  intro A Fs Hs Γs F H σ vs fm st ok Q q
  obtain ⟨d, e, u, v, rfl, rfl, hu, hv, hs, hp⟩ := h
  cases ok with
  | cons o1 ok =>
    cases ok with
    | cons o2 ok =>
      cases ok
      have e1 := rep_scV hu o1
      have e2 := rep_scV hv o2
      subst e1 e2
      exact ⟨_, _, rfl, hs, q _ _ _ F H hp st fm (.bl _)⟩
theorem kw_neS {x y : Dv} (h : ∃ d e u v, x = .dat d ∧ y = .dat e ∧ scV d = some u ∧ scV e = some v ∧ scal u v = true ∧ P (.dat (.bl (!decide (u = v)))) Γ) : Kw X Γ [x, y] (r2 rNe) P := by
  intro A Fs Hs Γs F H σ vs fm st ok Q q
  obtain ⟨d, e, u, v, rfl, rfl, hu, hv, hs, hp⟩ := h
  cases ok with
  | cons o1 ok =>
    cases ok with
    | cons o2 ok =>
      cases ok
      have e1 := rep_scV hu o1
      have e2 := rep_scV hv o2
      subst e1 e2
      exact ⟨_, _, rfl, hs, q _ _ _ F H hp st fm (.bl _)⟩
end

/-! ### data of any depth -/
mutual
def py : D → PyData
  | .non => .none
  | .bl b => .bool b
  | .int i => .int i
  | .str s => .str s
  | .tup ts => .tuple (pys ts)
  | .lst ts => .list (pys ts)
  | .scr ts => .list (pys ts)
  | .pt ts => .tuple (pys ts)
def pys : List D → List PyData
  | [] => []
  | t :: ts => py t :: pys ts
end
mutual
theorem Rep.dp {K : PySem.W.Frag} {F H : Hp} (e : Ex F H) : ∀ {t : D} {v : V}, Rep K F t v → Dp K H v (py t)
  | _, _, .non => by rw [py]; exact .non
  | _, _, .bl b => by rw [py]; exact .bl b
  | _, _, .int i => by rw [py]; exact .int i
  | _, _, .str x => by rw [py]; exact .str x
  | _, _, .tup h r => by rw [py]; exact .tup (.inl (.inl (e _ _ h))) (Reps.dp e r)
  | _, _, .lst h r => by rw [py]; exact .lst (.inl (.inl (e _ _ h))) (Reps.dp e r)
  | _, _, .scr h r => by rw [py]; exact .lst (e.sq h) (Reps.dp e r)
  | _, _, .pt h z r => by rw [py]; exact .tup (.inl (.inr ⟨_, e _ _ h⟩)) (Reps.dp e r)
theorem Reps.dp {K : PySem.W.Frag} {F H : Hp} (e : Ex F H) : ∀ {ts : List D} {vs : List V}, Reps K F ts vs → DpAll K H vs (pys ts)
  | _, _, .nil => by rw [pys]; exact .nil
  | _, _, .cons r s => by rw [pys]; exact .cons (Rep.dp e r) (Reps.dp e s)
end
def Py1 (Γ : List Dsc) : Dv → PyData → Prop
  | .dat d, p => py d = p
  | .new (.cl (.lst es)), p => PyData.list (pys es) = p
  | .loc i, p => ∃ ds, locT Γ i = some (.cl (.lst ds)) ∧ PyData.list (pys ds) = p
  | .fld i f b, p => ∃ ds, fldT Γ i f = some (.own b (.lst ds)) ∧ PyData.list (pys ds) = p
  | _, _ => False
section
variable {X : Cx} {Γ : List Dsc} {P : PD} {a b c e o : Expr} {es : List Expr} {pos p pos' : Pos} {x : Str}
theorem VOk.dp {K : PySem.W.Frag} {A : Ac} {Hs F H : Hp} {σ : L2.St} {x : Dv} {v : V} {d : PyData} (ok : VOk K A Hs F H σ Γ x v) (fm : Fm K A F H σ Γ) (h : Py1 Γ x d) : Dp K H v d := by
  have L : ∀ ds, Lst Γ x ds → PyData.list (pys ds) = d → Dp K H v d := fun ds h e => by
    obtain ⟨a, vs, rfl, e3, r⟩ := ok.lst fm h
    rw [← e]
    exact .lst (.inl (.inl e3)) (r.dp fm.fh)
  cases x with
  | dat t => cases (show py t = d from h); exact Rep.dp fm.fh ok
  | new t =>
    cases t with
    | cl c =>
      cases c with
      | lst es => exact L es rfl h
      | dct _ => exact h.elim
    | ins _ _ => exact h.elim
  | loc i => obtain ⟨ds, h1, h2⟩ := h; exact L ds h1 h2
  | fld i f b => obtain ⟨ds, h1, h2⟩ := h; exact L ds h1 h2
theorem kw_eqD {x y : Dv} (h : ∃ d e, Py1 Γ x d ∧ Py1 Γ y e ∧ SeqAt.shaped d = true ∧ SeqAt.shaped e = true ∧ P (.dat (.bl (PyData.eqv d e))) Γ) : Kw X Γ [x, y] (r2 (rEqD X.K)) P := by
  intro A Fs Hs Γs F H σ vs fm st ok Q q
  obtain ⟨d, e, hd, he, sd, se, hp⟩ := h
  cases ok with
  | cons o1 ok =>
    cases ok with
    | cons o2 ok =>
      cases ok
      exact ⟨_, _, rfl, d, e, o1.dp fm hd, o2.dp fm he, sd, se, q _ _ _ F H hp st fm (.bl _)⟩
/-- a == b: flat data, or data of any depth -/
theorem ew_eq {k : Nat} (hr : Room k X.A) (h : EW X a Γ fun x Γ1 => EW X b Γ1 fun y Γ2 => (∃ d e u v, x = .dat d ∧ y = .dat e ∧ scV d = some u ∧ scV e = some v ∧ scal u v = true ∧ P (.dat (.bl (decide (u = v)))) Γ2) ∨
      ∃ d e, Py1 Γ2 x d ∧ Py1 Γ2 y e ∧ SeqAt.shaped d = true ∧ SeqAt.shaped e = true ∧ P (.dat (.bl (PyData.eqv d e))) Γ2) : EW X (.Compare a [.Eq] [b] pos) Γ P :=
  ew_cmp (OpR.or op_eq (op_eqD (by have := hr.un; omega))) (h.mono fun x Γ1 h1 => h1.mono fun y Γ2 h2 => h2.elim
    (fun h => (kw_eqS h).mono fun vs H Q ⟨u, v, e, q⟩ => ⟨u, v, e, .inl q⟩) fun h => (kw_eqD h).mono fun vs H Q ⟨u, v, e, q⟩ => ⟨u, v, e, .inr q⟩)
theorem tw_eq {P : Bool → List Dsc → Prop} {k : Nat} (hr : Room k X.A) (h : EW X a Γ fun x Γ1 => EW X b Γ1 fun y Γ2 => (∃ d e u v, x = .dat d ∧ y = .dat e ∧ scV d = some u ∧ scV e = some v ∧ scal u v = true ∧ P (decide (u = v)) Γ2) ∨
      ∃ d e, Py1 Γ2 x d ∧ Py1 Γ2 y e ∧ SeqAt.shaped d = true ∧ SeqAt.shaped e = true ∧ P (PyData.eqv d e) Γ2) : TW X (.Compare a [.Eq] [b] pos) Γ P :=
  tw_cmp (OpR.or op_eq (op_eqD (by have := hr.un; omega))) (h.mono fun x Γ1 h1 => h1.mono fun y Γ2 h2 => h2.elim
    (fun ⟨d, e, u, v, a1, a2, a3, a4, a5, h⟩ => (kw_eqS ⟨d, e, u, v, a1, a2, a3, a4, a5, _, rfl, h⟩).mono fun vs H Q ⟨u, v, e, q⟩ => ⟨u, v, e, .inl q⟩)
    fun ⟨d, e, a1, a2, a3, a4, h⟩ => (kw_eqD ⟨d, e, a1, a2, a3, a4, _, rfl, h⟩).mono fun vs H Q ⟨u, v, e, q⟩ => ⟨u, v, e, .inr q⟩)
theorem ew_ne (h : EW X a Γ fun x Γ1 => EW X b Γ1 fun y Γ2 => (∃ d e u v, x = .dat d ∧ y = .dat e ∧ scV d = some u ∧ scV e = some v ∧ scal u v = true ∧ P (.dat (.bl (!decide (u = v)))) Γ2)) : EW X (.Compare a [.NotEq] [b] pos) Γ P :=
  ew_cmp op_ne (h.mono fun x Γ1 h1 => h1.mono fun y Γ2 h2 => kw_neS h2)
theorem tw_ne {P : Bool → List Dsc → Prop} (h : EW X a Γ fun x Γ1 => EW X b Γ1 fun y Γ2 => (∃ d e u v, x = .dat d ∧ y = .dat e ∧ scV d = some u ∧ scV e = some v ∧ scal u v = true ∧ P (!decide (u = v)) Γ2)) : TW X (.Compare a [.NotEq] [b] pos) Γ P :=
  tw_cmp op_ne (h.mono fun x Γ1 h1 => h1.mono fun y Γ2 ⟨d, e, u, v, a1, a2, a3, a4, a5, h⟩ => kw_neS ⟨d, e, u, v, a1, a2, a3, a4, a5, _, rfl, h⟩)
/-- x is None -/
theorem kw_isN {neg : Bool} {x y : Dv} (h : ∃ d, x = .dat d ∧ y = .dat .non ∧ P (.dat (.bl (match d with | .non => !neg | _ => neg))) Γ) : Kw X Γ [x, y] (r2 fun x y H Q => y = .non ∧ Q (.bl (if neg then !decide (x = .non) else decide (x = .non))) H) P := by
  intro A Fs Hs Γs F H σ vs fm st ok Q q
  obtain ⟨d, rfl, rfl, hp⟩ := h
  cases ok with
  | cons o1 ok =>
    cases ok with
    | cons o2 ok =>
      cases ok
      refine ⟨_, _, rfl, Rep.non_eq o2, ?_⟩
      refine q _ _ _ F H hp st fm ?_
      have r1 : Rep X.K F d _ := o1
      cases r1 <;> cases neg <;> exact .bl _
theorem ew_isN (h : EW X a Γ fun x Γ1 => EW X b Γ1 fun y Γ2 => ∃ d, x = .dat d ∧ y = .dat .non ∧ P (.dat (.bl (match d with | .non => true | _ => false))) Γ2) : EW X (.Compare a [.Is] [b] pos) Γ P :=
  ew_cmp op_isN (h.mono fun x Γ1 h1 => h1.mono fun y Γ2 h2 => (kw_isN (neg := false) h2).mono fun vs H Q z => z)
theorem ew_notN (h : EW X a Γ fun x Γ1 => EW X b Γ1 fun y Γ2 => ∃ d, x = .dat d ∧ y = .dat .non ∧ P (.dat (.bl (match d with | .non => false | _ => true))) Γ2) : EW X (.Compare a [.IsNot] [b] pos) Γ P :=
  ew_cmp op_notN (h.mono fun x Γ1 h1 => h1.mono fun y Γ2 h2 => (kw_isN (neg := true) h2).mono fun vs H Q z => z)
/-! ### tests -/
theorem tw_val {P : Bool → List Dsc → Prop} (h : EW X e Γ fun x Γ' => ∃ k, x = .dat (.bl k) ∧ P k Γ') (he : ∀ whole, isTrue e X.env whole = (do let v ← whole; standAt e.pos; holding [v] (truthy v)) := by intro _; rfl) : TW X e Γ P := by
  intro A F H σ fm Q q
  refine ⟨_, pt_val pe_top he, ?_⟩
  show EV X e σ H fun x H1 => ∃ c, x = .bl c ∧ Q c H1
  refine h.run fm Stp.refl fun x Γ1 vx F1 H1 hx s1 _ fm1 ox => ?_
  obtain ⟨k, rfl, p⟩ := hx
  exact ⟨k, Rep.bl_eq ox, q k Γ1 F1 H1 p s1 fm1⟩
theorem tw_not {P : Bool → List Dsc → Prop} (h : TW X a Γ fun k Γ' => P (!k) Γ') : TW X (.UnaryOp .Not a pos) Γ P := by
  intro A F H σ fm Q q
  refine ⟨_, pt_not pt_top, ?_⟩
  show TV X a σ H fun c H1 => Q (!c) H1
  exact h.run fm Stp.refl fun k Γ1 F1 H1 p s1 _ fm1 => q (!k) Γ1 F1 H1 p s1 fm1
theorem ww_one {P : Bool → List Dsc → Prop} {op : BoolOp} (h : TW X a Γ P) : WW X (.BoolOp op [a] pos) Γ P := by
  intro A F H σ fm Q q
  cases op
  · exact ⟨_, pw_and1 pt_top, h A F H σ fm Q q⟩
  · exact ⟨_, pw_or1 pt_top, h A F H σ fm Q q⟩
theorem ww_and {P : Bool → List Dsc → Prop} (h : TW X a Γ fun k Γ1 => (k = true → WW X (.BoolOp .And (b :: es) pos) Γ1 P) ∧ (k = false → P false Γ1)) : WW X (.BoolOp .And (a :: b :: es) pos) Γ P := by
  intro A F H σ fm Q q
  refine ⟨_, pw_and pt_top pw_top, ?_⟩
  show TV X a σ H fun c H1 => if c = true then WV X (.BoolOp .And (b :: es) pos) σ H1 Q else Q false H1
  refine h.run fm Stp.refl fun k Γ1 F1 H1 p s1 _ fm1 => ?_
  cases k with
  | true =>
    rw [if_pos rfl]
    exact (p.1 rfl).run fm1 s1 fun b Γ2 F2 H2 p2 s2 _ fm2 => q b Γ2 F2 H2 p2 s2 fm2
  | false =>
    rw [if_neg Bool.false_ne_true]
    exact q false Γ1 F1 H1 (p.2 rfl) s1 fm1
theorem ww_or {P : Bool → List Dsc → Prop} (h : TW X a Γ fun k Γ1 => (k = true → P true Γ1) ∧ (k = false → WW X (.BoolOp .Or (b :: es) pos) Γ1 P)) : WW X (.BoolOp .Or (a :: b :: es) pos) Γ P := by
  intro A F H σ fm Q q
  refine ⟨_, pw_or pt_top pw_top, ?_⟩
  show TV X a σ H fun c H1 => if c = true then Q true H1 else WV X (.BoolOp .Or (b :: es) pos) σ H1 Q
  refine h.run fm Stp.refl fun k Γ1 F1 H1 p s1 _ fm1 => ?_
  cases k with
  | true =>
    rw [if_pos rfl]
    exact q true Γ1 F1 H1 (p.1 rfl) s1 fm1
  | false =>
    rw [if_neg Bool.false_ne_true]
    exact (p.2 rfl).run fm1 s1 fun b Γ2 F2 H2 p2 s2 _ fm2 => q b Γ2 F2 H2 p2 s2 fm2
theorem tw_w {P : Bool → List Dsc → Prop} (h : WW X e Γ P) : TW X e Γ P := fun A F H σ fm Q q => by
  obtain ⟨t, ht, hq⟩ := h A F H σ fm Q q
  exact ⟨t, ht.pt, hq⟩
/-! ### and, or, not of truth values; a if c else b -/
theorem ew_one {op : BoolOp} (h : EW X a Γ P) : EW X (.BoolOp op [a] pos) Γ P := fun A F H σ fm Q q => ⟨_, pe_one pe_top, h A F H σ fm Q q⟩
theorem ew_and (h : EW X a Γ fun x Γ1 => ∃ k, x = .dat (.bl k) ∧ (k = true → EW X (.BoolOp .And (b :: es) pos) Γ1 P) ∧ (k = false → P (.dat (.bl false)) Γ1)) : EW X (.BoolOp .And (a :: b :: es) pos) Γ P := by
  intro A F H σ fm Q q
  refine ⟨_, pe_and pe_top pe_top, ?_⟩
  show EV X a σ H fun x H1 => ∃ c, x = .bl c ∧ if c = true then EV X (.BoolOp .And (b :: es) pos) σ H1 Q else Q (.bl false) H1
  refine h.run fm Stp.refl fun x Γ1 vx F1 H1 p s1 _ fm1 ox => ?_
  obtain ⟨k, rfl, p1, p2⟩ := p
  refine ⟨k, Rep.bl_eq ox, ?_⟩
  cases k with
  | true =>
    rw [if_pos rfl]
    exact (p1 rfl).run fm1 s1 fun d Γ2 v F2 H2 p2 s2 _ fm2 o2 => q d Γ2 v F2 H2 p2 s2 fm2 o2
  | false =>
    rw [if_neg Bool.false_ne_true]
    exact q _ Γ1 _ F1 H1 (p2 rfl) s1 fm1 (.bl _)
theorem ew_or (h : EW X a Γ fun x Γ1 => ∃ k, x = .dat (.bl k) ∧ (k = true → P (.dat (.bl true)) Γ1) ∧ (k = false → EW X (.BoolOp .Or (b :: es) pos) Γ1 P)) : EW X (.BoolOp .Or (a :: b :: es) pos) Γ P := by
  intro A F H σ fm Q q
  refine ⟨_, pe_or pe_top pe_top, ?_⟩
  show EV X a σ H fun x H1 => ∃ c, x = .bl c ∧ if c = true then Q (.bl true) H1 else EV X (.BoolOp .Or (b :: es) pos) σ H1 Q
  refine h.run fm Stp.refl fun x Γ1 vx F1 H1 p s1 _ fm1 ox => ?_
  obtain ⟨k, rfl, p1, p2⟩ := p
  refine ⟨k, Rep.bl_eq ox, ?_⟩
  cases k with
  | true =>
    rw [if_pos rfl]
    exact q _ Γ1 _ F1 H1 (p1 rfl) s1 fm1 (.bl _)
  | false =>
    rw [if_neg Bool.false_ne_true]
    exact (p2 rfl).run fm1 s1 fun d Γ2 v F2 H2 p2 s2 _ fm2 o2 => q d Γ2 v F2 H2 p2 s2 fm2 o2
theorem ew_not (h : EW X a Γ fun x Γ1 => ∃ k, x = .dat (.bl k) ∧ P (.dat (.bl (!k))) Γ1) : EW X (.UnaryOp .Not a pos) Γ P := by
  intro A F H σ fm Q q
  refine ⟨_, pe_not pe_top, ?_⟩
  show EV X a σ H fun x H1 => ∃ c, x = .bl c ∧ Q (.bl (!c)) H1
  refine h.run fm Stp.refl fun x Γ1 vx F1 H1 p s1 _ fm1 ox => ?_
  obtain ⟨k, rfl, p1⟩ := p
  exact ⟨k, Rep.bl_eq ox, q _ Γ1 _ F1 H1 p1 s1 fm1 (.bl _)⟩
theorem ew_if (h : TW X c Γ fun k Γ1 => (k = true → EW X a Γ1 P) ∧ (k = false → EW X b Γ1 P)) : EW X (.IfExp c a b pos) Γ P := by
  intro A F H σ fm Q q
  refine ⟨_, pe_ifExp pt_top pe_top pe_top, ?_⟩
  show TV X c σ H fun k H1 => if k = true then EV X a σ H1 Q else EV X b σ H1 Q
  refine h.run fm Stp.refl fun k Γ1 F1 H1 p s1 _ fm1 => ?_
  cases k with
  | true =>
    rw [if_pos rfl]
    exact (p.1 rfl).run fm1 s1 fun d Γ2 v F2 H2 p2 s2 _ fm2 o2 => q d Γ2 v F2 H2 p2 s2 fm2 o2
  | false =>
    rw [if_neg Bool.false_ne_true]
    exact (p.2 rfl).run fm1 s1 fun d Γ2 v F2 H2 p2 s2 _ fm2 o2 => q d Γ2 v F2 H2 p2 s2 fm2 o2
theorem ew_neg {i : Int} (h : EW X a Γ fun x Γ1 => ∃ i, x = .dat (.int i) ∧ P (.dat (.int (-i))) Γ1) : EW X (.UnaryOp .USub a pos) Γ P := by
  intro A F H σ fm Q q
  refine ⟨_, pe_un un_neg pe_top, ?_⟩
  show EV X a σ H fun x H1 => ∃ i, x = .int i ∧ Q (.int (-i)) H1
  refine h.run fm Stp.refl fun x Γ1 vx F1 H1 p s1 _ fm1 ox => ?_
  obtain ⟨k, rfl, p1⟩ := p
  exact ⟨k, Rep.int_eq ox, q _ Γ1 _ F1 H1 p1 s1 fm1 (.int _)⟩
end
end VY

/-! VY: arguments, displays, subscripts, slices, built-in calls, methods. -/
namespace VY
open PySem PySem.Spec PyProof.Rows L2

/-! ### freezing -/
def datOf : Dv → Option D
  | .dat d => some d
  | .new (.cl (.lst ds)) => some (.lst ds)
  | _ => none
theorem datOf_some {x : Dv} {d : D} (h : datOf x = some d) : x = .dat d ∨ ∃ ds, x = .new (.l ds) ∧ d = .lst ds := by
  unfold datOf at h
  split at h
  · cases h; exact .inl rfl
  · cases h; exact .inr ⟨_, rfl, rfl⟩
  · cases h
theorem freeze1 {K : PySem.W.Frag} {A : Ac} {Fs Hs F H : Hp} {σ : L2.St} {Γs Γ : List Dsc} {x : Dv} {v : V} {d : D} (ok : VOk K A Hs F H σ Γ x v) (fm : Fm K A F H σ Γ) (st : Stp σ Γs Γ Fs Hs F H) (h : datOf x = some d) :
    ∃ F', Ex F F' ∧ Fm K A F' H σ Γ ∧ Stp σ Γs Γ Fs Hs F' H ∧ Rep K F' d v := by
  rcases datOf_some h with rfl | ⟨ds, rfl, rfl⟩
  · exact ⟨F, Ex.refl _, fm, st, ok⟩
  · obtain ⟨a, rfl, ⟨⟨xs, e, r⟩, z⟩, no⟩ := ok
    obtain ⟨h0, no, hs⟩ := no a List.mem_cons_self
    exact ⟨upd F a (.lst xs), Ex.new z, fm.freeze e z no h0, st.freeze z hs, .lst upd_same (r.ex (Ex.new z))⟩
def ptB : Dv → Bool
  | .dat (.pt _) => true
  | _ => false
theorem VOk.seq2 {K : PySem.W.Frag} {A : Ac} {Hs F H : Hp} {σ : L2.St} {Γ : List Dsc} {x : Dv} {v : V} {ds : List D} (ok : VOk K A Hs F H σ Γ x v) (fm : Fm K A F H σ Γ) (h : Sq Γ x ds) (hn : ptB x = false) :
    (∃ a vs, v = .ref a ∧ SqL K H a vs ∧ Reps K F ds vs) ∨ ∃ a vs, v = .ref a ∧ F a = some (.tup vs) ∧ Reps K F ds vs := by
  rcases h.cases with rfl | rfl | rfl | h
  · cases ok with
    | tup e r => exact .inr ⟨_, _, rfl, e, r⟩
  · cases ok with
    | scr e r => exact .inl ⟨_, _, rfl, fm.fh.sq e, r⟩
  · cases hn
  · obtain ⟨a, vs, e, e1, r⟩ := ok.lst fm h
    exact .inl ⟨a, vs, e, .inl (.inl e1), r⟩
section
variable {X : Cx} {Γ : List Dsc} {P : PD} {a b c e o : Expr} {es : List Expr} {pos p pos' : Pos} {x : Str}
theorem ew_frz (h : EW X e Γ fun x Γ1 => ∃ d, datOf x = some d ∧ P (.dat d) Γ1) : EW X e Γ P := by
  intro A F H σ fm Q q
  refine h.run fm Stp.refl fun x Γ1 v F1 H1 hx s1 _ fm1 ok => ?_
  obtain ⟨d, hd, hp⟩ := hx
  obtain ⟨F2, _, fm2, s2, r⟩ := freeze1 ok fm1 s1 hd
  exact q _ Γ1 v F2 H1 hp s2 fm2 r

/-! ### arguments -/
theorem aw_nil {P : List Dv → List Dsc → Prop} (h : P [] Γ) : AW X [] Γ P := fun A F H σ fm Q q => ⟨_, pa_nil, q [] Γ [] F H h Stp.refl fm .nil⟩
theorem aw_cons {P : List Dv → List Dsc → Prop} (h : EW X e Γ fun x Γ1 => AW X es Γ1 fun xs Γ2 => P (x :: xs) Γ2) (hs : starEach (e :: es) X.env = (false, eval e X.env) :: starEach es X.env := by rfl) : AW X (e :: es) Γ P := by
  intro A F H σ fm Q q
  refine ⟨_, pa_cons pe_top pa_top hs, ?_⟩
  show EV X e σ H fun x H1 => AV X es σ H1 fun xs H2 => Q (x :: xs) H2
  refine h.run fm Stp.refl fun x Γ1 v F1 H1 hx s1 _ fm1 ok => ?_
  exact hx.run fm1 s1 fun xs Γ2 vs F2 H2 hp s2 s12 fm2 oks => q _ Γ2 _ F2 H2 hp s2 fm2 (.cons (ok.stp s12) oks)
/-- *e, e's items data -/
theorem aw_star {P : List Dv → List Dsc → Prop} (h : EW X e Γ fun x Γ1 => ∃ ds, Sq Γ1 x ds ∧ (∀ i, x ≠ .loc i) ∧ AW X es Γ1 fun xs Γ2 => P (ds.map .dat ++ xs) Γ2)
    (hs : starEach (.Starred e p :: es) X.env = (true, eval e X.env) :: starEach es X.env := by rfl) : AW X (.Starred e p :: es) Γ P := by
  intro A F H σ fm Q q
  refine ⟨_, StX.pa_star pe_top pa_top hs, ?_⟩
  show EV X e σ H fun x H1 => ∃ a xs, x = V.ref a ∧ (SqT X.K H1 a xs ∨ SqL X.K H1 a xs) ∧ AV X es σ H1 fun ys H2 => Q (xs ++ ys) H2
  refine h.run fm Stp.refl fun x Γ1 v F1 H1 hx s1 _ fm1 ok => ?_
  obtain ⟨ds, hd, _, h2⟩ := hx
  obtain ⟨a, vs, rfl, hq, r⟩ := ok.seq fm1 hd
  refine ⟨a, vs, rfl, hq.elim .inr .inl, ?_⟩
  refine h2.run fm1 s1 fun xs Γ2 ws F2 H2 hp s2 s12 fm2 oks => q _ Γ2 _ F2 H2 hp s2 fm2 ?_
  have : ∀ (ds : List D) (vs : List V), Reps X.K F1 ds vs → VsOk X.K A H F2 H2 σ Γ2 (ds.map .dat ++ xs) (vs ++ ws) := by
    intro ds vs r
    induction ds generalizing vs with
    | nil => cases r; exact oks
    | cons d ds ih =>
      cases r with
      | cons r1 r2 => exact .cons (Rep.ex s12.f r1) (ih _ r2)
  exact this ds vs r

/-! ### displays -/
def datsOf : List Dv → Option (List D)
  | [] => some []
  | .dat d :: r => (datsOf r).map (d :: ·)
  | _ => none
theorem reps_of {K : PySem.W.Frag} {A : Ac} {Hs F H : Hp} {σ : L2.St} {Γ : List Dsc} : ∀ {xs : List Dv} {vs : List V} {ds : List D}, VsOk K A Hs F H σ Γ xs vs → datsOf xs = some ds → Reps K F ds vs
  | [], _, _, .nil, h => by cases h; exact .nil
  | .dat d :: r, _, _, .cons o t, h => by
    obtain ⟨es, e1, e2⟩ := Option.map_eq_some_iff.mp (show (datsOf r).map (d :: ·) = some _ from h)
    subst e2
    exact .cons o (reps_of t e1)
  | .new _ :: _, _, _, _, h => by cases h
  | .loc _ :: _, _, _, _, h => by cases h
  | .fld _ _ _ :: _, _, _, _, h => by cases h
theorem datsOf_map (ds : List D) : datsOf (ds.map .dat) = some ds := by
  induction ds with
  | nil => rfl
  | cons d ds ih =>
    show (datsOf (ds.map .dat)).map (d :: ·) = _
    rw [ih]
    rfl
theorem datsOf_append {xs ys : List Dv} {ds es : List D} (h : datsOf xs = some ds) (h' : datsOf ys = some es) : datsOf (xs ++ ys) = some (ds ++ es) := by
  induction xs generalizing ds with
  | nil => cases h; exact h'
  | cons x xs ih =>
    cases x with
    | dat d =>
      obtain ⟨us, e1, e2⟩ := Option.map_eq_some_iff.mp (show (datsOf xs).map (d :: ·) = some _ from h)
      subst e2
      show (datsOf (xs ++ ys)).map (d :: ·) = _
      rw [ih e1]
      rfl
    | _ => cases h
theorem ew_tup {k : Nat} (h : AW X es Γ fun xs Γ1 => ∃ ds, datsOf xs = some ds ∧ ds.length ≤ 1000000 ∧ P (.dat (.tup ds)) Γ1) : EW X (.Tuple es k pos) Γ P := by
  intro A F H σ fm Q q
  refine ⟨_, pe_tup pa_top, ?_⟩
  show AV X es σ H fun xs H1 => xs.length ≤ sizeLine ∧ ∀ p, H1 p = none → Q (.ref p) (upd H1 p (.tup xs))
  refine h.run fm Stp.refl fun xs Γ1 vs F1 H1 hx s1 _ fm1 ok => ?_
  obtain ⟨ds, hd, hl, hp⟩ := hx
  have r := reps_of ok hd
  refine ⟨by rw [← r.len]; exact sz hl, fun p np => ?_⟩
  exact q _ Γ1 _ _ _ hp (s1.trans (Stp.allocF np (fm1.fnone np))) (fm1.allocF np) (.tup upd_same (r.ex (Ex.new (fm1.fnone np))))
theorem newOk {K : PySem.W.Frag} {A : Ac} {Hs F H : Hp} {σ : L2.St} {Γs Γ : List Dsc} {Fs : Hp} {p : Addr} {vs : List V} {ds : List D} (fm : Fm K A F H σ Γ) (st : Stp σ Γs Γ Fs Hs F H) (np : H p = none) (r : Reps K F ds vs) :
    VOk K A Hs F (upd H p (.lst vs)) σ Γ (.new (.l ds)) (.ref p) := ⟨p, rfl, ⟨⟨vs, upd_same, r⟩, fm.fnone np⟩, fun b m => by
    rcases List.mem_cons.mp m with rfl | m
    · exact ⟨fm.h0 np, fm.notOwn np, st.g _ np⟩
    · cases m⟩
theorem ew_lst (h : AW X es Γ fun xs Γ1 => ∃ ds, datsOf xs = some ds ∧ ds.length ≤ 1000000 ∧ P (.new (.l ds)) Γ1) : EW X (.List es pos) Γ P := by
  intro A F H σ fm Q q
  refine ⟨_, pe_lst pa_top, ?_⟩
  show AV X es σ H fun xs H1 => xs.length ≤ sizeLine ∧ ∀ p, H1 p = none → Q (.ref p) (upd H1 p (.lst xs))
  refine h.run fm Stp.refl fun xs Γ1 vs F1 H1 hx s1 _ fm1 ok => ?_
  obtain ⟨ds, hd, hl, hp⟩ := hx
  have r := reps_of ok hd
  refine ⟨by rw [← r.len]; exact sz hl, fun p np => ?_⟩
  exact q _ Γ1 _ _ _ hp (s1.trans (Stp.alloc np)) (fm1.alloc np) (newOk fm1 s1 np r)

/-! ### +, * of tuples and lists -/
theorem ew_catT (h : EW X a Γ fun x Γ1 => EW X b Γ1 fun y Γ2 => ∃ xs ys, x = .dat (.tup xs) ∧ y = .dat (.tup ys) ∧ xs.length + ys.length ≤ 1000000 ∧ P (.dat (.tup (xs ++ ys))) Γ2) : EW X (.BinOp a .Add b pos) Γ P :=
  ew_bin op_catA (h.mono fun x Γ1 h1 => h1.mono fun y Γ2 ⟨xs, ys, e1, e2, hl, hp⟩ A Fs Hs Γs F H σ vs fm st ok Q q => by
    subst e1 e2
    cases ok with
    | cons o1 ok =>
      cases ok with
      | cons o2 ok =>
        cases ok
        cases o1 with
        | tup e1 r1 =>
          cases o2 with
          | tup e2 r2 =>
            refine ⟨_, _, rfl, _, _, _, _, rfl, rfl, .inl (.inl (fm.fh _ _ e1)), .inl (.inl (fm.fh _ _ e2)), by rw [← r1.len, ← r2.len]; exact sz hl, fun z => ?_, fun _ z => ?_, fun _ _ p np => ?_⟩
            · subst z
              cases r1
              exact q _ _ _ F H hp st fm (.tup e2 r2)
            · subst z
              cases r2
              rw [List.append_nil] at hp
              exact q _ _ _ F H hp st fm (.tup e1 r1)
            · exact q _ _ _ _ _ hp (st.trans (Stp.allocF np (fm.fnone np))) (fm.allocF np) (.tup upd_same ((r1.append r2).ex (Ex.new (fm.fnone np)))))
theorem ew_catL (h : EW X a Γ fun x Γ1 => EW X b Γ1 fun y Γ2 => ∃ xs ys, Lst Γ2 x xs ∧ Lst Γ2 y ys ∧ xs.length + ys.length ≤ 1000000 ∧ P (.new (.l (xs ++ ys))) Γ2) : EW X (.BinOp a .Add b pos) Γ P :=
  ew_bin op_cat (h.mono fun x Γ1 h1 => h1.mono fun y Γ2 ⟨xs, ys, e1, e2, hl, hp⟩ A Fs Hs Γs F H σ vs fm st ok Q q => by
    cases ok with
    | cons o1 ok =>
      cases ok with
      | cons o2 ok =>
        cases ok
        obtain ⟨l1, v1, rfl, g1, r1⟩ := VOk.lst o1 fm e1
        obtain ⟨l2, v2, rfl, g2, r2⟩ := VOk.lst o2 fm e2
        refine ⟨_, _, rfl, l1, l2, v1, v2, rfl, rfl, g1, g2, by rw [← r1.len, ← r2.len]; exact sz hl, fun p np => ?_⟩
        exact q _ _ _ _ _ hp (st.trans (Stp.alloc np)) (fm.alloc np) (newOk fm st np (r1.append r2)))
theorem ew_repL (h : EW X a Γ fun x Γ1 => EW X b Γ1 fun y Γ2 => ∃ xs k, Lst Γ2 x xs ∧ y = .dat (.int k) ∧ k ≤ 1000 ∧ -1000 ≤ k ∧ xs.length ≤ 1000 ∧ P (.new (.l (List.replicate k.toNat xs).flatten)) Γ2) : EW X (.BinOp a .Mult b pos) Γ P :=
  ew_bin op_rep (h.mono fun x Γ1 h1 => h1.mono fun y Γ2 ⟨xs, k, e1, e2, hk, hk2, hl, hp⟩ A Fs Hs Γs F H σ vs fm st ok Q q => by
    subst e2
    cases ok with
    | cons o1 ok =>
      cases ok with
      | cons o2 ok =>
        cases ok
        obtain ⟨l1, v1, rfl, g1, r1⟩ := VOk.lst o1 fm e1
        cases Rep.int_eq o2
        have hm : xs.length * k.toNat ≤ 1000 * 1000 := Nat.mul_le_mul hl (by omega)
        refine ⟨_, _, rfl, l1, k, v1, rfl, rfl, g1, by omega, by omega, by rw [← r1.len]; exact sz hm, fun p np => ?_⟩
        exact q _ _ _ _ _ hp (st.trans (Stp.alloc np)) (fm.alloc np) (newOk fm st np (r1.rep _)))
theorem ew_repT (h : EW X a Γ fun x Γ1 => EW X b Γ1 fun y Γ2 => ∃ xs k, x = .dat (.tup xs) ∧ y = .dat (.int k) ∧ xs ≠ [] ∧ 2 ≤ k ∧ k ≤ 1000 ∧ xs.length ≤ 1000 ∧ P (.dat (.tup (List.replicate k.toNat xs).flatten)) Γ2) : EW X (.BinOp a .Mult b pos) Γ P :=
  ew_bin op_repT (h.mono fun x Γ1 h1 => h1.mono fun y Γ2 ⟨xs, k, e1, e2, hne, hk, hk2, hl, hp⟩ A Fs Hs Γs F H σ vs fm st ok Q q => by
    subst e1 e2
    cases ok with
    | cons o1 ok =>
      cases ok with
      | cons o2 ok =>
        cases ok
        cases Rep.int_eq o2
        cases o1 with
        | tup e1 r1 =>
          refine ⟨_, _, rfl, _, k, _, rfl, rfl, .inl (.inl (fm.fh _ _ e1)), fun z => hne ?_, hk, hk2, by rw [← r1.len]; exact hl, fun p np => ?_⟩
          · subst z
            cases r1
            rfl
          · exact q _ _ _ _ _ hp (st.trans (Stp.allocF np (fm.fnone np))) (fm.allocF np) (.tup upd_same ((r1.rep _).ex (Ex.new (fm.fnone np)))))

/-! ### subscripts, slices -/
theorem atI_reps {K : PySem.W.Frag} {H : Hp} {ds : List D} {vs : List V} {i : Int} {d : D} (r : Reps K H ds vs) (h : atI ds i = some d) : ∃ v, atI vs i = some v ∧ Rep K H d v := by
  unfold atI at h ⊢
  rw [r.len] at h
  cases e : ixN vs.length i with
  | none => rw [e] at h; cases h
  | some j =>
    rw [e] at h
    exact r.get h
theorem ew_ix (h : EW X a Γ fun x Γ1 => EW X b Γ1 fun y Γ2 => ∃ ds i d, Sq Γ2 x ds ∧ y = .dat (.int i) ∧ atI ds i = some d ∧ P (.dat d) Γ2) (hs : PlainIx b := by exact fun _ _ => rfl) : EW X (.Subscript a b pos) Γ P := by
  intro A F H σ fm Q q
  refine ⟨_, pe_ix (IxR.or ix_list ix_tup) pe_top pe_top hs, ?_⟩
  show EV X a σ H (fun x H1 => EV X b σ H1 fun y H2 => rIxL X.K x y H2 Q ∨ rIxT X.K x y H2 Q)
  refine h.run fm Stp.refl fun x Γ1 vx F1 H1 hx s1 _ fm1 ox => ?_
  refine hx.run fm1 s1 fun y Γ2 vy F2 H2 hk s2 s12 fm2 oy => ?_
  obtain ⟨ds, i, d, e1, rfl, e3, hp⟩ := hk
  obtain ⟨l, vs, rfl, hq, r⟩ := (ox.stp s12).seq fm2 e1
  obtain ⟨v, e4, rv⟩ := atI_reps r e3
  cases Rep.int_eq oy
  rcases hq with hq | hq
  · exact .inl ⟨l, vs, i, v, rfl, rfl, hq, e4, q _ Γ2 v F2 H2 hp s2 fm2 rv⟩
  · exact .inr ⟨l, vs, i, v, rfl, rfl, hq, e4, q _ Γ2 v F2 H2 hp s2 fm2 rv⟩
/-- a slice's part -/
def OV (X : Cx) (e : Option Expr) : TO := fun σ H Q => ∃ t, PO X e t ∧ t σ H Q
theorem po_top {X : Cx} {e : Option Expr} : PO X e (OV X e) := ⟨fun pins s σ H Q I ⟨_, h, q⟩ => h.run pins s σ H Q I q⟩
def OW (X : Cx) (e : Option Expr) (Γ : List Dsc) (P : Option Int → List Dsc → Prop) : Prop := ∀ A F H σ, Fm X.K A F H σ Γ → ∀ Q : Option Int → Hp → Prop,
  (∀ b Γ' F' H', P b Γ' → Stp σ Γ Γ' F H F' H' → Fm X.K A F' H' σ Γ' → Q b H') → OV X e σ H Q
theorem ow_none {P : Option Int → List Dsc → Prop} (h : P none Γ) : OW X none Γ P := fun A F H σ fm Q q => ⟨_, po_none, q none Γ F H h Stp.refl fm⟩
theorem ow_some {P : Option Int → List Dsc → Prop} (h : EW X e Γ fun x Γ1 => ∃ i, x = .dat (.int i) ∧ P (some i) Γ1) : OW X (some e) Γ P := by
  intro A F H σ fm Q q
  refine ⟨_, po_some pe_top, ?_⟩
  show EV X e σ H fun x H1 => ∃ i, x = .int i ∧ Q (some i) H1
  refine h.run fm Stp.refl fun x Γ1 vx F1 H1 hx s1 _ fm1 ox => ?_
  obtain ⟨i, rfl, hp⟩ := hx
  exact ⟨i, Rep.int_eq ox, q _ Γ1 F1 H1 hp s1 fm1⟩
def cutD (xs : List D) (lo hi : Option Int) : List D := (xs.drop (HT.sIx xs.length 0 lo)).take (HT.sIx xs.length xs.length hi - HT.sIx xs.length 0 lo)
theorem Reps.cut {K : PySem.W.Frag} {H : Hp} {ds : List D} {vs : List V} (r : Reps K H ds vs) (lo hi : Option Int) : Reps K H (cutD ds lo hi) (cutV vs lo hi) := by
  unfold cutD cutV
  rw [r.len]
  exact (r.drop _).take _
theorem ew_slT {lo hi : Option Expr} (h : EW X a Γ fun x Γ1 => OW X lo Γ1 fun l Γ2 => OW X hi Γ2 fun u Γ3 => ∃ ds, x = .dat (.tup ds) ∧ P (.dat (.tup (cutD ds l u))) Γ3) : EW X (.Subscript a (.Slice lo hi none p) pos) Γ P := by
  intro A F H σ fm Q q
  refine ⟨_, pe_slice sl_tupA pe_top po_top po_top, ?_⟩
  show EV X a σ H fun x H1 => OV X lo σ H1 fun l H2 => OV X hi σ H2 fun u H3 => rSlA X.K x l u H3 Q
  refine h.run fm Stp.refl fun x Γ1 vx F1 H1 hx s1 _ fm1 ox => ?_
  refine hx A F1 H1 σ fm1 _ fun l Γ2 F2 H2 h2 s12 fm2 => ?_
  refine h2 A F2 H2 σ fm2 _ fun u Γ3 F3 H3 h3 s23 fm3 => ?_
  obtain ⟨ds, rfl, hp⟩ := h3
  have ox3 := (VOk.stp ox s12).stp s23
  have st := (s1.trans s12).trans s23
  cases ox3 with
  | tup e1 r1 =>
    rename_i aa xs
    refine ⟨_, _, rfl, .inl (.inl (fm3.fh _ _ e1)), fun z => ?_, fun z p np => ?_⟩
    · have e : cutD ds l u = ds := by
        unfold cutD
        rw [r1.len, z.1, z.2, ← r1.len, List.drop_zero, Nat.sub_zero, List.take_length]
      rw [e] at hp
      exact q _ _ _ F3 H3 hp st fm3 (.tup e1 r1)
    · exact q _ _ _ _ _ hp (st.trans (Stp.allocF np (fm3.fnone np))) (fm3.allocF np) (.tup upd_same ((r1.cut l u).ex (Ex.new (fm3.fnone np))))
theorem ew_slL {lo hi : Option Expr} (h : EW X a Γ fun x Γ1 => OW X lo Γ1 fun l Γ2 => OW X hi Γ2 fun u Γ3 => ∃ ds, (x = .dat (.scr ds) ∨ Lst Γ3 x ds) ∧ P (.new (.l (cutD ds l u))) Γ3) : EW X (.Subscript a (.Slice lo hi none p) pos) Γ P := by
  intro A F H σ fm Q q
  refine ⟨_, pe_slice sl_list pe_top po_top po_top, ?_⟩
  show EV X a σ H fun x H1 => OV X lo σ H1 fun l H2 => OV X hi σ H2 fun u H3 => rSlL X.K x l u H3 Q
  refine h.run fm Stp.refl fun x Γ1 vx F1 H1 hx s1 _ fm1 ox => ?_
  refine hx A F1 H1 σ fm1 _ fun l Γ2 F2 H2 h2 s12 fm2 => ?_
  refine h2 A F2 H2 σ fm2 _ fun u Γ3 F3 H3 h3 s23 fm3 => ?_
  obtain ⟨ds, hd, hp⟩ := h3
  have ox3 := (VOk.stp ox s12).stp s23
  have st := (s1.trans s12).trans s23
  have key : ∃ a vs, vx = .ref a ∧ SqL X.K H3 a vs ∧ Reps X.K F3 ds vs := by
    rcases hd with rfl | hd
    · cases ox3 with
      | scr e r => exact ⟨_, _, rfl, fm3.fh.sq e, r⟩
    · obtain ⟨a, vs, e, g, r⟩ := ox3.lst fm3 hd
      exact ⟨a, vs, e, .inl (.inl g), r⟩
  obtain ⟨a, vs, rfl, g, r⟩ := key
  exact ⟨a, vs, rfl, g, fun p np => q _ _ _ _ _ hp (st.trans (Stp.alloc np)) (fm3.alloc np) (newOk fm3 st np (r.cut l u))⟩

/-! ### calls of what is built in -/
theorem ew_cb {id : String} {r : List V → Hp → VK → Prop} (hc : CallR X (.builtin id) r) (hm : X.mg x = none) (hv : bootBuiltins x = some (.builtin id)) (h : AW X (e :: es) Γ fun xs Γ1 => Kw X Γ1 xs r P) (hg : Gl X x := by rfl)
    (hn : x ≠ "__name__" := by decide) (hdb : (x == ("__debug__" : Str)) = false := by decide)
    (he : starEach (e :: es) X.env = (false, eval e X.env) :: starEach es X.env := by rfl) (hpl : (backTo pos (starEach es X.env)).any (·.1) = false := by rfl) : EW X (.Call (.Name x p) (e :: es) [] pos) Γ P := by
  intro A F H σ fm Q q
  refine ⟨_, pe_callB hc hg hm hv pa_top hn hdb he hpl, ?_⟩
  show AV X (e :: es) σ H fun vs H1 => r vs H1 Q
  exact h.run fm Stp.refl fun xs Γ1 vs F1 H1 hx s1 _ fm1 ok => hx A F H Γ F1 H1 σ vs fm1 s1 ok Q q
theorem ew_cty {T : String} {r : List V → Hp → VK → Prop} (hc : CallR X (.type T) r) (hm : X.mg x = none) (hv : bootBuiltins x = some (.type T)) (h : AW X (e :: es) Γ fun xs Γ1 => Kw X Γ1 xs r P) (hg : Gl X x := by rfl)
    (hn : x ≠ "__name__" := by decide) (hdb : (x == ("__debug__" : Str)) = false := by decide)
    (he : starEach (e :: es) X.env = (false, eval e X.env) :: starEach es X.env := by rfl) (hpl : (backTo pos (starEach es X.env)).any (·.1) = false := by rfl) : EW X (.Call (.Name x p) (e :: es) [] pos) Γ P := by
  intro A F H σ fm Q q
  refine ⟨_, pe_callTy hc hg hm hv pa_top hn hdb he hpl, ?_⟩
  show AV X (e :: es) σ H fun vs H1 => r vs H1 Q
  exact h.run fm Stp.refl fun xs Γ1 vs F1 H1 hx s1 _ fm1 ok => hx A F H Γ F1 H1 σ vs fm1 s1 ok Q q
abbrev one (k : Dv → List Dsc → Prop) : List Dv → List Dsc → Prop := fun xs Γ => ∃ x, xs = [x] ∧ k x Γ
theorem aw_one {k : List Dv → List Dsc → Prop} (h : EW X e Γ fun x Γ1 => k [x] Γ1) (hs : starEach [e] X.env = (false, eval e X.env) :: starEach [] X.env := by rfl) : AW X [e] Γ k := aw_cons (h.mono fun x Γ1 h1 => aw_nil h1) hs
theorem ew_len (hm : X.mg "len" = none) (h : EW X e Γ fun x Γ1 => ∃ ds, Sq Γ1 x ds ∧ P (.dat (.int ds.length)) Γ1) (hg : Gl X "len" := by rfl)
    (he : starEach [e] X.env = (false, eval e X.env) :: starEach [] X.env := by rfl) : EW X (.Call (.Name "len" p) [e] [] pos) Γ P :=
  ew_cb call_len_seq hm PySem.boot_len (aw_one (h.mono fun x Γ1 ⟨ds, hd, hp⟩ A Fs Hs Γs F H σ vs fm st ok Q q => by
    cases ok with
    | cons o1 ok =>
      cases ok
      obtain ⟨a, vs, rfl, hq, r⟩ := VOk.seq o1 fm hd
      refine ⟨a, vs, rfl, hq, ?_⟩
      rw [← r.len]
      exact q _ _ _ F H hp st fm (.int _)) he) hg (by decide) (by decide) he (by rfl)
theorem ew_int1 (hm : X.mg "int" = none) (h : EW X e Γ fun x Γ1 => (∃ i, x = .dat (.int i) ∧ P (.dat (.int i)) Γ1) ∨ ∃ k, x = .dat (.bl k) ∧ P (.dat (.int (if k then 1 else 0))) Γ1) (hg : Gl X "int" := by rfl)
    (he : starEach [e] X.env = (false, eval e X.env) :: starEach [] X.env := by rfl) : EW X (.Call (.Name "int" p) [e] [] pos) Γ P :=
  ew_cty call_int1 hm (by decide +kernel) (aw_one (h.mono fun x Γ1 hh A Fs Hs Γs F H σ vs fm st ok Q q => by
    cases ok with
    | cons o1 ok =>
      cases ok
      rcases hh with ⟨i, rfl, hp⟩ | ⟨k, rfl, hp⟩
      · cases Rep.int_eq o1
        exact .inl ⟨i, rfl, q _ _ _ F H hp st fm (.int _)⟩
      · cases Rep.bl_eq o1
        exact .inr ⟨k, rfl, q _ _ _ F H hp st fm (.int _)⟩) he) hg (by decide) (by decide) he (by rfl)
theorem ew_abs (hm : X.mg "abs" = none) (h : EW X e Γ fun x Γ1 => ∃ i, x = .dat (.int i) ∧ P (.dat (.int (if i < 0 then -i else i))) Γ1) (hg : Gl X "abs" := by rfl)
    (he : starEach [e] X.env = (false, eval e X.env) :: starEach [] X.env := by rfl) : EW X (.Call (.Name "abs" p) [e] [] pos) Γ P :=
  ew_cb call_abs hm (by decide +kernel) (aw_one (h.mono fun x Γ1 ⟨i, e1, hp⟩ A Fs Hs Γs F H σ vs fm st ok Q q => by
    subst e1
    cases ok with
    | cons o1 ok =>
      cases ok
      cases Rep.int_eq o1
      exact ⟨i, rfl, q _ _ _ F H hp st fm (.int _)⟩) he) hg (by decide) (by decide) he (by rfl)
theorem ew_min2 (hc : X.calm = true) (hm : X.mg "min" = none) (h : EW X a Γ fun x Γ1 => EW X b Γ1 fun y Γ2 => ∃ i j, x = .dat (.int i) ∧ y = .dat (.int j) ∧ P (.dat (.int (if j < i then j else i))) Γ2) (hg : Gl X "min" := by rfl)
    (he : starEach [a, b] X.env = (false, eval a X.env) :: starEach [b] X.env := by rfl) (he2 : starEach [b] X.env = (false, eval b X.env) :: starEach [] X.env := by rfl) (hpl : (backTo pos (starEach [b] X.env)).any (·.1) = false := by rfl) : EW X (.Call (.Name "min" p) [a, b] [] pos) Γ P :=
  ew_cb (call_min2 hc) hm (by decide +kernel) (aw_cons (h.mono fun x Γ1 h1 => aw_one (h1.mono fun y Γ2 ⟨i, j, e1, e2, hp⟩ A Fs Hs Γs F H σ vs fm st ok Q q => by
    subst e1 e2
    cases ok with
    | cons o1 ok =>
      cases ok with
      | cons o2 ok =>
        cases ok
        cases Rep.int_eq o1
        cases Rep.int_eq o2
        exact ⟨i, j, rfl, q _ _ _ F H hp st fm (.int _)⟩) he2) he) hg (by decide) (by decide) he hpl
theorem ew_list (hm : X.mg "list" = none) (h : EW X e Γ fun x Γ1 => ∃ ds, Sq Γ1 x ds ∧ P (.new (.l ds)) Γ1) (hg : Gl X "list" := by rfl)
    (he : starEach [e] X.env = (false, eval e X.env) :: starEach [] X.env := by rfl) : EW X (.Call (.Name "list" p) [e] [] pos) Γ P :=
  ew_cty call_list_of hm PyProof.Rows.boot_list (aw_one (h.mono fun x Γ1 ⟨ds, hd, hp⟩ A Fs Hs Γs F H σ vs fm st ok Q q => by
    cases ok with
    | cons o1 ok =>
      cases ok
      obtain ⟨a, vs, rfl, hq, r⟩ := VOk.seq o1 fm hd
      exact ⟨a, vs, rfl, hq, fun p np => q _ _ _ _ _ hp (st.trans (Stp.alloc np)) (fm.alloc np) (newOk fm st np r)⟩) he) hg (by decide) (by decide) he (by rfl)
theorem ew_tuple (hm : X.mg "tuple" = none) (h : EW X e Γ fun x Γ1 => ∃ ds, Sq Γ1 x ds ∧ ptB x = false ∧ P (.dat (.tup ds)) Γ1) (hg : Gl X "tuple" := by rfl)
    (he : starEach [e] X.env = (false, eval e X.env) :: starEach [] X.env := by rfl) : EW X (.Call (.Name "tuple" p) [e] [] pos) Γ P :=
  ew_cty call_tuple_of hm PyProof.Rows.boot_tuple (aw_one (h.mono fun x Γ1 ⟨ds, hd, hnp, hp⟩ A Fs Hs Γs F H σ vs fm st ok Q q => by
    cases ok with
    | cons o1 ok =>
      cases ok
      rcases VOk.seq2 o1 fm hd hnp with ⟨a, vs, rfl, hq, r⟩ | ⟨a, vs, rfl, hq, r⟩
      · exact ⟨a, vs, rfl, .inl ⟨hq, fun p np => q _ _ _ _ _ hp (st.trans (Stp.allocF np (fm.fnone np))) (fm.allocF np) (.tup upd_same (r.ex (Ex.new (fm.fnone np))))⟩⟩
      · exact ⟨a, vs, rfl, .inr ⟨.inl (.inl (fm.fh _ _ hq)), q _ _ _ F H hp st fm (.tup hq r)⟩⟩) he) hg (by decide) (by decide) he (by rfl)
end
end VY

/-! VY: isinstance, sum, all, any, in, chains, sorted, methods that change an own list. -/
namespace VY
open PySem PySem.Spec PyProof.Rows L2
section
variable {X : Cx} {Γ : List Dsc} {P : PD} {a b c e o : Expr} {es : List Expr} {pos p p2 pos' apos cpos : Pos} {x : Str}

/-! ### isinstance -/
def kindC : Cl → String
  | .lst _ => "list"
  | .dct _ => "dict"
def kindT : Option T → Option String
  | some (.cl c) => some (kindC c)
  | _ => none
def kindOf (Γ : List Dsc) : Dv → Option String
  | .dat .non => some "NoneType"
  | .dat (.bl _) => some "bool"
  | .dat (.int _) => some "int"
  | .dat (.str _) => some "str"
  | .dat (.tup _) => some "tuple"
  | .dat (.lst _) => some "list"
  | .dat (.scr _) => some "list"
  | .dat (.pt _) => some "tuple"
  | .new t => kindT (some t)
  | .loc i => kindT (locT Γ i)
  | .fld _ _ _ => none
theorem ClAt.ty {K : PySem.W.Frag} {F H : Hp} {a : Addr} {c : Cl} (h : ClAt K F H a c) : TyX K H (.ref a) (.type (kindC c)) := by
  cases c with
  | lst ds => obtain ⟨⟨xs, e, _⟩, _⟩ := h; exact .base (.lst e)
  | dct ds => obtain ⟨⟨xs, e, _⟩, _⟩ := h; exact .base (.dK e)
theorem VOk.ty {K : PySem.W.Frag} {A : Ac} {Hs F H : Hp} {σ : L2.St} {x : Dv} {v : V} {k : String} (ok : VOk K A Hs F H σ Γ x v) (fm : Fm K A F H σ Γ) (hk : kindOf Γ x = some k) : TyX K H v (.type k) := by
  cases x with
  | fld i f b => cases hk
  | new t =>
    obtain ⟨a, rfl, l, _⟩ := ok
    cases t with
    | cl c => cases hk; exact ClAt.ty l
    | ins C fs => cases hk
  | loc i =>
    obtain ⟨a, rfl, h, _⟩ := ok
    have hk' : kindT (locT Γ i) = some k := hk
    cases e : locT Γ i with
    | none => rw [e] at hk'; cases hk'
    | some t =>
      rw [e] at hk'
      cases t with
      | cl c =>
        cases hk'
        exact ClAt.ty (fm.thing h (locT_some e)).1
      | ins C fs => cases hk'
  | dat d =>
    cases ok with
    | non => cases hk; exact .base .non
    | bl b => cases hk; exact .base (.bl b)
    | int i => cases hk; exact .base (.int i)
    | str s => cases hk; exact .base (.str s)
    | tup e r => cases hk; exact .base (.tup (fm.fh _ _ e))
    | lst e r => cases hk; exact .base (.lst (fm.fh _ _ e))
    | pt e z r => cases hk; exact .fTuple (fm.fh _ _ e)
    | scr e r =>
      cases hk
      rcases fm.fh.sq e with (h | ⟨o, h⟩) | ⟨o, its, n, h1, h2, _⟩
      · exact .base (.lst h)
      · exact .base (.frz h)
      · exact .kList h1 h2
theorem ew_isi {T : String} {t : Str} (hm : X.mg "isinstance" = none) (ht : X.mg t = none) (hvt : bootBuiltins t = some (.type T)) (h : EW X e Γ fun x Γ1 => ∃ kd k, kindOf Γ1 x = some kd ∧ kitB kd T = some k ∧ P (.dat (.bl k)) Γ1)
    (hg : Gl X "isinstance" := by rfl) (hgt : Gl X t := by rfl) (hn : t ≠ "__name__" := by decide) (hd : (t == ("__debug__" : Str)) = false := by decide)
    (he : starEach [e, .Name t p2] X.env = (false, eval e X.env) :: starEach [.Name t p2] X.env := by rfl)
    (hpl : (backTo pos (starEach [.Name t p2] X.env)).any (·.1) = false := by rfl) (hs2 : starEach [.Name t p2] X.env = (false, eval (.Name t p2) X.env) :: starEach [] X.env := by rfl) : EW X (.Call (.Name "isinstance" p) [e, .Name t p2] [] pos) Γ P := by
  intro A F H σ fm Q q
  refine ⟨_, pe_callB call_isi hg hm (by decide +kernel) (pa_cons pe_top (pa_cons (pe_bltn hgt ht hvt (v := .ty T) rfl hn hd) pa_nil hs2) he) (by decide) (by decide) he hpl, ?_⟩
  show EV X e σ H fun x H1 => rIsi X.K [x, .ty T] H1 Q
  refine h.run fm Stp.refl fun x Γ1 vx F1 H1 hx s1 _ fm1 ox => ?_
  obtain ⟨kd, k, hkd, hk, hp⟩ := hx
  exact ⟨vx, .ty T, _, _, k, rfl, .ty T, VOk.ty ox fm1 hkd, kit_ty hk, q _ Γ1 _ F1 H1 hp s1 fm1 (.bl _)⟩
/-- isinstance(e, (S, T)) -/
theorem ew_isi2 {S T : String} {s t : Str} {p3 p4 : Pos} {kk : Nat} (hm : X.mg "isinstance" = none) (hs : X.mg s = none) (hvs : bootBuiltins s = some (.type S)) (ht : X.mg t = none) (hvt : bootBuiltins t = some (.type T))
    (h : EW X e Γ fun x Γ1 => ∃ kd k l, kindOf Γ1 x = some kd ∧ kitB kd S = some k ∧ kitB kd T = some l ∧ P (.dat (.bl (k || l))) Γ1)
    (hg : Gl X "isinstance" := by rfl) (hgs : Gl X s := by rfl) (hns : s ≠ "__name__" := by decide) (hds : (s == ("__debug__" : Str)) = false := by decide) (hgt : Gl X t := by rfl) (hn : t ≠ "__name__" := by decide) (hd : (t == ("__debug__" : Str)) = false := by decide)
    (he : starEach [e, .Tuple [.Name s p2, .Name t p3] kk p4] X.env = (false, eval e X.env) :: starEach [.Tuple [.Name s p2, .Name t p3] kk p4] X.env := by rfl)
    (hpl : (backTo pos (starEach [.Tuple [.Name s p2, .Name t p3] kk p4] X.env)).any (·.1) = false := by rfl)
    (hs2 : starEach [.Tuple [.Name s p2, .Name t p3] kk p4] X.env = (false, eval (.Tuple [.Name s p2, .Name t p3] kk p4) X.env) :: starEach [] X.env := by rfl)
    (hs3 : starEach [.Name s p2, .Name t p3] X.env = (false, eval (.Name s p2) X.env) :: starEach [.Name t p3] X.env := by rfl) (hs4 : starEach [.Name t p3] X.env = (false, eval (.Name t p3) X.env) :: starEach [] X.env := by rfl) :
    EW X (.Call (.Name "isinstance" p) [e, .Tuple [.Name s p2, .Name t p3] kk p4] [] pos) Γ P := by
  intro A F H σ fm Q q
  refine ⟨_, pe_callB call_isiT hg hm (by decide +kernel) (pa_cons pe_top (pa_cons (pe_tup (pa_cons (pe_bltn hgs hs hvs (v := .ty S) rfl hns hds) (pa_cons (pe_bltn hgt ht hvt (v := .ty T) rfl hn hd) pa_nil hs4) hs3)) pa_nil hs2) he) (by decide) (by decide) he hpl, ?_⟩
  show EV X e σ H fun x H1 => 2 ≤ sizeLine ∧ ∀ p, H1 p = none → rIsiT X.K [x, .ref p] (upd H1 p (.tup [.ty S, .ty T])) Q
  refine h.run fm Stp.refl fun x Γ1 vx F1 H1 hx s1 _ fm1 ox => ⟨by decide, fun tp np => ?_⟩
  obtain ⟨kd, k, l, hkd, hk, hl, hp⟩ := hx
  have fm2 := fm1.alloc (o := .tup [.ty S, .ty T]) np
  have s2 := s1.trans (Stp.alloc (o := .tup [.ty S, .ty T]) np)
  refine ⟨vx, tp, _, _, [.type S, .type T], k || l, rfl, upd_same, .cons (.ty S) (.cons (.ty T) .nil), VOk.ty (VOk.stp ox (Stp.alloc np)) fm2 hkd, ?_, q _ Γ1 _ F1 _ hp s2 fm2 (.bl _)⟩
  refine kitAny_cons (kit_ty hk) (fun hk0 => ?_) (fun hk1 => by rw [hk1]; rfl)
  refine kitAny_cons (kit_ty hl) (fun hl0 => ?_) (fun hl1 => by rw [hl1, Bool.or_true])
  rw [hk0, hl0]
  rfl

/-! ### sum, all, any of lists -/
theorem ew_sum (hc : X.calm = true) (hm : X.mg "sum" = none) (h : EW X e Γ fun x Γ1 => ∃ ns : List Int, Lst Γ1 x (ns.map .int) ∧ P (.dat (.int ns.sum)) Γ1) (hg : Gl X "sum" := by rfl)
    (he : starEach [e] X.env = (false, eval e X.env) :: starEach [] X.env := by rfl) : EW X (.Call (.Name "sum" p) [e] [] pos) Γ P :=
  ew_cb (cr_sum hc) hm (by decide +kernel) (aw_one (h.mono fun x Γ1 ⟨ns, hd, hp⟩ A Fs Hs Γs F H σ vs fm st ok Q q => by
    cases ok with
    | cons o1 ok =>
      cases ok
      obtain ⟨a, vs, rfl, g, r⟩ := VOk.lst o1 fm hd
      rw [Reps.ints_eq r] at g
      exact ⟨a, ns, rfl, .inl (.inl g), q _ _ _ F H hp st fm (.int _)⟩) he) hg (by decide) (by decide) he (by rfl)
theorem ew_all (hc : X.calm = true) (hm : X.mg "all" = none) (h : EW X e Γ fun x Γ1 => ∃ ns : List Bool, Lst Γ1 x (ns.map .bl) ∧ P (.dat (.bl (ns.all id))) Γ1) (hg : Gl X "all" := by rfl)
    (he : starEach [e] X.env = (false, eval e X.env) :: starEach [] X.env := by rfl) : EW X (.Call (.Name "all" p) [e] [] pos) Γ P :=
  ew_cb (cr_all hc) hm (by decide +kernel) (aw_one (h.mono fun x Γ1 ⟨ns, hd, hp⟩ A Fs Hs Γs F H σ vs fm st ok Q q => by
    cases ok with
    | cons o1 ok =>
      cases ok
      obtain ⟨a, vs, rfl, g, r⟩ := VOk.lst o1 fm hd
      rw [Reps.bools_eq r] at g
      exact ⟨a, ns, rfl, .inl (.inl g), q _ _ _ F H hp st fm (.bl _)⟩) he) hg (by decide) (by decide) he (by rfl)
theorem ew_any (hc : X.calm = true) (hm : X.mg "any" = none) (h : EW X e Γ fun x Γ1 => ∃ ns : List Bool, Lst Γ1 x (ns.map .bl) ∧ P (.dat (.bl (ns.any id))) Γ1) (hg : Gl X "any" := by rfl)
    (he : starEach [e] X.env = (false, eval e X.env) :: starEach [] X.env := by rfl) : EW X (.Call (.Name "any" p) [e] [] pos) Γ P :=
  ew_cb (cr_any hc) hm (by decide +kernel) (aw_one (h.mono fun x Γ1 ⟨ns, hd, hp⟩ A Fs Hs Γs F H σ vs fm st ok Q q => by
    cases ok with
    | cons o1 ok =>
      cases ok
      obtain ⟨a, vs, rfl, g, r⟩ := VOk.lst o1 fm hd
      rw [Reps.bools_eq r] at g
      exact ⟨a, ns, rfl, .inl (.inl g), q _ _ _ F H hp st fm (.bl _)⟩) he) hg (by decide) (by decide) he (by rfl)

/-! ### a < b <= c of ints -/
theorem ew_chLeLt (h : EW X a Γ fun x Γ1 => EW X b Γ1 fun y Γ2 => ∃ i j, x = .dat (.int i) ∧ y = .dat (.int j) ∧ (¬ i ≤ j → P (.dat (.bl false)) Γ2) ∧ (i ≤ j → EW X c Γ2 fun z Γ3 => ∃ l, z = .dat (.int l) ∧ P (.dat (.bl (decide (j < l)))) Γ3))
    (hm : lastMarks [.LtE, .Lt] [b, c] = false := by with_unfolding_all rfl) : EW X (.Compare a [.LtE, .Lt] [b, c] pos) Γ P := by
  intro A F H σ fm Q q
  refine ⟨_, pe_chain op_le op_lt pe_top pe_top pe_top hm, ?_⟩
  show EV X a σ H fun x H1 => EV X b σ H1 fun y H2 => rI0 (fun i j => .bl (decide (i ≤ j))) x y H2 fun z H3 => ∃ k, z = .bl k ∧ (if k = true then EV X c σ H3 fun w' H4 => rI0 (fun i j => .bl (decide (i < j))) y w' H4 Q else Q (.bl false) H3)
  refine h.run fm Stp.refl fun x Γ1 vx F1 H1 hx s1 _ fm1 ox => ?_
  refine hx.run fm1 s1 fun y Γ2 vy F2 H2 hk s2 s12 fm2 oy => ?_
  obtain ⟨i, j, rfl, rfl, h1, h2⟩ := hk
  cases Rep.int_eq (VOk.stp ox s12)
  cases Rep.int_eq oy
  refine ⟨i, j, rfl, rfl, _, rfl, ?_⟩
  by_cases hij : i ≤ j
  · rw [if_pos (decide_eq_true hij)]
    refine (h2 hij).run fm2 s2 fun z Γ3 vz F3 H3 hz s3 _ fm3 oz => ?_
    obtain ⟨l, rfl, hp⟩ := hz
    cases Rep.int_eq oz
    exact ⟨j, l, rfl, rfl, q _ Γ3 _ F3 H3 hp s3 fm3 (.bl _)⟩
  · rw [if_neg (by rw [decide_eq_true_eq]; exact hij)]
    exact q _ Γ2 _ F2 H2 (h1 hij) s2 fm2 (.bl _)
theorem tw_chLeLt {P : Bool → List Dsc → Prop} (h : EW X a Γ fun x Γ1 => EW X b Γ1 fun y Γ2 => ∃ i j, x = .dat (.int i) ∧ y = .dat (.int j) ∧ (¬ i ≤ j → P false Γ2) ∧ (i ≤ j → EW X c Γ2 fun z Γ3 => ∃ l, z = .dat (.int l) ∧ P (decide (j < l)) Γ3))
    (hm : lastMarks [.LtE, .Lt] [b, c] = false := by with_unfolding_all rfl) : TW X (.Compare a [.LtE, .Lt] [b, c] pos) Γ P := by
  intro A F H σ fm Q q
  refine ⟨_, pt_chain op_le op_lt pe_top pe_top pe_top hm, ?_⟩
  show EV X a σ H fun x H1 => EV X b σ H1 fun y H2 => rI0 (fun i j => .bl (decide (i ≤ j))) x y H2 fun z H3 => ∃ k, z = .bl k ∧ (if k = true then EV X c σ H3 fun w' H4 => rI0 (fun i j => .bl (decide (i < j))) y w' H4 (fun z H5 => ∃ k, z = .bl k ∧ Q k H5) else ∃ k, V.bl false = .bl k ∧ Q k H3)
  refine h.run fm Stp.refl fun x Γ1 vx F1 H1 hx s1 _ fm1 ox => ?_
  refine hx.run fm1 s1 fun y Γ2 vy F2 H2 hk s2 s12 fm2 oy => ?_
  obtain ⟨i, j, rfl, rfl, h1, h2⟩ := hk
  cases Rep.int_eq (VOk.stp ox s12)
  cases Rep.int_eq oy
  refine ⟨i, j, rfl, rfl, _, rfl, ?_⟩
  by_cases hij : i ≤ j
  · rw [if_pos (decide_eq_true hij)]
    refine (h2 hij).run fm2 s2 fun z Γ3 vz F3 H3 hz s3 _ fm3 oz => ?_
    obtain ⟨l, rfl, hp⟩ := hz
    cases Rep.int_eq oz
    exact ⟨j, l, rfl, rfl, _, rfl, q _ Γ3 F3 H3 hp s3 fm3⟩
  · rw [if_neg (by rw [decide_eq_true_eq]; exact hij)]
    exact ⟨false, rfl, q _ Γ2 F2 H2 (h1 hij) s2 fm2⟩

/-! ### in, not in: flat items -/
def scVs : List D → Option (List V)
  | [] => some []
  | d :: r => (scV d).bind fun v => (scVs r).map (v :: ·)
theorem reps_scVs {K : PySem.W.Frag} {H : Hp} : ∀ {ds : List D} {us vs : List V}, scVs ds = some us → Reps K H ds vs → vs = us ∧ us.all flatV = true
  | [], _, _, h, .nil => by cases h; exact ⟨rfl, rfl⟩
  | d :: r, _, _, h, .cons r1 r2 => by
    obtain ⟨v, e1, e2⟩ := Option.bind_eq_some_iff.mp (show (scV d).bind (fun v => (scVs r).map (v :: ·)) = some _ from h)
    obtain ⟨ws, e3, e4⟩ := Option.map_eq_some_iff.mp e2
    subst e4
    obtain ⟨h1, h2⟩ := reps_scVs e3 r2
    subst h1
    have e5 := rep_scV e1 r1
    subst e5
    refine ⟨rfl, ?_⟩
    rw [List.all_cons, h2, Bool.and_true]
    cases d <;> cases e1 <;> rfl
theorem scVs_ints (ns : List Int) : scVs (ns.map .int) = some (ns.map V.int) := by
  induction ns with
  | nil => rfl
  | cons n ns ih =>
    show (scV (.int n)).bind (fun v => (scVs (ns.map .int)).map (v :: ·)) = _
    rw [ih]
    rfl
theorem inV_ints (n : Int) (ns : List Int) : inV (.int n) (ns.map V.int) = decide (n ∈ ns) := by
  unfold inV
  induction ns with
  | nil => rfl
  | cons m ns ih =>
    rw [List.map_cons, List.any_cons, ih]
    show ((m == n) || decide (n ∈ ns)) = decide (n ∈ m :: ns)
    by_cases h : m = n
    · subst h
      simp
    · have h2 : ¬ n = m := fun e => h e.symm
      simp [h, h2]
theorem kw_in {neg : Bool} {x y : Dv} (h : ∃ d u ds us, x = .dat d ∧ scV d = some u ∧ Sq Γ y ds ∧ scVs ds = some us ∧ P (.dat (.bl (if neg then !inV u us else inV u us))) Γ) : Kw X Γ [x, y] (r2 (rIn X.K neg)) P := by
  intro A Fs Hs Γs F H σ vs fm st ok Q q
  obtain ⟨d, u, ds, us, rfl, hu, hd, hus, hp⟩ := h
  cases ok with
  | cons o1 ok =>
    cases ok with
    | cons o2 ok =>
      cases ok
      obtain ⟨a, vs, rfl, hq, r⟩ := VOk.seq o2 fm hd
      obtain ⟨e1, e2⟩ := reps_scVs hus r
      subst e1
      have e3 := rep_scV hu o1
      subst e3
      exact ⟨_, _, rfl, a, _, rfl, hq, by cases d <;> cases hu <;> rfl, e2, q _ _ _ F H hp st fm (.bl _)⟩
theorem ew_in (h : EW X a Γ fun x Γ1 => EW X b Γ1 fun y Γ2 => ∃ d u ds us, x = .dat d ∧ scV d = some u ∧ Sq Γ2 y ds ∧ scVs ds = some us ∧ P (.dat (.bl (inV u us))) Γ2) (hm : behindInMarks .In b = false := by rfl) : EW X (.Compare a [.In] [b] pos) Γ P :=
  ew_cmp op_in_seq (h.mono fun x Γ1 h1 => h1.mono fun y Γ2 h2 => kw_in (neg := false) h2) hm
theorem ew_notin (h : EW X a Γ fun x Γ1 => EW X b Γ1 fun y Γ2 => ∃ d u ds us, x = .dat d ∧ scV d = some u ∧ Sq Γ2 y ds ∧ scVs ds = some us ∧ P (.dat (.bl (!inV u us))) Γ2) (hm : behindInMarks .NotIn b = false := by rfl) : EW X (.Compare a [.NotIn] [b] pos) Γ P :=
  ew_cmp op_notIn_seq (h.mono fun x Γ1 h1 => h1.mono fun y Γ2 h2 => kw_in (neg := true) h2) hm
theorem tw_in {P : Bool → List Dsc → Prop} (h : EW X a Γ fun x Γ1 => EW X b Γ1 fun y Γ2 => ∃ d u ds us, x = .dat d ∧ scV d = some u ∧ Sq Γ2 y ds ∧ scVs ds = some us ∧ P (inV u us) Γ2) (hm : behindInMarks .In b = false := by rfl) : TW X (.Compare a [.In] [b] pos) Γ P :=
  tw_cmp op_in_seq (h.mono fun x Γ1 h1 => h1.mono fun y Γ2 ⟨d, u, ds, us, a1, a2, a3, a4, h2⟩ => kw_in (neg := false) ⟨d, u, ds, us, a1, a2, a3, a4, _, rfl, h2⟩) hm
theorem tw_notin {P : Bool → List Dsc → Prop} (h : EW X a Γ fun x Γ1 => EW X b Γ1 fun y Γ2 => ∃ d u ds us, x = .dat d ∧ scV d = some u ∧ Sq Γ2 y ds ∧ scVs ds = some us ∧ P (!inV u us) Γ2) (hm : behindInMarks .NotIn b = false := by rfl) : TW X (.Compare a [.NotIn] [b] pos) Γ P :=
  tw_cmp op_notIn_seq (h.mono fun x Γ1 h1 => h1.mono fun y Γ2 ⟨d, u, ds, us, a1, a2, a3, a4, h2⟩ => kw_in (neg := true) ⟨d, u, ds, us, a1, a2, a3, a4, _, rfl, h2⟩) hm

/-! ### sorted of ints; of pairs of ints -/
theorem ew_sortedI (hm : X.mg "sorted" = none) (h : EW X e Γ fun x Γ1 => ∃ ns : List Int, Lst Γ1 x (ns.map .int) ∧ ∀ ns' : List Int, ns'.Perm ns → ns'.Pairwise (· ≤ ·) → P (.new (.l (ns'.map .int))) Γ1) (hg : Gl X "sorted" := by rfl)
    (he : starEach [e] X.env = (false, eval e X.env) :: starEach [] X.env := by rfl) : EW X (.Call (.Name "sorted" p) [e] [] pos) Γ P :=
  ew_cb cr_sortedI hm (by decide +kernel) (aw_one (h.mono fun x Γ1 ⟨ns, hd, hp⟩ A Fs Hs Γs F H σ vs fm st ok Q q => by
    cases ok with
    | cons o1 ok =>
      cases ok
      obtain ⟨a, vs, rfl, g, r⟩ := VOk.lst o1 fm hd
      rw [Reps.ints_eq r] at g
      exact ⟨a, ns, rfl, .inl (.inl g), fun ns' p hp1 hp2 np => q _ _ _ _ _ (hp ns' hp1 hp2) (st.trans (Stp.alloc np)) (fm.alloc np) (newOk fm st np Reps.ints)⟩) he) hg (by decide) (by decide) he (by rfl)
def pairD (q : Int × Int) : D := .tup [.int q.1, .int q.2]
def lexLt (a b : Int × Int) : Prop := a.1 < b.1 ∨ (a.1 = b.1 ∧ a.2 < b.2)
def pairIn (F : Hp) : V → Int × Int
  | .ref t => match F t with
    | some (.tup [.int i, .int j]) => (i, j)
    | _ => (0, 0)
  | _ => (0, 0)
theorem pair_rep {K : PySem.W.Frag} {F : Hp} {q : Int × Int} {v : V} (r : Rep K F (pairD q) v) : (∃ t, v = .ref t ∧ F t = some (.tup [.int q.1, .int q.2])) ∧ pairIn F v = q := by
  cases r with
  | tup e r =>
    cases r with
    | cons r1 r2 =>
      cases r2 with
      | cons r2 r3 =>
        cases r3
        cases Rep.int_eq r1
        cases Rep.int_eq r2
        refine ⟨⟨_, rfl, e⟩, ?_⟩
        show (match F _ with | some (.tup [.int i, .int j]) => (i, j) | _ => (0, 0)) = q
        rw [e]
theorem pairs_in {K : PySem.W.Frag} {F : Hp} : ∀ {qs : List (Int × Int)} {vs : List V}, Reps K F (qs.map pairD) vs → (∀ v ∈ vs, ∃ t, v = .ref t ∧ F t = some (.tup [.int (pairIn F v).1, .int (pairIn F v).2])) ∧ vs.map (pairIn F) = qs
  | [], _, .nil => ⟨fun v h => (nomatch h), rfl⟩
  | q :: qs, _, .cons r1 r2 => by
    obtain ⟨⟨t, e1, e2⟩, e3⟩ := pair_rep r1
    obtain ⟨h1, h2⟩ := pairs_in r2
    refine ⟨fun v hv => ?_, by rw [List.map_cons, e3, h2]⟩
    rcases List.mem_cons.mp hv with rfl | hv
    · rw [e3]
      exact ⟨t, e1, e2⟩
    · exact h1 v hv
theorem pairs_back {K : PySem.W.Frag} {F : Hp} : ∀ {vs : List V}, (∀ v ∈ vs, ∃ t, v = .ref t ∧ F t = some (.tup [.int (pairIn F v).1, .int (pairIn F v).2])) → Reps K F ((vs.map (pairIn F)).map pairD) vs
  | [], _ => .nil
  | v :: vs, h => by
    obtain ⟨t, e1, e2⟩ := h v List.mem_cons_self
    refine .cons ?_ (pairs_back fun w hw => h w (List.mem_cons_of_mem _ hw))
    generalize pairIn F v = z at e2
    subst e1
    exact .tup e2 (.cons (.int _) (.cons (.int _) .nil))
theorem ew_sortedP (hm : X.mg "sorted" = none) (h : EW X e Γ fun x Γ1 => ∃ qs qs' : List (Int × Int), Lst Γ1 x (qs.map pairD) ∧ qs'.Perm qs ∧ qs'.Pairwise lexLt ∧ P (.new (.l (qs'.map pairD))) Γ1) (hg : Gl X "sorted" := by rfl)
    (he : starEach [e] X.env = (false, eval e X.env) :: starEach [] X.env := by rfl) : EW X (.Call (.Name "sorted" p) [e] [] pos) Γ P :=
  ew_cb cr_sortedPO hm (by decide +kernel) (aw_one (h.mono fun x Γ1 ⟨qs, qs', hd, hpe, hpw, hp⟩ A Fs Hs Γs F H σ vs fm st ok Q q => by
    cases ok with
    | cons o1 ok =>
      cases ok
      obtain ⟨a, vs, rfl, g, r⟩ := VOk.lst o1 fm hd
      obtain ⟨h1, h2⟩ := pairs_in r
      refine ⟨a, vs, pairIn F, rfl, .inl (.inl g), fun v hv => ?_, fun ys p hs hb np => ?_⟩
      · obtain ⟨t, e1, e2⟩ := h1 v hv
        exact ⟨t, e1, fm.fh _ _ e2⟩
      · have hy : ∀ v ∈ ys, ∃ t, v = .ref t ∧ F t = some (.tup [.int (pairIn F v).1, .int (pairIn F v).2]) := fun v hv => h1 v (hb.perm.mem_iff.mp hv)
        have e : ys.map (pairIn F) = qs' := by
          refine List.Perm.eq_of_pairwise (le := fun a b : Int × Int => a.1 < b.1 ∨ (a.1 = b.1 ∧ a.2 ≤ b.2)) (fun u v _ _ a1 a2 => ?_) ?_ ?_ ?_
          · have : u.1 = v.1 := by omega
            have : u.2 = v.2 := by omega
            exact Prod.ext ‹_› ‹_›
          · rw [List.pairwise_map]
            refine hs.imp fun {u v} h => ?_
            have := SrtO.lexB_no.mp h
            omega
          · refine hpw.imp fun {u v} h => ?_
            rcases h with h | h
            · exact .inl h
            · exact .inr ⟨h.1, Int.le_of_lt h.2⟩
          · refine (hb.perm.map _).trans ?_
            rw [h2]
            exact hpe.symm
        have r2 := pairs_back (K := X.K) hy
        rw [e] at r2
        exact q _ _ _ _ _ hp (st.trans (Stp.alloc np)) (fm.alloc np) (newOk fm st np r2)) he) hg (by decide) (by decide) he (by rfl)

/-! ### an own container is changed -/
def putA (f : Str) (d : Fd) : List (Str × Fd) → List (Str × Fd)
  | [] => [(f, d)]
  | (g, e) :: r => if f == g then (g, d) :: r else (g, e) :: putA f d r
def setT (Γ : List Dsc) (i : Nat) (t : T) : List Dsc := match Γ[i]? with
  | some (.own _) => Γ.set i (.own t)
  | some (.io _) => Γ.set i (.io t)
  | _ => Γ
/-- the container at a place is replaced -/
def setC (Γ : List Dsc) : Dv → Cl → List Dsc
  | .loc i, c => setT Γ i (.cl c)
  | .fld i f b, c => match locT Γ i with
    | some (.ins C fs) => setT Γ i (.ins C (putA f (.own b c) fs))
    | _ => Γ
  | _, _ => Γ
theorem setT_sim (Γ : List Dsc) (i : Nat) (ds : T) : Sim Γ (setT Γ i ds) := by
  unfold setT
  split
  · rename_i es h
    refine ⟨by rw [List.length_set], fun j => ?_⟩
    by_cases e : i = j
    · subst e
      exact .inr (.inl ⟨es, ds, h, by rw [List.getElem?_set_self (List.getElem?_eq_some_iff.mp h).1]⟩)
    · exact .inl (List.getElem?_set_ne e)
  · rename_i es h
    refine ⟨by rw [List.length_set], fun j => ?_⟩
    by_cases e : i = j
    · subst e
      exact .inr (.inr ⟨es, ds, h, by rw [List.getElem?_set_self (List.getElem?_eq_some_iff.mp h).1]⟩)
    · exact .inl (List.getElem?_set_ne e)
  · exact Sim.refl _
theorem setT_get {Γ : List Dsc} {i j : Nat} {ds : T} : (setT Γ i ds)[j]? = if i = j then (match Γ[i]? with | some (.own _) => some (.own ds) | some (.io _) => some (.io ds) | z => z) else Γ[j]? := by
  unfold setT
  by_cases e : i = j
  · subst e
    rw [if_pos rfl]
    split
    · rename_i es h
      rw [List.getElem?_set_self (List.getElem?_eq_some_iff.mp h).1]
    · rename_i es h
      rw [List.getElem?_set_self (List.getElem?_eq_some_iff.mp h).1]
    · rfl
  · rw [if_neg e]
    split
    · exact List.getElem?_set_ne e
    · exact List.getElem?_set_ne e
    · rfl
/-- slot i's thing t becomes t', the heap changes at addresses of t alone; t' has old addresses or such as nobody has -/
theorem Fm.swap {K : PySem.W.Frag} {A : Ac} {F H H' : Hp} {σ : L2.St} {Γ : List Dsc} {i : Nat} {a : Addr} {t t' : T} (fm : Fm K A F H σ Γ) (e : σ[i]? = some (some (.ref a))) (g : locT Γ i = some t)
    (hk : ∀ b o, H b = some o → b ∉ tAddrs a t → H' b = some o) (hg : ∀ b, H' b = none → H b = none) (l : TAt K F H' a t')
    (ha : ∀ b ∈ tAddrs a t', b ∈ tAddrs a t ∨ (A.H0 b = none ∧ ¬ Own σ Γ b)) : Fm K A F H' σ (setT Γ i t') := by
  have g' := locT_some g
  obtain ⟨l0, h0⟩ := fm.thing e g'
  have mine : ∀ b ∈ tAddrs a t, OwnAt σ Γ i b := fun b m => ⟨a, t, e, g', m⟩
  have sm := setT_sim Γ i t'
  have oth : ∀ j b, i ≠ j → (OwnAt σ (setT Γ i t') j b ↔ OwnAt σ Γ j b) := fun j b hj => by
    unfold OwnAt
    rw [setT_get, if_neg hj]
  have own' : ∀ b, OwnAt σ (setT Γ i t') i b → b ∈ tAddrs a t' := fun b ⟨a', u, h1, h2, m⟩ => by
    rw [e] at h1; cases h1
    rw [setT_get, if_pos rfl] at h2
    rcases g' with g' | g' <;> rw [g'] at h2 <;> rcases h2 with h2 | h2 <;> cases h2 <;> exact m
  refine ⟨fm.len.trans sm.1, fun b u h => ?_, fm.ff, fun b u h n => ?_, fun b h => fm.gg b (hg b h), fm.nf, fun j d h => ?_, fun j u h => ?_, fun j u h => ?_, fun j b h => ?_, fun j k b h1 h2 => ?_⟩
  · refine hk b u (fm.fh b u h) fun m => ?_
    have := (l0.there m).2
    rw [h] at this; cases this
  · refine hk b u (fm.base b u h n) fun m => ?_
    rcases h0 b m with z | z
    · rw [h] at z; cases z
    · exact n i z
  · rw [setT_get] at h
    by_cases z : i = j
    · rw [if_pos z] at h
      rcases g' with g' | g' <;> rw [g'] at h <;> cases h
    · rw [if_neg z] at h
      exact fm.dat j d h
  · rw [setT_get] at h
    by_cases z : i = j
    · rw [if_pos z] at h
      subst z
      rcases g' with g' | g' <;> rw [g'] at h <;> cases h
      obtain ⟨a', e1, _, z0⟩ := fm.own i t g'
      rw [e] at e1; cases e1
      exact ⟨a, e, l, fun b m => by
        rcases ha b m with m | m
        · exact z0 b m
        · exact m.1⟩
    · rw [if_neg z] at h
      obtain ⟨b, e1, l1, z1⟩ := fm.own j u h
      refine ⟨b, e1, l1.grow (Ex.refl _) fun c m o ho hf => ⟨hk c o ho fun m2 => z ?_, hf⟩, z1⟩
      exact fm.dj i j c (mine c m2) ⟨b, u, e1, .inl h, m⟩
  · rw [setT_get] at h
    by_cases z : i = j
    · rw [if_pos z] at h
      subst z
      rcases g' with g' | g' <;> rw [g'] at h <;> cases h
      obtain ⟨a', e1, _, z2, z0⟩ := fm.iio i t g'
      rw [e] at e1; cases e1
      exact ⟨a, e, l, z2, fun b m => by
        rcases ha b m with m | m
        · exact z0 b m
        · exact .inl m.1⟩
    · rw [if_neg z] at h
      obtain ⟨b, e1, l1, z2, z1⟩ := fm.iio j u h
      refine ⟨b, e1, l1.grow (Ex.refl _) fun c m o ho hf => ⟨hk c o ho fun m2 => z ?_, hf⟩, z2, z1⟩
      exact fm.dj i j c (mine c m2) ⟨b, u, e1, .inr h, m⟩
  · obtain ⟨u, h⟩ := fm.ia j b h
    rcases sm.2 j with w | ⟨us, ws, w1, w2⟩ | ⟨us, ws, w1, w2⟩
    · exact ⟨u, by rw [w]; exact h⟩
    · rw [h] at w1; cases w1
    · exact ⟨ws, w2⟩
  · by_cases z1 : i = j <;> by_cases z2 : i = k
    · rw [← z1, ← z2]
    · subst z1
      have h2' := (oth k b z2).mp h2
      rcases ha b (own' b h1) with m | m
      · exact fm.dj i k b (mine b m) h2'
      · exact absurd ⟨k, h2'⟩ m.2
    · subst z2
      have h1' := (oth j b z1).mp h1
      rcases ha b (own' b h2) with m | m
      · exact fm.dj j i b h1' (mine b m)
      · exact absurd ⟨j, h1'⟩ m.2
    · exact fm.dj j k b ((oth j b z1).mp h1) ((oth k b z2).mp h2)
theorem Stp.swap {K : PySem.W.Frag} {A : Ac} {F H H' : Hp} {σ : L2.St} {Γ : List Dsc} {i : Nat} {a : Addr} {t t' : T} (e : σ[i]? = some (some (.ref a))) (g : locT Γ i = some t)
    (hk : ∀ b o, H b = some o → b ∉ tAddrs a t → H' b = some o) (hg : ∀ b, H' b = none → H b = none)
    (ha : ∀ b ∈ tAddrs a t', b ∈ tAddrs a t ∨ H b = none) : Stp σ Γ (setT Γ i t') F H F H' := by
  have g' := locT_some g
  refine ⟨Ex.refl _, fun b u h n => hk b u h fun m => n ⟨i, a, t, e, g', m⟩, fun _ _ _ z => z, hg, setT_sim Γ i t', fun j b ⟨a', u, h1, h2, m⟩ => ?_⟩
  rw [setT_get] at h2
  by_cases z : i = j
  · subst z
    rw [e] at h1; cases h1
    rw [if_pos rfl] at h2
    have m' : b ∈ tAddrs a t' := by
      rcases g' with g' | g' <;> rw [g'] at h2 <;> rcases h2 with h2 | h2 <;> cases h2 <;> exact m
    rcases ha b m' with m | m
    · exact .inl ⟨a, t, e, g', m⟩
    · exact .inr m
  · rw [if_neg z] at h2
    exact .inl ⟨a', u, h1, h2, m⟩
/-- what the heap holds of a container -/
def HoC (K : PySem.W.Frag) (F : Hp) : Cl → HO → Prop
  | .lst ds, .lst xs => Reps K F ds xs
  | .dct kvs, .dK ps => KReps K F kvs ps
  | _, _ => False
theorem ClAt.ho {K : PySem.W.Frag} {F H : Hp} {a : Addr} {c : Cl} (h : ClAt K F H a c) : ∃ o, H a = some o ∧ HoC K F c o ∧ F a = none := by
  cases c with
  | lst ds => obtain ⟨⟨xs, e, r⟩, z⟩ := h; exact ⟨_, e, r, z⟩
  | dct ds => obtain ⟨⟨xs, e, r⟩, z⟩ := h; exact ⟨_, e, r, z⟩
theorem ClAt.of {K : PySem.W.Frag} {F H : Hp} {a : Addr} {c : Cl} {o : HO} (e : H a = some o) (h : HoC K F c o) (z : F a = none) : ClAt K F H a c := by
  cases c <;> cases o <;> first | exact ⟨⟨_, e, h⟩, z⟩ | exact h.elim
theorem putA_addrs {f : Str} {b : Addr} {c c' : Cl} : ∀ {fs : List (Str × Fd)}, fs.lookup f = some (.own b c) → fAddrs (putA f (.own b c') fs) = fAddrs fs
  | (g, d) :: r, h => by
    rw [List.lookup_cons] at h
    unfold putA
    cases q : f == g with
    | true =>
      rw [q] at h; cases h
      rw [if_pos rfl]
      rfl
    | false =>
      rw [q] at h
      rw [if_neg Bool.false_ne_true]
      have ih := putA_addrs (c' := c') h
      cases d with
      | dat _ => exact ih
      | own x y => exact congrArg (x :: ·) ih
theorem FsAt.put {K : PySem.W.Frag} {F H H' : Hp} {f : Str} {b : Addr} {c c' : Cl} : ∀ {fs : List (Str × Fd)} {vs : List (Str × V)}, FsAt K F H fs vs → fs.lookup f = some (.own b c) → (fAddrs fs).Nodup → ClAt K F H' b c' → (∀ x, x ≠ b → ∀ o, H x = some o → H' x = some o) → FsAt K F H' (putA f (.own b c') fs) vs
  | (g, d) :: r, (g', v) :: vs, .cons z s, h, nd, l, k => by
    rw [List.lookup_cons] at h
    unfold putA
    cases q : f == g with
    | true =>
      rw [q] at h; cases h
      rw [if_pos rfl]
      refine .cons ⟨z.1, ?_⟩ (FsAt.grow (Ex.refl _) s fun x m o ho hf => ⟨k x (fun w => ?_) o ho, hf⟩)
      · obtain ⟨_, z2⟩ := z
        obtain ⟨z3, _⟩ := z2
        exact ⟨z3, l⟩
      · subst w
        exact (List.nodup_cons.mp nd).1 m
    | false =>
      rw [q] at h
      rw [if_neg Bool.false_ne_true]
      have hb := fAddrs_look h
      cases d with
      | dat d => exact .cons ⟨z.1, z.2⟩ (FsAt.put s h nd l k)
      | own x y =>
        obtain ⟨n1, n2⟩ := List.nodup_cons.mp nd
        refine .cons ⟨z.1, ?_⟩ (FsAt.put s h n2 l k)
        obtain ⟨_, z2⟩ := z
        obtain ⟨z3, z4⟩ := z2
        exact ⟨z3, z4.grow (Ex.refl _) fun o ho hf => ⟨k x (fun w => n1 (by rw [w]; exact hb)) o ho, hf⟩⟩
/-- the container at a place is written -/
theorem VOk.write {K : PySem.W.Frag} {A : Ac} {Hs F H : Hp} {σ : L2.St} {x : Dv} {a : Addr} {c c' : Cl} {o : HO} (ok : VOk K A Hs F H σ Γ x (.ref a)) (fm : Fm K A F H σ Γ) (h : Con1 Γ x c) (hn : ∀ t, x ≠ .new t) (r : HoC K F c' o) :
    Fm K A F (upd H a o) σ (setC Γ x c') ∧ Stp σ Γ (setC Γ x c') F H F (upd H a o) := by
  have hg : ∀ b, upd H a o b = none → H b = none := fun b h => (upd_none h).1
  cases x with
  | dat d => exact h.elim
  | new t => exact absurd rfl (hn t)
  | loc i =>
    obtain ⟨a', e1, e2, _⟩ := ok
    cases e1
    have g : locT Γ i = some (.cl c) := h
    obtain ⟨l, _⟩ := fm.thing e2 (locT_some g)
    obtain ⟨_, _, _, hf⟩ := ClAt.ho l
    have hk : ∀ b o', H b = some o' → b ∉ tAddrs a (.cl c) → upd H a o b = some o' := fun b o' hb m => by
      rw [upd_ne fun z => m (by rw [z]; exact List.mem_cons_self)]; exact hb
    exact ⟨fm.swap e2 g hk hg (ClAt.of upd_same r hf) fun b m => .inl m, Stp.swap (K := K) (A := A) e2 g hk hg fun b m => .inl m⟩
  | fld i f b =>
    cases (show V.ref a = .ref b from ok)
    obtain ⟨C, fs, h1, h2⟩ := fldT_some (show fldT Γ i f = some (.own a c) from h)
    have h3 := locT_some h1
    have h4 : ∃ a0, σ[i]? = some (some (.ref a0)) := by
      rcases h3 with h3 | h3
      · obtain ⟨a, e, _⟩ := fm.own i _ h3; exact ⟨a, e⟩
      · obtain ⟨a, e, _⟩ := fm.iio i _ h3; exact ⟨a, e⟩
    obtain ⟨a0, e⟩ := h4
    obtain ⟨l, _⟩ := fm.thing e h3
    have hm : a ∈ tAddrs a0 (.ins C fs) := List.mem_cons_of_mem _ (fAddrs_look h2)
    have hf := (l.there hm).2
    obtain ⟨⟨dx, vs, g1, g2⟩, g3, nd⟩ := l
    obtain ⟨nd1, nd2⟩ := List.nodup_cons.mp nd
    have hne : a0 ≠ a := fun z => nd1 (by rw [z]; exact fAddrs_look h2)
    have hk : ∀ b o', H b = some o' → b ∉ tAddrs a0 (.ins C fs) → upd H a o b = some o' := fun b o' hb m => by
      rw [upd_ne fun z => m (by rw [z]; exact hm)]; exact hb
    have ea : tAddrs a0 (.ins C (putA f (.own a c') fs)) = tAddrs a0 (.ins C fs) := congrArg (a0 :: ·) (putA_addrs h2)
    have l' : TAt K F (upd H a o) a0 (.ins C (putA f (.own a c') fs)) :=
      ⟨⟨dx, vs, by rw [upd_ne hne]; exact g1, g2.put h2 nd2 (ClAt.of upd_same r hf) fun x hx o' ho => by rw [upd_ne hx]; exact ho⟩, g3, by rw [putA_addrs h2]; exact nd⟩
    have es : setC Γ (.fld i f a) c' = setT Γ i (.ins C (putA f (.own a c') fs)) := by
      show (match locT Γ i with | some (.ins C fs) => setT Γ i (.ins C (putA f (.own a c') fs)) | _ => Γ) = _
      rw [h1]
    rw [es]
    exact ⟨fm.swap e h1 hk hg l' fun b m => .inl (ea ▸ m), Stp.swap (K := K) (A := A) e h1 hk hg fun b m => .inl (ea ▸ m)⟩
/-- places -/
def plc : Dv → Bool
  | .loc _ => true
  | .fld _ _ _ => true
  | _ => false
theorem plc_new {x : Dv} (h : plc x = true) : ∀ t, x ≠ .new t := fun t e => by subst e; cases h
theorem plc_stp {K : PySem.W.Frag} {A : Ac} {Hs F H F' H' : Hp} {σ : L2.St} {Γ Γ' : List Dsc} {x : Dv} {v : V} (ok : VOk K A Hs F H σ Γ x v) (h : plc x = true) : ∃ a, v = .ref a := by
  cases x with
  | dat _ => cases h
  | new _ => cases h
  | loc i => obtain ⟨a, e, _⟩ := ok; exact ⟨a, e⟩
  | fld i f b => exact ⟨b, ok⟩
theorem Con1.lst {x : Dv} {ds : List D} (h : Lst Γ x ds) (hp : plc x = true) : Con1 Γ x (.lst ds) := by
  rcases h.con with rfl | h
  · cases hp
  · exact h
/-- o.append(e) -/
theorem ew_append (h : EW X o Γ fun x Γ1 => plc x = true ∧ (∃ ds, Lst Γ1 x ds) ∧ EW X e Γ1 fun y Γ2 => ∃ d ds, datOf y = some d ∧ Lst Γ2 x ds ∧ ds.length < 1000000 ∧ P (.dat .non) (setC Γ2 x (.lst (ds ++ [d]))))
    (hbase : attributeBase o "append" X.env (eval o X.env) = eval o X.env := by rfl)
    (hfew : ((backTo cpos (starEach [e] X.env)).all (fun x => !x.1) && (backToKw cpos (keywordEach [] X.env)).all (fun x => x.1.isSome)
      && decide (([e] : List Expr).length + ([] : List Keyword).length + (if ([] : List Keyword).isEmpty then 0 else 1) < 30)) = true := by rfl)
    (hline : (apos.endLine == cpos.line) = true := by rfl) (hs : starEach [e] X.env = (false, eval e X.env) :: starEach [] X.env := by rfl) :
    EW X (.Call (.Attribute o "append" apos) [e] [] cpos) Γ P := by
  intro A F H σ fm Q q
  refine ⟨_, pe_bm PySem.F.plainAttrs_list PySem.F.slot_list_append PySem.F.type_list_append mt_append pe_top (pa_cons pe_top pa_nil hs) hbase hfew hline hs (by rfl), ?_⟩
  show EV X o σ H fun x H1 => tyV X.K "list" x H1 ∧ EV X e σ H1 fun y H2 => rAppend x [y] H2 Q
  refine h.run fm Stp.refl fun x Γ1 vx F1 H1 hx s1 _ fm1 ox => ?_
  obtain ⟨hpl, ⟨ds0, hl0⟩, h2⟩ := hx
  obtain ⟨a, xs0, rfl, e0, _⟩ := ox.lst fm1 hl0
  refine ⟨.inl ⟨rfl, _, .inl (.inl e0)⟩, ?_⟩
  refine h2.run fm1 s1 fun y Γ2 vy F2 H2 hy s2 s12 fm2 oy => ?_
  obtain ⟨d, ds, hd, hl, hz, hp⟩ := hy
  obtain ⟨F3, f23, fm3, s3, rd⟩ := freeze1 oy fm2 s2 hd
  have ox3 : VOk X.K A H F3 H2 σ Γ2 x (.ref a) := by
    have := VOk.stp ox s12
    cases x with
    | dat _ => cases hpl
    | new _ => cases hpl
    | loc i => exact this
    | fld i f b => exact this
  obtain ⟨a', xs, e, g, r⟩ := ox3.lst fm3 hl
  cases e
  refine ⟨a, xs, vy, rfl, rfl, g, by rw [← r.len]; exact sz1 hz, ?_⟩
  obtain ⟨w1, w2⟩ := ox3.write fm3 (Con1.lst hl hpl) (plc_new hpl) (c' := .lst (ds ++ [d])) (o := .lst (xs ++ [vy])) (r.append (Reps.one rd))
  exact q _ _ _ F3 _ hp (s3.trans w2) w1 .non
/-- o.pop(e) -/
theorem ew_popAt (h : EW X o Γ fun x Γ1 => plc x = true ∧ (∃ ds, Lst Γ1 x ds) ∧ EW X e Γ1 fun y Γ2 => ∃ k j d ds, y = .dat (.int k) ∧ Lst Γ2 x ds ∧ -(2 ^ 63) ≤ k ∧ k < 2 ^ 63 ∧ seqIndex? k ds.length = some j ∧ ds[j]? = some d ∧ P (.dat d) (setC Γ2 x (.lst (ds.eraseIdx j))))
    (hbase : attributeBase o "pop" X.env (eval o X.env) = eval o X.env := by rfl)
    (hfew : ((backTo cpos (starEach [e] X.env)).all (fun x => !x.1) && (backToKw cpos (keywordEach [] X.env)).all (fun x => x.1.isSome)
      && decide (([e] : List Expr).length + ([] : List Keyword).length + (if ([] : List Keyword).isEmpty then 0 else 1) < 30)) = true := by rfl)
    (hline : (apos.endLine == cpos.line) = true := by rfl) (hs : starEach [e] X.env = (false, eval e X.env) :: starEach [] X.env := by rfl) :
    EW X (.Call (.Attribute o "pop" apos) [e] [] cpos) Γ P := by
  intro A F H σ fm Q q
  refine ⟨_, pe_bm PySem.F.plainAttrs_list PySem.F.slot_list_pop PySem.F.type_list_pop mt_popAt pe_top (pa_cons pe_top pa_nil hs) hbase hfew hline hs (by rfl), ?_⟩
  show EV X o σ H fun x H1 => tyV X.K "list" x H1 ∧ EV X e σ H1 fun y H2 => rPopAt x [y] H2 Q
  refine h.run fm Stp.refl fun x Γ1 vx F1 H1 hx s1 _ fm1 ox => ?_
  obtain ⟨hpl, ⟨ds0, hl0⟩, h2⟩ := hx
  obtain ⟨a, xs0, rfl, e0, _⟩ := ox.lst fm1 hl0
  refine ⟨.inl ⟨rfl, _, .inl (.inl e0)⟩, ?_⟩
  refine h2.run fm1 s1 fun y Γ2 vy F2 H2 hy s2 s12 fm2 oy => ?_
  obtain ⟨k, j, d, ds, rfl, hl, hk1, hk2, hj, hd, hp⟩ := hy
  have ox2 := VOk.stp ox s12
  obtain ⟨a', xs, e, g, r⟩ := ox2.lst fm2 hl
  cases e
  cases Rep.int_eq oy
  obtain ⟨v, hv, rv⟩ := r.get hd
  refine ⟨a, xs, k, j, v, rfl, rfl, g, hk1, hk2, by rw [← r.len]; exact hj, hv, ?_⟩
  obtain ⟨w1, w2⟩ := ox2.write fm2 (Con1.lst hl hpl) (plc_new hpl) (c' := .lst (ds.eraseIdx j)) (o := .lst (xs.eraseIdx j)) (r.erase j)
  exact q _ _ _ F2 _ hp (s2.trans w2) w1 rv
end
end VY

/-! VY: what is walked, comprehensions. -/
namespace VY
open PySem PySem.Spec PyProof.Rows L2

/-! ### what is walked -/
def IV (X : Cx) (tg iter : Expr) : TI := fun σ H R => ∃ t, PI X tg iter t ∧ t σ H R
theorem pi_top {X : Cx} {tg iter : Expr} : PI X tg iter (IV X tg iter) := ⟨fun pins s σ H R I ⟨_, h, q⟩ => h.run pins s σ H R I q⟩
def Yld (K : PySem.W.Frag) (F H : Hp) (x : V) (H' : Hp) (d : D) : Prop :=
  (H' = H ∧ Rep K F d x) ∨ ∃ T xs es, x = .ref T ∧ H T = none ∧ H' = upd H T (.tup xs) ∧ d = .tup es ∧ Reps K F es xs
structure Its (K : PySem.W.Frag) (F : Hp) (J : It) (ds : List D) : Prop where
  ex : ∃ G Y, Walk J ds.length G Y ∧ (∀ F2 H2, Ex F F2 → Ex F2 H2 → G H2) ∧ ∀ i H2 x H3 F2, i < ds.length → Ex F F2 → Ex F2 H2 → Y i H2 x H3 → ∃ d, ds[i]? = some d ∧ Yld K F2 H2 x H3 d
def IW (X : Cx) (tg iter : Expr) (Γ : List Dsc) (P : List D → List Dsc → Prop) : Prop := ∀ A F H σ, Fm X.K A F H σ Γ → ∀ R : It → Hp → Prop,
  (∀ J ds Γ' F' H', P ds Γ' → Stp σ Γ Γ' F H F' H' → Fm X.K A F' H' σ Γ' → Its X.K F' J ds → R J H') → IV X tg iter σ H R
section
variable {X : Cx} {Γ : List Dsc} {a b e tg iter : Expr} {pos p pos' tpos : Pos} {Q : List D → List Dsc → Prop} {elts : List Expr} {kk : Nat}
theorem VOk.seqT {K : PySem.W.Frag} {A : Ac} {Hs F H : Hp} {σ : L2.St} {Γ : List Dsc} {x : Dv} {v : V} {ds : List D} (ok : VOk K A Hs F H σ Γ x v) (h : x = .dat (.tup ds) ∨ x = .dat (.pt ds)) : ∃ a vs, v = .ref a ∧ (∀ H', Ex F H' → SqT K H' a vs) ∧ Reps K F ds vs := by
  rcases h with rfl | rfl
  · cases ok with
    | tup e r => exact ⟨_, _, rfl, fun H' f => .inl (.inl (f _ _ e)), r⟩
  · cases ok with
    | pt e z r => exact ⟨_, _, rfl, fun H' f => .inl (.inr ⟨_, f _ _ e⟩), r⟩
theorem iw_tup (h : EW X iter Γ fun x Γ1 => ∃ ds, (x = .dat (.tup ds) ∨ x = .dat (.pt ds)) ∧ Q ds Γ1) : IW X tg iter Γ Q := by
  intro A F H σ fm R q
  refine ⟨_, pi_tup pe_top, ?_⟩
  show EV X iter σ H fun x H1 => ∃ a, x = .ref a ∧ (∃ xs, SqT X.K H1 a xs) ∧ R (Itt X.K a) H1
  refine h.run fm Stp.refl fun x Γ1 v F1 H1 hx s1 _ fm1 ok => ?_
  obtain ⟨ds, hd, hp⟩ := hx
  obtain ⟨a, vs, rfl, hq, r⟩ := VOk.seqT ok hd
  refine ⟨_, rfl, ⟨_, hq _ fm1.fh⟩, q _ ds Γ1 F1 H1 hp s1 fm1 ⟨⟨_, _, r.len ▸ walk_tup, fun F2 H2 f1 f2 => hq _ (f1.trans f2), fun i H2 x H3 F2 hi f1 f2 y => ?_⟩⟩⟩
  obtain ⟨d, hd, rd⟩ := r.getV y.2
  exact ⟨d, hd, .inl ⟨y.1, rd.ex f1⟩⟩
theorem iw_lst (h : EW X iter Γ fun x Γ1 => ∃ ds, (x = .dat (.scr ds) ∨ datOf x = some (.lst ds)) ∧ Q ds Γ1) : IW X tg iter Γ Q := by
  intro A F H σ fm R q
  refine ⟨_, pi_list pe_top, ?_⟩
  show EV X iter σ H fun x H1 => ∃ a, x = .ref a ∧ (∃ xs, SqL X.K H1 a xs) ∧ R (Itl X.K a) H1
  refine h.run fm Stp.refl fun x Γ1 v F1 H1 hx s1 _ fm1 ok => ?_
  obtain ⟨ds, hd, hp⟩ := hx
  have key : ∃ F2, Fm X.K A F2 H1 σ Γ1 ∧ Stp σ Γ Γ1 F H F2 H1 ∧ ∃ a vs, v = .ref a ∧ SqL X.K F2 a vs ∧ Reps X.K F2 ds vs := by
    rcases hd with rfl | hd
    · cases ok with
      | scr e r => exact ⟨F1, fm1, s1, _, _, rfl, e, r⟩
    · obtain ⟨F2, _, fm2, s2, r⟩ := freeze1 ok fm1 s1 hd
      cases r with
      | lst e r => exact ⟨F2, fm2, s2, _, _, rfl, .inl (.inl e), r⟩
  obtain ⟨F2, fm2, s2, a, vs, rfl, e, r⟩ := key
  refine ⟨_, rfl, ⟨_, fm2.fh.sq e⟩, q _ ds Γ1 F2 H1 hp s2 fm2 ⟨⟨_, _, r.len ▸ walk_list, fun F2 H2 f1 f2 => (f1.trans f2).sq e, fun i H2 x H3 F2 hi f1 f2 y => ?_⟩⟩⟩
  obtain ⟨d, hd, rd⟩ := r.getV y.2
  exact ⟨d, hd, .inl ⟨y.1, rd.ex f1⟩⟩
def rangeD (lo : Int) (n : Nat) : List D := (List.range n).map fun i => .int (lo + (i : Nat))
theorem rangeD_get {lo : Int} {n i : Nat} (h : i < n) : (rangeD lo n)[i]? = some (.int (lo + (i : Nat))) := by
  unfold rangeD
  rw [List.getElem?_map, List.getElem?_range h]
  rfl
theorem rangeD_len {lo : Int} {n : Nat} : (rangeD lo n).length = n := by unfold rangeD; rw [List.length_map, List.length_range]
theorem its_range {K : PySem.W.Frag} {F : Hp} {lo : Int} {n : Nat} : Its K F (Itr lo n) (rangeD lo n) := by
  refine ⟨⟨fun _ => True, _, (show Walk (Itr lo n) (rangeD lo n).length _ _ by rw [rangeD_len]; exact walk_range), fun _ _ _ _ => trivial, fun i H2 x H3 F2 hi f1 f2 y => ?_⟩⟩
  rw [rangeD_len] at hi
  obtain ⟨e, y⟩ := y
  exact ⟨_, rangeD_get hi, .inl ⟨e, by rw [y]; exact .int _⟩⟩
theorem iw_range1 (hm : X.mg "range" = none) (h : EW X a Γ fun x Γ1 => ∃ n, x = .dat (.int n) ∧ -1000000 ≤ n ∧ n ≤ 1000000 ∧ Q (rangeD 0 n.toNat) Γ1) (hg : Gl X "range" := by rfl)
    (hs : starEach [a] X.env = [(false, eval a X.env)] := by rfl) : IW X tg (.Call (.Name "range" p) [a] [] pos) Γ Q := by
  intro A F H σ fm R q
  refine ⟨_, pi_range1 hg hm (pa_cons pe_top pa_nil hs) hs, ?_⟩
  show EV X a σ H fun x H1 => ∃ j : Int, [x] = [.int j] ∧ -(2 ^ 62) ≤ j ∧ j < 2 ^ 62 ∧ R (Itr 0 j.toNat) H1
  refine h.run fm Stp.refl fun x Γ1 v F1 H1 hx s1 _ fm1 ok => ?_
  obtain ⟨n, rfl, h1, h2, hp⟩ := hx
  cases Rep.int_eq ok
  exact ⟨n, rfl, by omega, by omega, q _ _ Γ1 F1 H1 hp s1 fm1 its_range⟩
theorem iw_range2 (hm : X.mg "range" = none) (h : EW X a Γ fun x Γ1 => EW X b Γ1 fun y Γ2 => ∃ i j, x = .dat (.int i) ∧ y = .dat (.int j) ∧ (-1000000 ≤ i ∧ i ≤ 1000000 ∧ -1000000 ≤ j ∧ j ≤ 1000000) ∧ Q (rangeD i (j - i).toNat) Γ2) (hg : Gl X "range" := by rfl)
    (hs : starEach [a, b] X.env = [(false, eval a X.env), (false, eval b X.env)] := by rfl) (hs2 : starEach [b] X.env = [(false, eval b X.env)] := by rfl) : IW X tg (.Call (.Name "range" p) [a, b] [] pos) Γ Q := by
  intro A F H σ fm R q
  refine ⟨_, pi_range2 hg hm (pa_cons pe_top (pa_cons pe_top pa_nil hs2) (by rw [hs, hs2])) hs hs2, ?_⟩
  show EV X a σ H fun x H1 => EV X b σ H1 fun y H2 => ∃ i j : Int, [x, y] = [.int i, .int j] ∧ (-(2 ^ 62) ≤ i ∧ i < 2 ^ 62 ∧ -(2 ^ 62) ≤ j ∧ j < 2 ^ 62) ∧ R (Itr i (j - i).toNat) H2
  refine h.run fm Stp.refl fun x Γ1 v F1 H1 hx s1 _ fm1 ok => ?_
  refine hx.run fm1 s1 fun y Γ2 v2 F2 H2 hy s2 s12 fm2 ok2 => ?_
  obtain ⟨i, j, rfl, rfl, ⟨h1, h2, h3, h4⟩, hp⟩ := hy
  cases Rep.int_eq (VOk.stp ok s12)
  cases Rep.int_eq ok2
  exact ⟨i, j, rfl, ⟨by omega, by omega, by omega, by omega⟩, q _ _ Γ2 F2 H2 hp s2 fm2 its_range⟩
def enumD (ds : List D) : List D := ds.zipIdx.map fun z => .tup [.int (z.2 : Nat), z.1]
theorem enumD_len {ds : List D} : (enumD ds).length = ds.length := by unfold enumD; rw [List.length_map, List.length_zipIdx]
theorem enumD_get {ds : List D} {i : Nat} {d : D} (h : ds[i]? = some d) : (enumD ds)[i]? = some (.tup [.int (i : Nat), d]) := by
  unfold enumD
  rw [List.getElem?_map, List.getElem?_zipIdx, h]
  simp
theorem iw_enumL (hm : X.mg "enumerate" = none) (h : EW X e Γ fun x Γ1 => ∃ ds, (x = .dat (.scr ds) ∨ datOf x = some (.lst ds)) ∧ Q (enumD ds) Γ1) (hg : Gl X "enumerate" := by rfl)
    (hs : starEach [e] X.env = [(false, eval e X.env)] := by rfl) : IW X (.Tuple elts kk tpos) (.Call (.Name "enumerate" p) [e] [] pos) Γ Q := by
  intro A F H σ fm R q
  refine ⟨_, pi_enum hg hm (pa_cons pe_top pa_nil hs) hs, ?_⟩
  show EV X e σ H fun x H1 => ∃ a xs, [x] = [.ref a] ∧ SqL X.K H1 a xs ∧ R (Ite X.K a) H1
  refine h.run fm Stp.refl fun x Γ1 v F1 H1 hx s1 _ fm1 ok => ?_
  obtain ⟨ds, hd, hp⟩ := hx
  have key : ∃ F2, Fm X.K A F2 H1 σ Γ1 ∧ Stp σ Γ Γ1 F H F2 H1 ∧ ∃ a vs, v = .ref a ∧ SqL X.K F2 a vs ∧ Reps X.K F2 ds vs := by
    rcases hd with rfl | hd
    · cases ok with
      | scr e r => exact ⟨F1, fm1, s1, _, _, rfl, e, r⟩
    · obtain ⟨F2, _, fm2, s2, r⟩ := freeze1 ok fm1 s1 hd
      cases r with
      | lst e r => exact ⟨F2, fm2, s2, _, _, rfl, .inl (.inl e), r⟩
  obtain ⟨F2, fm2, s2, a, vs, rfl, e, r⟩ := key
  refine ⟨_, _, rfl, fm2.fh.sq e, q _ _ Γ1 F2 H1 hp s2 fm2 ⟨⟨_, _, (enumD_len.trans r.len) ▸ walk_enum, fun F2 H2 f1 f2 => (f1.trans f2).sq e, fun i H2 x H3 F2 hi f1 f2 y => ?_⟩⟩⟩
  obtain ⟨T, x1, x2, h1, h2, h3, h4, h5⟩ := y
  cases h4
  obtain ⟨d, hd, rd⟩ := r.getV h5
  exact ⟨_, enumD_get hd, .inr ⟨T, _, _, h1, h2, h3, rfl, .cons (.int _) (.cons (rd.ex f1) .nil)⟩⟩
def zipD (xs ys : List D) : List D := List.zipWith (fun a b => .tup [a, b]) xs ys
theorem zipD_len {xs ys : List D} : (zipD xs ys).length = min xs.length ys.length := List.length_zipWith
theorem zipD_get {xs ys : List D} {i : Nat} {x y : D} (h : xs[i]? = some x) (h' : ys[i]? = some y) : (zipD xs ys)[i]? = some (.tup [x, y]) := by
  unfold zipD
  rw [List.getElem?_zipWith, h, h']
theorem its_zip {K : PySem.W.Frag} {F : Hp} {J : It} {G : Hp → Prop} {xs ys : List D} {us vs : List V} (w : Walk J (min us.length vs.length) G (YPair (fun i => us[i]?) (fun i => vs[i]?))) (hG : ∀ F2 H2, Ex F F2 → Ex F2 H2 → G H2) (r1 : Reps K F xs us) (r2 : Reps K F ys vs) : Its K F J (zipD xs ys) := by
  refine ⟨⟨G, _, (show (zipD xs ys).length = min us.length vs.length by rw [zipD_len, r1.len, r2.len]) ▸ w, hG, fun i H2 x H3 F2 hi f1 f2 y => ?_⟩⟩
  obtain ⟨T, x1, x2, h1, h2, h3, h4, h5⟩ := y
  obtain ⟨d1, e1, q1⟩ := r1.getV h4
  obtain ⟨d2, e2, q2⟩ := r2.getV h5
  exact ⟨_, zipD_get e1 e2, .inr ⟨T, _, _, h1, h2, h3, rfl, .cons (q1.ex f1) (.cons (q2.ex f1) .nil)⟩⟩
theorem walk_zipT {K : PySem.W.Frag} {a b : Addr} {xs ys : List V} : Walk (RZ.ItzT K a b) (min xs.length ys.length) (fun H => SqT K H a xs ∧ SqT K H b ys) (YPair (fun i => xs[i]?) (fun i => ys[i]?)) := by
  refine ⟨fun i _ hi q => ?_, fun _ q => ⟨xs, ys, q.1, q.2, by omega⟩, fun i H v H' _ q y => ?_⟩
  · have h1 : i < xs.length := by omega
    have h2 : i < ys.length := by omega
    exact ⟨xs, ys, xs[i], ys[i], q.1, q.2, by simp [h1], by simp [h2]⟩
  · obtain ⟨T, x, z, h1, h2, h3, h4, h5⟩ := y
    exact ⟨T, x, z, h1, h2, h3, h4 xs q.1, h5 ys q.2⟩
/-- zip of two tuples of data -/
theorem iw_zipT (hm : X.mg "zip" = none) (h : EW X a Γ fun x Γ1 => EW X b Γ1 fun y Γ2 => ∃ xs ys, (x = .dat (.tup xs) ∨ x = .dat (.pt xs)) ∧ (y = .dat (.tup ys) ∨ y = .dat (.pt ys)) ∧ Q (zipD xs ys) Γ2) (hg : Gl X "zip" := by rfl)
    (hs : starEach [a, b] X.env = (false, eval a X.env) :: starEach [b] X.env := by rfl) (hs2 : starEach [b] X.env = (false, eval b X.env) :: starEach [] X.env := by rfl) (hpl : (backTo pos (starEach [b] X.env)).any (·.1) = false := by rfl) :
    IW X (.Tuple elts kk tpos) (.Call (.Name "zip" p) [a, b] [] pos) Γ Q := by
  intro A F H σ fm R q
  refine ⟨_, RZ.pi_zipA hg hm (pa_cons pe_top (pa_cons pe_top pa_nil hs2) hs) hs hpl, ?_⟩
  show EV X a σ H fun x H1 => EV X b σ H1 fun y H2 => ∃ a b xs ys, [x, y] = [.ref a, .ref b] ∧ ((SqL X.K H2 a xs ∧ SqL X.K H2 b ys ∧ R (Itz X.K a b) H2) ∨ (SqT X.K H2 a xs ∧ SqT X.K H2 b ys ∧ R (RZ.ItzT X.K a b) H2))
  refine h.run fm Stp.refl fun x Γ1 v F1 H1 hx s1 _ fm1 ok => ?_
  refine hx.run fm1 s1 fun y Γ2 v2 F2 H2 hy s2 s12 fm2 ok2 => ?_
  obtain ⟨xs, ys, hd1, hd2, hp⟩ := hy
  have ok1 := VOk.stp ok s12
  obtain ⟨a1, vs1, rfl, q1, r1⟩ := VOk.seqT ok1 hd1
  obtain ⟨a2, vs2, rfl, q2, r2⟩ := VOk.seqT ok2 hd2
  refine ⟨_, _, _, _, rfl, .inr ⟨q1 _ fm2.fh, q2 _ fm2.fh, q _ _ Γ2 F2 H2 hp s2 fm2 (its_zip walk_zipT (fun F3 H3 f1 f2 => ⟨q1 _ (f1.trans f2), q2 _ (f1.trans f2)⟩) r1 r2)⟩⟩
/-- zip of two lists of data -/
theorem iw_zipL (hm : X.mg "zip" = none) (h : EW X a Γ fun x Γ1 => EW X b Γ1 fun y Γ2 => ∃ xs ys, x = .dat (.lst xs) ∧ y = .dat (.lst ys) ∧ Q (zipD xs ys) Γ2) (hg : Gl X "zip" := by rfl)
    (hs : starEach [a, b] X.env = (false, eval a X.env) :: starEach [b] X.env := by rfl) (hs2 : starEach [b] X.env = (false, eval b X.env) :: starEach [] X.env := by rfl) (hpl : (backTo pos (starEach [b] X.env)).any (·.1) = false := by rfl) :
    IW X (.Tuple elts kk tpos) (.Call (.Name "zip" p) [a, b] [] pos) Γ Q := by
  intro A F H σ fm R q
  refine ⟨_, RZ.pi_zipA hg hm (pa_cons pe_top (pa_cons pe_top pa_nil hs2) hs) hs hpl, ?_⟩
  show EV X a σ H fun x H1 => EV X b σ H1 fun y H2 => ∃ a b xs ys, [x, y] = [.ref a, .ref b] ∧ ((SqL X.K H2 a xs ∧ SqL X.K H2 b ys ∧ R (Itz X.K a b) H2) ∨ (SqT X.K H2 a xs ∧ SqT X.K H2 b ys ∧ R (RZ.ItzT X.K a b) H2))
  refine h.run fm Stp.refl fun x Γ1 v F1 H1 hx s1 _ fm1 ok => ?_
  refine hx.run fm1 s1 fun y Γ2 v2 F2 H2 hy s2 s12 fm2 ok2 => ?_
  obtain ⟨xs, ys, rfl, rfl, hp⟩ := hy
  have ok1 := VOk.stp ok s12
  cases ok1 with
  | lst e1 r1 =>
    cases ok2 with
    | lst e2 r2 =>
      refine ⟨_, _, _, _, rfl, .inl ⟨.inl (.inl (fm2.fh _ _ e1)), .inl (.inl (fm2.fh _ _ e2)), q _ _ Γ2 F2 H2 hp s2 fm2 (its_zip (walk_zip rfl) (fun F3 H3 f1 f2 => ⟨.inl (.inl (f2 _ _ (f1 _ _ e1))), .inl (.inl (f2 _ _ (f1 _ _ e2)))⟩) r1 r2)⟩⟩
end

/-! ### more of the frame -/
section
variable {K : PySem.W.Frag} {A : Ac} {F H F' H' : Hp} {σ : L2.St} {Γ Γ' : List Dsc} {p : Addr} {o : HO}
theorem locT_own {Γ : List Dsc} {i : Nat} {t : T} (h : Γ[i]? = some (.own t)) : locT Γ i = some t := by unfold locT; rw [h]
theorem locT_io {Γ : List Dsc} {i : Nat} {t : T} (h : Γ[i]? = some (.io t)) : locT Γ i = some t := by unfold locT; rw [h]
/-- a step's frame, from the things in its slots -/
theorem Fm.upd (fm : Fm K A F H σ Γ) (s : Stp σ Γ Γ' F H F' H') (fh : Ex F' H') (l : ∀ i a t, σ[i]? = some (some (.ref a)) → locT Γ' i = some t → TAt K F' H' a t)
    (dj : ∀ i j b, OwnAt σ Γ' i b → OwnAt σ Γ' j b → H b = none → i = j) : Fm K A F' H' σ Γ' where
  len := fm.len.trans s.sm.1
  fh := fh
  ff := fm.ff.trans s.f
  base := fun b u e z => by
    refine s.k b u (fm.base b u e z) fun w => ?_
    rcases (fm.ownSome w).2.2 with h | ⟨i, h⟩
    · rw [e] at h; cases h
    · exact z i h
  gg := fun b h => fm.gg b (s.g b h)
  nf := fun b u e z => by
    obtain ⟨o', e'⟩ := fm.g0 e
    exact s.n b o' e' (fm.nf b u e z)
  dat := fun i d h => by
    rcases s.sm.2 i with w | ⟨us, ws, w1, w2⟩ | ⟨us, ws, w1, w2⟩
    · rw [w] at h
      obtain ⟨v, e, r⟩ := fm.dat i d h
      exact ⟨v, e, r.ex s.f⟩
    · rw [w2] at h; cases h
    · rw [w2] at h; cases h
  own := fun i t h => by
    have key : ∃ a u, σ[i]? = some (some (.ref a)) ∧ Γ[i]? = some (.own u) ∧ ∀ b ∈ tAddrs a u, A.H0 b = none := by
      rcases s.sm.2 i with w | ⟨us, ws, w1, w2⟩ | ⟨us, ws, w1, w2⟩
      · rw [w] at h
        obtain ⟨a, e, _, z⟩ := fm.own i t h
        exact ⟨a, t, e, h, z⟩
      · obtain ⟨a, e, _, z⟩ := fm.own i us w1
        exact ⟨a, us, e, w1, z⟩
      · rw [w2] at h; cases h
    obtain ⟨a, u, e, g, z⟩ := key
    refine ⟨a, e, l i a t e (locT_own h), fun b m => ?_⟩
    rcases s.o i b ⟨a, t, e, .inl h, m⟩ with ⟨a', u', e1, g1, m1⟩ | w
    · rw [e] at e1; cases e1
      rw [g] at g1
      rcases g1 with g1 | g1 <;> cases g1
      exact z b m1
    · exact fm.gg b w
  iio := fun i t h => by
    have key : ∃ a u, σ[i]? = some (some (.ref a)) ∧ Γ[i]? = some (.io u) ∧ A.io i = some a ∧ ∀ b ∈ tAddrs a u, A.H0 b = none ∨ A.ps i b := by
      rcases s.sm.2 i with w | ⟨us, ws, w1, w2⟩ | ⟨us, ws, w1, w2⟩
      · rw [w] at h
        obtain ⟨a, e, _, z⟩ := fm.iio i t h
        exact ⟨a, t, e, h, z⟩
      · rw [w2] at h; cases h
      · obtain ⟨a, e, _, z⟩ := fm.iio i us w1
        exact ⟨a, us, e, w1, z⟩
    obtain ⟨a, u, e, g, z0, z⟩ := key
    refine ⟨a, e, l i a t e (locT_io h), z0, fun b m => ?_⟩
    rcases s.o i b ⟨a, t, e, .inr h, m⟩ with ⟨a', u', e1, g1, m1⟩ | w
    · rw [e] at e1; cases e1
      rw [g] at g1
      rcases g1 with g1 | g1 <;> cases g1
      exact z b m1
    · exact .inl (fm.gg b w)
  ia := fun j b e => by
    obtain ⟨t, h⟩ := fm.ia j b e
    rcases s.sm.2 j with w | ⟨us, ws, w1, w2⟩ | ⟨us, ws, w1, w2⟩
    · exact ⟨t, by rw [w]; exact h⟩
    · rw [h] at w1; cases w1
    · exact ⟨ws, w2⟩
  dj := fun i j b h1 h2 => by
    cases q : H b with
    | none => exact dj i j b h1 h2 q
    | some o =>
      rcases s.o i b h1 with w1 | w1
      · rcases s.o j b h2 with w2 | w2
        · exact fm.dj i j b w1 w2
        · rw [q] at w2; cases w2
      · rw [q] at w1; cases w1
def canSet (Γ : List Dsc) (i : Nat) : Bool := match Γ[i]? with
  | some (.io _) => false
  | some _ => true
  | none => false
theorem canSet_lt {Γ : List Dsc} {i : Nat} (h : canSet Γ i = true) : i < Γ.length ∧ ∀ ds, Γ[i]? ≠ some (.io ds) := by
  unfold canSet at h
  split at h
  · cases h
  · rename_i z n e
    exact ⟨(List.getElem?_eq_some_iff.mp e).1, fun ds w => by rw [w] at e; cases e; exact n ds rfl⟩
  · cases h
/-- a slot is stored: nothing, data, or a thing of its own -/
theorem Fm.setD (fm : Fm K A F H σ Γ) {i : Nat} {v : Option V} {z : Dsc} (c : canSet Γ i = true) (hio : ∀ t, z ≠ .io t) (hd : ∀ d, z = .dat d → ∃ u, v = some u ∧ Rep K F d u)
    (ho : ∀ t, z = .own t → ∃ a, v = some (.ref a) ∧ TAt K F H a t ∧ (∀ b ∈ tAddrs a t, A.H0 b = none) ∧ ∀ b ∈ tAddrs a t, ∀ j, i ≠ j → ¬ OwnAt σ Γ j b) : Fm K A F H (σ.set i v) (Γ.set i z) := by
  obtain ⟨hlt, hnio⟩ := canSet_lt c
  have hl : i < σ.length := by rw [fm.len]; exact hlt
  have oth : ∀ j b, i ≠ j → (OwnAt (σ.set i v) (Γ.set i z) j b ↔ OwnAt σ Γ j b) := fun j b hj => by
    unfold OwnAt
    rw [List.getElem?_set_ne hj, List.getElem?_set_ne hj]
  have mine : ∀ b, OwnAt (σ.set i v) (Γ.set i z) i b → ∀ j, i ≠ j → ¬ OwnAt σ Γ j b := fun b ⟨a, t, h1, h2, m⟩ => by
    rw [List.getElem?_set_self hl] at h1
    rw [List.getElem?_set_self hlt] at h2
    rcases h2 with h2 | h2
    · obtain ⟨a', e, _, _, n⟩ := ho t (Option.some.inj h2)
      rw [e] at h1; cases h1
      exact n b m
    · exact absurd (Option.some.inj h2) (hio t)
  refine ⟨by rw [List.length_set, List.length_set]; exact fm.len, fm.fh, fm.ff, fm.base, fm.gg, fm.nf, fun j d h => ?_, fun j t h => ?_, fun j t h => ?_, fun j a h => ?_, fun j k b h1 h2 => ?_⟩
  · by_cases e : i = j
    · subst e
      rw [List.getElem?_set_self hlt] at h
      obtain ⟨u, e1, r⟩ := hd d (Option.some.inj h)
      exact ⟨u, by rw [List.getElem?_set_self hl, e1], r⟩
    · rw [List.getElem?_set_ne e] at h ⊢; exact fm.dat j d h
  · by_cases e : i = j
    · subst e
      rw [List.getElem?_set_self hlt] at h
      obtain ⟨a, e1, l, h0, _⟩ := ho t (Option.some.inj h)
      exact ⟨a, by rw [List.getElem?_set_self hl, e1], l, h0⟩
    · rw [List.getElem?_set_ne e] at h ⊢; exact fm.own j t h
  · by_cases e : i = j
    · subst e
      rw [List.getElem?_set_self hlt] at h
      exact absurd (Option.some.inj h) (hio t)
    · rw [List.getElem?_set_ne e] at h ⊢; exact fm.iio j t h
  · obtain ⟨t, g⟩ := fm.ia j a h
    have e : i ≠ j := fun z => by subst z; exact hnio t g
    exact ⟨t, by rw [List.getElem?_set_ne e]; exact g⟩
  · by_cases e1 : i = j <;> by_cases e2 : i = k
    · rw [← e1, ← e2]
    · subst e1
      exact absurd ((oth k b e2).mp h2) (mine b h1 k e2)
    · subst e2
      exact absurd ((oth j b e1).mp h1) (mine b h2 j e1)
    · exact fm.dj j k b ((oth j b e1).mp h1) ((oth k b e2).mp h2)
theorem Fm.setUn (fm : Fm K A F H σ Γ) {i : Nat} {v : Option V} (c : canSet Γ i = true) : Fm K A F H (σ.set i v) (Γ.set i .un) := fm.setD c (fun _ e => nomatch e) (fun _ e => nomatch e) (fun _ e => nomatch e)
theorem Fm.setDat (fm : Fm K A F H σ Γ) {i : Nat} {d : D} {v : V} (c : canSet Γ i = true) (r : Rep K F d v) : Fm K A F H (σ.set i (some v)) (Γ.set i (.dat d)) :=
  fm.setD c (fun _ e => nomatch e) (fun _ e => by cases e; exact ⟨v, rfl, r⟩) (fun _ e => nomatch e)
theorem Fm.setOwn (fm : Fm K A F H σ Γ) {i : Nat} {t : T} {a : Addr} (c : canSet Γ i = true) (l : TAt K F H a t) (h0 : ∀ b ∈ tAddrs a t, A.H0 b = none) (no : ∀ b ∈ tAddrs a t, ∀ j, i ≠ j → ¬ OwnAt σ Γ j b) : Fm K A F H (σ.set i (some (.ref a))) (Γ.set i (.own t)) :=
  fm.setD c (fun _ e => nomatch e) (fun _ e => nomatch e) (fun _ e => by cases e; exact ⟨a, rfl, l, h0, no⟩)
end
/-! ### comprehensions -/
def wipeG (Γ : List Dsc) : List Nat → List Dsc
  | [] => Γ
  | v :: vs => (wipeG Γ vs).set v .un
def mergeG (vs : List Nat) (Γ Γ5 : List Dsc) : List Dsc := (Γ.zip Γ5).mapIdx fun i z => if i ∈ vs then z.1 else z.2
theorem mergeG_get {vs : List Nat} {Γ Γ5 : List Dsc} (h : Γ.length = Γ5.length) (i : Nat) : (mergeG vs Γ Γ5)[i]? = if i ∈ vs then Γ[i]? else Γ5[i]? := by
  unfold mergeG
  rw [List.getElem?_mapIdx]
  by_cases hi : i < Γ.length
  · have hi5 : i < Γ5.length := by omega
    have e : (Γ.zip Γ5)[i]? = some (Γ[i], Γ5[i]) := by
      rw [List.getElem?_eq_getElem (by rw [List.length_zip]; omega), List.getElem_zip]
    rw [e, List.getElem?_eq_getElem hi, List.getElem?_eq_getElem hi5]
    show some (if i ∈ vs then Γ[i] else Γ5[i]) = _
    split <;> rfl
  · have e : (Γ.zip Γ5)[i]? = none := List.getElem?_eq_none (by rw [List.length_zip]; omega)
    rw [e, List.getElem?_eq_none (by omega), List.getElem?_eq_none (by omega)]
    show none = _
    split <;> rfl
theorem wipe_get {σ : L2.St} {i : Nat} : ∀ {vs : List Nat}, i ∉ vs → (wipe σ vs)[i]? = σ[i]?
  | [], _ => rfl
  | v :: vs, h => by
    unfold wipe
    rw [List.getElem?_set_ne (fun e => h (by rw [e]; exact List.mem_cons_self))]
    exact wipe_get fun e => h (List.mem_cons_of_mem _ e)
theorem wipeG_get {Γ : List Dsc} {i : Nat} : ∀ {vs : List Nat}, i ∉ vs → (wipeG Γ vs)[i]? = Γ[i]?
  | [], _ => rfl
  | v :: vs, h => by
    unfold wipeG
    rw [List.getElem?_set_ne (fun e => h (by rw [e]; exact List.mem_cons_self))]
    exact wipeG_get fun e => h (List.mem_cons_of_mem _ e)
theorem wipeG_len {Γ : List Dsc} : ∀ {vs : List Nat}, (wipeG Γ vs).length = Γ.length
  | [] => rfl
  | v :: vs => by unfold wipeG; rw [List.length_set]; exact wipeG_len
theorem wipe_set {σ : L2.St} {i : Nat} {x : Option V} : ∀ {vs : List Nat}, i ∈ vs → wipe (σ.set i x) vs = wipe σ vs
  | v :: vs, h => by
    unfold wipe
    by_cases e : i ∈ vs
    · rw [wipe_set e]
    · have e2 : i = v := by
        rcases List.mem_cons.mp h with h | h
        · exact h
        · exact absurd h e
      subst e2
      have key : ∀ ws : List Nat, i ∉ ws → wipe (σ.set i x) ws = (wipe σ ws).set i x := fun ws hw => by
        induction ws with
        | nil => rfl
        | cons w ws ih =>
          unfold wipe
          rw [ih fun z => hw (List.mem_cons_of_mem _ z)]
          rw [List.set_comm _ _ (fun z => hw (by rw [z]; exact List.mem_cons_self))]
      rw [key vs e, List.set_set]
theorem wipe_wipe {σ : L2.St} : ∀ (vs ws : List Nat), (∀ v ∈ vs, v ∈ ws) → wipe (wipe σ vs) ws = wipe σ ws
  | [], _, _ => rfl
  | v :: vs, ws, h => by
    show wipe ((wipe σ vs).set v none) ws = _
    rw [wipe_set (h v List.mem_cons_self)]
    exact wipe_wipe vs ws fun u hu => h u (List.mem_cons_of_mem _ hu)
theorem canSet_wipe {Γ : List Dsc} {i : Nat} (h : canSet Γ i = true) : ∀ vs : List Nat, canSet (wipeG Γ vs) i = true
  | [] => h
  | v :: vs => by
    have ih := canSet_wipe h vs
    unfold wipeG
    by_cases e : v = i
    · subst e
      unfold canSet
      rw [List.getElem?_set_self (canSet_lt ih).1]
    · unfold canSet at ih ⊢
      rw [List.getElem?_set_ne e]
      exact ih
theorem Fm.wipe {K : PySem.W.Frag} {A : Ac} {F H : Hp} {σ : L2.St} {Γ : List Dsc} (fm : Fm K A F H σ Γ) : ∀ {vs : List Nat}, (∀ v ∈ vs, canSet Γ v = true) → Fm K A F H (L2.wipe σ vs) (wipeG Γ vs)
  | [], _ => fm
  | v :: vs, h => (Fm.wipe fm fun u hu => h u (List.mem_cons_of_mem _ hu)).setUn (canSet_wipe (h v List.mem_cons_self) vs)

/-- the forms of a comprehension's target -/
inductive Shp where
  | one (j : Nat) | two (j k : Nat)
def Shp.js : Shp → List Nat
  | .one j => [j]
  | .two j k => [j, k]
def Shp.rd (K : PySem.W.Frag) : Shp → TG
  | .one j => gName j
  | .two j k => gTup K 2 (gCons (gName j) (gCons (gName k) gNil))
def Shp.parts : Shp → D → Option (List D)
  | .one _, d => some [d]
  | .two _ _, .tup [a, b] => some [a, b]
  | _, _ => none
def setsG : List Dsc → List Nat → List D → List Dsc
  | Γ, j :: js, d :: ds => setsG (Γ.set j (.dat d)) js ds
  | Γ, _, _ => Γ
def setsS : L2.St → List Nat → List V → L2.St
  | σ, j :: js, d :: ds => setsS (σ.set j (some d)) js ds
  | σ, _, _ => σ
theorem Shp.ok {K : PySem.W.Frag} {F H : Hp} {d : D} {v : V} {es : List D} {τ : L2.St} {Q : L2.St → Hp → Prop} (sh : Shp) (hp : sh.parts d = some es) (r : Rep K F d v) (f : Ex F H) (q : ∀ ws, Reps K F es ws → Q (setsS τ sh.js ws) H) : sh.rd K v τ H Q := by
  cases sh with
  | one j => cases hp; exact q [v] (Reps.one r)
  | two j k =>
    cases r with
    | tup e r =>
      cases r with
      | nil => cases hp
      | cons r1 r =>
        cases r with
        | nil => cases hp
        | cons r2 r =>
          cases r with
          | nil =>
            cases hp
            exact ⟨_, _, rfl, .inl (.inl (f _ _ e)), rfl, _, _, rfl, _, _, rfl, rfl, q _ (.cons r1 (.cons r2 .nil))⟩
          | cons r3 r => cases hp
    | _ => cases hp
theorem sets_ok {K : PySem.W.Frag} {A : Ac} {F H : Hp} : ∀ {js : List Nat} {es : List D} {ws : List V} {σ : L2.St} {Γ : List Dsc}, Fm K A F H σ Γ → (∀ j ∈ js, canSet Γ j = true) → Reps K F es ws → Fm K A F H (setsS σ js ws) (setsG Γ js es)
  | [], _, _, _, _, fm, _, _ => by unfold setsS setsG; exact fm
  | j :: js, _, _, _, _, fm, _, .nil => by unfold setsS setsG; exact fm
  | j :: js, d :: es, w :: ws, σ, Γ, fm, c, .cons r1 r2 => by
    unfold setsS setsG
    refine sets_ok (fm.setDat (c j List.mem_cons_self) r1) (fun i hi => ?_) r2
    have ci := c i (List.mem_cons_of_mem _ hi)
    unfold canSet at ci ⊢
    by_cases e : j = i
    · subst e
      rw [List.getElem?_set_self (canSet_lt (c j List.mem_cons_self)).1]
    · rw [List.getElem?_set_ne e]
      exact ci
theorem setsS_get {i : Nat} : ∀ {js : List Nat} {ws : List V} {σ : L2.St}, i ∉ js → (setsS σ js ws)[i]? = σ[i]?
  | [], _, _, _ => by unfold setsS; rfl
  | j :: js, [], _, _ => by unfold setsS; rfl
  | j :: js, w :: ws, σ, h => by
    unfold setsS
    rw [setsS_get fun e => h (List.mem_cons_of_mem _ e), List.getElem?_set_ne fun e => h (by rw [e]; exact List.mem_cons_self)]
theorem setsG_get {i : Nat} : ∀ {js : List Nat} {ws : List D} {σ : List Dsc}, i ∉ js → (setsG σ js ws)[i]? = σ[i]?
  | [], _, _, _ => by unfold setsG; rfl
  | j :: js, [], _, _ => by unfold setsG; rfl
  | j :: js, w :: ws, σ, h => by
    unfold setsG
    rw [setsG_get fun e => h (List.mem_cons_of_mem _ e), List.getElem?_set_ne fun e => h (by rw [e]; exact List.mem_cons_self)]
theorem setsG_len : ∀ {js : List Nat} {ws : List D} {σ : List Dsc}, (setsG σ js ws).length = σ.length
  | [], _, _ => by unfold setsG; rfl
  | j :: js, [], _ => by unfold setsG; rfl
  | j :: js, w :: ws, σ => by unfold setsG; rw [setsG_len, List.length_set]
theorem wipe_sets {vs : List Nat} : ∀ {js : List Nat} {ws : List V} {σ : L2.St}, (∀ j ∈ js, j ∈ vs) → wipe (setsS σ js ws) vs = wipe σ vs
  | [], _, _, _ => by unfold setsS; rfl
  | j :: js, [], _, _ => by unfold setsS; rfl
  | j :: js, w :: ws, σ, h => by
    unfold setsS
    rw [wipe_sets fun i hi => h i (List.mem_cons_of_mem _ hi), wipe_set (h j List.mem_cons_self)]
def Nl (Γ : List Dsc) (k : Nat) : Prop := ∀ ds, Γ[k]? ≠ some (.own ds) ∧ Γ[k]? ≠ some (.io ds)
theorem nl_set {Γ : List Dsc} {k j : Nat} {z : Dsc} (h : Nl Γ k) (hz : z = .un ∨ ∃ d, z = .dat d) : Nl (Γ.set j z) k := fun ds => by
  by_cases e : j = k
  · subst e
    by_cases hl : j < Γ.length
    · rw [List.getElem?_set_self hl]
      rcases hz with rfl | ⟨d, rfl⟩ <;> exact ⟨fun q => (nomatch q), fun q => (nomatch q)⟩
    · rw [List.getElem?_eq_none (by rw [List.length_set]; omega)]
      exact ⟨fun q => (nomatch q), fun q => (nomatch q)⟩
  · rw [List.getElem?_set_ne e]
    exact h ds
theorem nl_un {Γ : List Dsc} {k : Nat} : Nl (Γ.set k .un) k := fun ds => by
  by_cases hl : k < Γ.length
  · rw [List.getElem?_set_self hl]
    exact ⟨fun q => (nomatch q), fun q => (nomatch q)⟩
  · rw [List.getElem?_eq_none (by rw [List.length_set]; omega)]
    exact ⟨fun q => (nomatch q), fun q => (nomatch q)⟩
theorem nl_wipe {Γ : List Dsc} {k : Nat} : ∀ {vs : List Nat}, k ∈ vs → Nl (wipeG Γ vs) k
  | v :: vs, h => by
    unfold wipeG
    rcases List.mem_cons.mp h with rfl | h
    · exact nl_un
    · exact nl_set (nl_wipe h) (.inl rfl)
theorem nl_sets {k : Nat} : ∀ {js : List Nat} {es : List D} {Γ : List Dsc}, Nl Γ k → Nl (setsG Γ js es) k
  | [], _, _, h => by unfold setsG; exact h
  | j :: js, [], _, h => by unfold setsG; exact h
  | j :: js, e :: es, _, h => by unfold setsG; exact nl_sets (nl_set h (.inr ⟨e, rfl⟩))
/-- all blocks of a comprehension -/
def inBlk (X : Cx) (scope : Scope) (p : Cx → Prop) : Prop := ∀ (s : Shared) (H : Hp) (C : Addr) (cl : List (Str × Addr)) (fp : List Addr), p (X.blk s H scope (compEnvC scope cl C X.env) fp)
def BE (X : Cx) (scope : Scope) (e : Expr) : TE := fun σ H Q => inBlk X scope fun Y => EV Y e σ H Q
def TsV (X : Cx) (ifs : List Expr) : TT := fun σ H Q => ∃ t, PTs X ifs t ∧ t σ H Q
theorem pts_top {X : Cx} {e : List Expr} : PTs X e (TsV X e) := ⟨fun pins s σ H Q I ⟨_, h, q⟩ => h.run pins s σ H Q I q⟩
def BTs (X : Cx) (scope : Scope) (ifs : List Expr) : TT := fun σ H Q => inBlk X scope fun Y => TsV Y ifs σ H Q
def TsW (X : Cx) (ifs : List Expr) (Γ : List Dsc) (P : Bool → List Dsc → Prop) : Prop := match ifs with
  | [] => P true Γ
  | [c] => TW X c Γ P
  | _ => False
section
variable {X : Cx} {Γ : List Dsc} {P : PD} {elt tg iter : Expr} {ifs : List Expr} {scope : Scope} {own : List (Str × Nat)} {pos : Pos}
theorem TsW.run {A : Ac} {Fs Hs F H : Hp} {σ : L2.St} {Γs : List Dsc} {P : Bool → List Dsc → Prop} (h : TsW X ifs Γ P) (fm : Fm X.K A F H σ Γ) {Q : Bool → Hp → Prop}
    (q : ∀ b Γ' F' H', P b Γ' → Stp σ Γ Γ' F H F' H' → Fm X.K A F' H' σ Γ' → Q b H') : TsV X ifs σ H Q := by
  match ifs, h with
  | [], h => exact ⟨_, pts_nil, q true Γ F H h Stp.refl fm⟩
  | [c], h => exact ⟨_, pts_one pt_top, TW.run h fm Stp.refl fun b Γ' F' H' p s _ fm' => q b Γ' F' H' p s fm'⟩
/-- one turn's end, seen from outside -/
theorem merge_ok {K : PySem.W.Frag} {A : Ac} {F2 H2 F5 H5 : Hp} {σ τ : L2.St} {Γ2 Γ3 Γ5 : List Dsc} {vs : List Nat} (fm : Fm K A F2 H2 σ Γ2) (fi : Fm K A F5 H5 τ Γ5) (s : Stp τ Γ3 Γ5 F2 H2 F5 H5) (hl : Γ3.length = Γ2.length)
    (h3 : ∀ i, i ∉ vs → Γ3[i]? = Γ2[i]?) (hv : ∀ i ∈ vs, ∀ a, ¬ OwnAt τ Γ3 i a) (ht : ∀ i, i ∉ vs → τ[i]? = σ[i]?) : Fm K A F5 H5 σ (mergeG vs Γ2 Γ5) ∧ Stp σ Γ2 (mergeG vs Γ2 Γ5) F2 H2 F5 H5 := by
  have l5 : Γ2.length = Γ5.length := hl.symm.trans s.sm.1
  have inn : ∀ i a, OwnAt τ Γ3 i a → OwnAt σ Γ2 i a ∧ i ∉ vs := fun i a h => by
    have n : i ∉ vs := fun z => hv i z a h
    obtain ⟨r, t, h1, h2, m⟩ := h
    exact ⟨⟨r, t, by rw [← ht i n]; exact h1, by rw [← h3 i n]; exact h2, m⟩, n⟩
  have noI : ∀ b, ¬ Own σ Γ2 b → ¬ Own τ Γ3 b := fun b h ⟨i, z⟩ => h ⟨i, (inn i b z).1⟩
  have sm : Sim Γ2 (mergeG vs Γ2 Γ5) := by
    refine ⟨by unfold mergeG; rw [List.length_mapIdx, List.length_zip]; omega, fun i => ?_⟩
    rw [mergeG_get l5]
    by_cases hi : i ∈ vs
    · rw [if_pos hi]; exact .inl rfl
    · rw [if_neg hi, ← h3 i hi]
      exact s.sm.2 i
  have kk : ∀ b o, H2 b = some o → ¬ Own σ Γ2 b → H5 b = some o := fun b o h n => s.k b o h (noI b n)
  have out : ∀ i b, OwnAt σ (mergeG vs Γ2 Γ5) i b → (i ∈ vs ∧ OwnAt σ Γ2 i b) ∨ (i ∉ vs ∧ OwnAt τ Γ5 i b) := fun i b ⟨r, t, h1, h2, m⟩ => by
    rw [mergeG_get l5] at h2
    by_cases hi : i ∈ vs
    · rw [if_pos hi] at h2
      exact .inl ⟨hi, r, t, h1, h2, m⟩
    · rw [if_neg hi] at h2
      exact .inr ⟨hi, r, t, by rw [ht i hi]; exact h1, h2, m⟩
  have st : Stp σ Γ2 (mergeG vs Γ2 Γ5) F2 H2 F5 H5 := ⟨s.f, kk, s.n, s.g, sm, fun i b h => by
    rcases out i b h with ⟨_, h⟩ | ⟨_, h⟩
    · exact .inl h
    · rcases s.o i b h with h | h
      · exact .inl (inn i b h).1
      · exact .inr h⟩
  refine ⟨fm.upd st fi.fh (fun i a t e hm => ?_) fun i j b h1 h2 hb => ?_, st⟩
  · have hm' := locT_some hm
    rw [mergeG_get l5] at hm'
    by_cases hi : i ∈ vs
    · rw [if_pos hi] at hm'
      refine (fm.thing e hm').1.grow s.f fun b m o ho hf => ⟨s.k b o ho fun ⟨j, z⟩ => ?_, s.n b o ho hf⟩
      obtain ⟨z1, z2⟩ := inn j b z
      have e := fm.dj i j b ⟨a, t, e, hm', m⟩ z1
      subst e
      exact z2 hi
    · rw [if_neg hi] at hm'
      exact (fi.thing (by rw [ht i hi]; exact e) hm').1
  · rcases out i b h1 with ⟨_, g1⟩ | ⟨_, g1⟩
    · exact absurd ⟨i, g1⟩ (fm.notOwn hb)
    · rcases out j b h2 with ⟨_, g2⟩ | ⟨_, g2⟩
      · exact absurd ⟨j, g2⟩ (fm.notOwn hb)
      · exact fi.dj i j b g1 g2
/-- the reading of a comprehension -/
theorem lc_read (sh : Shp) (hsh : ∀ j ∈ sh.js, j ∈ own.map (·.2))
    (h : IW X tg iter Γ fun ds Γ1 => ds.length < 1000000 ∧ ∃ J : Nat → List D → List Dsc → Prop, J 0 [] Γ1 ∧ (∀ i d acc Γ2, ds[i]? = some d → J i acc Γ2 → acc.length ≤ i → (∀ v ∈ own.map (·.2), canSet Γ2 v = true) ∧ ∃ es, sh.parts d = some es ∧
        inBlk X scope fun Y => TsW Y ifs (setsG (wipeG Γ2 (own.map (·.2))) sh.js es) fun k Γ4 => (k = true → inBlk X scope fun Y => EW Y elt Γ4 fun y Γ5 => ∃ d', datOf y = some d' ∧ J (i + 1) (acc ++ [d']) (mergeG (own.map (·.2)) Γ2 Γ5)) ∧ (k = false → J (i + 1) acc (mergeG (own.map (·.2)) Γ2 Γ4))) ∧
        ∀ acc Γ2, J ds.length acc Γ2 → P (.new (.l acc)) Γ2) :
    ∀ A F H σ, Fm X.K A F H σ Γ → ∀ Q : VK, (∀ d Γ' v F' H', P d Γ' → Stp σ Γ Γ' F H F' H' → Fm X.K A F' H' σ Γ' → VOk X.K A H F' H' σ Γ' d v → Q v H') →
      tLc (IV X tg iter) (sh.rd X.K) (BTs X scope ifs) (BE X scope elt) (own.map (·.2)) σ H Q := by
  intro A F H σ fm Q q
  generalize hvs : own.map (·.2) = vs at h hsh ⊢
  refine h A F H σ fm _ fun I ds Γ1 F1 H1 hp s1 fm1 its => ?_
  obtain ⟨hlen, J, hJ0, hJs, hJd⟩ := hp
  obtain ⟨G, Y, w, hG, hY⟩ := its.ex
  intro Dl hD
  refine ⟨fun i m Hc => m = ds.length - i ∧ i ≤ ds.length ∧ ∃ Fc Γ2 acc, acc.length ≤ i ∧ J i acc Γ2 ∧ Fm X.K A Fc Hc σ Γ2 ∧ Stp σ Γ Γ2 F H Fc Hc ∧ Ex F1 Fc ∧ VOk X.K A H Fc Hc σ Γ2 (.new (.l acc)) (.ref Dl),
    ⟨ds.length, by rw [Nat.sub_zero], Nat.zero_le _, F1, Γ1, [], Nat.le_refl _, hJ0, fm1.alloc hD, s1.trans (Stp.alloc hD), Ex.refl _, newOk fm1 s1 hD .nil⟩, ?_⟩
  rintro i m Hc ⟨rfl, hi, Fc, Γ2, acc, hacc, hJ, fmc, sc, f1c, okD⟩
  have hGc := hG Fc Hc f1c fmc.fh
  by_cases hlt : i < ds.length
  · refine .inr ⟨w.goes i Hc hlt hGc, fun Hn => ∃ Fc Γ2 acc, acc.length ≤ i + 1 ∧ J (i + 1) acc Γ2 ∧ Fm X.K A Fc Hn σ Γ2 ∧ Stp σ Γ Γ2 F H Fc Hn ∧ Ex F1 Fc ∧ VOk X.K A H Fc Hn σ Γ2 (.new (.l acc)) (.ref Dl), fun Hn hn => ⟨ds.length - (i + 1), by omega, rfl, hlt, hn⟩, fun x Hy hy => ?_⟩
    obtain ⟨d, hd, yl⟩ := hY i Hc x Hy Fc hlt f1c fmc.fh (w.yields i Hc x Hy hlt hGc hy)
    have key : ∃ Fy, Fm X.K A Fy Hy σ Γ2 ∧ Stp σ Γ2 Γ2 Fc Hc Fy Hy ∧ Rep X.K Fy d x := by
      rcases yl with ⟨rfl, r⟩ | ⟨T, xs, es, rfl, nT, rfl, rfl, r⟩
      · exact ⟨Fc, fmc, Stp.refl, r⟩
      · exact ⟨L2.upd Fc T (.tup xs), fmc.allocF nT, Stp.allocF nT (fmc.fnone nT), .tup upd_same (r.ex (Ex.new (fmc.fnone nT)))⟩
    obtain ⟨Fy, fmy, sy, rx⟩ := key
    obtain ⟨hcs, es, hpt, hb⟩ := hJs i d acc Γ2 hd hJ hacc
    refine sh.ok hpt rx fmy.fh fun ws rw_ => ⟨by rw [wipe_sets hsh]; exact wipe_wipe vs vs fun _ z => z, ?_⟩
    have fmi := sets_ok (js := sh.js) (fmy.wipe hcs) (fun j hj => canSet_wipe (hcs j (hsh j hj)) vs) rw_
    have h3l : (setsG (wipeG Γ2 vs) sh.js es).length = Γ2.length := by rw [setsG_len, wipeG_len]
    have h3 : ∀ k, k ∉ vs → (setsG (wipeG Γ2 vs) sh.js es)[k]? = Γ2[k]? := fun k hk => by rw [setsG_get fun z => hk (hsh k z), wipeG_get hk]
    have ht : ∀ k, k ∉ vs → (setsS (wipe σ vs) sh.js ws)[k]? = σ[k]? := fun k hk => by rw [setsS_get fun z => hk (hsh k z), wipe_get hk]
    have hv : ∀ k ∈ vs, ∀ a, ¬ OwnAt (setsS (wipe σ vs) sh.js ws) (setsG (wipeG Γ2 vs) sh.js es) k a := fun k hk a h => by
      obtain ⟨_, t', _, h1 | h1, _⟩ := h
      · exact (nl_sets (nl_wipe hk) t').1 h1
      · exact (nl_sets (nl_wipe hk) t').2 h1
    intro s0 H0 C cl fp
    refine TsW.run (Fs := F) (Hs := H) (Γs := Γ) (hb s0 H0 C cl fp) fmi fun k Γ4 F4 H4 hk s4 fm4 => ?_
    cases k with
    | false =>
      rw [if_neg Bool.false_ne_true]
      obtain ⟨g1, g2⟩ := merge_ok (vs := vs) fmy fm4 s4 h3l h3 hv ht
      exact ⟨F4, _, acc, Nat.le_succ_of_le hacc, hk.2 rfl, g1, (sc.trans sy).trans g2, f1c.trans (sy.f.trans s4.f), VOk.stp (VOk.stp okD sy) g2⟩
    | true =>
      rw [if_pos rfl]
      intro s0 H0 C cl fp
      refine (hk.1 rfl s0 H0 C cl fp) A F4 H4 _ fm4 _ fun y Γ5 vy F5 H5 hy s5 fm5 oy => ?_
      obtain ⟨d', hd', hJ'⟩ := hy
      have s45 := s4.trans s5
      obtain ⟨F6, f56, fm6, s6, r6⟩ := freeze1 (Fs := Fy) (Hs := Hy) (VOk.back oy s4.g) fm5 s45 hd'
      obtain ⟨g1, g2⟩ := merge_ok (vs := vs) fmy fm6 s6 h3l h3 hv ht
      have okE := VOk.stp (VOk.stp okD sy) g2
      obtain ⟨b, eb, ⟨⟨zs, ez, rz⟩, fz⟩, no⟩ := okE
      obtain ⟨h0z, nz, hz⟩ := no b List.mem_cons_self
      cases eb
      have r7 : Reps X.K F6 (acc ++ [d']) (zs ++ [vy]) := rz.append (Reps.one r6)
      refine ⟨zs, ez, by rw [← rz.len]; exact sz1 (by omega), F6, _, acc ++ [d'], by rw [List.length_append]; exact Nat.succ_le_succ hacc, hJ', g1.scratch fz nz h0z, (((sc.trans sy).trans g2).scratch hz), f1c.trans (sy.f.trans s6.f), Dl, rfl, ⟨⟨_, upd_same, r7⟩, fz⟩, no⟩
  · have e : i = ds.length := by omega
    subst e
    exact .inl ⟨w.stops Hc hGc, q _ Γ2 _ Fc Hc (hJd acc Γ2 hJ) sc fmc okD⟩
/-- a list comprehension of one clause -/
theorem ew_lc (sh : Shp) (own : List (Str × Nat)) (hc : X.calm = true) (hN : X.N.Nodup) (ok : BlkOk X.N X.env.scope scope own) (hsh : ∀ j ∈ sh.js, j ∈ own.map (·.2)) (hg : inBlk X scope fun Y => PG Y tg (sh.rd X.K))
    (h : IW X tg iter Γ fun ds Γ1 => ds.length < 1000000 ∧ ∃ J : Nat → List D → List Dsc → Prop, J 0 [] Γ1 ∧ (∀ i d acc Γ2, ds[i]? = some d → J i acc Γ2 → acc.length ≤ i → (∀ v ∈ own.map (·.2), canSet Γ2 v = true) ∧ ∃ es, sh.parts d = some es ∧
        inBlk X scope fun Y => TsW Y ifs (setsG (wipeG Γ2 (own.map (·.2))) sh.js es) fun k Γ4 => (k = true → inBlk X scope fun Y => EW Y elt Γ4 fun y Γ5 => ∃ d', datOf y = some d' ∧ J (i + 1) (acc ++ [d']) (mergeG (own.map (·.2)) Γ2 Γ5)) ∧ (k = false → J (i + 1) acc (mergeG (own.map (·.2)) Γ2 Γ4))) ∧
        ∀ acc Γ2, J ds.length acc Γ2 → P (.new (.l acc)) Γ2)
    (hs : ∀ x, foldedSetIterable iter X.env x = pure x := by intro _; rfl) : EW X (.ListComp elt [⟨tg, iter, ifs, 0⟩] scope pos) Γ P :=
  fun A F H σ fm Q q => ⟨_, pe_lc (own := own) (tt := BTs X scope ifs) (te := BE X scope elt) hc hN pi_top ok hg
    (fun s H C cl fp => ⟨fun pins s' σ H' Q I hq => pts_top.run pins s' σ H' Q I (hq s H C cl fp)⟩) (fun s H C cl fp => ⟨fun pins s' σ H' Q I hq => pe_top.run pins s' σ H' Q I (hq s H C cl fp)⟩) hs, lc_read sh hsh h A F H σ fm Q q⟩
end
end VY

/-! VY: statements, defs, calls. -/
namespace VY
open PySem PySem.Spec PyProof.Rows L2

/-! ### comprehensions that only read -/
theorem merge_id {vs js : List Nat} {Γ : List Dsc} {es : List D} (h : ∀ j ∈ js, j ∈ vs) : mergeG vs Γ (setsG (wipeG Γ vs) js es) = Γ := by
  refine List.ext_getElem? fun i => ?_
  rw [mergeG_get (by rw [setsG_len, wipeG_len])]
  by_cases hi : i ∈ vs
  · rw [if_pos hi]
  · rw [if_neg hi, setsG_get fun z => hi (h i z), wipeG_get hi]
section
variable {X : Cx} {Γ : List Dsc} {P : PD} {elt tg iter c : Expr} {ifs : List Expr} {scope : Scope} {pos : Pos} {α : Type}
/-- what is asked of a comprehension that only reads: ds = xs.map enc, the result (xs.filter p).map g -/
def LcOk (X : Cx) (scope : Scope) (sh : Shp) (vs : List Nat) (elt : Expr) (ifs : List Expr) (enc g : α → D) (p : α → Bool) (ds : List D) (Γ1 : List Dsc) (xs : List α) : Prop :=
  ds = xs.map enc ∧ xs.length < 1000000 ∧ vs.all (canSet Γ1) = true ∧ ∀ x ∈ xs, ∃ es, sh.parts (enc x) = some es ∧
    inBlk X scope fun Y => TsW Y ifs (setsG (wipeG Γ1 vs) sh.js es) fun k Γ4 => Γ4 = setsG (wipeG Γ1 vs) sh.js es ∧ k = p x ∧ (p x = true → inBlk X scope fun Y => EW Y elt (setsG (wipeG Γ1 vs) sh.js es) fun y Γ5 => datOf y = some (g x) ∧ Γ5 = setsG (wipeG Γ1 vs) sh.js es)
theorem filter_take {p : α → Bool} {xs : List α} {i : Nat} {x : α} (h : xs[i]? = some x) : (xs.take (i + 1)).filter p = (xs.take i).filter p ++ (if p x = true then [x] else []) := by
  rw [List.take_add_one, h, List.filter_append]
  congr 1
  show ([x]).filter p = _
  rw [List.filter_cons]
  split <;> rfl
theorem lc_pure {own : List (Str × Nat)} {enc g : α → D} {p : α → Bool} {xs : List α} {ds : List D} {Γ1 : List Dsc} (sh : Shp) (hsh : ∀ j ∈ sh.js, j ∈ own.map (·.2)) (h : LcOk X scope sh (own.map (·.2)) elt ifs enc g p ds Γ1 xs) (hp : P (.new (.l ((xs.filter p).map g))) Γ1) :
    ds.length < 1000000 ∧ ∃ J : Nat → List D → List Dsc → Prop, J 0 [] Γ1 ∧ (∀ i d acc Γ2, ds[i]? = some d → J i acc Γ2 → acc.length ≤ i → (∀ v ∈ own.map (·.2), canSet Γ2 v = true) ∧ ∃ es, sh.parts d = some es ∧
        inBlk X scope fun Y => TsW Y ifs (setsG (wipeG Γ2 (own.map (·.2))) sh.js es) fun k Γ4 => (k = true → inBlk X scope fun Y => EW Y elt Γ4 fun y Γ5 => ∃ d', datOf y = some d' ∧ J (i + 1) (acc ++ [d']) (mergeG (own.map (·.2)) Γ2 Γ5)) ∧ (k = false → J (i + 1) acc (mergeG (own.map (·.2)) Γ2 Γ4))) ∧
        ∀ acc Γ2, J ds.length acc Γ2 → P (.new (.l acc)) Γ2 := by
  obtain ⟨rfl, hl, hcs, hx⟩ := h
  refine ⟨by rw [List.length_map]; exact hl, fun i acc Γ2 => Γ2 = Γ1 ∧ acc = ((xs.take i).filter p).map g, ⟨rfl, rfl⟩, ?_, ?_⟩
  · rintro i d acc Γ2 hd ⟨rfl, rfl⟩ hacc
    obtain ⟨x, hxi, rfl⟩ : ∃ x, xs[i]? = some x ∧ enc x = d := by
      rw [List.getElem?_map] at hd
      cases e : xs[i]? with
      | none => rw [e] at hd; cases hd
      | some x => rw [e] at hd; exact ⟨x, rfl, Option.some.inj hd⟩
    obtain ⟨es, hpt, hb⟩ := hx x (List.mem_of_getElem? hxi)
    refine ⟨List.all_eq_true.mp hcs, es, hpt, fun s H C cl fp => ?_⟩
    have := hb s H C cl fp
    have go : ∀ k Γ4, (Γ4 = setsG (wipeG Γ2 (own.map (·.2))) sh.js es ∧ k = p x ∧ (p x = true → inBlk X scope fun Y => EW Y elt (setsG (wipeG Γ2 (own.map (·.2))) sh.js es) fun y Γ5 => datOf y = some (g x) ∧ Γ5 = setsG (wipeG Γ2 (own.map (·.2))) sh.js es)) →
        (k = true → inBlk X scope fun Y => EW Y elt Γ4 fun y Γ5 => ∃ d', datOf y = some d' ∧ (mergeG (own.map (·.2)) Γ2 Γ5 = Γ2 ∧ ((xs.take i).filter p).map g ++ [d'] = ((xs.take (i + 1)).filter p).map g)) ∧
        (k = false → mergeG (own.map (·.2)) Γ2 Γ4 = Γ2 ∧ ((xs.take i).filter p).map g = ((xs.take (i + 1)).filter p).map g) := by
      rintro k Γ4 ⟨rfl, rfl, h2⟩
      refine ⟨fun hk => fun s H C cl fp => ?_, fun hk => ⟨merge_id hsh, ?_⟩⟩
      · refine (h2 hk s H C cl fp).mono fun y Γ5 ⟨e1, e2⟩ => ⟨g x, e1, ?_, ?_⟩
        · rw [e2]; exact merge_id hsh
        · rw [filter_take hxi, if_pos hk, List.map_append]
          rfl
      · rw [filter_take hxi, if_neg (by rw [hk]; exact Bool.false_ne_true), List.append_nil]
    match ifs, this with
    | [], h1 => exact go _ _ h1
    | [c], h1 => exact TW.mono h1 go
    | _ :: _ :: _, h1 => exact h1
  · rintro acc Γ2 ⟨rfl, rfl⟩
    rw [List.length_map, List.take_length]
    exact hp
/-- [elt for tg in iter (if c)] that only reads -/
theorem ew_lcF (sh : Shp) (own : List (Str × Nat)) (enc g : α → D) (p : α → Bool) (hc : X.calm = true) (hN : X.N.Nodup) (ok : BlkOk X.N X.env.scope scope own) (hsh : ∀ j ∈ sh.js, j ∈ own.map (·.2)) (hg : inBlk X scope fun Y => PG Y tg (sh.rd X.K))
    (h : IW X tg iter Γ fun ds Γ1 => ∃ xs, LcOk X scope sh (own.map (·.2)) elt ifs enc g p ds Γ1 xs ∧ P (.new (.l ((xs.filter p).map g))) Γ1)
    (hs : ∀ x, foldedSetIterable iter X.env x = pure x := by intro _; rfl) : EW X (.ListComp elt [⟨tg, iter, ifs, 0⟩] scope pos) Γ P :=
  ew_lc sh own hc hN ok hsh hg (fun A F H σ fm R q => h A F H σ fm R fun J ds Γ' F' H' ⟨xs, h1, h2⟩ => q J ds Γ' F' H' (lc_pure sh hsh h1 h2)) hs
theorem filter_true (xs : List α) : xs.filter (fun _ => true) = xs := by induction xs with
  | nil => rfl
  | cons x xs ih => rw [List.filter_cons, if_pos rfl, ih]
/-- what is asked where there is no test -/
def LmOk (X : Cx) (scope : Scope) (sh : Shp) (vs : List Nat) (elt : Expr) (enc g : α → D) (ds : List D) (Γ1 : List Dsc) (xs : List α) : Prop :=
  ds = xs.map enc ∧ xs.length < 1000000 ∧ vs.all (canSet Γ1) = true ∧ ∀ x ∈ xs, ∃ es, sh.parts (enc x) = some es ∧
    inBlk X scope fun Y => EW Y elt (setsG (wipeG Γ1 vs) sh.js es) fun y Γ5 => datOf y = some (g x) ∧ Γ5 = setsG (wipeG Γ1 vs) sh.js es
theorem LmOk.lc {sh : Shp} {vs : List Nat} {enc g : α → D} {ds : List D} {Γ1 : List Dsc} {xs : List α} (h : LmOk X scope sh vs elt enc g ds Γ1 xs) : LcOk X scope sh vs elt [] enc g (fun _ => true) ds Γ1 xs := by
  obtain ⟨h1, h2, h3, h4⟩ := h
  refine ⟨h1, h2, h3, fun x hx => ?_⟩
  obtain ⟨es, e1, e2⟩ := h4 x hx
  exact ⟨es, e1, fun s H C cl fp => ⟨rfl, rfl, fun _ => e2⟩⟩
theorem ew_lcM (sh : Shp) (own : List (Str × Nat)) (enc g : α → D) (hc : X.calm = true) (hN : X.N.Nodup) (ok : BlkOk X.N X.env.scope scope own) (hsh : ∀ j ∈ sh.js, j ∈ own.map (·.2)) (hg : inBlk X scope fun Y => PG Y tg (sh.rd X.K))
    (h : IW X tg iter Γ fun ds Γ1 => ∃ xs, LmOk X scope sh (own.map (·.2)) elt enc g ds Γ1 xs ∧ P (.new (.l (xs.map g))) Γ1)
    (hs : ∀ x, foldedSetIterable iter X.env x = pure x := by intro _; rfl) : EW X (.ListComp elt [⟨tg, iter, [], 0⟩] scope pos) Γ P :=
  ew_lcF sh own enc g (fun _ => true) hc hN ok hsh hg (fun A F H σ fm R q => h A F H σ fm R fun J ds Γ' F' H' ⟨xs, h1, h2⟩ => q J ds Γ' F' H' ⟨xs, h1.lc, by rw [filter_true]; exact h2⟩) hs
end

/-! ### targets -/
def GV (X : Cx) (tg : Expr) : TG := fun v σ H Q => ∃ t, PG X tg t ∧ t v σ H Q
theorem pg_top {X : Cx} {tg : Expr} : PG X tg (GV X tg) := ⟨fun pins s σ H v u Q I r ⟨_, h, q⟩ => h.run pins s σ H v u Q I r q⟩
def GsV (X : Cx) (tgs : List Expr) : TGs := fun v σ H Q => ∃ t, PGs X tgs t ∧ t v σ H Q
theorem pgs_top {X : Cx} {tgs : List Expr} : PGs X tgs (GsV X tgs) := ⟨fun pins s σ H v u Q I r ⟨_, h, q⟩ => h.run pins s σ H v u Q I r q⟩
abbrev H00 : Hp := fun _ => none
def GW (X : Cx) (tg : Expr) (d : Dv) (Γ : List Dsc) (P : List Dsc → Prop) : Prop := ∀ A F H σ v, Fm X.K A F H σ Γ → VOk X.K A H00 F H σ Γ d v → ∀ Q : L2.St → Hp → Prop,
  (∀ Γ' F' H' σ', P Γ' → Ex F F' → Fm X.K A F' H' σ' Γ' → Q σ' H') → GV X tg v σ H Q
def GsW (X : Cx) (tgs : List Expr) (ds : List D) (Γ : List Dsc) (P : List Dsc → Prop) : Prop := ∀ A F H σ vs, Fm X.K A F H σ Γ → Reps X.K F ds vs → ∀ Q : L2.St → Hp → Prop,
  (∀ Γ' F' H' σ', P Γ' → Ex F F' → Fm X.K A F' H' σ' Γ' → Q σ' H') → GsV X tgs vs σ H Q
def dscOf : Dv → Option Dsc
  | .dat d => some (.dat d)
  | .new t => some (.own t)
  | _ => none
section
variable {X : Cx} {Γ : List Dsc} {a b c e o tg : Expr} {es : List Expr} {pos p pos' : Pos} {x : Str} {P : List Dsc → Prop}
theorem setDv {K : PySem.W.Frag} {A : Ac} {Hs F H : Hp} {σ : L2.St} {d : Dv} {s : Dsc} {v : V} {i : Nat} (fm : Fm K A F H σ Γ) (ok : VOk K A Hs F H σ Γ d v) (h : dscOf d = some s) (c : canSet Γ i = true) : Fm K A F H (σ.set i (some v)) (Γ.set i s) := by
  cases d with
  | dat d => cases h; exact fm.setDat c ok
  | new t =>
    cases h
    obtain ⟨a, rfl, l, no⟩ := ok
    exact fm.setOwn c l (fun b m => (no b m).1) fun b m j _ z => (no b m).2.1 ⟨j, z⟩
  | loc i => cases h
  | fld i f b => cases h
theorem gw_name (i : Nat) {d : Dv} {s : Dsc} (hN : X.N.Nodup) (hs : dscOf d = some s) (c : canSet Γ i = true) (h : P (Γ.set i s)) (hi : X.N[i]? = some x := by rfl) (hx : Loc X.env.scope x := by first | exact .inl rfl | exact .inr rfl)
    (hf : X.fn x = true ∨ X.env.scope.names.lookup x = some .local := by first | exact .inl rfl | exact .inr rfl) : GW X (.Name x pos) d Γ P :=
  fun A F H σ v fm ok Q q => ⟨_, pg_name hN hi hx hf, q _ F H _ h (Ex.refl _) (setDv fm ok hs c)⟩
theorem gsw_nil (h : P Γ) : GsW X [] [] Γ P := fun A F H σ vs fm r Q q => ⟨_, pgs_nil, by cases r; exact ⟨rfl, q Γ F H σ h (Ex.refl _) fm⟩⟩
theorem gsw_cons {d : D} {ds : List D} (h : GW X e (.dat d) Γ fun Γ1 => GsW X es ds Γ1 P) (hs : (assignEach (e :: es) X.env).map (·.2) = assign e X.env :: (assignEach es X.env).map (·.2) := by rfl) : GsW X (e :: es) (d :: ds) Γ P := by
  intro A F H σ vs fm r Q q
  refine ⟨_, pgs_cons pg_top pgs_top hs, ?_⟩
  cases r with
  | cons r1 r2 =>
    refine ⟨_, _, rfl, ?_⟩
    exact h A F H σ _ fm r1 _ fun Γ1 F1 H1 σ1 h1 f1 fm1 => h1 A F1 H1 σ1 _ fm1 (r2.ex f1) Q fun Γ2 F2 H2 σ2 h2 f2 fm2 => q Γ2 F2 H2 σ2 h2 (f1.trans f2) fm2
theorem gw_tup {k : Nat} {ds : List D} (hc : X.calm = true) (hl : ds.length = es.length) (h : GsW X es ds Γ P) (hn : (assignEach es X.env).length = es.length := by rfl) (hst : (assignEach es X.env).findIdx? (·.1) = none := by rfl) : GW X (.Tuple es k pos) (.dat (.tup ds)) Γ P := by
  intro A F H σ v fm ok Q q
  refine ⟨_, pg_tup (n := es.length) hc pgs_top hn hst, ?_⟩
  cases ok with
  | tup e r => exact ⟨_, _, rfl, .inl (.inl (fm.fh _ _ e)), by rw [← r.len]; exact hl, h A F H σ _ fm r Q q⟩
theorem stp_triv {σ : L2.St} {F H : Hp} : Stp σ Γ Γ F H00 F H := ⟨Ex.refl _, fun _ _ h => (nomatch h), fun _ _ h => (nomatch h), fun _ _ => rfl, Sim.refl _, fun _ _ h => .inl h⟩
/-- o[i] = a value, o an own list -/
theorem gw_sub {d : Dv} {t : D} (hd : datOf d = some t) (h : EW X a Γ fun x Γ1 => plc x = true ∧ EW X b Γ1 fun y Γ2 => ∃ k j ds, y = .dat (.int k) ∧ Lst Γ2 x ds ∧ ixN ds.length k = some j ∧ P (setC Γ2 x (.lst (ds.set j t))))
    (ha : ∀ v, assign (.Subscript a b pos) X.env v = (do
      let ov ← holding [v] (eval a X.env)
      let iv ← holding [v, ov] (eval b X.env)
      standAt pos
      holding [v, ov, iv] (setItem ov iv v)
      release [v, ov, iv] []) := by intro _; rfl) : GW X (.Subscript a b pos) d Γ P := by
  intro A F H σ v fm ok Q q
  refine ⟨_, pg_sub pe_top pe_top set_list ha, ?_⟩
  show EV X a σ H fun o H1 => EV X b σ H1 fun i H2 => rSetL o i v H2 fun H3 => Q σ H3
  obtain ⟨F0, _, fm0, s0, r0⟩ := freeze1 ok fm stp_triv hd
  refine h.run (Fs := F0) (Hs := H) (Γs := Γ) fm0 Stp.refl fun x Γ1 vx F1 H1 hx s1 _ fm1 ox => ?_
  obtain ⟨hpl, h2⟩ := hx
  refine h2.run fm1 s1 fun y Γ2 vy F2 H2 hy s2 s12 fm2 oy => ?_
  obtain ⟨k, j, ds, rfl, hl, hj, hp⟩ := hy
  have ox2 := VOk.stp ox s12
  obtain ⟨l, xs, rfl, g, r⟩ := ox2.lst fm2 hl
  cases Rep.int_eq oy
  obtain ⟨w1, w2⟩ := ox2.write fm2 (Con1.lst hl hpl) (plc_new hpl) (c' := .lst (ds.set j t)) (o := .lst (xs.set j v)) (r.set (r0.ex s2.f) j)
  exact ⟨l, xs, k, j, rfl, rfl, g, by rw [← r.len]; exact hj, q _ F2 _ σ hp (s0.f.trans s2.f) w1⟩
end

/-! ### statements -/
/-- an exception: its class, its one attribute if it has one -/
structure Xn where
  cls : Value
  fs : Option (Str × VY.D) := none
def XnAt (K : PySem.W.Frag) (F H : Hp) (x : Xn) (cls : Value) (d : Option Addr) : Prop := x.cls = cls ∧ match x.fs with
  | none => True
  | some (f, e) => ∃ da v, d = some da ∧ H da = some (.xd [(f, v)]) ∧ Rep K F e v
structure PEnds where
  nx : List Dsc → Prop
  rt : Dv → List Dsc → Prop
  bk : List Dsc → Prop := fun _ => False
  ct : List Dsc → Prop := fun _ => False
  ex : Xn → List Dsc → Prop := fun _ _ => False
structure EndsOk (X : Cx) (A : Ac) (F : Hp) (D : PEnds) (E : Ends) : Prop where
  nx : ∀ Γ' F' H' σ', D.nx Γ' → Ex F F' → Fm X.K A F' H' σ' Γ' → E.nx σ' H'
  rt : ∀ d Γ' v F' H' σ', D.rt d Γ' → Ex F F' → Fm X.K A F' H' σ' Γ' → VOk X.K A H00 F' H' σ' Γ' d v → E.rt v H'
  bk : ∀ Γ' F' H' σ', D.bk Γ' → Ex F F' → Fm X.K A F' H' σ' Γ' → E.bk σ' H'
  ct : ∀ Γ' F' H' σ', D.ct Γ' → Ex F F' → Fm X.K A F' H' σ' Γ' → E.ct σ' H'
  ex : ∃ W, Takes X W ∧ ∀ x Γ' F' H' σ' cls d, D.ex x Γ' → Ex F F' → Fm X.K A F' H' σ' Γ' → XnAt X.K F' H' x cls d → W cls d σ' H'
theorem EndsOk.on {X : Cx} {A : Ac} {F F1 : Hp} {D : PEnds} {E : Ends} (e : EndsOk X A F D E) (f : Ex F F1) : EndsOk X A F1 D E :=
  ⟨fun a b c d h g => e.nx a b c d h (f.trans g), fun a b c d g k h z => e.rt a b c d g k h (f.trans z), fun a b c d h g => e.bk a b c d h (f.trans g), fun a b c d h g => e.ct a b c d h (f.trans g), by
    obtain ⟨W, tk, h⟩ := e.ex
    exact ⟨W, tk, fun x a b c d cl dd p g => h x a b c d cl dd p (f.trans g)⟩⟩
def SV (X : Cx) (st : Stmt) : TS := fun D σ H => ∃ t, PS X st t ∧ t D σ H
theorem ps_top {X : Cx} {st : Stmt} : PS X st (SV X st) := ⟨fun pins s σ H D I ⟨_, h, q⟩ => h.run pins s σ H D I q⟩
def SsV (X : Cx) (st : List Stmt) : TS := fun D σ H => ∃ t, PSs X st t ∧ t D σ H
theorem pss_top {X : Cx} {st : List Stmt} : PSs X st (SsV X st) := ⟨fun pins s σ H D I ⟨_, h, q⟩ => h.run pins s σ H D I q⟩
def SW (X : Cx) (st : Stmt) (Γ : List Dsc) (D : PEnds) : Prop := ∀ A F H σ, Fm X.K A F H σ Γ → ∀ E, EndsOk X A F D E → SV X st E σ H
def SsW (X : Cx) (st : List Stmt) (Γ : List Dsc) (D : PEnds) : Prop := ∀ A F H σ, Fm X.K A F H σ Γ → ∀ E, EndsOk X A F D E → SsV X st E σ H
section
variable {X : Cx} {Γ : List Dsc} {a b c e o tg iter : Expr} {es : List Expr} {pos p pos' : Pos} {x : Str} {D : PEnds} {st : Stmt} {rest s1 s2 : List Stmt}
theorem ssw_nil (h : D.nx Γ) : SsW X [] Γ D := fun A F H σ fm E e => ⟨_, pss_nil, e.nx Γ F H σ h (Ex.refl _) fm⟩
theorem ssw_cons (h : SW X st Γ { D with nx := fun Γ1 => SsW X rest Γ1 D }) : SsW X (st :: rest) Γ D := by
  intro A F H σ fm E e
  refine ⟨_, pss_cons ps_top pss_top, ?_⟩
  show SV X st { E with nx := SsV X rest E } σ H
  exact h A F H σ fm _ ⟨fun Γ' F' H' σ' p f fm' => p A F' H' σ' fm' E (e.on f), e.rt, e.bk, e.ct, e.ex⟩
theorem ssw_one (h : SW X st Γ D) : SsW X [st] Γ D := fun A F H σ fm E e => ⟨_, pss_one ps_top, h A F H σ fm E e⟩
theorem sw_expr (h : EW X e Γ fun _ Γ1 => D.nx Γ1) (hs : swapsWith e none pos.line X.env = pure false := by rfl) : SW X (.Expr e pos) Γ D := by
  intro A F H σ fm E k
  refine ⟨_, ps_expr pe_top hs, ?_⟩
  show EV X e σ H fun _ H1 => E.nx σ H1
  exact h.run fm Stp.refl fun d Γ' v F' H' p s _ fm' _ => k.nx Γ' F' H' σ p s.f fm'
theorem sw_ret (h : EW X e Γ D.rt) : SW X (.Return (some e) pos) Γ D := by
  intro A F H σ fm E k
  refine ⟨_, ps_ret pe_top, ?_⟩
  show EV X e σ H E.rt
  exact h.run fm Stp.refl fun d Γ' v F' H' p s _ fm' ok => k.rt d Γ' v F' H' σ p s.f fm' (ok.back fun _ _ => rfl)
theorem sw_if (h : TW X c Γ fun k Γ1 => (k = true → SsW X s1 Γ1 D) ∧ (k = false → SsW X s2 Γ1 D)) : SW X (.If c s1 s2 pos) Γ D := by
  intro A F H σ fm E k
  refine ⟨_, ps_if pt_top pss_top pss_top, ?_⟩
  show TV X c σ H fun b H1 => if b = true then SsV X s1 E σ H1 else SsV X s2 E σ H1
  refine h.run fm Stp.refl fun b Γ' F' H' p s _ fm' => ?_
  cases b with
  | true => rw [if_pos rfl]; exact p.1 rfl A F' H' σ fm' E (k.on s.f)
  | false => rw [if_neg Bool.false_ne_true]; exact p.2 rfl A F' H' σ fm' E (k.on s.f)
/-- x = e -/
theorem sw_set (i : Nat) (hN : X.N.Nodup) (h : EW X e Γ fun d Γ1 => ∃ s, dscOf d = some s ∧ canSet Γ1 i = true ∧ D.nx (Γ1.set i s)) (hi : X.N[i]? = some x := by rfl) (hx : Loc X.env.scope x := by first | exact .inl rfl | exact .inr rfl)
    (hs : swapsWith e (some (.Name x pos')) pos.line X.env = pure false := by rfl) (hf : X.fn x = true ∨ X.env.scope.names.lookup x = some .local := by first | exact .inl rfl | exact .inr rfl) : SW X (.Assign [.Name x pos'] e pos) Γ D := by
  intro A F H σ fm E k
  refine ⟨_, ps_set hN hi hx pe_top hs hf, ?_⟩
  show EV X e σ H fun v H1 => E.nx (σ.set i (some v)) H1
  refine h.run fm Stp.refl fun d Γ' v F' H' p s _ fm' ok => ?_
  obtain ⟨z, h1, h2, h3⟩ := p
  exact k.nx _ F' H' _ h3 s.f (setDv fm' ok h1 h2)
/-- a target of any form = e -/
theorem sw_asg (h : EW X e Γ fun d Γ1 => GW X tg d Γ1 D.nx) (hs : swapsWithSole [tg] e pos.line X.env = pure false := by rfl) (hw : swappedStores [tg] e X.env = pure none := by rfl)
    (h1 : (assignEach [tg] X.env).map (·.2) = [assign tg X.env] := by rfl) : SW X (.Assign [tg] e pos) Γ D := by
  intro A F H σ fm E k
  refine ⟨_, ps_asg pe_top pg_top hs hw h1, ?_⟩
  show EV X e σ H fun x H1 => GV X tg x σ H1 E.nx
  refine h.run fm Stp.refl fun d Γ' v F' H' p s _ fm' ok => ?_
  exact p A F' H' σ v fm' (ok.back fun _ _ => rfl) _ fun Γ2 F2 H2 σ2 h2 f2 fm2 => k.nx Γ2 F2 H2 σ2 h2 (s.f.trans f2) fm2
/-- x, y = a, b stored without a tuple -/
theorem sw_par (i j : Nat) {x y : Str} {px py pt : Pos} {kt k2 : Nat} {pt2 : Pos} (hc : X.calm = true) (hN : X.N.Nodup)
    (h : EW X a Γ fun d Γ1 => EW X b Γ1 fun d2 Γ2 => ∃ s t, dscOf d = some s ∧ dscOf d2 = some t ∧ canSet Γ2 i = true ∧ canSet (Γ2.set i s) j = true ∧ D.nx ((Γ2.set i s).set j t))
    (hw : swappedStores [.Tuple [.Name x px, .Name y py] kt pt] (.Tuple [a, b] k2 pt2) X.env = pure (some [x, y]) := by rfl)
    (hij : i ≠ j := by decide) (hi : X.N[i]? = some x := by rfl) (hj : X.N[j]? = some y := by rfl) (hx : X.env.scope.names.lookup x = some .local := by rfl) (hy : X.env.scope.names.lookup y = some .local := by rfl)
    (hs : swapsWithSole [.Tuple [.Name x px, .Name y py] kt pt] (.Tuple [a, b] k2 pt2) pos.line X.env = pure false := by rfl)
    (he : starEach [a, b] X.env = (false, eval a X.env) :: starEach [b] X.env := by rfl) (he2 : starEach [b] X.env = (false, eval b X.env) :: starEach [] X.env := by rfl) :
    SW X (.Assign [.Tuple [.Name x px, .Name y py] kt pt] (.Tuple [a, b] k2 pt2) pos) Γ D := by
  intro A F H σ fm E k
  refine ⟨_, ps_par hc hN hi hj hij hx hy (pa_cons pe_top (pa_cons pe_top pa_nil he2) he) hw hs, ?_⟩
  show EV X a σ H fun v H1 => EV X b σ H1 fun w H2 => ∃ v' w', [v, w] = [v', w'] ∧ E.nx ((σ.set i (some v')).set j (some w')) H2
  refine h.run fm Stp.refl fun d Γ1 v F1 H1 p s1 _ fm1 ok1 => ?_
  refine p A F1 H1 σ fm1 _ fun d2 Γ2 w F2 H2 p2 s12 fm2 ok2 => ?_
  obtain ⟨s, t, e1, e2, c1, c2, hp⟩ := p2
  have ok1' := VOk.stp ok1 s12
  refine ⟨v, w, rfl, k.nx _ F2 H2 _ hp ((s1.trans s12).f) ?_⟩
  have fm3 := setDv fm2 ok1' e1 c1
  cases d2 with
  | dat z => cases e2; exact fm3.setDat c2 ok2
  | new t2 =>
    cases e2
    obtain ⟨q, rfl, l, no⟩ := ok2
    refine fm3.setOwn c2 l (fun b m => (no b m).1) fun b m n hn z => ?_
    obtain ⟨a', es, z1, z2, m2⟩ := z
    by_cases hmi : i = n
    · subst hmi
      cases d with
      | dat d =>
        cases e1
        rw [List.getElem?_set_self (canSet_lt c1).1] at z2
        rcases z2 with z2 | z2 <;> cases z2
      | new t1 =>
        cases e1
        obtain ⟨q1, rfl, l1, _⟩ := ok1
        rw [List.getElem?_set_self (by rw [fm2.len]; exact (canSet_lt c1).1)] at z1
        rw [List.getElem?_set_self (canSet_lt c1).1] at z2
        cases z1
        rcases z2 with z2 | z2 <;> cases z2
        obtain ⟨⟨o, g⟩, _⟩ := l1.there m2
        rw [(no b m).2.2] at g; cases g
      | loc m => cases e1
      | fld _ _ _ => cases e1
    · rw [List.getElem?_set_ne hmi] at z1 z2
      exact (no b m).2.1 ⟨n, a', es, z1, z2, m2⟩
  | loc m => cases e2
  | fld _ _ _ => cases e2
/-- x, y, z = a, b, c: the first two data -/
theorem sw_par3 (i j l : Nat) {x y z : Str} {px py pz pt : Pos} {kt k2 : Nat} {pt2 : Pos} (hc : X.calm = true) (hN : X.N.Nodup)
    (h : EW X a Γ fun d Γ1 => EW X b Γ1 fun d2 Γ2 => EW X c Γ2 fun d3 Γ3 => ∃ s t u, d = .dat s ∧ d2 = .dat t ∧ dscOf d3 = some u ∧ canSet Γ3 i = true ∧ canSet (Γ3.set i (.dat s)) j = true ∧ canSet ((Γ3.set i (.dat s)).set j (.dat t)) l = true ∧ D.nx (((Γ3.set i (.dat s)).set j (.dat t)).set l u))
    (hw : swappedStores [.Tuple [.Name x px, .Name y py, .Name z pz] kt pt] (.Tuple [a, b, c] k2 pt2) X.env = pure (some [x, y, z]) := by rfl)
    (hij : i ≠ j := by decide) (hil : i ≠ l := by decide) (hjl : j ≠ l := by decide) (hi : X.N[i]? = some x := by rfl) (hj : X.N[j]? = some y := by rfl) (hl : X.N[l]? = some z := by rfl) (hx : X.env.scope.names.lookup x = some .local := by rfl) (hy : X.env.scope.names.lookup y = some .local := by rfl) (hz : X.env.scope.names.lookup z = some .local := by rfl)
    (hs : swapsWithSole [.Tuple [.Name x px, .Name y py, .Name z pz] kt pt] (.Tuple [a, b, c] k2 pt2) pos.line X.env = pure false := by rfl)
    (he : starEach [a, b, c] X.env = (false, eval a X.env) :: starEach [b, c] X.env := by rfl) (he2 : starEach [b, c] X.env = (false, eval b X.env) :: starEach [c] X.env := by rfl) (he3 : starEach [c] X.env = (false, eval c X.env) :: starEach [] X.env := by rfl) :
    SW X (.Assign [.Tuple [.Name x px, .Name y py, .Name z pz] kt pt] (.Tuple [a, b, c] k2 pt2) pos) Γ D := by
  intro A F H σ fm E k
  refine ⟨_, ps_par3 hc hN hi hj hl hij hil hjl hx hy hz (pa_cons pe_top (pa_cons pe_top (pa_cons pe_top pa_nil he3) he2) he) hw hs, ?_⟩
  show EV X a σ H fun v H1 => EV X b σ H1 fun w H2 => EV X c σ H2 fun u H3 => ∃ v' w' u', [v, w, u] = [v', w', u'] ∧ E.nx (((σ.set i (some v')).set j (some w')).set l (some u')) H3
  refine h.run fm Stp.refl fun d Γ1 v F1 H1 p s1 _ fm1 ok1 => ?_
  refine p.run fm1 s1 fun d2 Γ2 w F2 H2 p2 s2 s12 fm2 ok2 => ?_
  refine p2.run fm2 s2 fun d3 Γ3 u F3 H3 p3 s3 s23 fm3 ok3 => ?_
  obtain ⟨s, t, r, rfl, rfl, e3, c1, c2, c3, hp⟩ := p3
  have o1 := (VOk.stp ok1 s12).stp s23
  have o2 := VOk.stp ok2 s23
  refine ⟨v, w, u, rfl, k.nx _ F3 H3 _ hp s3.f ?_⟩
  have fm4 := (fm3.setDat c1 o1).setDat c2 o2
  cases d3 with
  | dat z => cases e3; exact fm4.setDat c3 ok3
  | new t3 =>
    cases e3
    obtain ⟨q, rfl, ll, no⟩ := ok3
    refine fm4.setOwn c3 ll (fun b m => (no b m).1) fun b m n hn z => ?_
    obtain ⟨a', es, z1, z2, m2⟩ := z
    have nl : Nl ((Γ3.set i (.dat s)).set j (.dat t)) i := nl_set (fun ds => by
      rw [List.getElem?_set_self (canSet_lt c1).1]
      exact ⟨fun q => (nomatch q), fun q => (nomatch q)⟩) (.inr ⟨_, rfl⟩)
    by_cases hmj : j = n
    · subst hmj
      rw [List.getElem?_set_self (canSet_lt c2).1] at z2
      rcases z2 with z2 | z2 <;> cases z2
    · by_cases hmi : i = n
      · subst hmi
        rcases z2 with z2 | z2
        · exact (nl es).1 z2
        · exact (nl es).2 z2
      · rw [List.getElem?_set_ne hmj, List.getElem?_set_ne hmi] at z1 z2
        exact (no b m).2.1 ⟨n, a', es, z1, z2, m2⟩
  | loc m => cases e3
  | fld _ _ _ => cases e3
/-- x += e, ints -/
theorem sw_aug (i : Nat) {n : Int} (hN : X.N.Nodup) (hx0 : Γ[i]? = some (.dat (.int n))) (h : EW X e Γ fun d Γ1 => ∃ m, d = .dat (.int m) ∧ canSet Γ1 i = true ∧ D.nx (Γ1.set i (.dat (.int (n + m))))) (hi : X.N[i]? = some x := by rfl) (hx : Loc X.env.scope x := by first | exact .inl rfl | exact .inr rfl)
    (hf : X.fn x = true ∨ X.env.scope.names.lookup x = some .local := by first | exact .inl rfl | exact .inr rfl) : SW X (.AugAssign (.Name x pos') .Add e pos) Γ D := by
  intro A F H σ fm E k
  refine ⟨_, ps_aug hN hi hx pe_top ip_add hf, ?_⟩
  obtain ⟨v0, e0, r0⟩ := fm.dat i _ hx0
  cases Rep.int_eq r0
  refine ⟨_, e0, ?_⟩
  show EV X e σ H fun y H1 => ∃ i' j, V.int n = .int i' ∧ y = .int j ∧ E.nx (σ.set i (some (.int (i' + j)))) H1
  refine h.run fm Stp.refl fun d Γ' v F' H' p s _ fm' ok => ?_
  obtain ⟨m, rfl, c, hp⟩ := p
  cases Rep.int_eq ok
  exact ⟨n, m, rfl, rfl, k.nx _ F' H' _ hp s.f (fm'.setDat c (.int _))⟩
/-- a local list becomes data -/
theorem ssw_freeze (i : Nat) {ds : List VY.D} (h : Γ[i]? = some (.own (.l ds))) (k : SsW X rest (Γ.set i (.dat (.lst ds))) D) : SsW X rest Γ D := by
  intro A F H σ fm E e
  obtain ⟨a, e1, ⟨⟨xs, g, r⟩, z⟩, h0⟩ := fm.own i _ h
  have hlt : i < Γ.length := (List.getElem?_eq_some_iff.mp h).1
  have c : canSet Γ i = true := by unfold canSet; rw [h]
  have fm1 := fm.setUn (v := none) c
  have no1 : ¬ Own (σ.set i none) (Γ.set i .un) a := fun ⟨j, a', es, z1, z2, m⟩ => by
    by_cases hj : i = j
    · subst hj
      rw [List.getElem?_set_self hlt] at z2
      rcases z2 with z2 | z2 <;> cases z2
    · rw [List.getElem?_set_ne hj] at z1 z2
      exact hj (fm.dj i j a ⟨a, _, e1, .inl h, root_mem⟩ ⟨a', es, z1, z2, m⟩)
  have fm2 := fm1.freeze g z no1 (h0 a root_mem)
  have c2 : canSet (Γ.set i .un) i = true := by unfold canSet; rw [List.getElem?_set_self hlt]
  have fm3 := fm2.setDat (d := .lst ds) (v := .ref a) c2 (.lst upd_same (r.ex (Ex.new z)))
  rw [List.set_set, List.set_set] at fm3
  have e4 : σ.set i (some (.ref a)) = σ := by
    refine List.ext_getElem? fun j => ?_
    by_cases hj : i = j
    · subst hj
      rw [List.getElem?_set_self (by rw [fm.len]; exact hlt), e1]
    · rw [List.getElem?_set_ne hj]
  rw [e4] at fm3
  exact k A _ H σ fm3 E (e.on (Ex.new z))
theorem sw_for (hc : X.calm = true) (hp : PassesOwn (model X.prog X.w) X.A X.env X.xe)
    (h : IW X tg iter Γ fun ds Γ1 => ∃ J : Nat → List Dsc → Prop, J 0 Γ1 ∧ (∀ i d Γ2, ds[i]? = some d → J i Γ2 → GW X tg (.dat d) Γ2 fun Γ3 => SsW X rest Γ3 { D with nx := J (i + 1), ct := J (i + 1), bk := D.nx }) ∧ ∀ Γ2, J ds.length Γ2 → D.nx Γ2)
    (hs : ∀ x, foldedSetIterable iter X.env x = pure x := by intro _; rfl) : SW X (.For tg iter rest [] pos) Γ D := by
  intro A F H σ fm E k
  refine ⟨_, ps_for hp hc pi_top pg_top pss_top hs, ?_⟩
  refine h A F H σ fm _ fun I ds Γ1 F1 H1 hp s1 fm1 its => ?_
  obtain ⟨J, hJ0, hJs, hJd⟩ := hp
  obtain ⟨G, Y, w, hG, hY⟩ := its.ex
  refine ⟨fun i m σc Hc => m = ds.length - i ∧ i ≤ ds.length ∧ ∃ Fc Γ2, J i Γ2 ∧ Fm X.K A Fc Hc σc Γ2 ∧ Ex F1 Fc, ⟨ds.length, by rw [Nat.sub_zero], Nat.zero_le _, F1, Γ1, hJ0, fm1, Ex.refl _⟩, ?_⟩
  rintro i m σc Hc ⟨rfl, hi, Fc, Γ2, hJ, fmc, f1c⟩
  have hGc := hG Fc Hc f1c fmc.fh
  have fc := s1.f.trans f1c
  by_cases hlt : i < ds.length
  · refine .inr ⟨w.goes i Hc hlt hGc, fun σn Hn => ∃ Fc Γ2, J (i + 1) Γ2 ∧ Fm X.K A Fc Hn σn Γ2 ∧ Ex F1 Fc, fun σn Hn hn => ⟨ds.length - (i + 1), by omega, rfl, hlt, hn⟩, fun x Hy hy => ?_⟩
    obtain ⟨d, hd, yl⟩ := hY i Hc x Hy Fc hlt f1c fmc.fh (w.yields i Hc x Hy hlt hGc hy)
    have key : ∃ Fy, Fm X.K A Fy Hy σc Γ2 ∧ Ex Fc Fy ∧ Rep X.K Fy d x := by
      rcases yl with ⟨rfl, r⟩ | ⟨T, xs, es, rfl, nT, rfl, rfl, r⟩
      · exact ⟨Fc, fmc, Ex.refl _, r⟩
      · exact ⟨L2.upd Fc T (.tup xs), fmc.allocF nT, Ex.new (fmc.fnone nT), .tup upd_same (r.ex (Ex.new (fmc.fnone nT)))⟩
    obtain ⟨Fy, fmy, fy, rx⟩ := key
    refine hJs i d Γ2 hd hJ A Fy Hy σc x fmy rx _ fun Γ3 F3 H3 σ3 hb f3 fm3 => ?_
    have fall := (f1c.trans fy).trans f3
    exact hb A F3 H3 σ3 fm3 _ ⟨fun Γ' F' H' σ' p f fm' => ⟨F', Γ', p, fm', fall.trans f⟩, fun d Γ' v F' H' σ' p f fm' ok => k.rt d Γ' v F' H' σ' p ((s1.f.trans fall).trans f) fm' ok,
      fun Γ' F' H' σ' p f fm' => k.nx Γ' F' H' σ' p ((s1.f.trans fall).trans f) fm', fun Γ' F' H' σ' p f fm' => ⟨F', Γ', p, fm', fall.trans f⟩, (k.on (s1.f.trans fall)).ex⟩
  · have e : i = ds.length := by omega
    subst e
    exact .inl ⟨w.stops Hc hGc, k.nx Γ2 Fc Hc σc (hJd Γ2 hJ) fc fmc⟩
/-- x = [..] on one line, x a local -/
theorem sw_setLc {y : Str} {py spos : Pos} {elt : Expr} {ifs : List Expr} {scope : Scope} (i : Nat) (sh : Shp) (own : List (Str × Nat)) (hc : X.calm = true) (hN : X.N.Nodup) (ok : BlkOk X.N X.env.scope scope own) (hsh : ∀ j ∈ sh.js, j ∈ own.map (·.2)) (hg : inBlk X scope fun Y => PG Y tg (sh.rd X.K))
    (hsw : swapsWith (.ListComp elt [⟨tg, iter, ifs, 0⟩] scope pos) (some (.Name y py)) spos.line X.env = pure true)
    (h : IW X tg iter Γ fun ds Γ1 => ds.length < 1000000 ∧ ∃ J : Nat → List VY.D → List Dsc → Prop, J 0 [] Γ1 ∧ (∀ i d acc Γ2, ds[i]? = some d → J i acc Γ2 → acc.length ≤ i → (∀ v ∈ own.map (·.2), canSet Γ2 v = true) ∧ ∃ es, sh.parts d = some es ∧
        inBlk X scope fun Y => TsW Y ifs (setsG (wipeG Γ2 (own.map (·.2))) sh.js es) fun k Γ4 => (k = true → inBlk X scope fun Y => EW Y elt Γ4 fun y Γ5 => ∃ d', datOf y = some d' ∧ J (i + 1) (acc ++ [d']) (mergeG (own.map (·.2)) Γ2 Γ5)) ∧ (k = false → J (i + 1) acc (mergeG (own.map (·.2)) Γ2 Γ4))) ∧
        ∀ acc Γ2, J ds.length acc Γ2 → canSet Γ2 i = true ∧ D.nx (Γ2.set i (.own (.l acc))))
    (hi : X.N[i]? = some y := by rfl) (hyl : X.env.scope.names.lookup y = some .local := by rfl) (hs : ∀ x, foldedSetIterable iter X.env x = pure x := by intro _; rfl) : SW X (.Assign [.Name y py] (.ListComp elt [⟨tg, iter, ifs, 0⟩] scope pos) spos) Γ D := by
  intro A F H σ fm E k
  refine ⟨_, ps_setLc (own := own) (tt := BTs X scope ifs) (te := BE X scope elt) hc hN hi hyl hsw pi_top ok hg
    (fun s H C cl fp => ⟨fun pins s' σ H' Q I hq => pts_top.run pins s' σ H' Q I (hq s H C cl fp)⟩) (fun s H C cl fp => ⟨fun pins s' σ H' Q I hq => pe_top.run pins s' σ H' Q I (hq s H C cl fp)⟩) hs, ?_⟩
  refine lc_read (P := fun d Γ2 => ∃ acc, d = .new (.l acc) ∧ canSet Γ2 i = true ∧ D.nx (Γ2.set i (.own (.l acc)))) sh hsh (fun A F H σ fm R q => h A F H σ fm R fun J ds Γ' F' H' ⟨h1, JJ, h2, h3, h4⟩ => q J ds Γ' F' H' ⟨h1, JJ, h2, h3, fun acc Γ2 z => ⟨acc, rfl, h4 acc Γ2 z⟩⟩) A F H σ fm _ fun d Γ' v F' H' p s fm' ok => ?_
  obtain ⟨acc, rfl, c, hn⟩ := p
  exact k.nx _ F' H' _ hn s.f (setDv fm' ok rfl c)
end
end VY

/-! VY: what a def promises, its proof, its call; methods, objects made, exceptions let out. -/
namespace VY
open PySem PySem.Spec PyProof.Rows L2

inductive Ag where
  | dat (d : D) | io (t : T)
abbrev Spc := List Ag → (Dv → List T → Prop) → Prop
abbrev SpX := List Ag → (Dv → List T → Prop) → (Xn → List T → Prop) → Prop
inductive ArgsOk (K : PySem.W.Frag) (F H : Hp) : List Ag → List V → Prop
  | nil : ArgsOk K F H [] []
  | dat {d : D} {v : V} {as : List Ag} {vs : List V} : Rep K F d v → ArgsOk K F H as vs → ArgsOk K F H (.dat d :: as) (v :: vs)
  | io {t : T} {a : Addr} {as : List Ag} {vs : List V} : TAt K F H a t → ArgsOk K F H as vs → ArgsOk K F H (.io t :: as) (.ref a :: vs)
/-- the places of the things that are handed in -/
def ioK : Nat → List Ag → List Nat
  | _, [] => []
  | n, .dat _ :: as => ioK (n + 1) as
  | n, .io _ :: as => n :: ioK (n + 1) as
def rootOf (vs : List V) (k : Nat) : Addr := match vs[k]? with
  | some (.ref a) => a
  | _ => 0
def treeOf (as : List Ag) (k : Nat) : T := match as[k]? with
  | some (.io t) => t
  | _ => .l []
abbrev Zt := Addr × T
def zsOf (as : List Ag) (vs : List V) : List Zt := (ioK 0 as).map fun k => (rootOf vs k, treeOf as k)
def zA (z : Zt) : List Addr := tAddrs z.1 z.2
def DjZ (zs : List Zt) : Prop := ∀ (m n : Nat) (z u : Zt) (b : Addr), zs[m]? = some z → zs[n]? = some u → b ∈ zA z → b ∈ zA u → m = n
structure PostOk (K : PySem.W.Frag) (F H : Hp) (zs : List Zt) (F' H' : Hp) (ts : List T) : Prop where
  f : Ex F F'
  fh : Ex F' H'
  n : ∀ b o, H b = some o → F b = none → F' b = none
  k : ∀ b o, H b = some o → (∀ z ∈ zs, b ∉ zA z) → H' b = some o
  g : ∀ b, H' b = none → H b = none
  outs : Paired (fun (z : Zt) (t : T) => TAt K F' H' z.1 t ∧ ∀ b ∈ tAddrs z.1 t, b ∈ zA z ∨ H b = none) zs ts
  dj : ∀ (m n : Nat) (z u : Zt) (t s : T) (b : Addr), zs[m]? = some z → ts[m]? = some t → zs[n]? = some u → ts[n]? = some s → b ∈ tAddrs z.1 t → b ∈ tAddrs u.1 s → m = n
def RtOk (K : PySem.W.Frag) (F' H' H : Hp) (zs : List Zt) (os : List T) : Dv → V → Prop
  | .dat d, v => Rep K F' d v
  | .new t, v => ∃ a, v = .ref a ∧ TAt K F' H' a t ∧ ∀ b ∈ tAddrs a t, H b = none ∧ ∀ (m : Nat) z s, zs[m]? = some z → os[m]? = some s → b ∉ tAddrs z.1 s
  | _, _ => False
def spX (K : PySem.W.Frag) (S : SpX) : Sp := fun vs H Q E => ∃ F as P PX, Ex F H ∧ ArgsOk K F H as vs ∧ DjZ (zsOf as vs) ∧ S as P PX ∧
  (∀ r outs v F' H', P r outs → PostOk K F H (zsOf as vs) F' H' outs → RtOk K F' H' H (zsOf as vs) outs r v → Q v H') ∧
  ∀ x outs cls d F' H', PX x outs → PostOk K F H (zsOf as vs) F' H' outs → XnAt K F' H' x cls d → E cls d H'
def spW (K : PySem.W.Frag) (S : Spc) : Sp := fun vs H Q _ => ∃ F as P, Ex F H ∧ ArgsOk K F H as vs ∧ DjZ (zsOf as vs) ∧ S as P ∧
  ∀ r outs v F' H', P r outs → PostOk K F H (zsOf as vs) F' H' outs → RtOk K F' H' H (zsOf as vs) outs r v → Q v H'
section
variable {K : PySem.W.Frag} {F H : Hp}
theorem ArgsOk.len : ∀ {as : List Ag} {vs : List V}, ArgsOk K F H as vs → as.length = vs.length
  | _, _, .nil => rfl
  | _, _, .dat _ t => congrArg (· + 1) t.len
  | _, _, .io _ t => congrArg (· + 1) t.len
def agD : Ag → Dsc
  | .dat d => .dat d
  | .io ds => .io ds
/-- the slots at the entry -/
def G0 (N : List Str) (as : List Ag) : List Dsc := as.map agD ++ List.replicate (N.length - as.length) .un
def slotT (Γ : List Dsc) (k : Nat) : T := match Γ[k]? with
  | some (.io t) => t
  | _ => .l []
/-- what the things handed in are at the end -/
def outsG (Γ : List Dsc) (as : List Ag) : List T := (ioK 0 as).map (slotT Γ)
def retOf (Γ : List Dsc) : Dv → Option Dv
  | .loc i => match Γ[i]? with
    | some (.own ds) => some (.new ds)
    | _ => none
  | .fld _ _ _ => none
  | d => some d
theorem ioK_mem : ∀ {as : List Ag} {n k : Nat}, k ∈ ioK n as ↔ n ≤ k ∧ ∃ t, as[k - n]? = some (.io t)
  | [], n, k => by unfold ioK; simp
  | .dat d :: as, n, k => by
    unfold ioK
    rw [ioK_mem]
    constructor
    · rintro ⟨h1, t, h2⟩
      exact ⟨by omega, t, by rw [show k - n = (k - (n + 1)) + 1 by omega, List.getElem?_cons_succ]; exact h2⟩
    · rintro ⟨h1, t, h2⟩
      by_cases e : k = n
      · subst e; rw [Nat.sub_self] at h2; simp at h2
      · exact ⟨by omega, t, by rw [show k - n = (k - (n + 1)) + 1 by omega, List.getElem?_cons_succ] at h2; exact h2⟩
  | .io s :: as, n, k => by
    unfold ioK
    rw [List.mem_cons, ioK_mem]
    constructor
    · rintro (rfl | ⟨h1, t, h2⟩)
      · exact ⟨Nat.le_refl _, s, by rw [Nat.sub_self]; rfl⟩
      · exact ⟨by omega, t, by rw [show k - n = (k - (n + 1)) + 1 by omega, List.getElem?_cons_succ]; exact h2⟩
    · rintro ⟨h1, t, h2⟩
      by_cases e : k = n
      · exact .inl e
      · exact .inr ⟨by omega, t, by rw [show k - n = (k - (n + 1)) + 1 by omega, List.getElem?_cons_succ] at h2; exact h2⟩
theorem ioK_nodup : ∀ {as : List Ag} {n : Nat}, (ioK n as).Nodup
  | [], n => by unfold ioK; exact List.nodup_nil
  | .dat d :: as, n => by unfold ioK; exact ioK_nodup
  | .io s :: as, n => by
    unfold ioK
    exact List.nodup_cons.mpr ⟨fun h => by have := (ioK_mem.mp h).1; omega, ioK_nodup⟩
theorem ArgsOk.ioAt : ∀ {as : List Ag} {vs : List V} {i : Nat} {t : T}, ArgsOk K F H as vs → as[i]? = some (.io t) → ∃ a, vs[i]? = some (.ref a) ∧ TAt K F H a t
  | _, _, _, _, .nil, h => by simp at h
  | _, _, 0, d, .io r t, h => by simp at h; subst h; exact ⟨_, rfl, r⟩
  | _, _, 0, d, .dat l t, h => by simp at h
  | _, _, i + 1, d, .dat r t, h => by
    rw [List.getElem?_cons_succ] at h
    obtain ⟨v, h1, h2⟩ := ArgsOk.ioAt t h
    exact ⟨v, by rw [List.getElem?_cons_succ]; exact h1, h2⟩
  | _, _, i + 1, d, .io l t, h => by
    rw [List.getElem?_cons_succ] at h
    obtain ⟨v, h1, h2⟩ := ArgsOk.ioAt t h
    exact ⟨v, by rw [List.getElem?_cons_succ]; exact h1, h2⟩
theorem ArgsOk.datAt : ∀ {as : List Ag} {vs : List V} {i : Nat} {d : D}, ArgsOk K F H as vs → as[i]? = some (.dat d) → ∃ v, vs[i]? = some v ∧ Rep K F d v
  | _, _, _, _, .nil, h => by simp at h
  | _, _, 0, d, .dat r t, h => by simp at h; subst h; exact ⟨_, rfl, r⟩
  | _, _, 0, d, .io l t, h => by simp at h
  | _, _, i + 1, d, .dat r t, h => by
    rw [List.getElem?_cons_succ] at h
    obtain ⟨v, h1, h2⟩ := ArgsOk.datAt t h
    exact ⟨v, by rw [List.getElem?_cons_succ]; exact h1, h2⟩
  | _, _, i + 1, d, .io l t, h => by
    rw [List.getElem?_cons_succ] at h
    obtain ⟨v, h1, h2⟩ := ArgsOk.datAt t h
    exact ⟨v, by rw [List.getElem?_cons_succ]; exact h1, h2⟩
theorem rootOf_eq {vs : List V} {k : Nat} {a : Addr} (h : vs[k]? = some (.ref a)) : rootOf vs k = a := by unfold rootOf; rw [h]
theorem treeOf_eq {as : List Ag} {k : Nat} {t : T} (h : as[k]? = some (.io t)) : treeOf as k = t := by unfold treeOf; rw [h]
/-- the things handed in, by their places -/
theorem ArgsOk.atK {as : List Ag} {vs : List V} {k : Nat} (a : ArgsOk K F H as vs) (h : k ∈ ioK 0 as) : as[k]? = some (.io (treeOf as k)) ∧ vs[k]? = some (.ref (rootOf vs k)) ∧ TAt K F H (rootOf vs k) (treeOf as k) := by
  obtain ⟨_, t, e⟩ := ioK_mem.mp h
  rw [Nat.sub_zero] at e
  obtain ⟨r, e2, l⟩ := a.ioAt e
  rw [treeOf_eq e, rootOf_eq e2]
  exact ⟨e, e2, l⟩
theorem DjZ.inj {as : List Ag} {vs : List V} {j k : Nat} {b : Addr} (d : DjZ (zsOf as vs)) (hj : j ∈ ioK 0 as) (hk : k ∈ ioK 0 as) (h1 : b ∈ tAddrs (rootOf vs j) (treeOf as j)) (h2 : b ∈ tAddrs (rootOf vs k) (treeOf as k)) : j = k := by
  obtain ⟨m, hm⟩ := List.mem_iff_getElem?.mp hj
  obtain ⟨n, hn⟩ := List.mem_iff_getElem?.mp hk
  have e := d m n (rootOf vs j, treeOf as j) (rootOf vs k, treeOf as k) b (by unfold zsOf; rw [List.getElem?_map, hm]; rfl) (by unfold zsOf; rw [List.getElem?_map, hn]; rfl) h1 h2
  subst e
  rw [hm] at hn
  exact Option.some.inj hn
theorem G0_get {N : List Str} {as : List Ag} {i : Nat} : (G0 N as)[i]? = if i < as.length then as[i]?.map agD else if i < N.length then some .un else none := by
  unfold G0
  by_cases h : i < as.length
  · rw [if_pos h, List.getElem?_append_left (by rw [List.length_map]; exact h), List.getElem?_map]
  · rw [if_neg h, List.getElem?_append_right (by rw [List.length_map]; omega), List.length_map, List.getElem?_replicate]
    by_cases h2 : i < N.length
    · rw [if_pos h2, if_pos (by omega)]
    · rw [if_neg h2, if_neg (by omega)]
theorem start_get {N : List Str} {vs : List V} {i : Nat} (h : i < vs.length) : (L2.start N vs)[i]? = (vs[i]?).map some := by
  unfold L2.start
  rw [List.getElem?_append_left (by rw [List.length_map]; exact h), List.getElem?_map]
def psOf (as : List Ag) (vs : List V) : Nat → Addr → Prop := fun k b => k ∈ ioK 0 as ∧ b ∈ tAddrs (rootOf vs k) (treeOf as k)
def ioF (as : List Ag) (vs : List V) : Nat → Option Addr := fun k => if k ∈ ioK 0 as then some (rootOf vs k) else none
/-- the frame at a def's entry -/
theorem fm_start {N : List Str} {as : List Ag} {vs : List V} (f : Ex F H) (a : ArgsOk K F H as vs) (nd : DjZ (zsOf as vs)) (hl : as.length ≤ N.length) : Fm K ⟨ioF as vs, psOf as vs, H, F⟩ F H (L2.start N vs) (G0 N as) := by
  have hvl := a.len
  have agEq : ∀ (i : Nat) (z : Dsc), (G0 N as)[i]? = some z → z = .un ∨ ∃ g, as[i]? = some g ∧ agD g = z ∧ i < vs.length := fun i z h => by
    rw [G0_get] at h
    split at h
    · rename_i hi
      obtain ⟨g, e1, e2⟩ := Option.map_eq_some_iff.mp h
      exact .inr ⟨g, e1, e2, by omega⟩
    · split at h
      · cases h; exact .inl rfl
      · cases h
  have ioAt : ∀ (i : Nat) (t : T), (G0 N as)[i]? = some (.io t) → i ∈ ioK 0 as ∧ treeOf as i = t ∧ (L2.start N vs)[i]? = some (some (.ref (rootOf vs i))) ∧ TAt K F H (rootOf vs i) t := fun i t h => by
    rcases agEq i _ h with h | ⟨g, e1, e2, hi⟩
    · cases h
    · cases g with
      | dat d => cases e2
      | io es =>
        cases e2
        have m : i ∈ ioK 0 as := ioK_mem.mpr ⟨Nat.zero_le _, _, by rw [Nat.sub_zero]; exact e1⟩
        obtain ⟨_, h2, h3⟩ := a.atK m
        rw [treeOf_eq e1] at h3
        exact ⟨m, treeOf_eq e1, by rw [start_get hi, h2]; rfl, h3⟩
  have noOwn : ∀ (i : Nat) (t : T), (G0 N as)[i]? ≠ some (.own t) := fun i t h => by
    rcases agEq i _ h with h | ⟨g, e1, e2, hi⟩
    · cases h
    · cases g <;> cases e2
  have own : ∀ i b, OwnAt (L2.start N vs) (G0 N as) i b → i ∈ ioK 0 as ∧ b ∈ tAddrs (rootOf vs i) (treeOf as i) := fun i b ⟨r, t, h1, h2, m⟩ => by
    rcases h2 with h2 | h2
    · exact absurd h2 (noOwn i t)
    · obtain ⟨g1, g2, g3, _⟩ := ioAt i t h2
      rw [h1] at g3; cases g3
      rw [g2]
      exact ⟨g1, m⟩
  refine ⟨?_, f, Ex.refl _, fun b o h _ => h, fun _ h => h, fun _ _ _ h => h, fun i d h => ?_, fun i t h => absurd h (noOwn i t), fun i t h => ?_, fun i b h => ?_, fun i j b h1 h2 => ?_⟩
  · unfold L2.start G0
    rw [List.length_append, List.length_append, List.length_map, List.length_map, List.length_replicate, List.length_replicate, hvl]
  · rcases agEq i _ h with h | ⟨g, e1, e2, hi⟩
    · cases h
    · cases g with
      | io es => cases e2
      | dat e =>
        cases e2
        obtain ⟨v, h1, h2⟩ := a.datAt e1
        exact ⟨v, by rw [start_get hi, h1]; rfl, h2⟩
  · obtain ⟨g1, g2, g3, g4⟩ := ioAt i t h
    exact ⟨_, g3, g4, if_pos g1, fun b m => .inr ⟨g1, by rw [g2]; exact m⟩⟩
  · have h' : (if i ∈ ioK 0 as then some (rootOf vs i) else none) = some b := h
    split at h'
    · rename_i m
      obtain ⟨h1, h2, _⟩ := a.atK m
      refine ⟨treeOf as i, ?_⟩
      rw [G0_get, if_pos (List.getElem?_eq_some_iff.mp h1).1, h1]
      rfl
    · cases h'
  · obtain ⟨k1, m1⟩ := own i b h1
    obtain ⟨k2, m2⟩ := own j b h2
    exact nd.inj k1 k2 m1 m2
/-- the frame at a def's end, seen by the caller -/
theorem post_ok {as : List Ag} {vs : List V} {F' H' : Hp} {σ : L2.St} {Γ : List Dsc} (a : ArgsOk K F H as vs) (fm : Fm K ⟨ioF as vs, psOf as vs, H, F⟩ F' H' σ Γ) : PostOk K F H (zsOf as vs) F' H' (outsG Γ as) := by
  have at_ : ∀ k ∈ ioK 0 as, ∃ t, Γ[k]? = some (.io t) ∧ slotT Γ k = t ∧ σ[k]? = some (some (.ref (rootOf vs k))) ∧ TAt K F' H' (rootOf vs k) t ∧ ∀ b ∈ tAddrs (rootOf vs k) t, b ∈ tAddrs (rootOf vs k) (treeOf as k) ∨ H b = none := fun k hk => by
    obtain ⟨t, g⟩ := fm.ia k (rootOf vs k) (if_pos hk)
    obtain ⟨r, e1, l, e2, z⟩ := fm.iio k t g
    have e2' : (if k ∈ ioK 0 as then some (rootOf vs k) else none) = some r := e2
    rw [if_pos hk] at e2'
    cases e2'
    exact ⟨t, g, by unfold slotT; rw [g], e1, l, fun b m => (z b m).elim .inr fun w => .inl w.2⟩
  refine ⟨fm.ff, fm.fh, fm.nf, fun b o e n => fm.base b o e fun i z => ?_, fun b h => fm.gg b h, ?_, fun m n z u t s b e1 e2 e3 e4 h1 h2 => ?_⟩
  · exact n (rootOf vs i, treeOf as i) (List.mem_map.mpr ⟨i, z.1, rfl⟩) z.2
  · unfold zsOf outsG
    have : ∀ ks : List Nat, (∀ k ∈ ks, k ∈ ioK 0 as) → Paired (fun (z : Zt) t => TAt K F' H' z.1 t ∧ ∀ b ∈ tAddrs z.1 t, b ∈ zA z ∨ H b = none) (ks.map fun k => (rootOf vs k, treeOf as k)) (ks.map (slotT Γ)) := fun ks h => by
      induction ks with
      | nil => exact .nil
      | cons k ks ih =>
        obtain ⟨t, _, e, _, l, z⟩ := at_ k (h k List.mem_cons_self)
        refine .cons ?_ (ih fun j hj => h j (List.mem_cons_of_mem _ hj))
        rw [e]
        exact ⟨l, z⟩
    exact this _ fun _ h => h
  · unfold zsOf at e1 e3
    unfold outsG at e2 e4
    rw [List.getElem?_map] at e1 e2 e3 e4
    obtain ⟨j, hj, rfl⟩ := Option.map_eq_some_iff.mp e1
    obtain ⟨k, hk, rfl⟩ := Option.map_eq_some_iff.mp e3
    rw [hj] at e2
    rw [hk] at e4
    cases e2
    cases e4
    obtain ⟨t1, g1, q1, s1, _⟩ := at_ j (List.mem_of_getElem? hj)
    obtain ⟨t2, g2, q2, s2, _⟩ := at_ k (List.mem_of_getElem? hk)
    rw [q1] at h1
    rw [q2] at h2
    have e := fm.dj j k b ⟨_, t1, s1, .inr g1, h1⟩ ⟨_, t2, s2, .inr g2, h2⟩
    subst e
    exact (List.getElem?_inj (List.getElem?_eq_some_iff.mp hj).1 ioK_nodup).mp (hj.trans hk.symm)
/-- a def's result, seen by the caller -/
theorem ret_ok {as : List Ag} {vs : List V} {F' H' : Hp} {σ : L2.St} {Γ : List Dsc} {d r : Dv} {v : V} (a : ArgsOk K F H as vs) (fm : Fm K ⟨ioF as vs, psOf as vs, H, F⟩ F' H' σ Γ) (ok : VOk K ⟨ioF as vs, psOf as vs, H, F⟩ H00 F' H' σ Γ d v) (h : retOf Γ d = some r) :
    RtOk K F' H' H (zsOf as vs) (outsG Γ as) r v := by
  have key : ∀ (m : Nat) z s b, (zsOf as vs)[m]? = some z → (outsG Γ as)[m]? = some s → b ∈ tAddrs z.1 s → ∃ k ∈ ioK 0 as, ∃ t, Γ[k]? = some (.io t) ∧ OwnAt σ Γ k b := fun m z s b e1 e2 hb => by
    unfold zsOf at e1
    unfold outsG at e2
    rw [List.getElem?_map] at e1 e2
    obtain ⟨k, hk, rfl⟩ := Option.map_eq_some_iff.mp e1
    rw [hk] at e2
    cases e2
    have hm := List.mem_of_getElem? hk
    obtain ⟨t, g⟩ := fm.ia k (rootOf vs k) (if_pos hm)
    obtain ⟨r, e3, l, e4, z⟩ := fm.iio k t g
    have e4' : (if k ∈ ioK 0 as then some (rootOf vs k) else none) = some r := e4
    rw [if_pos hm] at e4'
    cases e4'
    have q : slotT Γ k = t := by unfold slotT; rw [g]
    rw [q] at hb
    exact ⟨k, hm, t, g, _, t, e3, .inr g, hb⟩
  cases d with
  | dat d => cases h; exact ok
  | new t =>
    cases h
    obtain ⟨r, rfl, l, no⟩ := ok
    exact ⟨r, rfl, l, fun b m => ⟨(no b m).1, fun n z s e1 e2 hb => by
      obtain ⟨k, _, _, _, o⟩ := key n z s b e1 e2 hb
      exact (no b m).2.1 ⟨k, o⟩⟩⟩
  | loc i =>
    obtain ⟨r0, rfl, z1, _⟩ := ok
    have h' : (match Γ[i]? with | some (.own ds) => some (Dv.new ds) | _ => none) = some r := h
    split at h'
    · rename_i t g
      cases h'
      obtain ⟨r1, e1, l, z⟩ := fm.own i t g
      rw [z1] at e1; cases e1
      refine ⟨r0, rfl, l, fun b m => ⟨z b m, fun n zz s e1 e2 hb => ?_⟩⟩
      obtain ⟨k, _, t2, g2, o⟩ := key n zz s b e1 e2 hb
      have e := fm.dj i k b ⟨r0, t, z1, .inl g, m⟩ o
      subst e
      rw [g] at g2; cases g2
    · cases h'
  | fld i f b => cases h
end

/-! ### a def's proof -/
/-- the context of a def's body -/
abbrev bx (P : Program) (w : World) (K : PySem.W.Frag) (mg : Str → Option Value) (base : Heap) (N : List Str) (qual : Str) (sc : Scope) (f : Addr) (cdv : Value) (A : Around) (outer : List Env) (s : Shared) (H : Hp) (E : XK) : Cx :=
  (cxOf CX0 P w K mg base N qual sc f cdv A outer s H E).nox
abbrev bxX (P : Program) (w : World) (K : PySem.W.Frag) (mg : Str → Option Value) (base : Heap) (N : List Str) (qual : Str) (sc : Scope) (f : Addr) (cdv : Value) (A : Around) (outer : List Env) (s : Shared) (H : Hp) (E : XK) : Cx :=
  cxOf (L2.CX P w) P w K mg base N qual sc f cdv A outer s H E
def endsW (as : List Ag) (P : Dv → List T → Prop) : PEnds where
  nx := fun Γ => P (.dat .non) (outsG Γ as)
  rt := fun d Γ => ∃ r, retOf Γ d = some r ∧ P r (outsG Γ as)
def endsX (as : List Ag) (P : Dv → List T → Prop) (PX : Xn → List T → Prop) : PEnds where
  nx := fun Γ => P (.dat .non) (outsG Γ as)
  rt := fun d Γ => ∃ r, retOf Γ d = some r ∧ P r (outsG Γ as)
  ex := fun x Γ => PX x (outsG Γ as)
section
variable {P : Program} {w : World} {K : PySem.W.Frag} {mg : Str → Option Value} {base : Heap}
theorem body_w {X : Cx} {F H : Hp} {as : List Ag} {vs : List V} {N : List Str} {b : List Stmt} {R : Dv → List T → Prop} {Q : VK} (hK : X.K = K) (hf : Ex F H) (ha : ArgsOk K F H as vs) (nd : DjZ (zsOf as vs)) (hl : as.length ≤ N.length)
    (q : ∀ r outs v F' H', R r outs → PostOk K F H (zsOf as vs) F' H' outs → RtOk K F' H' H (zsOf as vs) outs r v → Q v H') (h : SsW X b (G0 N as) (endsW as R)) :
    SsV X b { nx := fun _ H' => Q .non H', rt := Q } (start N vs) H := by
  subst hK
  refine h ⟨ioF as vs, psOf as vs, H, F⟩ F H (L2.start N vs) (fm_start hf ha nd hl) _ ⟨fun Γ' F' H' σ' p f fm => ?_, fun d Γ' v F' H' σ' p f fm ok => ?_, fun _ _ _ _ p => p.elim, fun _ _ _ _ p => p.elim, ⟨_, takes_none5, fun _ _ _ _ _ _ _ p => p.elim⟩⟩
  · exact q _ _ .non F' H' p (post_ok ha fm) .non
  · obtain ⟨r, hr, p⟩ := p
    exact q r _ v F' H' p (post_ok ha fm) (ret_ok ha fm ok hr)
theorem scN {N ps : List Str} {sc : Scope} {as : List Ag} (h : FnScope N ps sc) (hl : as.length = ps.length) : as.length ≤ N.length := by
  have e := congrArg List.length h.pre
  rw [List.length_take] at e
  omega
theorem fn_w {x qual : Str} {st : Stmt} {f : Addr} {fd : FuncData} {N ps : List Str} {k : Nat} {S : Spc} (F : Fun K x qual st f fd) (sc : FnScope N ps (defScope st)) (hlen : ∀ as P, S as P → as.length = ps.length)
    (hbody : ∀ (cdv : Value) (A : Around) (outer : List Env) (s : Shared) (H : Hp) (E : XK), Room k (bx P w K mg base N qual (defScope st) f cdv A outer s H E).A → ∀ as R, S as R → SsW (bx P w K mg base N qual (defScope st) f cdv A outer s H E) (defBody st) (G0 N as) (endsW as R)) :
    FnOk P w K mg base CX0 (k + 1) f fd ps (spW K S) := by
  refine F.ok sc (fun vs H Q E h => ?_) fun cdv A outer s H vs Q E hr h => ?_
  · obtain ⟨F0, as, R, _, ha, _, hS, _⟩ := h
    rw [← ha.len]
    exact hlen as R hS
  · obtain ⟨F0, as, R, hf, ha, nd, hS, q⟩ := h
    exact ⟨_, pss_top, body_w rfl hf ha nd (scN sc (hlen as R hS)) q (hbody cdv A outer s H E hr as R hS)⟩
/-- a def that may raise -/
theorem fn_x {x qual : Str} {st : Stmt} {f : Addr} {fd : FuncData} {N ps : List Str} {k : Nat} {S : SpX} (F : Fun K x qual st f fd) (sc : FnScope N ps (defScope st)) (hlen : ∀ as P PX, S as P PX → as.length = ps.length)
    (hbody : ∀ (cdv : Value) (A : Around) (outer : List Env) (s : Shared) (H : Hp) (E : XK), Room k (bxX P w K mg base N qual (defScope st) f cdv A outer s H E).A → ∀ as R RX, S as R RX → SsW (bxX P w K mg base N qual (defScope st) f cdv A outer s H E) (defBody st) (G0 N as) (endsX as R RX)) :
    FnOk P w K mg base (L2.CX P w) (k + 1) f fd ps (spX K S) := by
  refine F.okX sc (fun vs H Q E h => ?_) fun cdv A outer s H vs Q E hr h => ?_
  · obtain ⟨F0, as, R, RX, _, ha, _, hS, _⟩ := h
    rw [← ha.len]
    exact hlen as R RX hS
  · obtain ⟨F0, as, R, RX, hf, ha, nd, hS, q, qx⟩ := h
    refine ⟨_, pss_top, ?_⟩
    refine hbody cdv A outer s H E hr as R RX hS ⟨ioF as vs, psOf as vs, H, F0⟩ F0 H (L2.start N vs) (fm_start hf ha nd (scN sc (hlen as R RX hS))) _
      ⟨fun Γ' F' H' σ' p f fm => ?_, fun d Γ' v F' H' σ' p f fm ok => ?_, fun _ _ _ _ p => p.elim, fun _ _ _ _ p => p.elim, ⟨fun cls d _ H => E cls d H, takes_of rfl rfl rfl rfl, fun x Γ' F' H' σ' cls d p f fm xn => ?_⟩⟩
    · exact q _ _ .non F' H' p (post_ok ha fm) .non
    · obtain ⟨r, hr, p⟩ := p
      exact q r _ v F' H' p (post_ok ha fm) (ret_ok ha fm ok hr)
    · exact qx x _ cls d F' H' p (post_ok ha fm) xn
theorem cal_w {x : Str} {f : Addr} {fd : FuncData} {ps : List Str} {k : Nat} {S : Spc} (F : FnOk P w K mg base CX0 k f fd ps (spW K S)) (hm : mg x = some (.ref f)) (kp : PySem.W.keepIn K (.ref f) = true) (b : Binds K fd ps []) : C8.Cal P w K mg base k x (spW K S) [] :=
  ⟨f, fd, ps, [], F, hm, kp, b, .nil⟩
theorem met_w {m : Str} {C f : Addr} {fd : FuncData} {ps : List Str} {k : Nat} {S : Spc} (F : FnOk P w K mg base CX0 k f fd ps (spW K S)) (c : Cls K C) (me : Meth K C m f) (b : Binds K fd ps []) : C8.Met P w K mg base k C m (spW K S) [] :=
  ⟨f, fd, ps, [], c, me, F, b, .nil⟩
theorem mak_w {x : Str} {C f : Addr} {fd : FuncData} {ps : List Str} {k : Nat} {S : Spc} (F : FnOk P w K mg base CX0 k f fd ps (spW K S)) (M : Mk K C f) (hm : mg x = some (.ref C)) (b : Binds K fd ps []) : C8.Mak P w K mg base k x C (spW K S) [] :=
  ⟨f, fd, ps, [], M, F, hm, b, .nil⟩
end
end VY

/-! VY: calls of defs, of methods; objects made; attributes. -/
namespace VY
open PySem PySem.Spec PyProof.Rows L2

/-! ### what is handed in -/
def agsOf (Γ : List Dsc) : List Dv → Option (List Ag)
  | [] => some []
  | .dat d :: r => (agsOf Γ r).map (.dat d :: ·)
  | .loc i :: r => (locT Γ i).bind fun t => (agsOf Γ r).map (.io t :: ·)
  | .new t :: r => (agsOf Γ r).map (.io t :: ·)
  | .fld _ _ _ :: _ => none
def plOf : List Dv → List (Option Nat)
  | .loc i :: r => some i :: plOf r
  | .new _ :: r => none :: plOf r
  | _ :: r => plOf r
  | [] => []
def putP : List Dsc → List (Option Nat) → List T → List Dsc
  | Γ, some i :: ps, t :: ts => putP (setT Γ i t) ps ts
  | Γ, none :: ps, _ :: ts => putP Γ ps ts
  | Γ, _, _ => Γ
def rtD : Dv → Prop
  | .dat _ => True
  | .new _ => True
  | _ => False
def zsR : List Ag → List V → List Zt
  | .io t :: as, .ref a :: vs => (a, t) :: zsR as vs
  | _ :: as, _ :: vs => zsR as vs
  | _, _ => []
theorem putP_sim : ∀ {ps : List (Option Nat)} {ts : List T} {Γ : List Dsc}, Sim Γ (putP Γ ps ts)
  | [], ts, Γ => by unfold putP; exact Sim.refl _
  | some i :: ps, [], Γ => by unfold putP; exact Sim.refl _
  | none :: ps, [], Γ => by unfold putP; exact Sim.refl _
  | some i :: ps, t :: ts, Γ => by unfold putP; exact (setT_sim Γ i t).trans putP_sim
  | none :: ps, t :: ts, Γ => by unfold putP; exact putP_sim
theorem putP_get : ∀ {ps : List (Option Nat)} {ts : List T} {Γ : List Dsc} {j : Nat}, ps.Nodup → ps.length = ts.length →
    ((∃ (m : Nat) (t : T), ps[m]? = some (some j) ∧ ts[m]? = some t ∧ (putP Γ ps ts)[j]? = (setT Γ j t)[j]?) ∨ (some j ∉ ps ∧ (putP Γ ps ts)[j]? = Γ[j]?))
  | [], [], Γ, j, _, _ => by unfold putP; exact .inr ⟨nofun, rfl⟩
  | none :: ps, t :: ts, Γ, j, nd, hl => by
    unfold putP
    rcases putP_get (Γ := Γ) (j := j) (List.nodup_cons.mp nd).2 (Nat.succ.inj hl) with ⟨m, u, h1, h2, h3⟩ | ⟨h1, h2⟩
    · exact .inl ⟨m + 1, u, h1, h2, h3⟩
    · exact .inr ⟨fun z => by
        rcases List.mem_cons.mp z with z | z
        · cases z
        · exact h1 z, h2⟩
  | some i :: ps, t :: ts, Γ, j, nd, hl => by
    unfold putP
    obtain ⟨n1, n2⟩ := List.nodup_cons.mp nd
    rcases putP_get (Γ := setT Γ i t) (j := j) n2 (Nat.succ.inj hl) with ⟨m, u, h1, h2, h3⟩ | ⟨h1, h2⟩
    · refine .inl ⟨m + 1, u, h1, h2, ?_⟩
      have ne : i ≠ j := fun z => n1 (by rw [z]; exact List.mem_of_getElem? h1)
      rw [h3, setT_get (Γ := setT Γ i t), if_pos rfl, setT_get (Γ := Γ) (i := i), if_neg ne, setT_get, if_pos rfl]
    · by_cases e : i = j
      · subst e
        exact .inl ⟨0, t, rfl, rfl, h2⟩
      · refine .inr ⟨fun z => ?_, by rw [h2, setT_get, if_neg e]⟩
        rcases List.mem_cons.mp z with z | z
        · cases z; exact e rfl
        · exact h1 z
section
variable {K : PySem.W.Frag} {A : Ac} {Fs Hs F H F' H' : Hp} {σ : L2.St} {Γs Γ : List Dsc}
def ZP (K : PySem.W.Frag) (A : Ac) (Hs F H : Hp) (σ : L2.St) (Γ : List Dsc) : Option Nat → Zt → Prop
  | some i, z => σ[i]? = some (some (.ref z.1)) ∧ locT Γ i = some z.2
  | none, z => TAt K F H z.1 z.2 ∧ ∀ b ∈ zA z, A.H0 b = none ∧ ¬ Own σ Γ b ∧ Hs b = none
theorem args_of (fm : Fm K A F H σ Γ) : ∀ {xs : List Dv} {vs : List V} {as : List Ag}, VsOk K A Hs F H σ Γ xs vs → agsOf Γ xs = some as → ArgsOk K F H as vs ∧ Paired (ZP K A Hs F H σ Γ) (plOf xs) (zsR as vs)
  | [], _, _, .nil, h => by cases h; exact ⟨.nil, .nil⟩
  | .dat d :: r, _, _, .cons o t, h => by
    obtain ⟨bs, e1, e2⟩ := Option.map_eq_some_iff.mp (show (agsOf Γ r).map (.dat d :: ·) = some _ from h)
    subst e2
    obtain ⟨h1, h2⟩ := args_of fm t e1
    exact ⟨.dat o h1, h2⟩
  | .loc i :: r, _, _, .cons o t, h => by
    obtain ⟨u, e0, e3⟩ := Option.bind_eq_some_iff.mp (show (locT Γ i).bind (fun t => (agsOf Γ r).map (.io t :: ·)) = some _ from h)
    obtain ⟨bs, e1, e2⟩ := Option.map_eq_some_iff.mp e3
    subst e2
    obtain ⟨h1, h2⟩ := args_of fm t e1
    obtain ⟨a, rfl, oa, _⟩ := o
    exact ⟨.io (fm.thing oa (locT_some e0)).1 h1, .cons ⟨oa, e0⟩ h2⟩
  | .new u :: r, _, _, .cons o t, h => by
    obtain ⟨bs, e1, e2⟩ := Option.map_eq_some_iff.mp (show (agsOf Γ r).map (.io u :: ·) = some _ from h)
    subst e2
    obtain ⟨h1, h2⟩ := args_of fm t e1
    obtain ⟨a, rfl, l, no⟩ := o
    exact ⟨.io l h1, .cons ⟨l, no⟩ h2⟩
theorem zsR_eq : ∀ {as : List Ag} {vs : List V} {pa : List Ag} {pv : List V}, ArgsOk K F H as vs → pa.length = pv.length → ((ioK pa.length as).map fun k => (rootOf (pv ++ vs) k, treeOf (pa ++ as) k)) = zsR as vs
  | _, _, pa, pv, .nil, hl => by unfold ioK zsR; rfl
  | .dat d :: as, v :: vs, pa, pv, .dat r t, hl => by
    have ih := zsR_eq (pa := pa ++ [.dat d]) (pv := pv ++ [v]) t (by rw [List.length_append, List.length_append, hl]; rfl)
    rw [List.length_append, List.append_assoc, List.append_assoc] at ih
    show ((ioK (pa.length + 1) as).map fun k => (rootOf (pv ++ v :: vs) k, treeOf (pa ++ .dat d :: as) k)) = zsR (.dat d :: as) (v :: vs)
    exact ih.trans (by cases v <;> rfl)
  | .io u :: as, _, pa, pv, .io (a := a) (vs := vs) r t, hl => by
    have ih := zsR_eq (pa := pa ++ [.io u]) (pv := pv ++ [.ref a]) t (by rw [List.length_append, List.length_append, hl]; rfl)
    rw [List.length_append, List.append_assoc, List.append_assoc] at ih
    show ((pa.length :: ioK (pa.length + 1) as).map fun k => (rootOf (pv ++ .ref a :: vs) k, treeOf (pa ++ .io u :: as) k)) = (a, u) :: zsR as vs
    rw [List.map_cons]
    have e1 : rootOf (pv ++ .ref a :: vs) pa.length = a := rootOf_eq (by rw [hl, List.getElem?_append_right (Nat.le_refl _), Nat.sub_self]; rfl)
    have e2 : treeOf (pa ++ .io u :: as) pa.length = u := treeOf_eq (by rw [List.getElem?_append_right (Nat.le_refl _), Nat.sub_self]; rfl)
    rw [e1, e2]
    exact congrArg _ ih
theorem zsOf_eq {as : List Ag} {vs : List V} (h : ArgsOk K F H as vs) : zsOf as vs = zsR as vs := zsR_eq (pa := []) (pv := []) h rfl
theorem paired_at {α β : Type} {R : α → β → Prop} : ∀ {xs : List α} {ys : List β} {m : Nat} {y : β}, Paired R xs ys → ys[m]? = some y → ∃ x, xs[m]? = some x ∧ R x y
  | _, _, _, _, .nil, h => by simp at h
  | _, _, 0, y, .cons r _, h => by simp at h; subst h; exact ⟨_, rfl, r⟩
  | _, _, m + 1, y, .cons _ s, h => by
    rw [List.getElem?_cons_succ] at h ⊢
    exact paired_at s h
theorem paired_at' {α β : Type} {R : α → β → Prop} : ∀ {xs : List α} {ys : List β} {m : Nat} {x : α}, Paired R xs ys → xs[m]? = some x → ∃ y, ys[m]? = some y ∧ R x y
  | _, _, _, _, .nil, h => by simp at h
  | _, _, 0, y, .cons r _, h => by simp at h; subst h; exact ⟨_, rfl, r⟩
  | _, _, m + 1, y, .cons _ s, h => by
    rw [List.getElem?_cons_succ] at h ⊢
    exact paired_at' s h
theorem dj_of (fm : Fm K A F H σ Γ) {ps : List (Option Nat)} {zs : List Zt} (zp : Paired (ZP K A Hs F H σ Γ) ps zs) (nd : ps.Nodup) : DjZ zs := by
  intro m n z u b e1 e2 h1 h2
  obtain ⟨p1, f1, r1⟩ := paired_at zp e1
  obtain ⟨p2, f2, r2⟩ := paired_at zp e2
  have fin : p1 = p2 → m = n := fun e => by
    subst e
    exact (List.getElem?_inj (List.getElem?_eq_some_iff.mp f1).1 nd).mp (f1.trans f2.symm)
  have own : ∀ {i : Nat} {z : Zt}, ZP K A Hs F H σ Γ (some i) z → b ∈ zA z → OwnAt σ Γ i b := fun {i z} r h => ⟨z.1, z.2, r.1, locT_some r.2, h⟩
  cases p1 with
  | none =>
    cases p2 with
    | none => exact fin rfl
    | some j => exact absurd ⟨j, own r2 h2⟩ (r1.2 b h1).2.1
  | some i =>
    cases p2 with
    | none => exact absurd ⟨i, own r1 h1⟩ (r2.2 b h2).2.1
    | some j => exact fin (congrArg some (fm.dj i j b (own r1 h1) (own r2 h2)))
/-- behind a call: the things handed in are what the promise says -/
theorem put_ok (fm : Fm K A F H σ Γ) (st : Stp σ Γs Γ Fs Hs F H) {ps : List (Option Nat)} {zs : List Zt} {ts : List T} (zp : Paired (ZP K A Hs F H σ Γ) ps zs) (nd : ps.Nodup) (po : PostOk K F H zs F' H' ts) :
    Fm K A F' H' σ (putP Γ ps ts) ∧ Stp σ Γs (putP Γ ps ts) Fs Hs F' H' ∧ ∀ j b, OwnAt σ (putP Γ ps ts) j b → (∃ (m : Nat) (z : Zt) (t : T), zs[m]? = some z ∧ ts[m]? = some t ∧ b ∈ tAddrs z.1 t) ∨ OwnAt σ Γ j b := by
  have hl : ps.length = ts.length := zp.length.trans po.outs.length
  have zOwn : ∀ {m i : Nat} {z : Zt} {b : Addr}, ps[m]? = some (some i) → zs[m]? = some z → b ∈ zA z → OwnAt σ Γ i b := fun {m i z b} h1 h2 h3 => by
    obtain ⟨p, f1, r⟩ := paired_at zp h2
    rw [h1] at f1
    cases f1
    exact ⟨z.1, z.2, r.1, locT_some r.2, h3⟩
  have slot : ∀ j, (∃ (m : Nat) (z : Zt) (t : T), ps[m]? = some (some j) ∧ zs[m]? = some z ∧ ts[m]? = some t ∧ σ[j]? = some (some (.ref z.1)) ∧ locT Γ j = some z.2 ∧ (putP Γ ps ts)[j]? = (setT Γ j t)[j]?) ∨ (some j ∉ ps ∧ (putP Γ ps ts)[j]? = Γ[j]?) := fun j => by
    rcases putP_get (Γ := Γ) (j := j) nd hl with ⟨m, t, h1, h2, h3⟩ | h
    · obtain ⟨z, e, r⟩ := paired_at' zp h1
      exact .inl ⟨m, z, t, h1, e, h2, r.1, r.2, h3⟩
    · exact .inr h
  have outAt : ∀ {m : Nat} {z : Zt} {t : T}, zs[m]? = some z → ts[m]? = some t → TAt K F' H' z.1 t ∧ ∀ b ∈ tAddrs z.1 t, b ∈ zA z ∨ H b = none := fun {m z t} h1 h2 => by
    obtain ⟨y, e, r⟩ := paired_at' po.outs h1
    rw [h2] at e
    cases e
    exact r
  have loc' : ∀ {j : Nat} {t u : T}, locT Γ j = some u → (putP Γ ps ts)[j]? = (setT Γ j t)[j]? → ∀ s, ((putP Γ ps ts)[j]? = some (.own s) ∨ (putP Γ ps ts)[j]? = some (.io s)) → s = t := fun {j t u} h1 h2 s h3 => by
    rw [h2, setT_get, if_pos rfl] at h3
    rcases locT_some h1 with g | g <;> rw [g] at h3 <;> rcases h3 with h3 | h3 <;> cases h3 <;> rfl
  have own' : ∀ j b, OwnAt σ (putP Γ ps ts) j b → (∃ (m : Nat) (z : Zt) (t : T), ps[m]? = some (some j) ∧ zs[m]? = some z ∧ ts[m]? = some t ∧ b ∈ tAddrs z.1 t) ∨ (some j ∉ ps ∧ OwnAt σ Γ j b) := fun j b ⟨a, s, h1, h2, h3⟩ => by
    rcases slot j with ⟨m, z, t, g1, g2, g3, g4, g5, g6⟩ | ⟨g1, g2⟩
    · have e := loc' g5 g6 s h2
      subst e
      rw [h1] at g4; cases g4
      exact .inl ⟨m, z, s, g1, g2, g3, h3⟩
    · rw [g2] at h2
      exact .inr ⟨g1, a, s, h1, h2, h3⟩
  have so : ∀ i b, OwnAt σ (putP Γ ps ts) i b → OwnAt σ Γ i b ∨ H b = none := fun i b h => by
    rcases own' i b h with ⟨m, z, t, g1, g2, g3, g4⟩ | ⟨_, g⟩
    · rcases (outAt g2 g3).2 b g4 with w | w
      · exact .inl (zOwn g1 g2 w)
      · exact .inr w
    · exact .inl g
  have kk : ∀ b o, H b = some o → ¬ Own σ Γ b → (Hs b ≠ none ∨ A.H0 b ≠ none) → H' b = some o := fun b o h n hh => by
    refine po.k b o h fun z hz hb => ?_
    obtain ⟨m, hm⟩ := List.mem_iff_getElem?.mp hz
    obtain ⟨p, f1, r⟩ := paired_at zp hm
    cases p with
    | some i => exact n ⟨i, zOwn f1 hm hb⟩
    | none =>
      obtain ⟨q1, _, q2⟩ := r.2 b hb
      rcases hh with hh | hh
      · exact hh q2
      · exact hh q1
  have sm := putP_sim (ps := ps) (ts := ts) (Γ := Γ)
  have stp : Stp σ Γs (putP Γ ps ts) Fs Hs F' H' := ⟨st.f.trans po.f, fun b o h n => kk b o (st.k b o h n) (st.no h n) (.inl (by rw [h]; exact nofun)), fun b o h n => by
      cases q : H b with
      | none => rw [st.g b q] at h; cases h
      | some u => exact po.n b u q (st.n b o h n), fun b h => st.g b (po.g b h), st.sm.trans sm, fun i b h => by
      rcases so i b h with h | h
      · exact st.o i b h
      · exact .inr (st.g b h)⟩
  refine ⟨?_, stp, fun j b h => (own' j b h).elim (fun ⟨m, z, t, _, g2, g3, g4⟩ => .inl ⟨m, z, t, g2, g3, g4⟩) fun g => .inr g.2⟩
  have thing : ∀ (i : Nat) (a : Addr) (t : T), σ[i]? = some (some (.ref a)) → ((putP Γ ps ts)[i]? = some (.own t) ∨ (putP Γ ps ts)[i]? = some (.io t)) → TAt K F' H' a t := fun i a t e h => by
    rcases slot i with ⟨m, z, u, g1, g2, g3, g4, g5, g6⟩ | ⟨g1, g2⟩
    · have e2 := loc' g5 g6 t h
      subst e2
      rw [e] at g4; cases g4
      exact (outAt g2 g3).1
    · rw [g2] at h
      refine (fm.thing e h).1.grow po.f fun b m o ho hf => ⟨po.k b o ho fun z hz hb => ?_, po.n b o ho hf⟩
      obtain ⟨n, hn⟩ := List.mem_iff_getElem?.mp hz
      obtain ⟨p, f1, r⟩ := paired_at zp hn
      have ob : OwnAt σ Γ i b := ⟨a, t, e, h, m⟩
      cases p with
      | some j =>
        have := fm.dj i j b ob (zOwn f1 hn hb)
        subst this
        exact g1 (List.mem_of_getElem? f1)
      | none => exact (r.2 b hb).2.1 ⟨i, ob⟩
  refine ⟨fm.len.trans sm.1, po.fh, fm.ff.trans po.f, fun b u e z => ?_, fun b h => fm.gg b (po.g b h), fun b u e z => ?_, fun i d h => ?_, fun i t h => ?_, fun i t h => ?_, fun j b e => ?_, fun i j b h1 h2 => ?_⟩
  · refine kk b u (fm.base b u e z) (fun w => ?_) (.inr (by rw [e]; exact nofun))
    rcases (fm.ownSome w).2.2 with h | ⟨i, h⟩
    · rw [e] at h; cases h
    · exact z i h
  · obtain ⟨o', e'⟩ := fm.g0 e
    exact po.n b o' e' (fm.nf b u e z)
  · rcases sm.2 i with w | ⟨us, ws, w1, w2⟩ | ⟨us, ws, w1, w2⟩
    · rw [w] at h
      obtain ⟨v, e, r⟩ := fm.dat i d h
      exact ⟨v, e, r.ex po.f⟩
    · rw [w2] at h; cases h
    · rw [w2] at h; cases h
  · have key : ∃ a u, σ[i]? = some (some (.ref a)) ∧ Γ[i]? = some (.own u) ∧ ∀ b ∈ tAddrs a u, A.H0 b = none := by
      rcases sm.2 i with w | ⟨us, ws, w1, w2⟩ | ⟨us, ws, w1, w2⟩
      · rw [w] at h
        obtain ⟨a, e, _, z⟩ := fm.own i t h
        exact ⟨a, t, e, h, z⟩
      · obtain ⟨a, e, _, z⟩ := fm.own i us w1
        exact ⟨a, us, e, w1, z⟩
      · rw [w2] at h; cases h
    obtain ⟨a, u, e, g, z⟩ := key
    refine ⟨a, e, thing i a t e (.inl h), fun b m => ?_⟩
    rcases so i b ⟨a, t, e, .inl h, m⟩ with ⟨a', u', e1, g1, m1⟩ | w
    · rw [e] at e1; cases e1
      rw [g] at g1
      rcases g1 with g1 | g1 <;> cases g1
      exact z b m1
    · exact fm.gg b w
  · have key : ∃ a u, σ[i]? = some (some (.ref a)) ∧ Γ[i]? = some (.io u) ∧ A.io i = some a ∧ ∀ b ∈ tAddrs a u, A.H0 b = none ∨ A.ps i b := by
      rcases sm.2 i with w | ⟨us, ws, w1, w2⟩ | ⟨us, ws, w1, w2⟩
      · rw [w] at h
        obtain ⟨a, e, _, z⟩ := fm.iio i t h
        exact ⟨a, t, e, h, z⟩
      · rw [w2] at h; cases h
      · obtain ⟨a, e, _, z⟩ := fm.iio i us w1
        exact ⟨a, us, e, w1, z⟩
    obtain ⟨a, u, e, g, z0, z⟩ := key
    refine ⟨a, e, thing i a t e (.inr h), z0, fun b m => ?_⟩
    rcases so i b ⟨a, t, e, .inr h, m⟩ with ⟨a', u', e1, g1, m1⟩ | w
    · rw [e] at e1; cases e1
      rw [g] at g1
      rcases g1 with g1 | g1 <;> cases g1
      exact z b m1
    · exact .inl (fm.gg b w)
  · obtain ⟨t, h⟩ := fm.ia j b e
    rcases sm.2 j with w | ⟨us, ws, w1, w2⟩ | ⟨us, ws, w1, w2⟩
    · exact ⟨t, by rw [w]; exact h⟩
    · rw [h] at w1; cases w1
    · exact ⟨ws, w2⟩
  · rcases own' i b h1 with ⟨m, z, t, g1, g2, g3, g4⟩ | ⟨g0, g⟩
    · rcases own' j b h2 with ⟨n, z2, t2, k1, k2, k3, k4⟩ | ⟨k0, k⟩
      · have e := po.dj m n z z2 t t2 b g2 g3 k2 k3 g4 k4
        subst e
        rw [g1] at k1
        cases k1
        rfl
      · rcases (outAt g2 g3).2 b g4 with w | w
        · exact fm.dj i j b (zOwn g1 g2 w) k
        · exact absurd ⟨j, k⟩ (fm.notOwn w)
    · rcases own' j b h2 with ⟨n, z2, t2, k1, k2, k3, k4⟩ | ⟨k0, k⟩
      · rcases (outAt k2 k3).2 b k4 with w | w
        · exact fm.dj i j b g (zOwn k1 k2 w)
        · exact absurd ⟨i, g⟩ (fm.notOwn w)
      · exact fm.dj i j b g k
theorem FsAt.lookNone {m : Str} : ∀ {fs : List (Str × Fd)} {vs : List (Str × V)}, FsAt K F H fs vs → fs.lookup m = none → vs.lookup m = none
  | _, _, .nil, _ => rfl
  | (f1, d1) :: fs, (f2, d2) :: vs, .cons r s, hm => by
    have e : f1 = f2 := r.1
    subst e
    rw [List.lookup_cons] at hm ⊢
    cases z : m == f1 with
    | true => rw [z] at hm; cases hm
    | false => rw [z] at hm; exact FsAt.lookNone s hm
/-- a promise is asked: all but what it answers -/
theorem ask {S : Spc} {X : Cx} {Pd : PD} {xs : List Dv} {vs : List V} {as : List Ag} {Q : VK} (hK : X.K = K) (fm : Fm K A F H σ Γ) (st : Stp σ Γs Γ Fs Hs F H) (ok : VsOk K A Hs F H σ Γ xs vs) (ha : agsOf Γ xs = some as) (nd : (plOf xs).Nodup)
    (hS : S as fun r outs => rtD r ∧ Pd r (putP Γ (plOf xs) outs)) (q : ∀ d Γ' v F' H', Pd d Γ' → Stp σ Γs Γ' Fs Hs F' H' → Fm K A F' H' σ Γ' → VOk K A Hs F' H' σ Γ' d v → Q v H') (E : XK) : spW K S vs H Q E := by
  obtain ⟨hA, zp⟩ := args_of fm ok ha
  rw [← zsOf_eq hA] at zp
  refine ⟨F, as, _, fm.fh, hA, dj_of fm zp nd, hS, fun r outs v F' H' hp po rt => ?_⟩
  obtain ⟨fm2, st2, own'⟩ := put_ok fm st zp nd po
  refine q r _ v F' H' hp.2 st2 fm2 ?_
  cases r with
  | dat d => exact rt
  | new t =>
    obtain ⟨a, rfl, l, hz⟩ := rt
    refine ⟨a, rfl, l, fun b m => ⟨fm.h0 (hz b m).1, fun ⟨j, z⟩ => ?_, st.g b (hz b m).1⟩⟩
    rcases own' j b z with ⟨n, u, s, g1, g2, g3⟩ | g
    · exact (hz b m).2 n u s g1 g2 g3
    · exact fm.notOwn (hz b m).1 ⟨j, g⟩
  | loc i => exact hp.1.elim
  | fld i f b => exact hp.1.elim
end
section
variable {X : Cx} {Γ : List Dsc} {Pd : PD} {e o : Expr} {es : List Expr} {pos p apos : Pos} {x m : Str} {k j : Nat} {S : Spc} {C : Addr}
theorem ew_call (c : C8.Cal X.prog X.w X.K X.mg X.base k x (spW X.K S) []) (hr : Room j X.A) (hk : k ≤ j)
    (h : AW X (e :: es) Γ fun xs Γ1 => ∃ as, agsOf Γ1 xs = some as ∧ (plOf xs).Nodup ∧ S as fun r outs => rtD r ∧ Pd r (putP Γ1 (plOf xs) outs)) (hg : Gl X x := by rfl)
    (hdb : (x == ("__debug__" : Str)) = false := by decide) (he : starEach (e :: es) X.env = (false, eval e X.env) :: starEach es X.env := by rfl) (hpl : (backTo pos (starEach es X.env)).any (·.1) = false := by rfl) :
    EW X (.Call (.Name x p) (e :: es) [] pos) Γ Pd := by
  intro A F H σ fm Q q
  refine ⟨_, C8.pe_c c hr hk hg pa_top hdb he hpl, ?_⟩
  show AV X (e :: es) σ H fun vs H1 => spW X.K S (vs ++ []) H1 Q E0
  refine h.run fm Stp.refl fun xs Γ1 vs F1 H1 hx s1 _ fm1 ok => ?_
  obtain ⟨as, ha, nd, hS⟩ := hx
  rw [List.append_nil]
  exact ask rfl fm1 s1 ok ha nd hS q E0
/-- o.m(e, ..) -/
theorem ew_meth {pl : Sem Bool} (c : C8.Met X.prog X.w X.K X.mg X.base k C m (spW X.K S) []) (hr : Room j X.A) (hk : k ≤ j)
    (h : EW X o Γ fun y Γ0 => ∃ i fs, y = .loc i ∧ locT Γ0 i = some (.ins C fs) ∧ fs.lookup m = none ∧ AW X (e :: es) Γ0 fun xs Γ1 => ∃ as, agsOf Γ1 (.loc i :: xs) = some as ∧ (plOf (.loc i :: xs)).Nodup ∧ S as fun r outs => rtD r ∧ Pd r (putP Γ1 (plOf (.loc i :: xs)) outs))
    (hst : starEach (e :: es) X.env = (false, eval e X.env) :: starEach es X.env := by rfl) (hpl : (backTo pos (starEach es X.env)).any (·.1) = false := by rfl)
    (ht : eval (.Call (.Attribute o m apos) (e :: es) [] pos) X.env = (do
      let ov ← eval o X.env
      standAt apos.atName
      let (f, first) ← holding [ov] (getMethod ov m pl)
      callWith pos f first (backTo pos (starEach (e :: es) X.env)) (backToKw pos (keywordEach [] X.env))) := by rfl) :
    EW X (.Call (.Attribute o m apos) (e :: es) [] pos) Γ Pd := by
  intro A F H σ fm Q q
  obtain ⟨f, fd, ps, ds, cl, me, fn, b, d⟩ := c.ex
  refine ⟨_, pe_meth pe_top cl me fn (hr.mono hk) b d pass0 pa_top hst hpl ht, ?_⟩
  show EV X o σ H fun x H1 => ∃ a dx fs, x = .ref a ∧ H1 a = some (.ins C dx fs) ∧ fs.lookup m = none ∧ AV X (e :: es) σ H1 fun vs H2 => spW X.K S (x :: (vs ++ [])) H2 Q E0
  refine h.run fm Stp.refl fun y Γ0 vy F1 H1 hy s1 _ fm1 oy => ?_
  obtain ⟨i, fs, rfl, hl, hm, h2⟩ := hy
  obtain ⟨a, rfl, oa, _⟩ := id oy
  obtain ⟨⟨dx, vs0, g1, g2⟩, _⟩ := (fm1.thing oa (locT_some hl)).1
  have hm2 : vs0.lookup m = none := g2.lookNone hm
  refine ⟨a, dx, vs0, rfl, g1, hm2, ?_⟩
  refine h2.run fm1 s1 fun xs Γ1 vs F2 H2 hx s2 s12 fm2 ok => ?_
  obtain ⟨as, ha, nd, hS⟩ := hx
  rw [List.append_nil]
  exact ask rfl fm2 s2 (.cons (VOk.stp oy s12) ok) ha nd hS q E0
end
end VY

/-! VY: calls without arguments, objects made, attributes read and stored. -/
namespace VY
open PySem PySem.Spec PyProof.Rows L2
section
variable {X : Cx} {Γ : List Dsc} {Pd : PD} {e o : Expr} {es : List Expr} {pos p apos : Pos} {x m f : Str} {k j : Nat} {S : Spc} {C : Addr}
theorem ew_call0 (c : C8.Cal X.prog X.w X.K X.mg X.base k x (spW X.K S) []) (hr : Room j X.A) (hk : k ≤ j) (h : S [] fun r outs => rtD r ∧ Pd r Γ) (hg : Gl X x := by rfl) (hdb : (x == ("__debug__" : Str)) = false := by decide) :
    EW X (.Call (.Name x p) [] [] pos) Γ Pd := by
  intro A F H σ fm Q q
  obtain ⟨f, fd, ps, ds, fn, hm, kp, b, d⟩ := c.ex
  refine ⟨_, pe_call0 fn (hr.mono hk) hg hm kp b d pass0 hdb, ?_⟩
  show spW X.K S ([] ++ []) H Q E0
  exact ask (xs := []) (as := []) rfl fm Stp.refl .nil rfl List.nodup_nil h q E0
theorem ew_meth0 {pl : Sem Bool} (c : C8.Met X.prog X.w X.K X.mg X.base k C m (spW X.K S) []) (hr : Room j X.A) (hk : k ≤ j)
    (h : EW X o Γ fun y Γ0 => ∃ fs, ((∃ i, y = .loc i ∧ locT Γ0 i = some (.ins C fs)) ∨ y = .new (.ins C fs)) ∧ fs.lookup m = none ∧ S [.io (.ins C fs)] fun r outs => rtD r ∧ Pd r (putP Γ0 (plOf [y]) outs))
    (ht : eval (.Call (.Attribute o m apos) [] [] pos) X.env = (do
      let ov ← eval o X.env
      standAt apos.atName
      let (f, first) ← holding [ov] (getMethod ov m pl)
      callWith pos f first [] []) := by rfl) : EW X (.Call (.Attribute o m apos) [] [] pos) Γ Pd := by
  intro A F H σ fm Q q
  obtain ⟨f, fd, ps, ds, cl, me, fn, b, d⟩ := c.ex
  refine ⟨_, pe_meth0 pe_top cl me fn (hr.mono hk) b d pass0 ht, ?_⟩
  show EV X o σ H fun x H1 => ∃ a dx fs, x = .ref a ∧ H1 a = some (.ins C dx fs) ∧ fs.lookup m = none ∧ spW X.K S (x :: ([] ++ [])) H1 Q E0
  refine h.run fm Stp.refl fun y Γ0 vy F1 H1 hy s1 _ fm1 oy => ?_
  obtain ⟨fs, hl, hm, hS⟩ := hy
  have key : ∃ a, vy = .ref a ∧ TAt X.K F1 H1 a (.ins C fs) ∧ agsOf Γ0 [y] = some [.io (.ins C fs)] := by
    rcases hl with ⟨i, rfl, hl⟩ | rfl
    · obtain ⟨a, rfl, oa, _⟩ := id oy
      refine ⟨a, rfl, (fm1.thing oa (locT_some hl)).1, ?_⟩
      show (locT Γ0 i).bind (fun t => (some []).map (Ag.io t :: ·)) = _
      rw [hl]
      rfl
    · obtain ⟨a, rfl, l, _⟩ := id oy
      exact ⟨a, rfl, l, rfl⟩
  obtain ⟨a, rfl, ⟨⟨dx, vs0, g1, g2⟩, _⟩, ha⟩ := key
  refine ⟨a, dx, vs0, rfl, g1, g2.lookNone hm, ?_⟩
  refine ask (xs := [y]) rfl fm1 s1 (.cons oy .nil) ha ?_ hS q E0
  rcases hl with ⟨i, rfl, _⟩ | rfl <;> exact List.nodup_cons.mpr ⟨nofun, List.nodup_nil⟩
/-- C(e, ..) -/
theorem ew_make (c : C8.Mak X.prog X.w X.K X.mg X.base k x C (spW X.K S) []) (hr : Room j X.A) (hk : k + 1 ≤ j)
    (h : AW X (e :: es) Γ fun xs Γ1 => ∃ as, agsOf Γ1 xs = some as ∧ (plOf xs).Nodup ∧ none ∉ plOf xs ∧ S (.io (.ins C []) :: as) fun r outs => r = .dat .non ∧ ∃ t ts, outs = t :: ts ∧ Pd (.new t) (putP Γ1 (plOf xs) ts)) (hg : Gl X x := by rfl)
    (hdb : (x == ("__debug__" : Str)) = false := by decide) (he : starEach (e :: es) X.env = (false, eval e X.env) :: starEach es X.env := by rfl) (hpl : (backTo pos (starEach es X.env)).any (·.1) = false := by rfl) :
    EW X (.Call (.Name x p) (e :: es) [] pos) Γ Pd := by
  intro A F H σ fm Q q
  refine ⟨_, C8.pe_mk c hr hk hg pa_top hdb he hpl, ?_⟩
  show AV X (e :: es) σ H fun vs H1 => ∀ x dx, H1 x = none → H1 dx = none → dx ≠ x → spW X.K S (.ref x :: (vs ++ [])) (upd (upd H1 dx (.own x)) x (.ins C dx [])) (fun v H2 => v = .non ∧ Q (.ref x) H2) E0
  refine h.run fm Stp.refl fun xs Γ1 vs F1 H1 hx s1 _ fm1 ok => ?_
  obtain ⟨as, ha, nd, nn, hS⟩ := hx
  intro a dx na ndx hne
  rw [List.append_nil]
  have na2 : upd H1 dx (.own a) a = none := by rw [upd_ne (Ne.symm hne)]; exact na
  have fm2 := (fm1.alloc (o := .own a) ndx).alloc (o := .ins C dx []) na2
  have st2 := (s1.trans (Stp.alloc (o := .own a) ndx)).trans (Stp.alloc (F := F1) (σ := σ) (Γ := Γ1) (o := .ins C dx []) na2)
  have s12 := (Stp.alloc (F := F1) (σ := σ) (Γ := Γ1) (o := .own a) ndx).trans (Stp.alloc (F := F1) (σ := σ) (Γ := Γ1) (o := .ins C dx []) na2)
  have okn : VOk X.K A H F1 (upd (upd H1 dx (.own a)) a (.ins C dx [])) σ Γ1 (.new (.ins C [])) (.ref a) := by
    refine ⟨a, rfl, ⟨⟨dx, [], upd_same, .nil⟩, fm1.fnone na, List.nodup_cons.mpr ⟨nofun, List.nodup_nil⟩⟩, fun b m => ?_⟩
    rcases List.mem_cons.mp m with rfl | m
    · exact ⟨fm1.h0 na, fm1.notOwn na, s1.g _ na⟩
    · cases m
  have ha2 : agsOf Γ1 (.new (.ins C []) :: xs) = some (.io (.ins C []) :: as) := by
    show (agsOf Γ1 xs).map (Ag.io (.ins C []) :: ·) = _
    rw [ha]
    rfl
  obtain ⟨hA, zp⟩ := args_of fm2 (VsOk.stp s12 ok |> Paired.cons okn) ha2
  rw [← zsOf_eq hA] at zp
  have nd2 : (plOf (.new (.ins C []) :: xs)).Nodup := List.nodup_cons.mpr ⟨nn, nd⟩
  refine ⟨F1, _, _, fm2.fh, hA, dj_of fm2 zp nd2, hS, fun r outs v F' H' hp po rt => ?_⟩
  obtain ⟨rfl, t, ts, rfl, hp⟩ := hp
  obtain ⟨fm3, st3, own'⟩ := put_ok fm2 st2 zp nd2 po
  have e3 : putP Γ1 (plOf (.new (.ins C []) :: xs)) (t :: ts) = putP Γ1 (plOf xs) ts := by
    show putP Γ1 (none :: plOf xs) (t :: ts) = _
    rfl
  rw [e3] at fm3 st3
  have z0 : (zsOf (.io (.ins C []) :: as) (.ref a :: vs))[0]? = some (a, .ins C []) := by rw [zsOf_eq hA]; rfl
  obtain ⟨t', et, l, hz⟩ := paired_at' po.outs z0
  cases et
  refine ⟨Rep.non_eq rt, q (.new t) _ (.ref a) F' H' hp st3 fm3 ⟨a, rfl, l, fun b m => ?_⟩⟩
  have hb : H1 b = none := by
    rcases hz b m with w | w
    · rcases List.mem_cons.mp w with w | w
      · rw [w]; exact na
      · cases w
    · exact (upd_none (upd_none w).1).1
  refine ⟨fm1.h0 hb, fun ⟨j, o⟩ => ?_, s1.g b hb⟩
  have key : ∀ j b, OwnAt σ (putP Γ1 (plOf xs) ts) j b → b ∈ tAddrs a t → H1 b = none → False := fun j b o m hb => by
    obtain ⟨a', s, h1, h2, h3⟩ := o
    have hl : (plOf xs).length = ts.length := by
      have := zp.length.trans po.outs.length
      exact Nat.succ.inj this
    rcases putP_get (Γ := Γ1) (j := j) nd hl with ⟨n, u, g1, g2, g3⟩ | ⟨g1, g2⟩
    · obtain ⟨z, e, r⟩ := paired_at' zp (show (plOf (.new (.ins C []) :: xs))[n + 1]? = some (some j) from g1)
      have e5 : s = u := by
        rw [g3, setT_get, if_pos rfl] at h2
        rcases locT_some r.2 with g | g <;> rw [g] at h2 <;> rcases h2 with h2 | h2 <;> cases h2 <;> rfl
      subst e5
      have e6 := r.1
      rw [h1] at e6; cases e6
      have := po.dj 0 (n + 1) (a, .ins C []) z t s b z0 rfl e g2 m h3
      cases this
    · rw [g2] at h2
      exact fm1.notOwn hb ⟨j, a', s, h1, h2, h3⟩
  exact key j b o m hb
end

/-! ### attributes -/
/-- an own class whose instances have plain attributes -/
structure CF (K : PySem.W.Frag) (C : Addr) (fs : List Str) : Prop where
  cls : Cls K C
  na : ∀ f ∈ fs, NoAttr K C f
def insOf (Γ : List Dsc) : Dv → Option (Addr × List (Str × Fd))
  | .loc i => match locT Γ i with
    | some (.ins C fs) => some (C, fs)
    | _ => none
  | .new (.ins C fs) => some (C, fs)
  | _ => none
def fdVal (x : Dv) (f : Str) : Fd → Dv
  | .dat d => .dat d
  | .own b c => match x with
    | .loc i => .fld i f b
    | _ => .new (.cl c)
theorem insOf_loc {Γ : List Dsc} {i : Nat} {C : Addr} {fs : List (Str × Fd)} (h : insOf Γ (.loc i) = some (C, fs)) : locT Γ i = some (.ins C fs) := by
  have h' : (match locT Γ i with | some (.ins C fs) => some (C, fs) | _ => none) = some (C, fs) := h
  split at h'
  · rename_i e; cases h'; exact e
  · cases h'
theorem FsAt.mem {K : PySem.W.Frag} {F H : Hp} {fs : List (Str × Fd)} {b : Addr} (h : b ∈ fAddrs fs) (a : Addr) (C : Addr) : b ∈ tAddrs a (.ins C fs) := List.mem_cons_of_mem _ h
section
variable {X : Cx} {Γ : List Dsc} {Pd : PD} {e o : Expr} {pos p pos' tpos : Pos} {f : Str} {C : Addr} {ns : List Str} {D : PEnds}
theorem ew_fld (cf : CF X.K C ns) (h : EW X o Γ fun x Γ1 => ∃ fs fd, insOf Γ1 x = some (C, fs) ∧ fs.lookup f = some fd ∧ Pd (fdVal x f fd) Γ1) (hf : f ∈ ns := by decide)
    (hb : attributeBase o f X.env (eval o X.env) = eval o X.env := by rfl) : EW X (.Attribute o f pos) Γ Pd := by
  intro A F H σ fm Q q
  refine ⟨_, pe_fld pe_top hb, ?_⟩
  show EV X o σ H fun x H1 => ∃ a C dx fs v, x = .ref a ∧ H1 a = some (.ins C dx fs) ∧ Cls X.K C ∧ NoAttr X.K C f ∧ fs.lookup f = some v ∧ Q v H1
  refine h.run fm Stp.refl fun x Γ1 vx F1 H1 hx s1 _ fm1 ox => ?_
  obtain ⟨fs, fd, h1, h2, hp⟩ := hx
  cases x with
  | dat d => cases h1
  | fld _ _ _ => cases h1
  | loc i =>
    obtain ⟨a, rfl, oa, _⟩ := id ox
    have hl := insOf_loc h1
    obtain ⟨⟨dx, vs, g1, g2⟩, _⟩ := (fm1.thing oa (locT_some hl)).1
    obtain ⟨v, g3, g4⟩ := g2.look h2
    refine ⟨a, C, dx, vs, v, rfl, g1, cf.cls, cf.na f hf, g3, q _ Γ1 v F1 H1 hp s1 fm1 ?_⟩
    cases fd with
    | dat d => exact g4
    | own b c => exact g4.1
  | new t =>
    cases t with
    | cl c => cases h1
    | ins C' fs' =>
      cases h1
      obtain ⟨a, rfl, l, no⟩ := ox
      obtain ⟨⟨dx, vs, g1, g2⟩, _⟩ := l
      obtain ⟨v, g3, g4⟩ := g2.look h2
      refine ⟨a, C, dx, vs, v, rfl, g1, cf.cls, cf.na f hf, g3, q _ Γ1 v F1 H1 hp s1 fm1 ?_⟩
      cases fd with
      | dat d => exact g4
      | own b c =>
        obtain ⟨rfl, g5⟩ := g4
        refine ⟨b, rfl, g5, fun y m => ?_⟩
        rcases List.mem_cons.mp m with rfl | m
        · exact no y (List.mem_cons_of_mem _ (fAddrs_look h2))
        · cases m
theorem FsAt.store {K : PySem.W.Frag} {F H : Hp} {f : Str} {fd : Fd} {y : V} (hy : FdAt K F H fd y) : ∀ {fs : List (Str × Fd)} {vs : List (Str × V)}, FsAt K F H fs vs → FsAt K F H (putA f fd fs) (L2.putF f y vs)
  | _, _, .nil => .cons ⟨rfl, hy⟩ .nil
  | (g, d) :: fs, (g', v) :: vs, .cons r s => by
    have e : g = g' := r.1
    subst e
    unfold putA L2.putF
    by_cases z : g = f
    · subst z
      rw [if_pos (by rw [beq_self_eq_true]), if_pos rfl]
      exact .cons ⟨rfl, hy⟩ s
    · rw [if_neg (by rw [beq_iff_eq]; exact fun w => z w.symm), if_neg z]
      exact .cons ⟨rfl, r.2⟩ (FsAt.store hy s)
theorem fAddrs_putA {f : Str} {fd : Fd} {b : Addr} : ∀ {fs : List (Str × Fd)}, b ∈ fAddrs (putA f fd fs) → b ∈ fAddrs fs ∨ b ∈ fAddrs [(f, fd)]
  | [], h => .inr h
  | (g, d) :: fs, h => by
    unfold putA at h
    split at h
    · cases fd with
      | dat _ =>
        refine .inl ?_
        cases d with
        | dat _ => exact h
        | own _ _ => exact List.mem_cons_of_mem _ h
      | own c _ =>
        rcases List.mem_cons.mp h with rfl | h
        · exact .inr List.mem_cons_self
        · refine .inl ?_
          cases d with
          | dat _ => exact h
          | own _ _ => exact List.mem_cons_of_mem _ h
    · cases d with
      | dat _ => exact fAddrs_putA (fs := fs) h
      | own c _ =>
        rcases List.mem_cons.mp h with rfl | h
        · exact .inl List.mem_cons_self
        · rcases fAddrs_putA (fs := fs) h with h | h
          · exact .inl (List.mem_cons_of_mem _ h)
          · exact .inr h
theorem nodup_putA {f : Str} {fd : Fd} : ∀ {fs : List (Str × Fd)}, (fAddrs fs).Nodup → (∀ b ∈ fAddrs [(f, fd)], b ∉ fAddrs fs) → (fAddrs (putA f fd fs)).Nodup
  | [], _, _ => by
    unfold putA
    cases fd with
    | dat _ => exact List.nodup_nil
    | own _ _ => exact List.nodup_cons.mpr ⟨nofun, List.nodup_nil⟩
  | (g, d) :: fs, nd, no => by
    unfold putA
    have nd2 : (fAddrs fs).Nodup := by
      cases d with
      | dat _ => exact nd
      | own _ _ => exact (List.nodup_cons.mp nd).2
    have no2 : ∀ b ∈ fAddrs [(f, fd)], b ∉ fAddrs fs := fun b m z => by
      refine no b m ?_
      cases d with
      | dat _ => exact z
      | own _ _ => exact List.mem_cons_of_mem _ z
    split
    · cases fd with
      | dat _ => exact nd2
      | own b _ => exact List.nodup_cons.mpr ⟨no2 b List.mem_cons_self, nd2⟩
    · have ih := nodup_putA nd2 no2
      cases d with
      | dat _ => exact ih
      | own c _ =>
        refine List.nodup_cons.mpr ⟨fun z => ?_, ih⟩
        rcases fAddrs_putA z with z | z
        · exact (List.nodup_cons.mp nd).1 z
        · exact no c z List.mem_cons_self
/-- a value as an attribute -/
def FdNx (D : PEnds) (Γ : List Dsc) (i : Nat) (C : Addr) (f : Str) (fs : List (Str × Fd)) : Dv → Prop
  | .dat d => D.nx (setT Γ i (.ins C (putA f (.dat d) fs)))
  | .new (.cl c) => ∀ b, D.nx (setT Γ i (.ins C (putA f (.own b c) fs)))
  | _ => False
theorem store_ok {K : PySem.W.Frag} {A : Ac} {F H : Hp} {σ : L2.St} {i : Nat} {a dx : Addr} {fs : List (Str × Fd)} {vs : List (Str × V)} {fd : Fd} {y : V} (fm : Fm K A F H σ Γ) (e : σ[i]? = some (some (.ref a))) (g : locT Γ i = some (.ins C fs)) (g1 : H a = some (.ins C dx vs))
    (hy : FdAt K F H fd y) (no : ∀ b ∈ fAddrs [(f, fd)], A.H0 b = none ∧ ¬ Own σ Γ b) : Fm K A F (upd H a (.ins C dx (L2.putF f y vs))) σ (setT Γ i (.ins C (putA f fd fs))) := by
  obtain ⟨l, _⟩ := fm.thing e (locT_some g)
  obtain ⟨⟨dx', vs', g1', g2⟩, g3, nd⟩ := l
  rw [g1] at g1'; cases g1'
  obtain ⟨n1, n2⟩ := List.nodup_cons.mp nd
  have own : ∀ b ∈ tAddrs a (.ins C fs), Own σ Γ b := fun b m => ⟨i, a, _, e, locT_some g, m⟩
  have na : ∀ b ∈ fAddrs [(f, fd)], b ∉ fAddrs fs := fun b m z => (no b m).2 (own b (List.mem_cons_of_mem _ z))
  have nna : a ∉ fAddrs [(f, fd)] := fun m => (no a m).2 (own a List.mem_cons_self)
  have n1' : a ∉ fAddrs (putA f fd fs) := fun z => (fAddrs_putA z).elim n1 nna
  refine fm.swap e g (fun b o ho m => by rw [upd_ne fun z => m (by rw [z]; exact List.mem_cons_self)]; exact ho) (fun b h => (upd_none h).1) ⟨⟨dx, _, upd_same, ?_⟩, g3, List.nodup_cons.mpr ⟨n1', nodup_putA n2 na⟩⟩ fun b m => ?_
  · refine FsAt.grow (Ex.refl _) (FsAt.store hy g2) fun b m o ho hf => ⟨?_, hf⟩
    rw [upd_ne fun z => n1' (by rw [← z]; exact m)]
    exact ho
  · rcases List.mem_cons.mp m with rfl | m
    · exact .inl List.mem_cons_self
    · rcases fAddrs_putA m with m | m
      · exact .inl (List.mem_cons_of_mem _ m)
      · exact .inr (no b m)
/-- o.f = e -/
theorem sw_fld (cf : CF X.K C ns) (h : EW X e Γ fun d Γ1 => EW X o Γ1 fun x Γ2 => ∃ i fs, x = .loc i ∧ locT Γ2 i = some (.ins C fs) ∧ fs.length < 1000 ∧ FdNx D Γ2 i C f fs d) (hf : f ∈ ns := by decide)
    (hs : swapsWith e (some (.Attribute o f pos')) pos.line X.env = pure false := by rfl) : SW X (.Assign [.Attribute o f pos'] e pos) Γ D := by
  intro A F H σ fm E k
  refine ⟨_, ps_fld pe_top pe_top hs, ?_⟩
  show EV X e σ H fun y H1 => EV X o σ H1 fun x H2 => ∃ a C dx fs, x = .ref a ∧ H2 a = some (.ins C dx fs) ∧ Cls X.K C ∧ NoAttr X.K C f ∧ fs.length < 1000 ∧ E.nx σ (upd H2 a (.ins C dx (L2.putF f y fs)))
  refine h.run fm Stp.refl fun d Γ1 y F1 H1 p s1 _ fm1 oy => ?_
  refine p.run fm1 s1 fun x Γ2 vx F2 H2 p2 s2 s12 fm2 ox => ?_
  obtain ⟨i, fs, rfl, hl, hn, hd⟩ := p2
  obtain ⟨a, rfl, oa, _⟩ := id ox
  obtain ⟨⟨dx, vs, g1, g2⟩, _⟩ := (fm2.thing oa (locT_some hl)).1
  have oy2 := VOk.stp oy s12
  refine ⟨a, C, dx, vs, rfl, g1, cf.cls, cf.na f hf, by rw [← g2.length]; exact hn, ?_⟩
  cases d with
  | dat d => exact k.nx _ F2 _ σ hd s2.f (store_ok (fd := .dat d) fm2 oa hl g1 oy2 (fun b m => nomatch m))
  | new t =>
    cases t with
    | cl c =>
      obtain ⟨b, rfl, l, no⟩ := oy2
      refine k.nx _ F2 _ σ (hd b) s2.f (store_ok (fd := .own b c) fm2 oa hl g1 ⟨rfl, l⟩ fun b' m => ?_)
      rcases List.mem_cons.mp m with rfl | m
      · exact ⟨(no _ List.mem_cons_self).1, (no _ List.mem_cons_self).2.1⟩
      · cases m
    | ins _ _ => exact hd.elim
  | loc _ => exact hd.elim
  | fld _ _ _ => exact hd.elim
/-- o.f += e, ints -/
theorem sw_fldaug (cf : CF X.K C ns) (h : EW X o Γ fun x Γ1 => ∃ i fs n, x = .loc i ∧ locT Γ1 i = some (.ins C fs) ∧ fs.lookup f = some (.dat (.int n)) ∧ EW X e Γ1 fun d Γ2 => ∃ m fs', d = .dat (.int m) ∧ locT Γ2 i = some (.ins C fs') ∧ fs'.length < 1000 ∧ D.nx (setT Γ2 i (.ins C (putA f (.dat (.int (n + m))) fs'))))
    (hf : f ∈ ns := by decide) : SW X (.AugAssign (.Attribute o f tpos) .Add e pos) Γ D := by
  intro A F H σ fm E k
  refine ⟨_, ps_fldaug pe_top pe_top in_add, ?_⟩
  show EV X o σ H fun x H1 => ∃ a C dx fs v, x = .ref a ∧ H1 a = some (.ins C dx fs) ∧ Cls X.K C ∧ NoAttr X.K C f ∧ fs.lookup f = some v ∧ EV X e σ H1 fun y H2 => ∃ i j, v = .int i ∧ y = .int j ∧ ∃ dx' fs', H2 a = some (.ins C dx' fs') ∧ fs'.length < 1000 ∧ E.nx σ (upd H2 a (.ins C dx' (L2.putF f (.int (i + j)) fs')))
  refine h.run fm Stp.refl fun x Γ1 vx F1 H1 p s1 _ fm1 ox => ?_
  obtain ⟨i, fs, n, rfl, hl, hn, h2⟩ := p
  obtain ⟨a, rfl, oa, _⟩ := id ox
  obtain ⟨⟨dx, vs, g1, g2⟩, _⟩ := (fm1.thing oa (locT_some hl)).1
  obtain ⟨v, g3, g4⟩ := g2.look hn
  refine ⟨a, C, dx, vs, v, rfl, g1, cf.cls, cf.na f hf, g3, ?_⟩
  refine h2.run fm1 s1 fun d Γ2 y F2 H2 p2 s2 s12 fm2 oy => ?_
  obtain ⟨m, fs', rfl, hl2, hz, hd⟩ := p2
  obtain ⟨⟨dx2, vs2, k1, k2⟩, _⟩ := (fm2.thing oa (locT_some hl2)).1
  refine ⟨n, m, Rep.int_eq g4, Rep.int_eq oy, dx2, vs2, k1, by rw [← k2.length]; exact hz, ?_⟩
  exact k.nx _ F2 _ σ hd s2.f (store_ok (fd := .dat (.int (n + m))) fm2 oa hl2 k1 (.int _) (fun b m => nomatch m))
end
end VY

/-! VY: iterators that the hand layer lacks: enumerate(tuple), zip(list, tuple). -/
namespace PySem
open Sem (wp)
set_option maxHeartbeats 1000000 in
theorem vx_meets_enum {v : Value} {o : Obj} {H : Heap → Prop} (B : Begins v o H) :
    Meets (Builtin.«enumerate.__new__» ⟨[.type "enumerate", v], []⟩) (fun _ R s => H s.heap ∧
      R (.ok (.ret (.ref (s.heap.push o).objs.size))) { s with heap := (s.heap.push o).push { cls := .type "enumerate", data := .fields #[.none, .bool false, .ref s.heap.objs.size, rawInt 0, .none, .none] } }) :=
  .of_wp fun prog w A R s h => by
    obtain ⟨hp, g, d, tk, os⟩ := s; obtain ⟨h1, h⟩ := h
    have hsub := sub_enumerate
    have q1 : ∀ {A' : Around} {E : Value → Shared → Prop} {Q : Value → Shared → Prop}, Q (.ref hp.objs.size) ⟨hp.push o, g, d, tk, os⟩ → wpAny (model prog w) A' (pyIter v) Q E ⟨hp, g, d, tk, os⟩ :=
      fun q => B.iter prog w _ _ ⟨hp, g, d, tk, os⟩ _ h1 q
    wp_walk using q1
    refine wpAny_stack_any fun st => wpAny_pure ?_
    split
    · rename_i c _ _ _ _ _
      cases (c == Value.type "enumerate")
      · wp_walk using q1
        exact ⟨_, rfl, h⟩
      · wp_walk using q1
        exact ⟨_, rfl, h⟩
    · wp_walk using q1
      exact ⟨_, rfl, h⟩
section
variable {prog : Program} {w : World} {A : Around} {E : Value → Shared → Prop} {s : Shared}
theorem vx_call_enum {v : Value} {o : Obj} {H : Heap → Prop} {Q : Value → Shared → Prop} (B : Begins v o H) (h1 : H s.heap)
    (h : ∀ h', IsEnum h' (s.heap.objs.size + 1) s.heap.objs.size 0 .none → h'.get? s.heap.objs.size = some o → h'.objs.size = s.heap.objs.size + 2 →
      (∀ b o, s.heap.get? b = some o → h'.get? b = some o) → Q (.ref (s.heap.objs.size + 1)) { s with heap := h' }) :
    wpAny (model prog w) A (call (.type "enumerate") [v]) Q E s := by
  refine callType_new F.called_enumerate (by decide) (F.typeCall_enumerate_1 _) (F.newCall_enumerate_1 _) (fun obj => F.args_object_init_2 obj _) F.entry_enumerate_new
    (vx_meets_enum B) ⟨h1, ?_⟩
  have hz : (s.heap.push o).objs.size = s.heap.objs.size + 1 := Heap.size_push ..
  show _ ∧ _
  rw [hz]
  have he : IsEnum ((s.heap.push o).push { cls := .type "enumerate", data := .fields #[.none, .bool false, .ref s.heap.objs.size, rawInt 0, .none, .none] }) (s.heap.objs.size + 1) s.heap.objs.size 0 .none := by
    have := Heap.get?_push_size (s.heap.push o) (o := { cls := .type "enumerate", data := .fields #[.none, .bool false, .ref s.heap.objs.size, rawInt 0, .none, .none] }) rfl
    rw [hz] at this; exact this
  refine ⟨⟨_, he, rfl⟩, h _ he (Heap.get?_push_of_some _ (Heap.get?_push_size _ B.free)) (by rw [Heap.size_push, hz]) fun b o x => Heap.get?_push_of_some _ (Heap.get?_push_of_some _ x)⟩
end
end PySem
namespace VY
open PySem PySem.Spec PyProof.Rows L2
/-! ### enumerate(tuple) -/
def IteT (K : PySem.W.Frag) (a : Addr) : It :=
  ⟨fun i H => ∃ (xs : List V) (x : V), SqT K H a xs ∧ xs[i]? = some x, fun i H v H' => ∃ T x, v = .ref T ∧ H T = none ∧ H' = upd H T (.tup [.int (i : Nat), x]) ∧ ∀ xs, SqT K H a xs → xs[i]? = some x, fun i H => ∃ xs : List V, SqT K H a xs ∧ xs.length = i⟩
theorem turn_enumT {P : Program} {w : World} {K : PySem.W.Frag} {elts : List Expr} {kk : Nat} {tpos : Pos} (a e it : Addr) (hae : a ≠ e) (hai : a ≠ it) :
    Turn P w K (.Tuple elts kk tpos) (IteT K a) [e, it] e (fun i h => (∃ old, IsEnum h e it ((i : Nat) : Int) old) ∧ h.IsTupleIter it a i ∧ e ≠ it) where
  mem := by simp
  obj := fun i h st b hb => by
    obtain ⟨⟨old, he⟩, ⟨o, ho, hc, hd⟩, _⟩ := st
    have e' : b = e ∨ b = it := by simpa using hb
    rcases e' with z | z
    · rw [z]; exact ⟨_, he, fun v q => nomatch q⟩
    · rw [z]; exact ⟨o, ho, fun v q => by rw [hd] at q; cases q⟩
  keep := fun i h h' st k => let ⟨⟨old, he⟩, hi, hne⟩ := st; ⟨⟨old, k e (by simp) _ he⟩, hi.at fun o q => k it (by simp) o q, hne⟩
  item := by
    intro X hP hw hK hc i pins s σ H E I hf st hg
    subst hP hw hK
    obtain ⟨⟨old, he⟩, hit, hne⟩ := st
    obtain ⟨xs, x, hq, hx⟩ := hg
    obtain ⟨its, rv, p, hz⟩ := I.tuple hq
    obtain ⟨u, hu, ru⟩ := rv.get hx
    have hel : e < s.heap.objs.size := Heap.lt_size he
    have hil : it < s.heap.objs.size := by obtain ⟨_, q, _⟩ := hit; exact Heap.lt_size q
    have hlt : i < its.toArray.size := by
      have := (List.getElem?_eq_some_iff.mp hu).1
      simpa using this
    refine wpAny_pyNext_enum_itemC (Draws.tuple (prog := X.prog) (w := X.w) (A := X.A.in1) (I.ok.hd hc) it a hai its.toArray) he ⟨hit, p⟩ hlt hne (by simp [hne, Ne.symm hae]) fun x' h' tk hx' ho hit' hT hsz hk => ?_
    have ex : x' = u := by
      have h1 : its.toArray[i]? = some x' := hx'
      have h2 : its.toArray[i]? = some u := by simpa using hu
      exact Option.some.inj (h1.symm.trans h2)
    subst ex
    refine ⟨_, rfl, wpAny_letOwnedTupleGo_enum (s := { s with heap := h', toks := tk + 1 }) ho fun h'' he' sb => ?_⟩
    have hT2 : h''.get? s.heap.objs.size = some { cls := .type "tuple", data := .seq #[.int i tk, x'] } := (sb.2 _ (Nat.ne_of_gt hel)).trans hT
    have new : ObjOk X.prog X.w (upd H s.heap.objs.size (.tup [.int (i : Nat), x])) h'' s.heap.objs.size (.tup [.int (i : Nat), x]) :=
      ⟨by show 2 ≤ sizeLine; decide, [.int i tk, x'], .cons ⟨_, rfl⟩ (.cons ru .nil), ⟨_, hT2, rfl, _, rfl⟩⟩
    have I1 : Inv X pins σ (upd H s.heap.objs.size (.tup [.int (i : Nat), x])) { s with heap := h'', toks := tk + 1 } :=
      I.turnedNew (ch := [e, it]) (fun b ob hb q => (sb.2 b (fun z => hb (by simp [z]))).trans (hk b ob (fun z => hb (by simp [z])) (fun z => hb (by simp [z])) q)) hf (Nat.le_refl _) new
    refine ⟨.ref s.heap.objs.size, _, I1, rfl, ⟨_, x, rfl, I.hok.fresh (Nat.le_refl _), rfl, fun ys hy => by rw [I.tuple_inj hy hq]; exact hx⟩, ⟨⟨x', ?_⟩, hit'.1.at fun o q => (sb.2 it (Ne.symm hne)).trans q, hne⟩, fun b hb => ?_⟩
    · have e1 : ((i + 1 : Nat) : Int) = (i : Int) + 1 := by omega
      rw [e1]; exact he'
    · have hb' : b < s.heap.objs.size := by
        have e' : b = e ∨ b = it := by simpa using hb
        rcases e' with z | z
        · rw [z]; exact hel
        · rw [z]; exact hil
      rw [upd_ne (Nat.ne_of_lt hb')]
      exact (hf b hb).1
  done := by
    intro X hP hw hK hc i pins s σ H E I hf st hg
    subst hP hw hK
    obtain ⟨⟨old, he⟩, hit, hne⟩ := st
    obtain ⟨xs, hq, hx⟩ := hg
    obtain ⟨its, rv, p, hz⟩ := I.tuple hq
    obtain ⟨f0, f1, f2, f3, f4, f5⟩ := hf it (by simp)
    have hl := rv.length
    have hi : i = its.toArray.size := by simp; omega
    subst hi
    exact wpAny_pyNext_enum_endD (Draws.tuple (prog := X.prog) (w := X.w) (A := X.A.in1) (I.ok.hd hc) it a hai its.toArray) he ⟨hit, p⟩ fun h' eb => ⟨rfl, I.turned (t' := s.toks) (fun b o hb q => eb b o hb q) f0 f1 f3 f4 f5⟩
  self := fun A i s Q E st h => let ⟨⟨_, he⟩, _⟩ := st; wpAny_pyIter_enum he h
def iEnumT (K : PySem.W.Frag) (ta : TA) : TI := fun σ H R => ta σ H fun vs H1 => ∃ a xs, vs = [.ref a] ∧ SqT K H1 a xs ∧ R (IteT K a) H1
theorem pi_enumT {X : Cx} {e : Expr} {ta : TA} {p pos tpos : Pos} {elts : List Expr} {kk : Nat} (hg : Gl X "enumerate") (hm : X.mg "enumerate" = none) (ha : PA X [e] ta) (hs : starEach [e] X.env = [(false, eval e X.env)] := by rfl) :
    PI X (.Tuple elts kk tpos) (.Call (.Name "enumerate" p) [e] [] pos) (iEnumT X.K ta) := by
  refine ⟨fun pins s σ H R I h => ?_⟩
  refine Call_ (ld_blt I hg hm boot_enumerate (PyProof.Rows.callWith_type1 (thn (ha.run pos pins s σ H _ I h) fun us s1 ⟨vs, H1, I1, r1, q1⟩ => ?_) hs rfl))
  obtain ⟨a, xs, ex, hq, q⟩ := q1
  subst ex
  cases r1 with
  | cons r rr =>
    cases rr
    cases r
    obtain ⟨its, rv, p', hz⟩ := I1.tuple hq
    have hal : a < s1.heap.objs.size := by obtain ⟨o, ho, _⟩ := id p'; exact Heap.lt_size ho
    refine vx_call_enum (begins_tuple a its.toArray) p' fun h' he hit hsz hk => wpAny_pyIter_enum he ?_
    have I2 : Inv X pins σ H1 { s1 with heap := h' } := I1.kept (t' := s1.toks) hk
    refine ⟨s1.heap.objs.size + 1, [s1.heap.objs.size + 1, s1.heap.objs.size], _, _, H1, rfl, I2, turn_enumT a (s1.heap.objs.size + 1) s1.heap.objs.size (Nat.ne_of_lt (Nat.lt_succ_of_lt hal)) (Nat.ne_of_lt hal), ⟨⟨.none, he⟩, ⟨_, hit, rfl, rfl⟩, Nat.succ_ne_self _⟩, fun b hb => ?_, q⟩
    have e' : b = s1.heap.objs.size + 1 ∨ b = s1.heap.objs.size := by simpa using hb
    have hle : s1.heap.objs.size ≤ b := by
      rcases e' with z | z
      · rw [z]; exact Nat.le_add_right _ _
      · rw [z]; exact Nat.le_refl _
    exact I1.fpOk hle (I1.hok.fresh hle)
theorem walk_enumT {K : PySem.W.Frag} {a : Addr} {xs : List V} : Walk (IteT K a) xs.length (fun H => SqT K H a xs) (YPair (fun i => some (.int (i : Nat))) (fun i => xs[i]?)) := by
  refine ⟨fun i _ hi q => ⟨xs, xs[i], q, by simp [hi]⟩, fun _ q => ⟨xs, q, rfl⟩, fun i H v H' _ q y => ?_⟩
  obtain ⟨T, x, h1, h2, h3, h4⟩ := y
  exact ⟨T, .int (i : Nat), x, h1, h2, h3, rfl, h4 xs q⟩
section
variable {X : Cx} {Γ : List Dsc} {a b e tg iter : Expr} {pos p pos' tpos : Pos} {Q : List D → List Dsc → Prop} {elts : List Expr} {kk : Nat}
theorem iw_enumT (hm : X.mg "enumerate" = none) (h : EW X e Γ fun x Γ1 => ∃ ds, (x = .dat (.tup ds) ∨ x = .dat (.pt ds)) ∧ Q (enumD ds) Γ1) (hg : Gl X "enumerate" := by rfl)
    (hs : starEach [e] X.env = [(false, eval e X.env)] := by rfl) : IW X (.Tuple elts kk tpos) (.Call (.Name "enumerate" p) [e] [] pos) Γ Q := by
  intro A F H σ fm R q
  refine ⟨_, pi_enumT hg hm (pa_cons pe_top pa_nil hs) hs, ?_⟩
  show EV X e σ H fun x H1 => ∃ a xs, [x] = [.ref a] ∧ SqT X.K H1 a xs ∧ R (IteT X.K a) H1
  refine h.run fm Stp.refl fun x Γ1 v F1 H1 hx s1 _ fm1 ok => ?_
  obtain ⟨ds, hd, hp⟩ := hx
  obtain ⟨a, vs, rfl, hq, r⟩ := VOk.seqT ok hd
  refine ⟨_, _, rfl, hq _ fm1.fh, q _ _ Γ1 F1 H1 hp s1 fm1 ⟨⟨_, _, (enumD_len.trans r.len) ▸ walk_enumT, fun F2 H2 f1 f2 => hq _ (f1.trans f2), fun i H2 x H3 F2 hi f1 f2 y => ?_⟩⟩⟩
  obtain ⟨T, x1, x2, h1, h2, h3, h4, h5⟩ := y
  cases h4
  obtain ⟨d, hd, rd⟩ := r.getV h5
  exact ⟨_, enumD_get hd, .inr ⟨T, _, _, h1, h2, h3, rfl, .cons (.int _) (.cons (rd.ex f1) .nil)⟩⟩
end
end VY

/-! VY: zip(list, tuple). -/
namespace VY
open PySem PySem.Spec PyProof.Rows L2
def ItzM (K : PySem.W.Frag) (a b : Addr) : It :=
  ⟨fun i H => ∃ (xs ys : List V) (x y : V), SqL K H a xs ∧ SqT K H b ys ∧ xs[i]? = some x ∧ ys[i]? = some y,
    fun i H v H' => ∃ T x y, v = .ref T ∧ H T = none ∧ H' = upd H T (.tup [x, y]) ∧ (∀ xs, SqL K H a xs → xs[i]? = some x) ∧ ∀ ys, SqT K H b ys → ys[i]? = some y,
    fun i H => ∃ xs ys : List V, SqL K H a xs ∧ SqT K H b ys ∧ i ≤ xs.length ∧ i ≤ ys.length ∧ (i = xs.length ∨ i = ys.length)⟩
theorem turn_zipM {P : Program} {w : World} {K : PySem.W.Frag} {elts : List Expr} {kk : Nat} {tpos : Pos} {a b z TI TO i1 i2 : Addr} (S : ZipSep2 z TI TO i1 i2 [i1, a] [i2, b]) (ha : a ≠ i1) (hb2 : b ≠ i2) :
    Turn P w K (.Tuple elts kk tpos) (ItzM K a b) [z, TI, TO, i1, i2] z (fun i h => IsZip h z TI TO .none ∧ IsTupOf2 h TI (.ref i1) (.ref i2) ∧ (∃ x y, IsTupOf2 h TO x y) ∧ h.IsListIter i1 a i ∧ h.IsTupleIter i2 b i) where
  mem := by simp
  obj := fun i h st c hc => by
    obtain ⟨hz, hTI, ⟨x, y, hTO⟩, ⟨o1, e1, _, d1⟩, ⟨o2, e2, _, d2⟩⟩ := st
    have e' : c = z ∨ c = TI ∨ c = TO ∨ c = i1 ∨ c = i2 := by simpa using hc
    rcases e' with q | q | q | q | q
    · rw [q]; exact ⟨_, hz, fun v q => nomatch q⟩
    · rw [q]; exact ⟨_, hTI, fun v q => nomatch q⟩
    · rw [q]; exact ⟨_, hTO, fun v q => nomatch q⟩
    · rw [q]; exact ⟨o1, e1, fun v q => by rw [d1] at q; cases q⟩
    · rw [q]; exact ⟨o2, e2, fun v q => by rw [d2] at q; cases q⟩
  keep := fun i h h' st k => by
    obtain ⟨hz, hTI, ⟨x, y, hTO⟩, h1, h2⟩ := st
    exact ⟨k z (by simp) _ hz, k TI (by simp) _ hTI, ⟨x, y, k TO (by simp) _ hTO⟩, h1.at fun o q => k i1 (by simp) o q, h2.at fun o q => k i2 (by simp) o q⟩
  item := by
    intro X hP hw hK hc i pins s σ H E I hf st hg
    subst hP hw hK
    obtain ⟨hz, hTI, ⟨x0, y0, hTO⟩, h1, h2⟩ := st
    obtain ⟨xs, ys, x, y, hqx, hqy, hx, hy⟩ := hg
    obtain ⟨its, rv, p, _⟩ := I.list hqx
    obtain ⟨its2, rv2, p2, _⟩ := I.tuple hqy
    obtain ⟨u, hu, ru⟩ := rv.get hx
    obtain ⟨u2, hu2, ru2⟩ := rv2.get hy
    have hzl : z < s.heap.objs.size := Heap.lt_size hz
    have l1 : i < its.toArray.size := by simpa using (List.getElem?_eq_some_iff.mp hu).1
    have l2 : i < its2.toArray.size := by simpa using (List.getElem?_eq_some_iff.mp hu2).1
    refine wpAny_pyNext_zipD2_item S (Draws.list (prog := X.prog) (w := X.w) (A := X.A.in1) (I.ok.hd hc) i1 a ha its.toArray) (Draws.tuple (prog := X.prog) (w := X.w) (A := X.A.in1) (I.ok.hd hc) i2 b hb2 its2.toArray) hz hTI hTO ⟨h1, p.isList⟩ ⟨h2, p2⟩ l1 l2 fun x' y' h' tk hx' hy' z' TO' h1' h2' hT hsz hk => ?_
    have ex : x' = u := by
      have a1 : its.toArray[i]? = some x' := hx'
      have a2 : its.toArray[i]? = some u := by simpa using hu
      exact Option.some.inj (a1.symm.trans a2)
    have ey : y' = u2 := by
      have a1 : its2.toArray[i]? = some y' := hy'
      have a2 : its2.toArray[i]? = some u2 := by simpa using hu2
      exact Option.some.inj (a1.symm.trans a2)
    subst ex ey
    refine ⟨_, rfl, wpAny_letOwnedTupleGo_zip (s := { s with heap := h', toks := tk }) z' fun h'' z'' sb => ?_⟩
    have hT2 : h''.get? s.heap.objs.size = some { cls := .type "tuple", data := .seq #[x', y'] } := (sb.2 _ (Nat.ne_of_gt hzl)).trans hT
    have new : ObjOk X.prog X.w (upd H s.heap.objs.size (.tup [x, y])) h'' s.heap.objs.size (.tup [x, y]) :=
      ⟨by show 2 ≤ sizeLine; decide, [x', y'], .cons ru (.cons ru2 .nil), ⟨_, hT2, rfl, _, rfl⟩⟩
    have I1 : Inv X pins σ (upd H s.heap.objs.size (.tup [x, y])) { s with heap := h'', toks := tk } :=
      I.turnedNew (t' := tk) (ch := [z, TI, TO, i1, i2]) (fun c o hb q => (sb.2 c (fun q' => hb (by simp [q']))).trans (hk c o (fun q' => hb (by simp [q'])) (fun q' => hb (by simp [q'])) (fun q' => hb (by simp [q'])) (fun q' => hb (by simp [q'])) q)) hf (Nat.le_refl _) new
    have i1z : i1 ≠ z := fun e => S.zf1 (by rw [← e]; simp)
    have i2z : i2 ≠ z := fun e => S.zf2 (by rw [← e]; simp)
    refine ⟨.ref s.heap.objs.size, _, I1, rfl, ⟨_, x, y, rfl, I.hok.fresh (Nat.le_refl _), rfl, fun l hl => by rw [I.list_inj hl hqx]; exact hx, fun l hl => by rw [I.tuple_inj hl hqy]; exact hy⟩, ⟨z'', ?_, ⟨x', y', ?_⟩, ?_, ?_⟩, fun c hcm => ?_⟩
    · exact (sb.2 _ S.TIz).trans (hk _ _ S.TIz S.TITO S.TIi1 S.TIi2 hTI)
    · exact (sb.2 _ S.TOz).trans TO'
    · exact h1'.1.at fun o q => (sb.2 _ i1z).trans q
    · exact h2'.1.at fun o q => (sb.2 _ i2z).trans q
    · have hlt : c < s.heap.objs.size := by
        have e' : c = z ∨ c = TI ∨ c = TO ∨ c = i1 ∨ c = i2 := by simpa using hcm
        rcases e' with q | q | q | q | q
        · rw [q]; exact hzl
        · rw [q]; exact Heap.lt_size hTI
        · rw [q]; exact Heap.lt_size hTO
        · rw [q]; obtain ⟨_, e1, _⟩ := h1; exact Heap.lt_size e1
        · rw [q]; obtain ⟨_, e2, _⟩ := h2; exact Heap.lt_size e2
      rw [upd_ne (Nat.ne_of_lt hlt)]
      exact (hf c hcm).1
  done := by
    intro X hP hw hK hc i pins s σ H E I hf st hg
    subst hP hw hK
    obtain ⟨hz, hTI, ⟨x0, y0, hTO⟩, h1, h2⟩ := st
    obtain ⟨xs, ys, hqx, hqy, q1, q2, hend⟩ := hg
    obtain ⟨its, rv, p, _⟩ := I.list hqx
    obtain ⟨its2, rv2, p2, _⟩ := I.tuple hqy
    have l1 := rv.length
    have l2 := rv2.length
    exact wpAny_pyNext_zipD2_end S (Draws.list (prog := X.prog) (w := X.w) (A := X.A.in1) (I.ok.hd hc) i1 a ha its.toArray) (Draws.tuple (prog := X.prog) (w := X.w) (A := X.A.in1) (I.ok.hd hc) i2 b hb2 its2.toArray) hz hTI hTO ⟨h1, p.isList⟩ ⟨h2, p2⟩ (by simp; omega) (by simp; omega) (by simp; omega)
      fun h' tk hk => ⟨rfl, I.turnedL (t' := tk) (ch := [z, TI, TO, i1, i2]) (fun c o hb q => hk c o (fun q' => hb (by simp [q'])) (fun q' => hb (by simp [q'])) (fun q' => hb (by simp [q'])) (fun q' => hb (by simp [q'])) q) hf⟩
  self := fun A i s Q E st h => wpAny_pyIter_zip st.1 h
def iZipM (K : PySem.W.Frag) (ta : TA) : TI := fun σ H R => ta σ H fun vs H1 => ∃ a b xs ys, vs = [.ref a, .ref b] ∧ SqL K H1 a xs ∧ SqT K H1 b ys ∧ R (ItzM K a b) H1
theorem pi_zipM {X : Cx} {e e2 : Expr} {ta : TA} {p pos tpos : Pos} {elts : List Expr} {kk : Nat} (hg : Gl X "zip") (hm : X.mg "zip" = none) (ha : PA X [e, e2] ta)
    (hs : starEach [e, e2] X.env = (false, eval e X.env) :: starEach [e2] X.env := by rfl) (hpl : (backTo pos (starEach [e2] X.env)).any (·.1) = false := by rfl) :
    PI X (.Tuple elts kk tpos) (.Call (.Name "zip" p) [e, e2] [] pos) (iZipM X.K ta) := by
  refine ⟨fun pins s σ H R I h => ?_⟩
  refine Call_ (ld_blt I hg hm PyProof.Rows.boot_zip (PyProof.Rows.callWith_type1 (thn (ha.run pos pins s σ H _ I h) fun us s1 ⟨vs, H1, I1, r1, q1⟩ => ?_) hs hpl))
  obtain ⟨a, b, xs, ys, ex, hqx, hqy, q⟩ := q1
  subst ex
  cases r1 with
  | cons r rr =>
    cases rr with
    | cons r' rr =>
      cases rr
      cases r
      cases r'
      have fresh5 : ∀ c, c ∈ [s1.heap.objs.size + 4, s1.heap.objs.size + 2, s1.heap.objs.size + 3, s1.heap.objs.size, s1.heap.objs.size + 1] → FpOk X pins H1 c := fun c hcm => by
        have e' : c = s1.heap.objs.size + 4 ∨ c = s1.heap.objs.size + 2 ∨ c = s1.heap.objs.size + 3 ∨ c = s1.heap.objs.size ∨ c = s1.heap.objs.size + 1 := by simpa using hcm
        have hle : s1.heap.objs.size ≤ c := by
          rcases e' with z | z | z | z | z
          · rw [z]; exact Nat.le_add_right _ _
          · rw [z]; exact Nat.le_add_right _ _
          · rw [z]; exact Nat.le_add_right _ _
          · rw [z]; exact Nat.le_refl _
          · rw [z]; exact Nat.le_add_right _ _
        exact I1.fpOk hle (I1.hok.fresh hle)
      obtain ⟨its, rv, p1, _⟩ := I1.list hqx
      obtain ⟨its2, rv2, p2, _⟩ := I1.tuple hqy
      obtain ⟨o2, ho2, _⟩ := id p2
      have la : a < s1.heap.objs.size := p1.lt
      have lb : b < s1.heap.objs.size := Heap.lt_size ho2
      refine zip_begins2 (begins_list a its.toArray) (begins_tuple b its2.toArray) p1.isList p2 fun h' hz hTI hTO h1 h2 hsz hk => wpAny_pyIter_zip hz ?_
      have I2 : Inv X pins σ H1 { s1 with heap := h' } := I1.kept (t' := s1.toks) hk
      exact ⟨s1.heap.objs.size + 4, [s1.heap.objs.size + 4, s1.heap.objs.size + 2, s1.heap.objs.size + 3, s1.heap.objs.size, s1.heap.objs.size + 1], _, _, H1, rfl, I2, turn_zipM (zip_sep2 (N := s1.heap.objs.size) (fp1 := [a]) (fp2 := [b]) (by simpa using la) (by simpa using lb)) (Nat.ne_of_lt la) (Nat.ne_of_lt (Nat.lt_succ_of_lt lb)), ⟨hz, hTI, ⟨_, _, hTO⟩, ⟨_, h1, rfl, rfl⟩, ⟨_, h2, rfl, rfl⟩⟩, fresh5, q⟩
theorem walk_zipM {K : PySem.W.Frag} {a b : Addr} {xs ys : List V} : Walk (ItzM K a b) (min xs.length ys.length) (fun H => SqL K H a xs ∧ SqT K H b ys) (YPair (fun i => xs[i]?) (fun i => ys[i]?)) := by
  refine ⟨fun i _ hi q => ?_, fun _ q => ⟨xs, ys, q.1, q.2, by omega, by omega, by omega⟩, fun i H v H' _ q y => ?_⟩
  · have h1 : i < xs.length := by omega
    have h2 : i < ys.length := by omega
    exact ⟨xs, ys, xs[i], ys[i], q.1, q.2, by simp [h1], by simp [h2]⟩
  · obtain ⟨T, x, z, h1, h2, h3, h4, h5⟩ := y
    exact ⟨T, x, z, h1, h2, h3, h4 xs q.1, h5 ys q.2⟩
section
variable {X : Cx} {Γ : List Dsc} {a b e tg iter : Expr} {pos p pos' tpos : Pos} {Q : List D → List Dsc → Prop} {elts : List Expr} {kk : Nat}
theorem iw_zipM (hm : X.mg "zip" = none) (h : EW X a Γ fun x Γ1 => EW X b Γ1 fun y Γ2 => ∃ xs ys, x = .dat (.lst xs) ∧ y = .dat (.tup ys) ∧ Q (zipD xs ys) Γ2) (hg : Gl X "zip" := by rfl)
    (hs : starEach [a, b] X.env = (false, eval a X.env) :: starEach [b] X.env := by rfl) (hs2 : starEach [b] X.env = (false, eval b X.env) :: starEach [] X.env := by rfl) (hpl : (backTo pos (starEach [b] X.env)).any (·.1) = false := by rfl) :
    IW X (.Tuple elts kk tpos) (.Call (.Name "zip" p) [a, b] [] pos) Γ Q := by
  intro A F H σ fm R q
  refine ⟨_, pi_zipM hg hm (pa_cons pe_top (pa_cons pe_top pa_nil hs2) hs) hs hpl, ?_⟩
  show EV X a σ H fun x H1 => EV X b σ H1 fun y H2 => ∃ a b xs ys, [x, y] = [.ref a, .ref b] ∧ SqL X.K H2 a xs ∧ SqT X.K H2 b ys ∧ R (ItzM X.K a b) H2
  refine h.run fm Stp.refl fun x Γ1 v F1 H1 hx s1 _ fm1 ok => ?_
  refine hx.run fm1 s1 fun y Γ2 v2 F2 H2 hy s2 s2' fm2 ok2 => ?_
  obtain ⟨xs, ys, rfl, rfl, hp⟩ := hy
  have ok' := ok.stp s2'
  cases ok' with
  | lst e r =>
  cases ok2 with
  | tup e2 r2 =>
  refine ⟨_, _, _, _, rfl, .inl (.inl (fm2.fh _ _ e)), .inl (.inl (fm2.fh _ _ e2)), q _ _ Γ2 F2 H2 hp s2 fm2 ?_⟩
  have hl : (zipD xs ys).length = _ := zipD_len
  exact its_zip walk_zipM (fun F2 H2 f1 f2 => ⟨.inl (.inl ((f1.trans f2) _ _ e)), .inl (.inl ((f1.trans f2) _ _ e2))⟩) r r2
end
end VY

/-! VY: for x in zip(*rows), rows a list of two tuples: the tuples that are given out are kept. -/
namespace PySem
open Sem (wp)
open PySem.W (StarOf ks_lone)
abbrev IsZipG (h : Heap) (z TI TO : Addr) (f0 : Value) (b : Bool) : Prop :=
  h.get? z = some { cls := .type "zip", dict := none, data := .fields #[f0, .bool b, .bool false, .ref TI, .ref TO], slots := #[] }
def ZOk (f0 : Value) : Prop := f0 = .none ∨ ∃ T : Addr, f0 = rawInt T
section
variable {prog : Program} {w : World} {A : Around} {E : Value → Shared → Prop} {s : Shared} {z TI TO i1 i2 : Addr} {fp1 fp2 : List Addr} {n1 n2 i : Nat} {P1 P2 : Nat → Value → Prop} {St1 St2 : Nat → Heap → Prop} {a1 a2 : Value} {f0 : Value} {b : Bool}
theorem zg_free {Q : Bool → Shared → Prop} (hz : IsZipG s.heap z TI TO f0 b) (ok : ZOk f0)
    (h : ∀ r h' b', IsZipG h' z TI TO f0 b' → Heap.SameBut z s.heap h' → Q r { s with heap := h' }) : wpAny (model prog w) A (Builtin.SmallTypes.ownedTupleIsFree (.ref z)) Q E s := by
  unfold Builtin.SmallTypes.ownedTupleIsFree
  rcases ok with rfl | ⟨T, rfl⟩
  · exact wpAny_bind (wpAny_field hz rfl (x := .none) rfl (wpAny_pure (h true s.heap b hz (Heap.SameBut.refl _ _))))
  · refine wpAny_bind (wpAny_field hz rfl (x := rawInt T) rfl ?_)
    show wpAny _ _ (loadIfAlive ((T : Int).toNat) >>= _) _ _ _
    rw [Int.toNat_natCast]
    have al : ∀ {Q' : Option Obj → Shared → Prop}, Q' (s.heap.get? T) s → wpAny (model prog w) A (loadIfAlive T) Q' E s := fun h' => fun _ _ _ => h'
    refine wpAny_bind (al ?_)
    cases s.heap.get? T with
    | none =>
      simp only [Option.isNone_none, if_true]
      exact wpAny_pure (h true s.heap b hz (Heap.SameBut.refl _ _))
    | some oT =>
      simp only [Option.isNone_some, Bool.false_eq_true, if_false]
      refine wpAny_bind (wpAny_field hz rfl (x := .bool b) rfl ?_)
      cases b with
      | true =>
        rw [if_neg (show ¬ ((Value.bool true != Value.bool true) = true) from Bool.false_ne_true)]
        exact wpAny_pure (h false s.heap true hz (Heap.SameBut.refl _ _))
      | false =>
        rw [if_pos (show (Value.bool false != Value.bool true) = true from rfl)]
        exact wpAny_bind (wpAny_setField_rec hz (by simp) fun h₁ hz₁ hs₁ => wpAny_pure (h false h₁ true hz₁ hs₁))
theorem zg_next_item {Q : Value → Shared → Prop} (S : ZipSep2 z TI TO i1 i2 fp1 fp2) (D1 : Draws prog w A i1 fp1 n1 P1 St1) (D2 : Draws prog w A i2 fp2 n2 P2 St2) (D1' : Draws prog w A.in1 i1 fp1 n1 P1 St1) (D2' : Draws prog w A.in1 i2 fp2 n2 P2 St2)
    (hz : IsZipG s.heap z TI TO f0 b) (ok : ZOk f0) (hTI : IsTupOf2 s.heap TI (.ref i1) (.ref i2)) (hTO : IsTupOf2 s.heap TO a1 a2) (st1 : St1 i s.heap) (st2 : St2 i s.heap) (hlt1 : i < n1) (hlt2 : i < n2)
    (hQ : ∀ x1 x2 h' tk f0' b', P1 i x1 → P2 i x2 → ZOk f0' → IsZipG h' z TI TO f0' b' → (∃ a1 a2, IsTupOf2 h' TO a1 a2) → St1 (i + 1) h' → St2 (i + 1) h' → IsTupOf2 h' s.heap.objs.size x1 x2 → h'.objs.size = s.heap.objs.size + 1 →
      (∀ c o, c ≠ z → c ≠ TO → c ≠ i1 → c ≠ i2 → s.heap.get? c = some o → h'.get? c = some o) → Q (.ref s.heap.objs.size) { s with heap := h', toks := tk }) :
    wpAny (model prog w) A (Builtin.«zip.__next__» ⟨[.ref z], []⟩) (fun fin s' => ∃ v, fin = .done (.ret v) ∧ Q v s') E s := by
  obtain ⟨hp, g, d, tk0, os⟩ := s
  show wpAny _ _ (field (.ref z) 2 >>= _) _ _ _
  refine wpAny_bind (wpAny_field hz rfl (x := .bool false) rfl ?_)
  show wpAny _ _ (field (.ref z) 3 >>= _) _ _ _
  refine wpAny_bind (wpAny_field hz rfl (x := .ref TI) rfl ?_)
  refine wpAny_bind (wpAny_seqItems hTI rfl ?_)
  show wpAny _ _ (Builtin.SmallTypes.ownedTupleIsFree (.ref z) >>= _) _ _ _
  refine wpAny_bind (zg_free hz ok fun r h00 b' hz' hs00 => ?_)
  replace hs00 : Heap.SameBut z hp h00 := hs00
  cases r with
  | true =>
    simp only [if_true]
    refine wpAny_bind (wpAny_rule ?_)
    refine wpAny_bind (wpAny_field (s := ⟨h00, g, d, tk0, os⟩) hz' rfl (x := .ref TO) rfl ?_)
    refine wpAny_bind (wpAny_setField_rec (s := ⟨h00, g, d, tk0, os⟩) hz' (by simp) fun g0 hz0 hs0' => ?_)
    replace hz0 : IsZipG g0 z TI TO .ellipsis b' := hz0
    replace hs0' : Heap.SameBut z h00 g0 := hs0'
    have hs0 : Heap.SameBut z hp g0 := ⟨by rw [hs0'.1, hs00.1], fun c hc => (hs0'.2 c hc).trans (hs00.2 c hc)⟩
    refine wpAny_bind ?_
    simp only [List.zipIdx_cons, List.zipIdx_nil, List.forIn_cons, List.forIn_nil]
    refine wpAny_bind (wpAny_bind (wpAny_onRaise ?_))
    show wpAny _ _ (Builtin.SmallTypes.nextOf (.ref i1) >>= _) _ _ ⟨g0, g, d, tk0, os⟩
    refine wpAny_bind (D1.item i _ _ _ hlt1 (D1.over st1 hs0 S.zf1) fun x1 p1 tk1 hx1 sn1 hp1 => wpAny_pure ?_)
    replace hp1 : Heap.SameBut i1 g0 p1 := hp1
    have hU1 : IsTupOf2 p1 TO a1 a2 := hp1.extBut _ _ S.Ti1 (hs0.extBut _ _ S.TOz hTO)
    refine wpAny_bind (wpAny_seqItems (s := ⟨p1, g, d, tk1, os⟩) hU1 rfl ?_)
    refine wpAny_bind (updateSeq_IsTupOf2 (s := ⟨p1, g, d, tk1, os⟩) hU1 fun g1 hT1 hs1 => ?_)
    replace hT1 : IsTupOf2 g1 TO x1 a2 := hT1
    replace hs1 : Heap.SameBut TO p1 g1 := hs1
    refine wpAny_bind (wpAny_letGo (wpAny_pure ?_))
    refine wpAny_bind (wpAny_bind (wpAny_onRaise ?_))
    show wpAny _ _ (Builtin.SmallTypes.nextOf (.ref i2) >>= _) _ _ ⟨g1, g, d, tk1, os⟩
    refine wpAny_bind (D2.item i _ _ _ hlt2 (D2.over (D2.over (D2.over st2 hs0 S.zf2) hp1 S.sep1_2) hs1 S.Tf2) fun x2 p2 tk2 hx2 sn2 hp2 => wpAny_pure ?_)
    replace hp2 : Heap.SameBut i2 g1 p2 := hp2
    have hU2 : IsTupOf2 p2 TO x1 a2 := hp2.extBut _ _ S.Ti2 hT1
    refine wpAny_bind (wpAny_seqItems (s := ⟨p2, g, d, tk2, os⟩) hU2 rfl ?_)
    refine wpAny_bind (updateSeq_IsTupOf2 (s := ⟨p2, g, d, tk2, os⟩) hU2 fun g2 hT2 hs2 => ?_)
    replace hT2 : IsTupOf2 g2 TO x1 x2 := hT2
    replace hs2 : Heap.SameBut TO p2 g2 := hs2
    refine wpAny_bind (wpAny_letGo (wpAny_pure (wpAny_pure ?_)))
    refine wpAny_bind (wpAny_seqItems (s := ⟨g2, g, d, tk2, os⟩) hT2 rfl ?_)
    refine wpAny_bind (wpAny_newTuple ?_)
    have hsz : g2.objs.size = hp.objs.size := by rw [hs2.1, hp2.1, hs1.1, hp1.1, hs0.1]
    have hzz : IsZipG g2 z TI TO .ellipsis b' := (hs2.extBut _ _ S.TOz.symm (hp2.extBut _ _ S.zi2 (hs1.extBut _ _ S.TOz.symm (hp1.extBut _ _ S.zi1 hz0))))
    have hkk : ∀ c o, c ≠ z → c ≠ TO → c ≠ i1 → c ≠ i2 → hp.get? c = some o → g2.get? c = some o := fun c o cz cT c1 c2 e =>
      (hs2.extBut _ _ cT (hp2.extBut _ _ c2 (hs1.extBut _ _ cT (hp1.extBut _ _ c1 (hs0.extBut _ _ cz e)))))
    have hj1 : St1 (i + 1) g2 := (D1.over (D1.over (D1.over sn1 hs1 S.Tf1) hp2 S.sep2_1) hs2 S.Tf1)
    have hj2 : St2 (i + 1) g2 := (D2.over sn2 hs2 S.Tf2)
    have hzlt : z < g2.objs.size := Heap.lt_size hzz
    show wpAny _ _ (Builtin.SmallTypes.ownedTupleHandOut (.ref z) (.ref g2.objs.size) >>= _) _ _ ⟨g2.push { cls := .type "tuple", data := .seq #[x1, x2] }, g, d, tk2, os⟩
    refine wpAny_bind ?_
    unfold Builtin.SmallTypes.ownedTupleHandOut
    have hz₆ : IsZipG (g2.push { cls := .type "tuple", data := .seq #[x1, x2] }) z TI TO .ellipsis b' := Heap.get?_push_of_some _ hzz
    refine wpAny_bind (wpAny_setField_rec hz₆ (by simp) fun h₇ hz₇ hs₇ => ?_)
    replace hz₇ : IsZipG h₇ z TI TO (rawInt g2.objs.size) b' := hz₇
    refine wpAny_setField_rec hz₇ (by simp) fun h₈ hz₈ hs₈ => ?_
    replace hz₈ : IsZipG h₈ z TI TO (rawInt g2.objs.size) false := hz₈
    replace hs₇ : Heap.SameBut z (g2.push { cls := .type "tuple", data := .seq #[x1, x2] }) h₇ := hs₇
    replace hs₈ : Heap.SameBut z h₇ h₈ := hs₈
    have up : ∀ c o, c ≠ z → g2.get? c = some o → h₈.get? c = some o := fun c o c1 e => hs₈.extBut _ _ c1 (hs₇.extBut _ _ c1 (Heap.get?_push_of_some _ e))
    have hT₈ : IsTupOf2 h₈ g2.objs.size x1 x2 := hs₈.extBut _ _ (Nat.ne_of_gt hzlt) (hs₇.extBut _ _ (Nat.ne_of_gt hzlt) (Heap.get?_push_size _ rfl))
    have hz8 : h₈.objs.size = g2.objs.size + 1 := by rw [hs₈.1, hs₇.1, Heap.size_push]
    rw [hsz] at hz₈ hT₈ hz8
    refine wpAny_pure ⟨_, rfl, ?_⟩
    show Q (.ref g2.objs.size) ⟨h₈, g, d, tk2, os⟩
    rw [hsz]
    exact hQ x1 x2 h₈ tk2 _ _ hx1 hx2 (.inr ⟨_, rfl⟩) hz₈ ⟨_, _, up _ _ S.TOz hT2⟩ (D1.frame _ _ _ hj1 fun b hb o e => up b o (fun q => S.zf1 (q ▸ hb)) e) (D2.frame _ _ _ hj2 fun b hb o e => up b o (fun q => S.zf2 (q ▸ hb)) e) hT₈ hz8 fun c o cz cT c1 c2 e => up c o cz (hkk c o cz cT c1 c2 e)
  | false =>
    simp only [Bool.false_eq_true, if_false]
    refine wpAny_bind ?_
    rw [← Array.forIn_toList]
    simp only [List.forIn_cons, List.forIn_nil]
    refine wpAny_bind (wpAny_bind (wpAny_holding ?_))
    show wpAny _ _ (Builtin.SmallTypes.nextOf (.ref i1) >>= _) _ _ ⟨h00, g, d, tk0, os⟩
    refine wpAny_bind (D1.item i _ _ _ hlt1 (D1.over st1 hs00 S.zf1) fun x1 p1 tk1 hx1 sn1 hp1 => wpAny_pure ?_)
    replace hp1 : Heap.SameBut i1 h00 p1 := hp1
    refine wpAny_pure ?_
    refine wpAny_bind (wpAny_bind (wpAny_holding ?_))
    show wpAny _ _ (Builtin.SmallTypes.nextOf (.ref i2) >>= _) _ _ ⟨p1, g, d, tk1, os⟩
    refine wpAny_bind (D2.item i _ _ _ hlt2 (D2.over (D2.over st2 hs00 S.zf2) hp1 S.sep1_2) fun x2 p2 tk2 hx2 sn2 hp2 => wpAny_pure ?_)
    replace hp2 : Heap.SameBut i2 p1 p2 := hp2
    refine wpAny_pure (wpAny_pure ?_)
    show wpAny _ _ (newTuple [x1, x2] >>= _) _ _ ⟨p2, g, d, tk2, os⟩
    refine wpAny_bind (wpAny_newTuple ?_)
    have hsz : p2.objs.size = hp.objs.size := by rw [hp2.1, hp1.1, hs00.1]
    have up : ∀ c o, p2.get? c = some o → (p2.push { cls := .type "tuple", data := .seq #[x1, x2] }).get? c = some o := fun c o e => Heap.get?_push_of_some _ e
    have hkk : ∀ c o, c ≠ z → c ≠ TO → c ≠ i1 → c ≠ i2 → hp.get? c = some o → (p2.push { cls := .type "tuple", data := .seq #[x1, x2] }).get? c = some o := fun c o cz cT c1 c2 e =>
      up c o (hp2.extBut _ _ c2 (hp1.extBut _ _ c1 (hs00.extBut _ _ cz e)))
    have hzz : IsZipG (p2.push { cls := .type "tuple", data := .seq #[x1, x2] }) z TI TO f0 b' := up _ _ (hp2.extBut _ _ S.zi2 (hp1.extBut _ _ S.zi1 hz'))
    have hTO2 : IsTupOf2 (p2.push { cls := .type "tuple", data := .seq #[x1, x2] }) TO a1 a2 := up _ _ (hp2.extBut _ _ S.Ti2 (hp1.extBut _ _ S.Ti1 (hs00.extBut _ _ S.TOz hTO)))
    have hj1 : St1 (i + 1) (p2.push { cls := .type "tuple", data := .seq #[x1, x2] }) := D1.frame _ _ _ (D1.over sn1 hp2 S.sep2_1) fun b hb o e => up b o e
    have hj2 : St2 (i + 1) (p2.push { cls := .type "tuple", data := .seq #[x1, x2] }) := D2.frame _ _ _ sn2 fun b hb o e => up b o e
    have hT : IsTupOf2 (p2.push { cls := .type "tuple", data := .seq #[x1, x2] }) p2.objs.size x1 x2 := Heap.get?_push_size _ rfl
    have hz8 : (p2.push { cls := .type "tuple", data := .seq #[x1, x2] }).objs.size = p2.objs.size + 1 := Heap.size_push ..
    refine wpAny_pure ⟨_, rfl, ?_⟩
    show Q (.ref p2.objs.size) ⟨_, g, d, tk2, os⟩
    rw [hsz] at hT hz8 ⊢
    exact hQ x1 x2 _ tk2 _ _ hx1 hx2 ok hzz ⟨_, _, hTO2⟩ hj1 hj2 hT hz8 hkk
end
end PySem

namespace PySem
open Sem (wp)
open PySem.W (StarOf ks_lone)
section
variable {prog : Program} {w : World} {A : Around} {E : Value → Shared → Prop} {s : Shared} {z TI TO i1 i2 : Addr} {fp1 fp2 : List Addr} {n1 n2 i : Nat} {P1 P2 : Nat → Value → Prop} {St1 St2 : Nat → Heap → Prop} {a1 a2 : Value} {f0 : Value} {b : Bool}
theorem zg_next_end {Q : Fin → Shared → Prop} (S : ZipSep2 z TI TO i1 i2 fp1 fp2) (D1 : Draws prog w A i1 fp1 n1 P1 St1) (D2 : Draws prog w A i2 fp2 n2 P2 St2)
    (hz : IsZipG s.heap z TI TO f0 b) (ok : ZOk f0) (hTI : IsTupOf2 s.heap TI (.ref i1) (.ref i2)) (hTO : IsTupOf2 s.heap TO a1 a2) (st1 : St1 i s.heap) (st2 : St2 i s.heap) (hle1 : i ≤ n1) (hle2 : i ≤ n2) (hend : i = n1 ∨ i = n2)
    (hE : ∀ h' tk e, (∀ c o, c ≠ z → c ≠ TO → c ≠ i1 → c ≠ i2 → s.heap.get? c = some o → h'.get? c = some o) → (∃ o, h'.get? e = some o ∧ o.cls = .type "StopIteration") → E (.ref e) { s with heap := h', toks := tk }) :
    wpAny (model prog w) A (Builtin.«zip.__next__» ⟨[.ref z], []⟩) Q E s := by
  obtain ⟨hp, g, d, tk0, os⟩ := s
  show wpAny _ _ (field (.ref z) 2 >>= _) _ _ _
  refine wpAny_bind (wpAny_field hz rfl (x := .bool false) rfl ?_)
  show wpAny _ _ (field (.ref z) 3 >>= _) _ _ _
  refine wpAny_bind (wpAny_field hz rfl (x := .ref TI) rfl ?_)
  refine wpAny_bind (wpAny_seqItems hTI rfl ?_)
  show wpAny _ _ (Builtin.SmallTypes.ownedTupleIsFree (.ref z) >>= _) _ _ _
  refine wpAny_bind (zg_free hz ok fun r h00 b' hz' hs00 => ?_)
  replace hs00 : Heap.SameBut z hp h00 := hs00
  cases r with
  | true =>
    simp only [if_true]
    refine wpAny_bind (wpAny_rule ?_)
    refine wpAny_bind (wpAny_field (s := ⟨h00, g, d, tk0, os⟩) hz' rfl (x := .ref TO) rfl ?_)
    refine wpAny_bind (wpAny_setField_rec (s := ⟨h00, g, d, tk0, os⟩) hz' (by simp) fun g0 hz0 hs0' => ?_)
    replace hz0 : IsZipG g0 z TI TO .ellipsis b' := hz0
    replace hs0' : Heap.SameBut z h00 g0 := hs0'
    have hs0 : Heap.SameBut z hp g0 := ⟨by rw [hs0'.1, hs00.1], fun c hc => (hs0'.2 c hc).trans (hs00.2 c hc)⟩
    refine wpAny_bind ?_
    simp only [List.zipIdx_cons, List.zipIdx_nil, List.forIn_cons, List.forIn_nil]
    refine wpAny_bind (wpAny_bind (wpAny_onRaise ?_))
    show wpAny _ _ (Builtin.SmallTypes.nextOf (.ref i1) >>= _) _ _ ⟨g0, g, d, tk0, os⟩
    by_cases hlt1 : i < n1
    · refine wpAny_bind (D1.item i _ _ _ hlt1 (D1.over st1 hs0 S.zf1) fun x1 p1 tk1 hx1 sn1 hp1 => wpAny_pure ?_)
      replace hp1 : Heap.SameBut i1 g0 p1 := hp1
      have hU1 : IsTupOf2 p1 TO a1 a2 := hp1.extBut _ _ S.Ti1 (hs0.extBut _ _ S.TOz hTO)
      refine wpAny_bind (wpAny_seqItems (s := ⟨p1, g, d, tk1, os⟩) hU1 rfl ?_)
      refine wpAny_bind (updateSeq_IsTupOf2 (s := ⟨p1, g, d, tk1, os⟩) hU1 fun g1 hT1 hs1 => ?_)
      replace hT1 : IsTupOf2 g1 TO x1 a2 := hT1
      replace hs1 : Heap.SameBut TO p1 g1 := hs1
      refine wpAny_bind (wpAny_letGo (wpAny_pure ?_))
      have hi2 : i = n2 := by omega
      refine wpAny_bind (wpAny_bind (wpAny_onRaise ?_))
      show wpAny _ _ (Builtin.SmallTypes.nextOf (.ref i2) >>= _) _ _ ⟨g1, g, d, tk1, os⟩
      refine wpAny_bind (D2.done ⟨g1, g, d, tk1, os⟩ _ _ (by rw [← hi2]; exact (D2.over (D2.over (D2.over st2 hs0 S.zf2) hp1 S.sep1_2) hs1 S.Tf2)) fun q e hq he => ?_)
      replace hq : Heap.ExtBut i2 g1 q := hq
      obtain ⟨oe, hoe, hce⟩ := he
      replace hoe : q.get? e = some oe := hoe
      have hzq : IsZipG q z TI TO .ellipsis b' := hq _ _ S.zi2 (hs1.extBut _ _ S.TOz.symm (hp1.extBut _ _ S.zi1 hz0))
      have hez : e ≠ z := fun x => by subst x; rw [hzq] at hoe; cases hoe; simp at hce
      refine wpAny_setField_rec (s := ⟨q, g, d, tk1, os⟩) hzq (by simp) fun q' _ hq' => ?_
      replace hq' : Heap.SameBut z q q' := hq'
      exact hE q' tk1 e (fun c o cz cT c1 c2 x => hq'.extBut _ _ cz (hq _ _ c2 (hs1.extBut _ _ cT (hp1.extBut _ _ c1 (hs0.extBut _ _ cz x))))) ⟨oe, hq'.extBut _ _ hez hoe, hce⟩
    · have hi1 : i = n1 := by omega
      refine wpAny_bind (D1.done ⟨g0, g, d, tk0, os⟩ _ _ (by rw [← hi1]; exact (D1.over st1 hs0 S.zf1)) fun q e hq he => ?_)
      replace hq : Heap.ExtBut i1 g0 q := hq
      obtain ⟨oe, hoe, hce⟩ := he
      replace hoe : q.get? e = some oe := hoe
      have hzq : IsZipG q z TI TO .ellipsis b' := hq _ _ S.zi1 hz0
      have hez : e ≠ z := fun x => by subst x; rw [hzq] at hoe; cases hoe; simp at hce
      refine wpAny_setField_rec (s := ⟨q, g, d, tk0, os⟩) hzq (by simp) fun q' _ hq' => ?_
      replace hq' : Heap.SameBut z q q' := hq'
      exact hE q' tk0 e (fun c o cz cT c1 c2 x => hq'.extBut _ _ cz (hq _ _ c1 (hs0.extBut _ _ cz x))) ⟨oe, hq'.extBut _ _ hez hoe, hce⟩
  | false =>
    simp only [Bool.false_eq_true, if_false]
    refine wpAny_bind ?_
    rw [← Array.forIn_toList]
    simp only [List.forIn_cons, List.forIn_nil]
    refine wpAny_bind (wpAny_bind (wpAny_holding ?_))
    show wpAny _ _ (Builtin.SmallTypes.nextOf (.ref i1) >>= _) _ _ ⟨h00, g, d, tk0, os⟩
    by_cases hlt1 : i < n1
    · refine wpAny_bind (D1.item i _ _ _ hlt1 (D1.over st1 hs00 S.zf1) fun x1 p1 tk1 hx1 sn1 hp1 => wpAny_pure ?_)
      replace hp1 : Heap.SameBut i1 h00 p1 := hp1
      refine wpAny_pure ?_
      have hi2 : i = n2 := by omega
      refine wpAny_bind (wpAny_bind (wpAny_holding ?_))
      show wpAny _ _ (Builtin.SmallTypes.nextOf (.ref i2) >>= _) _ _ ⟨p1, g, d, tk1, os⟩
      refine wpAny_bind (D2.done ⟨p1, g, d, tk1, os⟩ _ _ (by rw [← hi2]; exact (D2.over (D2.over st2 hs00 S.zf2) hp1 S.sep1_2)) fun q e hq he => ?_)
      replace hq : Heap.ExtBut i2 p1 q := hq
      exact hE q tk1 e (fun c o cz cT c1 c2 x => hq _ _ c2 (hp1.extBut _ _ c1 (hs00.extBut _ _ cz x))) he
    · have hi1 : i = n1 := by omega
      refine wpAny_bind (D1.done ⟨h00, g, d, tk0, os⟩ _ _ (by rw [← hi1]; exact (D1.over st1 hs00 S.zf1)) fun q e hq he => ?_)
      replace hq : Heap.ExtBut i1 h00 q := hq
      exact hE q tk0 e (fun c o cz cT c1 c2 x => hq _ _ c1 (hs00.extBut _ _ cz x)) he
theorem zg_pyNext_item {Q : Option Value → Shared → Prop} (S : ZipSep2 z TI TO i1 i2 fp1 fp2) (D1 : Draws prog w A.in1 i1 fp1 n1 P1 St1) (D2 : Draws prog w A.in1 i2 fp2 n2 P2 St2) (D1' : Draws prog w A.in1.in1 i1 fp1 n1 P1 St1) (D2' : Draws prog w A.in1.in1 i2 fp2 n2 P2 St2)
    (hz : IsZipG s.heap z TI TO f0 b) (ok : ZOk f0) (hTI : IsTupOf2 s.heap TI (.ref i1) (.ref i2)) (hTO : IsTupOf2 s.heap TO a1 a2) (st1 : St1 i s.heap) (st2 : St2 i s.heap) (hlt1 : i < n1) (hlt2 : i < n2)
    (hQ : ∀ x1 x2 h' tk f0' b', P1 i x1 → P2 i x2 → ZOk f0' → IsZipG h' z TI TO f0' b' → (∃ a1 a2, IsTupOf2 h' TO a1 a2) → St1 (i + 1) h' → St2 (i + 1) h' → IsTupOf2 h' s.heap.objs.size x1 x2 → h'.objs.size = s.heap.objs.size + 1 →
      (∀ c o, c ≠ z → c ≠ TO → c ≠ i1 → c ≠ i2 → s.heap.get? c = some o → h'.get? c = some o) → Q (some (.ref s.heap.objs.size)) { s with heap := h', toks := tk }) :
    wpAny (model prog w) A (pyNext (.ref z)) Q E s := by
  have hT : s.TypeIs (.ref z) "zip" := ⟨_, hz, rfl⟩
  unfold pyNext
  exact wpAny_bind (wpAny_attempt (wpAny_callSpecial?_slot (name := Str.ofString "__next__") hT F.slot_zip_next
    (wpAny_call_entry F.slot_zip_next hT F.entry_zip_next
      (zg_next_item S D1 D2 D1' D2' hz ok hTI hTO st1 st2 hlt1 hlt2 fun x1 x2 h' tk f b y1 y2 b0 b1 b2 d1 d2 b5 b6 b7 => wpAny_pure (hQ x1 x2 h' tk f b y1 y2 b0 b1 b2 d1 d2 b5 b6 b7)) (F.args_zip_next_1 _))))
theorem zg_pyNext_end {Q : Option Value → Shared → Prop} (S : ZipSep2 z TI TO i1 i2 fp1 fp2) (D1 : Draws prog w A.in1 i1 fp1 n1 P1 St1) (D2 : Draws prog w A.in1 i2 fp2 n2 P2 St2)
    (hz : IsZipG s.heap z TI TO f0 b) (ok : ZOk f0) (hTI : IsTupOf2 s.heap TI (.ref i1) (.ref i2)) (hTO : IsTupOf2 s.heap TO a1 a2) (st1 : St1 i s.heap) (st2 : St2 i s.heap) (hle1 : i ≤ n1) (hle2 : i ≤ n2) (hend : i = n1 ∨ i = n2)
    (hQ : ∀ h' tk, (∀ c o, c ≠ z → c ≠ TO → c ≠ i1 → c ≠ i2 → s.heap.get? c = some o → h'.get? c = some o) → Q none { s with heap := h', toks := tk }) : wpAny (model prog w) A (pyNext (.ref z)) Q E s := by
  have hT : s.TypeIs (.ref z) "zip" := ⟨_, hz, rfl⟩
  unfold pyNext
  refine wpAny_bind (wpAny_attempt (wpAny_callSpecial?_slot (name := Str.ofString "__next__") hT F.slot_zip_next
    (wpAny_call_entry F.slot_zip_next hT F.entry_zip_next (zg_next_end S D1 D2 hz ok hTI hTO st1 st2 hle1 hle2 hend fun h' tk e hk he => ?_) (F.args_zip_next_1 _))))
  obtain ⟨o, ho, hc⟩ := he
  refine wpAny_bind (wpAny_isInstance (T := "StopIteration") (b := true) ⟨o, ho, hc⟩ isSubtype_stop ?_)
  exact wpAny_pure (hQ _ _ hk)
theorem callWith_typeS {M : Model} {pos : Pos} {T : String} {first : List Value} {args : List (Bool × Sem Value)} {Q : Value → Shared → Prop} (hst : args.any (·.1) = true)
    (h : wpAny M A (evalArgs (.type T) true args []) (fun a s₁ => wpAny M A (call (.type T) (first ++ a.pos) a.kw) Q E s₁) E s) :
    wpAny M A (callWith pos (.type T) first args []) Q E s := by
  unfold callWith
  refine wpAny_bind (wpAny_holding (wpAny_mono h (fun a s₁ h₁ => wpAny_bind (wpAny_standAt ?_)) fun _ _ x => x))
  simp only [hst, Bool.true_or]
  refine wpAny_bind (wpAny_pure ?_)
  exact wpAny_bind (wpAny_mono (by first | exact wpAny_operating h₁ | exact h₁) (fun r s₂ hr => wpAny_bind (wpAny_holding (wpAny_point (wpAny_pure hr)))) fun _ _ x => x)
end
end PySem
namespace VY
open PySem PySem.Spec PyProof.Rows L2
def ItzE (K : PySem.W.Frag) (a b : Addr) : It :=
  ⟨fun i H => ∃ (xs ys : List V) (x y : V), SqT K H a xs ∧ SqT K H b ys ∧ xs[i]? = some x ∧ ys[i]? = some y,
    fun i H v H' => ∃ T x y, v = .ref T ∧ H T = none ∧ H' = upd H T (.tup [x, y]) ∧ (∀ xs, SqT K H a xs → xs[i]? = some x) ∧ ∀ ys, SqT K H b ys → ys[i]? = some y,
    fun i H => ∃ xs ys : List V, SqT K H a xs ∧ SqT K H b ys ∧ i ≤ xs.length ∧ i ≤ ys.length ∧ (i = xs.length ∨ i = ys.length)⟩
/-- as ItzT, the pairs kept -/
theorem turn_zipG {P : Program} {w : World} {K : PySem.W.Frag} {x : Str} {tpos : Pos} {a b z TI TO i1 i2 : Addr} (S : ZipSep2 z TI TO i1 i2 [i1, a] [i2, b]) (ha : a ≠ i1) (hb2 : b ≠ i2) (hia : i1 ≠ z) (hib : i2 ≠ z) :
    Turn P w K (.Name x tpos) (ItzE K a b) [z, TI, TO, i1, i2] z (fun i h => (∃ f0 c, ZOk f0 ∧ IsZipG h z TI TO f0 c) ∧ IsTupOf2 h TI (.ref i1) (.ref i2) ∧ (∃ x y, IsTupOf2 h TO x y) ∧ h.IsTupleIter i1 a i ∧ h.IsTupleIter i2 b i) where
  mem := by simp
  obj := fun i h st c hc => by
    obtain ⟨⟨f0, c0, _, hz⟩, hTI, ⟨x, y, hTO⟩, ⟨o1, e1, _, d1⟩, ⟨o2, e2, _, d2⟩⟩ := st
    have e' : c = z ∨ c = TI ∨ c = TO ∨ c = i1 ∨ c = i2 := by simpa using hc
    rcases e' with q | q | q | q | q
    · rw [q]; exact ⟨_, hz, fun v q => nomatch q⟩
    · rw [q]; exact ⟨_, hTI, fun v q => nomatch q⟩
    · rw [q]; exact ⟨_, hTO, fun v q => nomatch q⟩
    · rw [q]; exact ⟨o1, e1, fun v q => by rw [d1] at q; cases q⟩
    · rw [q]; exact ⟨o2, e2, fun v q => by rw [d2] at q; cases q⟩
  keep := fun i h h' st k => by
    obtain ⟨⟨f0, c0, z0, hz⟩, hTI, ⟨x, y, hTO⟩, h1, h2⟩ := st
    exact ⟨⟨f0, c0, z0, k z (by simp) _ hz⟩, k TI (by simp) _ hTI, ⟨x, y, k TO (by simp) _ hTO⟩, h1.at fun o q => k i1 (by simp) o q, h2.at fun o q => k i2 (by simp) o q⟩
  item := by
    intro X hP hw hK hc i pins s σ H E I hf st hg
    subst hP hw hK
    obtain ⟨⟨f0, c0, z0, hz⟩, hTI, ⟨x0, y0, hTO⟩, h1, h2⟩ := st
    obtain ⟨xs, ys, x, y, hqx, hqy, hx, hy⟩ := hg
    obtain ⟨its, rv, p, _⟩ := I.tuple hqx
    obtain ⟨its2, rv2, p2, _⟩ := I.tuple hqy
    obtain ⟨u, hu, ru⟩ := rv.get hx
    obtain ⟨u2, hu2, ru2⟩ := rv2.get hy
    have hzl : z < s.heap.objs.size := Heap.lt_size hz
    have l1 : i < its.toArray.size := by simpa using (List.getElem?_eq_some_iff.mp hu).1
    have l2 : i < its2.toArray.size := by simpa using (List.getElem?_eq_some_iff.mp hu2).1
    refine zg_pyNext_item S (Draws.tuple (prog := X.prog) (w := X.w) (A := X.A.in1) (I.ok.hd hc) i1 a ha its.toArray) (Draws.tuple (prog := X.prog) (w := X.w) (A := X.A.in1) (I.ok.hd hc) i2 b hb2 its2.toArray)
      (Draws.tuple (prog := X.prog) (w := X.w) (A := X.A.in1.in1) (I.ok.hd hc) i1 a ha its.toArray) (Draws.tuple (prog := X.prog) (w := X.w) (A := X.A.in1.in1) (I.ok.hd hc) i2 b hb2 its2.toArray) hz z0 hTI hTO ⟨h1, p⟩ ⟨h2, p2⟩ l1 l2 fun x' y' h' tk f1 c1 hx' hy' z1 z' TO' h1' h2' hT hsz hk => ?_
    have ex : x' = u := by
      have a1 : its.toArray[i]? = some x' := hx'
      have a2 : its.toArray[i]? = some u := by simpa using hu
      exact Option.some.inj (a1.symm.trans a2)
    have ey : y' = u2 := by
      have a1 : its2.toArray[i]? = some y' := hy'
      have a2 : its2.toArray[i]? = some u2 := by simpa using hu2
      exact Option.some.inj (a1.symm.trans a2)
    subst ex ey
    refine ⟨_, rfl, wpAny_pure ?_⟩
    have new : ObjOk X.prog X.w (upd H s.heap.objs.size (.tup [x, y])) h' s.heap.objs.size (.tup [x, y]) :=
      ⟨by show 2 ≤ sizeLine; decide, [x', y'], .cons ru (.cons ru2 .nil), ⟨_, hT, rfl, _, rfl⟩⟩
    have I1 : Inv X pins σ (upd H s.heap.objs.size (.tup [x, y])) { s with heap := h', toks := tk } :=
      I.turnedNew (t' := tk) (ch := [z, TI, TO, i1, i2]) (fun c o hb q => hk c o (fun q' => hb (by simp [q'])) (fun q' => hb (by simp [q'])) (fun q' => hb (by simp [q'])) (fun q' => hb (by simp [q'])) q) hf (Nat.le_refl _) new
    refine ⟨.ref s.heap.objs.size, _, I1, rfl, ⟨_, x, y, rfl, I.hok.fresh (Nat.le_refl _), rfl, fun l hl => by rw [I.tuple_inj hl hqx]; exact hx, fun l hl => by rw [I.tuple_inj hl hqy]; exact hy⟩, ⟨⟨f1, c1, z1, z'⟩, ?_, TO', h1'.1, h2'.1⟩, fun c hcm => ?_⟩
    · exact hk _ _ S.TIz S.TITO S.TIi1 S.TIi2 hTI
    · have hlt : c < s.heap.objs.size := by
        have e' : c = z ∨ c = TI ∨ c = TO ∨ c = i1 ∨ c = i2 := by simpa using hcm
        rcases e' with q | q | q | q | q
        · rw [q]; exact hzl
        · rw [q]; exact Heap.lt_size hTI
        · rw [q]; exact Heap.lt_size hTO
        · rw [q]; obtain ⟨_, e1, _⟩ := h1; exact Heap.lt_size e1
        · rw [q]; obtain ⟨_, e2, _⟩ := h2; exact Heap.lt_size e2
      rw [upd_ne (Nat.ne_of_lt hlt)]
      exact (hf c hcm).1
  done := by
    intro X hP hw hK hc i pins s σ H E I hf st hg
    subst hP hw hK
    obtain ⟨⟨f0, c0, z0, hz⟩, hTI, ⟨x0, y0, hTO⟩, h1, h2⟩ := st
    obtain ⟨xs, ys, hqx, hqy, q1, q2, hend⟩ := hg
    obtain ⟨its, rv, p, _⟩ := I.tuple hqx
    obtain ⟨its2, rv2, p2, _⟩ := I.tuple hqy
    have l1 := rv.length
    have l2 := rv2.length
    exact zg_pyNext_end S (Draws.tuple (prog := X.prog) (w := X.w) (A := X.A.in1) (I.ok.hd hc) i1 a ha its.toArray) (Draws.tuple (prog := X.prog) (w := X.w) (A := X.A.in1) (I.ok.hd hc) i2 b hb2 its2.toArray) hz z0 hTI hTO ⟨h1, p⟩ ⟨h2, p2⟩ (by simp; omega) (by simp; omega) (by simp; omega)
      fun h' tk hk => ⟨rfl, I.turnedL (t' := tk) (ch := [z, TI, TO, i1, i2]) (fun c o hb q => hk c o (fun q' => hb (by simp [q'])) (fun q' => hb (by simp [q'])) (fun q' => hb (by simp [q'])) (fun q' => hb (by simp [q'])) q) hf⟩
  self := fun A i s Q E st h => by
    obtain ⟨⟨f0, c0, z0, hz⟩, _⟩ := st
    have hT : s.TypeIs (.ref z) "zip" := ⟨_, hz, rfl⟩
    refine wpAny_pyIter_slot hT F.slot_zip_iter (wpAny_call_entry F.slot_zip_iter hT F.entry_zip_iter ?_ (F.args_zip_iter_1 _))
    show wpAny _ _ (ret (.ref z)) _ _ s
    exact wpAny_pure ⟨_, rfl, "zip", _, hT, F.slot_zip_next.lookup, h⟩
def iZipS (K : PySem.W.Frag) (te : TE) : TI := fun σ H R => te σ H fun y H1 => ∃ l a b xs ys, y = V.ref l ∧ (SqT K H1 l [.ref a, .ref b] ∨ SqL K H1 l [.ref a, .ref b]) ∧ SqT K H1 a xs ∧ SqT K H1 b ys ∧ R (ItzE K a b) H1
theorem pi_zipS {X : Cx} {e : Expr} {te : TE} {p pos sp_ tpos : Pos} {x : Str} (hg : Gl X "zip") (hm : X.mg "zip" = none) (he : PE X e te)
    (hst : starEach [.Starred e sp_] X.env = [(true, eval e X.env)] := by rfl) :
    PI X (.Name x tpos) (.Call (.Name "zip" p) [.Starred e sp_] [] pos) (iZipS X.K te) := by
  refine ⟨fun pins s σ H R I h => ?_⟩
  refine Call_ (ld_blt I hg hm PyProof.Rows.boot_zip ?_)
  rw [hst]
  refine callWith_typeS rfl (PySem.W.ks_lone (thn (he.run pins s σ H _ I h) fun v s1 ⟨y, H1, I1, ry, l, a, b, xs, ys, ey, hl, hqx, hqy, q⟩ => ?_))
  subst ey
  obtain rfl : v = Value.ref l := ry
  refine StX.star_any I1 hl fun us s2 I2 rv => ?_
  cases rv with
  | cons r rr =>
    cases rr with
    | cons r' rr =>
      cases rr
      cases r
      cases r'
      have fresh5 : ∀ c, c ∈ [s2.heap.objs.size + 4, s2.heap.objs.size + 2, s2.heap.objs.size + 3, s2.heap.objs.size, s2.heap.objs.size + 1] → FpOk X pins H1 c := fun c hcm => by
        have e' : c = s2.heap.objs.size + 4 ∨ c = s2.heap.objs.size + 2 ∨ c = s2.heap.objs.size + 3 ∨ c = s2.heap.objs.size ∨ c = s2.heap.objs.size + 1 := by simpa using hcm
        have hle : s2.heap.objs.size ≤ c := by
          rcases e' with z | z | z | z | z
          · rw [z]; exact Nat.le_add_right _ _
          · rw [z]; exact Nat.le_add_right _ _
          · rw [z]; exact Nat.le_add_right _ _
          · rw [z]; exact Nat.le_refl _
          · rw [z]; exact Nat.le_add_right _ _
        exact I2.fpOk hle (I2.hok.fresh hle)
      obtain ⟨its, rv, p1, _⟩ := I2.tuple hqx
      obtain ⟨its2, rv2, p2, _⟩ := I2.tuple hqy
      obtain ⟨o1, ho1, _⟩ := id p1
      obtain ⟨o2, ho2, _⟩ := id p2
      have la : a < s2.heap.objs.size := Heap.lt_size ho1
      have lb : b < s2.heap.objs.size := Heap.lt_size ho2
      show wpAny _ _ (call (.type "zip") [.ref a, .ref b]) _ _ _
      refine zip_begins2 (begins_tuple a its.toArray) (begins_tuple b its2.toArray) p1 p2 fun h' hz hTI hTO h1 h2 hsz hk => wpAny_pyIter_zip hz ?_
      have I3 : Inv X pins σ H1 { s2 with heap := h' } := I2.kept (t' := s2.toks) hk
      exact ⟨s2.heap.objs.size + 4, [s2.heap.objs.size + 4, s2.heap.objs.size + 2, s2.heap.objs.size + 3, s2.heap.objs.size, s2.heap.objs.size + 1], _, _, H1, rfl, I3, turn_zipG (z := s2.heap.objs.size + 4) (i1 := s2.heap.objs.size) (i2 := s2.heap.objs.size + 1) (zip_sep2 (N := s2.heap.objs.size) (fp1 := [a]) (fp2 := [b]) (by simpa using la) (by simpa using lb)) (Nat.ne_of_lt la) (Nat.ne_of_lt (Nat.lt_succ_of_lt lb)) (Nat.ne_of_lt (by show s2.heap.objs.size < s2.heap.objs.size + 4; exact Nat.lt_add_of_pos_right (by decide))) (Nat.ne_of_lt (by show s2.heap.objs.size + 1 < s2.heap.objs.size + 4; exact Nat.add_lt_add_left (by decide) _)), ⟨⟨_, _, .inl rfl, hz⟩, hTI, ⟨_, _, hTO⟩, ⟨_, h1, rfl, rfl⟩, ⟨_, h2, rfl, rfl⟩⟩, fresh5, q⟩
theorem walk_zipE {K : PySem.W.Frag} {a b : Addr} {xs ys : List V} : Walk (ItzE K a b) (min xs.length ys.length) (fun H => SqT K H a xs ∧ SqT K H b ys) (YPair (fun i => xs[i]?) (fun i => ys[i]?)) := by
  refine ⟨fun i _ hi q => ?_, fun _ q => ⟨xs, ys, q.1, q.2, by omega, by omega, by omega⟩, fun i H v H' _ q y => ?_⟩
  · have h1 : i < xs.length := by omega
    have h2 : i < ys.length := by omega
    exact ⟨xs, ys, xs[i], ys[i], q.1, q.2, by simp [h1], by simp [h2]⟩
  · obtain ⟨T, x, z, h1, h2, h3, h4, h5⟩ := y
    exact ⟨T, x, z, h1, h2, h3, h4 xs q.1, h5 ys q.2⟩
section
variable {X : Cx} {Γ : List Dsc} {a b e tg iter : Expr} {pos p pos' tpos sp_ : Pos} {Q : List D → List Dsc → Prop} {elts : List Expr} {kk : Nat} {x : Str}
theorem iw_zipS (hm : X.mg "zip" = none) (h : EW X e Γ fun z Γ1 => ∃ xs ys, datOf z = some (.lst [.tup xs, .tup ys]) ∧ Q (zipD xs ys) Γ1) (hg : Gl X "zip" := by rfl)
    (hst : starEach [.Starred e sp_] X.env = [(true, eval e X.env)] := by rfl) :
    IW X (.Name x tpos) (.Call (.Name "zip" p) [.Starred e sp_] [] pos) Γ Q := by
  intro A F H σ fm R q
  refine ⟨_, pi_zipS hg hm pe_top hst, ?_⟩
  show EV X e σ H fun y H1 => ∃ l a b xs ys, y = V.ref l ∧ (SqT X.K H1 l [.ref a, .ref b] ∨ SqL X.K H1 l [.ref a, .ref b]) ∧ SqT X.K H1 a xs ∧ SqT X.K H1 b ys ∧ R (ItzE X.K a b) H1
  refine h.run fm Stp.refl fun z Γ1 v F1 H1 hz s1 _ fm1 ok => ?_
  obtain ⟨xs, ys, hd, hp⟩ := hz
  obtain ⟨F2, _, fm2, s2, r⟩ := freeze1 ok fm1 s1 hd
  cases r with
  | lst e0 r0 =>
  cases r0 with
  | cons ra r0 =>
  cases r0 with
  | cons rb r0 =>
  cases r0
  cases ra with
  | tup e1 r1 =>
  cases rb with
  | tup e2 r2 =>
  refine ⟨_, _, _, _, _, rfl, .inr (.inl (.inl (fm2.fh _ _ e0))), .inl (.inl (fm2.fh _ _ e1)), .inl (.inl (fm2.fh _ _ e2)), q _ _ Γ1 F2 H1 hp s2 fm2 ?_⟩
  exact its_zip walk_zipE (fun F2 H2 f1 f2 => ⟨.inl (.inl ((f1.trans f2) _ _ e1)), .inl (.inl ((f1.trans f2) _ _ e2))⟩) r1 r2
end
end VY

/-! VY: more calls; displays taken apart; x = [..]. -/
namespace VY
open PySem PySem.Spec PyProof.Rows L2
section
variable {X : Cx} {Γ : List Dsc} {P : PD} {a b c e o tg iter elt : Expr} {es ifs : List Expr} {pos p p2 q2 pos' apos cpos : Pos} {x : Str}
theorem cr_sumT (hc : X.calm = true) : CallR X (.builtin "sum") (fun vs H Q => ∃ (a : Addr) (ns : List Int), vs = [V.ref a] ∧ SqT X.K H a (ns.map V.int) ∧ Q (.int ns.sum) H) := by
  intro pins s σ H vs us Q I r h
  obtain ⟨a, ns, rfl, hs, q⟩ := h
  obtain ⟨its, rv, hl, _⟩ := I.tuple hs
  rw [Vals.ref1 r]
  have hi := rv.ints
  obtain ⟨xs, e⟩ := hi.allInts.items
  have hn : numsOf (intItems xs).toList = ns := by rw [← e]; exact hi.numsOf
  rw [nums_intItems] at hn
  have hl' : s.heap.IsTuple a (intItems xs) := by rw [← e]; exact hl
  refine PySem.W.ktm_sumG (I.ok.hd hc) hl' fun h' tk t' hk => ?_
  rw [preSum_eq, List.take_of_length_le (by simp), hn]
  exact ⟨.int _, H, I.kept hk, ⟨_, rfl⟩, q⟩
theorem ew_sumT (hc : X.calm = true) (hm : X.mg "sum" = none) (h : EW X e Γ fun x Γ1 => ∃ ns : List Int, x = .dat (.tup (ns.map .int)) ∧ P (.dat (.int ns.sum)) Γ1) (hg : Gl X "sum" := by rfl)
    (he : starEach [e] X.env = (false, eval e X.env) :: starEach [] X.env := by rfl) : EW X (.Call (.Name "sum" p) [e] [] pos) Γ P :=
  ew_cb (cr_sumT hc) hm (by decide +kernel) (aw_one (h.mono fun x Γ1 ⟨ns, hd, hp⟩ A Fs Hs Γs F H σ vs fm st ok Q q => by
    cases ok with
    | cons o1 ok =>
      cases ok
      subst hd
      cases o1 with
      | tup g r =>
        rw [Reps.ints_eq r] at g
        exact ⟨_, ns, rfl, .inl (.inl (fm.fh _ _ g)), q _ _ _ F H hp st fm (.int _)⟩) he) hg (by decide) (by decide) he (by rfl)
/-- the number of different ints -/
def ddN (ns : List Int) : Nat := (firstMet (fun i => ns.getD i 0) ns.length).length
def tLenSetG (K : PySem.W.Frag) (ta : TE) : TE := fun σ H Q => ta σ H fun x H1 => ∃ (l : Addr) (ns : List Int), x = .ref l ∧ SqL K H1 l (ns.map V.int) ∧ ns.length ≤ 4000 ∧ Q (.int (ddN ns)) H1
theorem pe_lenSetG {ta : TE} (hg : Gl X "len") (hm : X.mg "len" = none) (hg2 : Gl X "set") (hm2 : X.mg "set" = none) (ha : PE X a ta) (hc : X.calm = true := by rfl)
    (na : starEach [a] X.env = (false, eval a X.env) :: starEach [] X.env := by rfl) : PE X (.Call (.Name "len" p) [.Call (.Name "set" p2) [a] [] q2] [] pos) (tLenSetG X.K ta) := by
  refine ⟨fun pins s σ H Q I h => ?_⟩
  refine Call_ (ld_blt I hg hm boot_len ?_)
  refine PyProof.Rows.callWith_builtin1 (PyProof.Rows.args_cons ?_ rfl) rfl rfl
  refine Call_ (ld_blt I hg2 hm2 boot_set ?_)
  refine PyProof.Rows.callWith_type1 (PyProof.Rows.args_cons (thn (ha.run pins s σ H _ I h) fun v s1 ⟨x, H1, I1, r1, q1⟩ => PyProof.Rows.args_nil ?_) na) na rfl
  obtain ⟨l, ns, rfl, hq, hl, q1⟩ := q1
  cases r1
  obtain ⟨its, r, pl, hz⟩ := I1.list hq
  have hlen : its.toArray.size = ns.length := by rw [List.size_toArray, ← r.length, List.length_map]
  refine call_set_list (I1.ok.hd hc) pl.isList (by simpa using RZ.intsAre_vals r) (by rw [hlen]; unfold scanBound; omega) fun h' tk hS hk => ?_
  refine PyProof.Rows.args_nil ?_
  rw [hlen] at hS
  obtain ⟨o, es, ep, t, ho, hex, hd, _, _, _, hf, hn⟩ := hS
  have I2 : Inv X pins σ H1 { s1 with heap := h', toks := tk } := I1.kept fun b o e => hk b o (Heap.lt_size e) e
  have hle := firstMet_length_le (fun i => ns.getD i 0) ns.length
  exact call_len_set ho hex hd hf (by rw [hn] <;> omega) ⟨.int (ddN ns), H1, I2.tok _, ⟨_, by rw [hn] <;> rfl⟩, q1⟩
theorem ew_lenSet (hc : X.calm = true) (hm : X.mg "len" = none) (hm2 : X.mg "set" = none) (h : EW X e Γ fun x Γ1 => ∃ ns : List Int, Lst Γ1 x (ns.map .int) ∧ ns.length ≤ 4000 ∧ P (.dat (.int (ddN ns))) Γ1) (hg : Gl X "len" := by rfl) (hg2 : Gl X "set" := by rfl)
    (he : starEach [e] X.env = (false, eval e X.env) :: starEach [] X.env := by rfl) : EW X (.Call (.Name "len" p) [.Call (.Name "set" p2) [e] [] q2] [] pos) Γ P := by
  intro A F H σ fm Q q
  refine ⟨_, pe_lenSetG hg hm hg2 hm2 pe_top hc he, ?_⟩
  show EV X e σ H fun x H1 => ∃ (l : Addr) (ns : List Int), x = .ref l ∧ SqL X.K H1 l (ns.map V.int) ∧ ns.length ≤ 4000 ∧ Q (.int (ddN ns)) H1
  refine h.run fm Stp.refl fun x Γ1 v F1 H1 hx s1 _ fm1 ok => ?_
  obtain ⟨ns, hd, hl, hp⟩ := hx
  obtain ⟨a, vs, rfl, g, r⟩ := VOk.lst ok fm1 hd
  rw [Reps.ints_eq r] at g
  exact ⟨a, ns, rfl, .inl (.inl g), hl, q _ _ _ F1 H1 hp s1 fm1 (.int _)⟩
theorem reps_rg {K : PySem.W.Frag} {F : Hp} (n : Int) : Reps K F (rangeD 0 n.toNat) (rgV 0 n) := by
  have e1 : rangeD 0 n.toNat = ((List.range n.toNat).map fun i : Nat => (0 : Int) + (i : Nat)).map D.int := by unfold rangeD; rw [List.map_map]; rfl
  have e2 : rgV 0 n = ((List.range n.toNat).map fun i : Nat => (0 : Int) + (i : Nat)).map V.int := by
    unfold rgV
    rw [List.map_map, show (n - 0) = n by omega]; rfl
  rw [e1, e2]
  exact Reps.ints
theorem ew_listRg (hc : X.calm = true) (hm : X.mg "list" = none) (hm2 : X.mg "range" = none) (h : EW X e Γ fun x Γ1 => ∃ n : Int, x = .dat (.int n) ∧ 0 ≤ n ∧ n ≤ 1000000 ∧ P (.new (.l (rangeD 0 n.toNat))) Γ1) (hg : Gl X "list" := by rfl) (hg2 : Gl X "range" := by rfl)
    (he : starEach [e] X.env = (false, eval e X.env) :: starEach [] X.env := by rfl) (he2 : starEach [.Call (.Name "range" p2) [e] [] q2] X.env = (false, eval (.Call (.Name "range" p2) [e] [] q2) X.env) :: starEach [] X.env := by rfl) : EW X (.Call (.Name "list" p) [.Call (.Name "range" p2) [e] [] q2] [] pos) Γ P := by
  intro A F H σ fm Q q
  refine ⟨_, pe_listRg hc hg hm (prg_1 hg2 hm2 pe_top he) he2, ?_⟩
  show EV X e σ H fun x H1 => ∃ n, x = .int n ∧ RgOk 0 n ∧ ∀ q, H1 q = none → Q (.ref q) (upd H1 q (.lst (rgV 0 n)))
  refine h.run fm Stp.refl fun x Γ1 v F1 H1 hx s1 _ fm1 ok => ?_
  obtain ⟨n, rfl, h0, h1, hp⟩ := hx
  cases ok
  exact ⟨n, rfl, RgOk.of_le (by decide) (by omega) (by decide) h0, fun p np => q _ _ _ _ _ hp (s1.trans (Stp.alloc np)) (fm1.alloc np) (newOk fm1 s1 np (reps_rg n))⟩
theorem ew_orL (h : EW X a Γ fun x Γ1 => ∃ ds, Lst Γ1 x ds ∧ (ds ≠ [] → P x Γ1) ∧ (ds = [] → EW X (.BoolOp .Or (b :: es) pos) Γ1 P)) : EW X (.BoolOp .Or (a :: b :: es) pos) Γ P := by
  intro A F H σ fm Q q
  refine ⟨_, pe_orT pe_top pe_top, ?_⟩
  show EV X a σ H fun x H1 => ∃ k, TruV X.K x H1 k ∧ if k = true then Q x H1 else EV X (.BoolOp .Or (b :: es) pos) σ H1 Q
  refine h.run fm Stp.refl fun x Γ1 v F1 H1 hx s1 _ fm1 ok => ?_
  obtain ⟨ds, hd, h1, h2⟩ := hx
  obtain ⟨a, vs, rfl, g, r⟩ := VOk.lst ok fm1 hd
  refine ⟨!vs.isEmpty, .inl ⟨vs, .inl (.inl g), rfl⟩, ?_⟩
  have hl := r.len
  cases ds with
  | nil =>
    cases r
    refine iteF ?_
    exact (h2 rfl).run fm1 s1 fun d Γ' v F' H' p st _ fm' ok' => q d Γ' v F' H' p st fm' ok'
  | cons d ds =>
    cases r with
    | cons r0 r =>
    refine iteT ?_
    exact q _ Γ1 _ F1 H1 (h1 (by nofun)) s1 fm1 ok
end
section
variable {X : Cx} {Γ : List Dsc} {a b c e o tg iter elt : Expr} {es ifs : List Expr} {pos p pos' : Pos} {x : Str} {D : PEnds} {α : Type}
/-- x = [elt for tg in iter (if c)] that only reads, x a local on the same line -/
theorem sw_lcF {y : Str} {py spos : Pos} {scope : Scope} (i : Nat) (sh : Shp) (own : List (Str × Nat)) (enc g : α → VY.D) (p : α → Bool) (hc : X.calm = true) (hN : X.N.Nodup) (ok : BlkOk X.N X.env.scope scope own) (hsh : ∀ j ∈ sh.js, j ∈ own.map (·.2)) (hg : inBlk X scope fun Y => PG Y tg (sh.rd X.K))
    (hsw : swapsWith (.ListComp elt [⟨tg, iter, ifs, 0⟩] scope pos) (some (.Name y py)) spos.line X.env = pure true)
    (h : IW X tg iter Γ fun ds Γ1 => ∃ xs, LcOk X scope sh (own.map (·.2)) elt ifs enc g p ds Γ1 xs ∧ canSet Γ1 i = true ∧ D.nx (Γ1.set i (.own (.l ((xs.filter p).map g)))))
    (hi : X.N[i]? = some y := by rfl) (hyl : X.env.scope.names.lookup y = some .local := by rfl) (hs : ∀ x, foldedSetIterable iter X.env x = pure x := by intro _; rfl) : SW X (.Assign [.Name y py] (.ListComp elt [⟨tg, iter, ifs, 0⟩] scope pos) spos) Γ D :=
  sw_setLc i sh own hc hN ok hsh hg hsw (fun A F H σ fm R q => h A F H σ fm R fun J ds Γ' F' H' ⟨xs, h1, h2, h3⟩ => q J ds Γ' F' H' (by
    obtain ⟨l1, JJ, j1, j2, j3⟩ := lc_pure (P := fun d Γ2 => ∃ acc, d = .new (.l acc) ∧ canSet Γ2 i = true ∧ D.nx (Γ2.set i (.own (.l acc)))) sh hsh h1 ⟨_, rfl, h2, h3⟩
    refine ⟨l1, JJ, j1, j2, fun acc Γ2 hj => ?_⟩
    obtain ⟨acc', e, c1, c2⟩ := j3 acc Γ2 hj
    cases e
    exact ⟨c1, c2⟩)) hi hyl hs
theorem sw_lcM {y : Str} {py spos : Pos} {scope : Scope} (i : Nat) (sh : Shp) (own : List (Str × Nat)) (enc g : α → VY.D) (hc : X.calm = true) (hN : X.N.Nodup) (ok : BlkOk X.N X.env.scope scope own) (hsh : ∀ j ∈ sh.js, j ∈ own.map (·.2)) (hg : inBlk X scope fun Y => PG Y tg (sh.rd X.K))
    (hsw : swapsWith (.ListComp elt [⟨tg, iter, [], 0⟩] scope pos) (some (.Name y py)) spos.line X.env = pure true)
    (h : IW X tg iter Γ fun ds Γ1 => ∃ xs, LmOk X scope sh (own.map (·.2)) elt enc g ds Γ1 xs ∧ canSet Γ1 i = true ∧ D.nx (Γ1.set i (.own (.l (xs.map g)))))
    (hi : X.N[i]? = some y := by rfl) (hyl : X.env.scope.names.lookup y = some .local := by rfl) (hs : ∀ x, foldedSetIterable iter X.env x = pure x := by intro _; rfl) : SW X (.Assign [.Name y py] (.ListComp elt [⟨tg, iter, [], 0⟩] scope pos) spos) Γ D :=
  sw_lcF i sh own enc g (fun _ => true) hc hN ok hsh hg hsw (fun A F H σ fm R q => h A F H σ fm R fun J ds Γ' F' H' ⟨xs, h1, h2, h3⟩ => q J ds Γ' F' H' ⟨xs, h1.lc, h2, by rw [filter_true]; exact h3⟩) hi hyl hs
end
/-! ### several values stored at once -/
def DjV (ds : List Dv) (vs : List V) : Prop := ∀ (i j : Nat) (t u : T) (a b x : Addr), ds[i]? = some (.new t) → vs[i]? = some (.ref a) → ds[j]? = some (.new u) → vs[j]? = some (.ref b) → x ∈ tAddrs a t → x ∈ tAddrs b u → i = j
/-- as AW, and new things are apart -/
def NW (X : Cx) (es : List Expr) (Γ : List Dsc) (P : List Dv → List Dsc → Prop) : Prop := ∀ A F H σ, Fm X.K A F H σ Γ → ∀ Q : List V → Hp → Prop,
  (∀ ds Γ' vs F' H', P ds Γ' → Stp σ Γ Γ' F H F' H' → Fm X.K A F' H' σ Γ' → VsOk X.K A H F' H' σ Γ' ds vs → DjV ds vs → Q vs H') → AV X es σ H Q
section
variable {X : Cx} {Γ : List Dsc} {a b c e o tg iter elt : Expr} {es ifs : List Expr} {pos p pos' : Pos} {x : Str} {D : PEnds}
theorem nw_nil {P : List Dv → List Dsc → Prop} (h : P [] Γ) : NW X [] Γ P := fun A F H σ fm Q q => ⟨_, pa_nil, q [] Γ [] F H h Stp.refl fm .nil fun i j t u a b x h => by simp at h⟩
theorem nw_cons {P : List Dv → List Dsc → Prop} (h : EW X e Γ fun x Γ1 => NW X es Γ1 fun xs Γ2 => P (x :: xs) Γ2) (hs : starEach (e :: es) X.env = (false, eval e X.env) :: starEach es X.env := by rfl) : NW X (e :: es) Γ P := by
  intro A F H σ fm Q q
  refine ⟨_, pa_cons pe_top pa_top hs, ?_⟩
  show EV X e σ H fun x H1 => AV X es σ H1 fun xs H2 => Q (x :: xs) H2
  refine h.run fm Stp.refl fun x Γ1 v F1 H1 hx s1 _ fm1 ok => ?_
  refine hx A F1 H1 σ fm1 _ fun xs Γ2 vs F2 H2 hp s2 fm2 oks dj => q _ Γ2 _ F2 H2 hp (s1.trans s2) fm2 (.cons (ok.stp s2) (VsOk.back s1.g oks)) ?_
  have apart : ∀ (j : Nat) (t u : T) (a b y : Addr), x = .new t → v = .ref a → xs[j]? = some (.new u) → vs[j]? = some (.ref b) → y ∈ tAddrs a t → y ∈ tAddrs b u → False := fun j t u a b y h1 h2 h3 h4 m1 m2 => by
    subst h1 h2
    obtain ⟨a', e1, l, _⟩ := ok
    cases e1
    obtain ⟨⟨o, ho⟩, _⟩ := l.there m1
    obtain ⟨w, e2, r⟩ := paired_at' oks h3
    rw [h4] at e2
    cases e2
    obtain ⟨b', e3, _, no⟩ := r
    cases e3
    rw [(no y m2).2.2] at ho
    cases ho
  intro i j t u a b y h1 h2 h3 h4 m1 m2
  cases i with
  | zero =>
    cases j with
    | zero => rfl
    | succ j => exact (apart j t u a b y (Option.some.inj h1) (Option.some.inj h2) h3 h4 m1 m2).elim
  | succ i =>
    cases j with
    | zero => exact (apart i u t b a y (Option.some.inj h3) (Option.some.inj h4) h1 h2 m2 m1).elim
    | succ j => exact congrArg (· + 1) (dj i j t u a b y h1 h2 h3 h4 m1 m2)
/-- the first is stored, the rest is as good as before -/
theorem store1 {K : PySem.W.Frag} {A : Ac} {Hs F H : Hp} {σ : L2.St} {d : Dv} {ds : List Dv} {v : V} {vs : List V} {i : Nat} {s : Dsc} (fm : Fm K A F H σ Γ) (ok : VsOk K A Hs F H σ Γ (d :: ds) (v :: vs)) (dj : DjV (d :: ds) (v :: vs)) (hd : dscOf d = some s) (c : canSet Γ i = true) (hnl : ∀ d' ∈ ds, dscOf d' ≠ none) :
    Fm K A F H (σ.set i (some v)) (Γ.set i s) ∧ VsOk K A Hs F H (σ.set i (some v)) (Γ.set i s) ds vs ∧ DjV ds vs := by
  cases ok with
  | cons o1 ok =>
  refine ⟨setDv fm o1 hd c, ?_, fun i j t u a b y h1 h2 h3 h4 m1 m2 => Nat.succ.inj (dj (i + 1) (j + 1) t u a b y h1 h2 h3 h4 m1 m2)⟩
  have own : ∀ b, Own (σ.set i (some v)) (Γ.set i s) b → Own σ Γ b ∨ ∃ t a, d = .new t ∧ v = .ref a ∧ b ∈ tAddrs a t := fun b ⟨j, a, t, h1, h2, m⟩ => by
    by_cases e : i = j
    · subst e
      rw [List.getElem?_set_self (canSet_lt c).1] at h2
      rw [List.getElem?_set_self (by rw [fm.len]; exact (canSet_lt c).1)] at h1
      cases h1
      cases d with
      | dat d => cases hd; rcases h2 with h2 | h2 <;> cases h2
      | new t' => cases hd; rcases h2 with h2 | h2 <;> cases h2; exact .inr ⟨t, a, rfl, rfl, m⟩
      | loc _ => cases hd
      | fld _ _ _ => cases hd
    · rw [List.getElem?_set_ne e] at h1 h2
      exact .inl ⟨j, a, t, h1, h2, m⟩
  have gen : ∀ (n : Nat) (ds' : List Dv) (vs' : List V), (∀ k, ds'[k]? = ds[n + k]?) → (∀ k, vs'[k]? = vs[n + k]?) → VsOk K A Hs F H σ Γ ds' vs' → VsOk K A Hs F H (σ.set i (some v)) (Γ.set i s) ds' vs' := fun n ds' vs' h1 h2 ok => by
    induction ok generalizing n with
    | nil => exact .nil
    | @cons d' v' ds' vs' r _ ih =>
      refine .cons ?_ (ih (n + 1) (fun k => by rw [show n + 1 + k = n + (k + 1) by omega, ← h1 (k + 1)]; rfl) (fun k => by rw [show n + 1 + k = n + (k + 1) by omega, ← h2 (k + 1)]; rfl))
      have e1 : ds[n]? = some d' := (h1 0).symm
      have e2 : vs[n]? = some v' := (h2 0).symm
      cases d' with
      | dat _ => exact r
      | new u =>
        obtain ⟨b, rfl, l, no⟩ := r
        refine ⟨b, rfl, l, fun y m => ⟨(no y m).1, fun z => ?_, (no y m).2.2⟩⟩
        rcases own y z with z | ⟨t, a, q1, q2, m2⟩
        · exact (no y m).2.1 z
        · subst q1 q2
          have := dj 0 (n + 1) t u a b y rfl rfl e1 e2 m2 m
          cases this
      | loc _ => exact absurd rfl (hnl _ (List.mem_of_getElem? e1))
      | fld _ _ _ => exact absurd rfl (hnl _ (List.mem_of_getElem? e1))
  exact gen 0 ds vs (fun k => by rw [Nat.zero_add]) (fun k => by rw [Nat.zero_add]) ok
def putS : List Dsc → List Nat → List Dv → Option (List Dsc)
  | Γ, i :: is, d :: ds => if canSet Γ i = true then (dscOf d).bind fun s => putS (Γ.set i s) is ds else none
  | Γ, [], [] => some Γ
  | _, _, _ => none
theorem putS_nn : ∀ {is : List Nat} {ds : List Dv} {Γ Γ' : List Dsc}, putS Γ is ds = some Γ' → ∀ d ∈ ds, dscOf d ≠ none
  | [], [], _, _, _ => nofun
  | i :: is, d :: ds, Γ, Γ', h => by
    unfold putS at h
    split at h
    · obtain ⟨s, e1, e2⟩ := Option.bind_eq_some_iff.mp h
      intro d' m
      rcases List.mem_cons.mp m with rfl | m
      · rw [e1]; exact nofun
      · exact putS_nn e2 d' m
    · cases h
def setsN : L2.St → List Nat → List V → L2.St
  | σ, i :: is, v :: vs => setsN (σ.set i (some v)) is vs
  | σ, _, _ => σ
theorem putS_ok {K : PySem.W.Frag} {A : Ac} {Hs F H : Hp} : ∀ {is : List Nat} {ds : List Dv} {vs : List V} {σ : L2.St} {Γ Γ' : List Dsc}, Fm K A F H σ Γ → VsOk K A Hs F H σ Γ ds vs → DjV ds vs → putS Γ is ds = some Γ' → Fm K A F H (setsN σ is vs) Γ'
  | [], [], _, σ, Γ, Γ', fm, .nil, _, h => by cases h; exact fm
  | i :: is, d :: ds, v :: vs, σ, Γ, Γ', fm, ok, dj, h => by
    unfold putS at h
    split at h
    · rename_i c
      obtain ⟨s, e1, e2⟩ := Option.bind_eq_some_iff.mp h
      obtain ⟨f2, o2, d2⟩ := store1 fm ok dj e1 c (putS_nn e2)
      show Fm K A F H (setsN (σ.set i (some v)) is vs) Γ'
      exact putS_ok f2 o2 d2 e2
    · cases h
/-- x, y = a, b stored without a tuple -/
theorem sw_p2 (i j : Nat) {x y : Str} {px py pt : Pos} {kt k2 : Nat} {pt2 : Pos} (hc : X.calm = true) (hN : X.N.Nodup)
    (h : NW X [a, b] Γ fun ds Γ1 => ∃ Γ2, putS Γ1 [i, j] ds = some Γ2 ∧ D.nx Γ2)
    (hw : swappedStores [.Tuple [.Name x px, .Name y py] kt pt] (.Tuple [a, b] k2 pt2) X.env = pure (some [x, y]) := by rfl)
    (hij : i ≠ j := by decide) (hi : X.N[i]? = some x := by rfl) (hj : X.N[j]? = some y := by rfl) (hx : X.env.scope.names.lookup x = some .local := by rfl) (hy : X.env.scope.names.lookup y = some .local := by rfl)
    (hs : swapsWithSole [.Tuple [.Name x px, .Name y py] kt pt] (.Tuple [a, b] k2 pt2) pos.line X.env = pure false := by rfl) :
    SW X (.Assign [.Tuple [.Name x px, .Name y py] kt pt] (.Tuple [a, b] k2 pt2) pos) Γ D := by
  intro A F H σ fm E k
  refine ⟨_, ps_par hc hN hi hj hij hx hy pa_top hw hs, ?_⟩
  show AV X [a, b] σ H fun vs H1 => ∃ v' w', vs = [v', w'] ∧ E.nx ((σ.set i (some v')).set j (some w')) H1
  refine h A F H σ fm _ fun ds Γ' vs F' H' hp s1 fm1 ok dj => ?_
  obtain ⟨Γ2, e, hd⟩ := hp
  have fm2 := putS_ok fm1 ok dj e
  have hl : ds.length = 2 := by
    match ds, e with
    | [_, _], _ => rfl
    | [], e => cases e
    | [_], e =>
      unfold putS at e
      split at e
      · obtain ⟨s, e1, e2⟩ := Option.bind_eq_some_iff.mp e
        unfold putS at e2; cases e2
      · cases e
    | _ :: _ :: _ :: _, e =>
      unfold putS at e
      split at e
      · obtain ⟨s, e1, e2⟩ := Option.bind_eq_some_iff.mp e
        unfold putS at e2
        split at e2
        · obtain ⟨s, e3, e4⟩ := Option.bind_eq_some_iff.mp e2
          unfold putS at e4; cases e4
        · cases e2
      · cases e
  have hv := ok.length
  rw [hl] at hv
  match vs, hv, fm2 with
  | [v, w], _, fm2 => exact ⟨v, w, rfl, k.nx _ F' H' _ hd s1.f fm2⟩
theorem putS_len : ∀ {is : List Nat} {ds : List Dv} {Γ Γ' : List Dsc}, putS Γ is ds = some Γ' → ds.length = is.length
  | [], [], _, _, _ => rfl
  | i :: is, d :: ds, Γ, Γ', h => by
    unfold putS at h
    split at h
    · obtain ⟨s, e1, e2⟩ := Option.bind_eq_some_iff.mp h
      exact congrArg (· + 1) (putS_len e2)
    · cases h
theorem sw_p3 (i j l : Nat) {x y z : Str} {px py pz pt : Pos} {kt k2 : Nat} {pt2 : Pos} (hc : X.calm = true) (hN : X.N.Nodup)
    (h : NW X [a, b, c] Γ fun ds Γ1 => ∃ Γ2, putS Γ1 [i, j, l] ds = some Γ2 ∧ D.nx Γ2)
    (hw : swappedStores [.Tuple [.Name x px, .Name y py, .Name z pz] kt pt] (.Tuple [a, b, c] k2 pt2) X.env = pure (some [x, y, z]) := by rfl)
    (hij : i ≠ j := by decide) (hil : i ≠ l := by decide) (hjl : j ≠ l := by decide) (hi : X.N[i]? = some x := by rfl) (hj : X.N[j]? = some y := by rfl) (hl : X.N[l]? = some z := by rfl) (hx : X.env.scope.names.lookup x = some .local := by rfl) (hy : X.env.scope.names.lookup y = some .local := by rfl) (hz : X.env.scope.names.lookup z = some .local := by rfl)
    (hs : swapsWithSole [.Tuple [.Name x px, .Name y py, .Name z pz] kt pt] (.Tuple [a, b, c] k2 pt2) pos.line X.env = pure false := by rfl) :
    SW X (.Assign [.Tuple [.Name x px, .Name y py, .Name z pz] kt pt] (.Tuple [a, b, c] k2 pt2) pos) Γ D := by
  intro A F H σ fm E k
  refine ⟨_, ps_par3 hc hN hi hj hl hij hil hjl hx hy hz pa_top hw hs, ?_⟩
  show AV X [a, b, c] σ H fun vs H1 => ∃ v' w' u', vs = [v', w', u'] ∧ E.nx (((σ.set i (some v')).set j (some w')).set l (some u')) H1
  refine h A F H σ fm _ fun ds Γ' vs F' H' hp s1 fm1 ok dj => ?_
  obtain ⟨Γ2, e, hd⟩ := hp
  have fm2 := putS_ok fm1 ok dj e
  have hv := ok.length
  rw [putS_len e] at hv
  match vs, hv, fm2 with
  | [v, w, u], _, fm2 => exact ⟨v, w, u, rfl, k.nx _ F' H' _ hd s1.f fm2⟩
/-- names that are stored one after the other -/
inductive NmsOk (X : Cx) : List Expr → List Nat → Prop
  | nil : NmsOk X [] []
  | cons {x : Str} {p : Pos} {es : List Expr} {i : Nat} {is : List Nat} (hi : X.N[i]? = some x) (hx : Loc X.env.scope x) (hf : X.fn x = true ∨ X.env.scope.names.lookup x = some .local) (r : NmsOk X es is)
      (hs : (assignEach (.Name x p :: es) X.env).map (·.2) = assign (.Name x p) X.env :: (assignEach es X.env).map (·.2)) : NmsOk X (.Name x p :: es) (i :: is)
theorem NmsOk.rd (hN : X.N.Nodup) : ∀ {es : List Expr} {is : List Nat}, NmsOk X es is → ∃ t, PGs X es t ∧ ∀ vs σ H (Q : L2.St → Hp → Prop), vs.length = is.length → Q (setsN σ is vs) H → t vs σ H Q
  | _, _, .nil => ⟨_, pgs_nil, fun vs σ H Q hl q => by
      match vs, hl with
      | [], _ => exact ⟨rfl, q⟩⟩
  | _, _, .cons hi hx hf r hs => by
    obtain ⟨t, ht, hq⟩ := r.rd hN
    refine ⟨_, pgs_cons (pg_name hN hi hx hf) ht hs, fun vs σ H Q hl q => ?_⟩
    match vs, hl with
    | v :: vs, hl => exact ⟨v, vs, rfl, hq vs _ H Q (Nat.succ.inj hl) q⟩
/-- x, y, .. = a, b, .. through a tuple -/
theorem sw_pt {tgs : List Expr} {kt k2 : Nat} {pt pt2 : Pos} (is : List Nat) (hc : X.calm = true) (hN : X.N.Nodup) (hnm : NmsOk X tgs is)
    (h : NW X es Γ fun ds Γ1 => ∃ Γ2, putS Γ1 is ds = some Γ2 ∧ D.nx Γ2) (hlen : is.length = tgs.length := by rfl) (hsz : is.length ≤ 1000 := by decide)
    (hw : swappedStores [.Tuple tgs kt pt] (.Tuple es k2 pt2) X.env = pure none := by rfl)
    (hs : swapsWithSole [.Tuple tgs kt pt] (.Tuple es k2 pt2) pos.line X.env = pure false := by rfl)
    (h1 : (assignEach [.Tuple tgs kt pt] X.env).map (·.2) = [assign (.Tuple tgs kt pt) X.env] := by rfl)
    (hn : (assignEach tgs X.env).length = tgs.length := by rfl) (hst : (assignEach tgs X.env).findIdx? (·.1) = none := by rfl) :
    SW X (.Assign [.Tuple tgs kt pt] (.Tuple es k2 pt2) pos) Γ D := by
  intro A F H σ fm E k
  obtain ⟨t, ht, hq⟩ := hnm.rd hN
  refine ⟨_, ps_asg (pe_tup pa_top) (pg_tup (n := tgs.length) hc ht hn hst) hs hw h1, ?_⟩
  show AV X es σ H fun vs H1 => vs.length ≤ sizeLine ∧ ∀ p, H1 p = none → ∃ a xs, V.ref p = .ref a ∧ SqT X.K (upd H1 p (.tup vs)) a xs ∧ xs.length = tgs.length ∧ t xs σ (upd H1 p (.tup vs)) E.nx
  refine h A F H σ fm _ fun ds Γ' vs F' H' hp s1 fm1 ok dj => ?_
  obtain ⟨Γ2, e, hd⟩ := hp
  have hv := ok.length
  rw [putS_len e] at hv
  refine ⟨by rw [← hv]; exact sz (Nat.le_trans hsz (by decide)), fun p np => ⟨p, vs, rfl, .inl (.inl upd_same), by rw [← hv]; exact hlen, hq vs _ _ _ hv.symm ?_⟩⟩
  have st3 : Stp σ Γ' Γ' F' H' F' (upd H' p (.tup vs)) := Stp.alloc np
  exact k.nx _ F' _ _ hd s1.f (putS_ok (fm1.alloc np) (VsOk.stp st3 ok) dj e)
end
end VY

/-! VY: sorted(set(pairs)). -/
namespace VY
open PySem PySem.Spec PyProof.Rows L2
def adOf : V → Addr
  | .ref t => t
  | _ => 0
def ksOf (F : Hp) (vs : List V) : List (Addr × List Int) := vs.map fun v => (adOf v, [(pairIn F v).1, (pairIn F v).2])
theorem ksOf_ref {F : Hp} : ∀ {vs : List V}, (∀ v ∈ vs, ∃ t, v = .ref t ∧ F t = some (.tup [.int (pairIn F v).1, .int (pairIn F v).2])) → (ksOf F vs).map (fun p => V.ref p.1) = vs
  | [], _ => rfl
  | v :: vs, h => by
    obtain ⟨t, rfl, _⟩ := h v List.mem_cons_self
    show V.ref t :: (ksOf F vs).map (fun p => V.ref p.1) = _
    rw [ksOf_ref fun u hu => h u (List.mem_cons_of_mem _ hu)]
theorem lex_uniq {xs ys : List (Int × Int)} (hx : xs.Pairwise lexLt) (hy : ys.Pairwise lexLt) (h : ∀ p, p ∈ xs ↔ p ∈ ys) : xs = ys := by
  have irr : ∀ a : Int × Int, ¬ lexLt a a := fun a h => by
    rcases h with h | h <;> omega
  have nx : xs.Nodup := hx.imp (S := fun a b => a ≠ b) fun {a b} h => fun e : a = b => irr a (by rw [← e] at h; exact h)
  have ny : ys.Nodup := hy.imp (S := fun a b => a ≠ b) fun {a b} h => fun e : a = b => irr a (by rw [← e] at h; exact h)
  have pm : xs.Perm ys := (List.perm_ext_iff_of_nodup nx ny).mpr h
  refine List.Perm.eq_of_pairwise (le := lexLt) (fun u v _ _ a1 a2 => ?_) hx hy pm
  exfalso
  rcases a1 with a1 | a1 <;> rcases a2 with a2 | a2 <;> omega
section
variable {X : Cx} {Γ : List Dsc} {P : PD} {a b c e o tg iter elt : Expr} {es ifs : List Expr} {pos p p2 q2 pos' apos cpos : Pos} {x : Str}
theorem ew_sortedSet (hc : X.calm = true) (hu : X.A.units + 64 < cLine) (hm : X.mg "sorted" = none) (hm2 : X.mg "set" = none)
    (h : EW X e Γ fun x Γ1 => ∃ qs qs' : List (Int × Int), Lst Γ1 x (qs.map pairD) ∧ qs.length < 64 ∧ (∀ q ∈ qs, (0 ≤ q.1 ∧ q.1 < 64) ∧ 0 ≤ q.2 ∧ q.2 < 64) ∧ (∀ q, q ∈ qs' ↔ q ∈ qs) ∧ qs'.Pairwise lexLt ∧ P (.new (.l (qs'.map pairD))) Γ1) (hg : Gl X "sorted" := by rfl) (hg2 : Gl X "set" := by rfl)
    (he : starEach [e] X.env = (false, eval e X.env) :: starEach [] X.env := by rfl) (he2 : starEach [.Call (.Name "set" p2) [e] [] q2] X.env = (false, eval (.Call (.Name "set" p2) [e] [] q2) X.env) :: starEach [] X.env := by rfl) :
    EW X (.Call (.Name "sorted" p) [.Call (.Name "set" p2) [e] [] q2] [] pos) Γ P := by
  intro A F H σ fm Q q
  refine ⟨_, pe_callB (cr_sortedT hc) hg hm (by decide +kernel) (pa_cons (pe_callTy (cr_setOfT hc hu) hg2 hm2 PyProof.Rows.boot_set (pa_cons pe_top pa_nil he) (by decide) (by decide) he (by rfl)) pa_nil he2) (by decide) (by decide) he2 (by rfl), ?_⟩
  show EV X e σ H fun v H1 => rSetOfT X.K X.prog X.w [v] H1 fun u H2 => rSortedT X.K X.prog X.w [u] H2 Q
  refine h.run fm Stp.refl fun x Γ1 v F1 H1 hx s1 _ fm1 ok => ?_
  obtain ⟨qs, qs', hd, hl, hb, hmem, hpw, hp⟩ := hx
  obtain ⟨l, vs, rfl, g, r⟩ := VOk.lst ok fm1 hd
  obtain ⟨h1, h2⟩ := pairs_in r
  have hk : ∀ p ∈ ksOf F1 vs, ∃ v ∈ vs, p = (adOf v, [(pairIn F1 v).1, (pairIn F1 v).2]) ∧ v = .ref p.1 ∧ F1 p.1 = some (.tup (p.2.map V.int)) := fun p hp => by
    obtain ⟨v, hv, rfl⟩ := List.mem_map.mp hp
    obtain ⟨t, rfl, e2⟩ := h1 v hv
    exact ⟨.ref t, hv, rfl, rfl, e2⟩
  have hin : ∀ v ∈ vs, pairIn F1 v ∈ qs := fun v hv => by rw [← h2]; exact List.mem_map.mpr ⟨v, hv, rfl⟩
  refine ⟨l, ksOf F1 vs, rfl, ?_, fun p hp => ?_, ?_, fun a L na hL1 hL2 => ?_⟩
  · rw [ksOf_ref h1]; exact .inl (.inl g)
  · obtain ⟨v, _, _, _, e2⟩ := hk p hp
    exact .inl (.inl (fm1.fh _ _ e2))
  · show (List.map _ vs).length < 64
    rw [List.length_map, ← r.len, List.length_map]; exact hl
  · have st2 : Stp σ Γ1 Γ1 F1 H1 F1 (upd H1 a (SetTO X.prog X.w a L)) := Stp.alloc na
    have fm2 := fm1.alloc (o := SetTO X.prog X.w a L) na
    refine ⟨a, L, 2, 64, rfl, upd_same, fun p hp => ?_, by decide, fun p hp => ?_, fun L' b pm nd hlt pw nb => ?_⟩
    · obtain ⟨v, _, _, _, e2⟩ := hk p (hL1 p hp)
      exact .inl (.inl (fm2.fh _ _ e2))
    · obtain ⟨v, hv, e1, _, _⟩ := hk p (hL1 p hp)
      obtain ⟨b1, b2⟩ := hb _ (hin v hv)
      rw [e1]
      refine ⟨rfl, fun m hm => ?_⟩
      rcases List.mem_cons.mp hm with rfl | hm
      · exact b1
      · rcases List.mem_cons.mp hm with rfl | hm
        · exact b2
        · cases hm
    · have hL' : ∀ p ∈ L', ∃ v ∈ vs, p = (adOf v, [(pairIn F1 v).1, (pairIn F1 v).2]) ∧ v = .ref p.1 ∧ F1 p.1 = some (.tup (p.2.map V.int)) := fun p hp => hk p (hL1 p (pm.mem_iff.mp hp))
      have hvL : ∀ p ∈ L', ∃ t, V.ref p.1 = .ref t ∧ F1 t = some (.tup [.int (pairIn F1 (V.ref p.1)).1, .int (pairIn F1 (V.ref p.1)).2]) := fun p hp => by
        obtain ⟨v, hv, e1, e2, e3⟩ := hL' p hp
        rw [← e2]
        exact h1 v hv
      have hp2 : ∀ p ∈ L', p.2 = [(pairIn F1 (V.ref p.1)).1, (pairIn F1 (V.ref p.1)).2] := fun p hp => by
        obtain ⟨v, hv, e1, e2, e3⟩ := hL' p hp
        rw [← e2, e1]
      have e : (L'.map fun q => V.ref q.1).map (pairIn F1) = qs' := by
        refine lex_uniq ?_ hpw fun z => ?_
        · rw [List.map_map, List.pairwise_map]
          have nd' : L'.Pairwise fun a b => a.2 ≠ b.2 := List.pairwise_map.mp nd
          refine (List.Pairwise.and pw nd').imp_of_mem fun {u w} hu hw h => ?_
          have eu := hp2 u hu
          have ew := hp2 w hw
          obtain ⟨c1, c2⟩ := h
          rw [eu, ew] at c1 c2
          obtain ⟨vu, hvu, _, e2, _⟩ := hL' u hu
          obtain ⟨vw, hvw, _, e3, _⟩ := hL' w hw
          obtain ⟨b1, b2⟩ := hb _ (hin vu hvu)
          obtain ⟨b3, b4⟩ := hb _ (hin vw hvw)
          rw [e2] at b1 b2
          rw [e3] at b3 b4
          exact pair_lt c1 c2 b1 b2 b3 b4
        · rw [hmem z, ← h2]
          constructor
          · intro hz
            rw [List.map_map] at hz
            obtain ⟨p, hp, rfl⟩ := List.mem_map.mp hz
            obtain ⟨v, hv, _, e2, _⟩ := hL' p hp
            exact List.mem_map.mpr ⟨v, hv, by rw [e2]; rfl⟩
          · intro hz
            obtain ⟨v, hv, rfl⟩ := List.mem_map.mp hz
            have hkv : (adOf v, [(pairIn F1 v).1, (pairIn F1 v).2]) ∈ ksOf F1 vs := List.mem_map.mpr ⟨v, hv, rfl⟩
            obtain ⟨p, hp, ep⟩ := List.mem_map.mp (hL2 _ hkv)
            have hp' := pm.mem_iff.mpr hp
            rw [List.map_map]
            refine List.mem_map.mpr ⟨p, hp', ?_⟩
            have z2 := hp2 p hp'
            have z3 : [(pairIn F1 (V.ref p.1)).1, (pairIn F1 (V.ref p.1)).2] = [(pairIn F1 v).1, (pairIn F1 v).2] := z2.symm.trans ep
            injection z3 with y1 y2
            injection y2 with y2 _
            exact Prod.ext y1 y2
      have hy : ∀ v ∈ L'.map fun q => V.ref q.1, ∃ t, v = .ref t ∧ F1 t = some (.tup [.int (pairIn F1 v).1, .int (pairIn F1 v).2]) := fun v hv => by
        obtain ⟨p, hp, rfl⟩ := List.mem_map.mp hv
        exact hvL p hp
      have r2 := pairs_back (K := X.K) hy
      rw [e] at r2
      have s2 := s1.trans st2
      exact q _ _ _ _ _ hp (s2.trans (Stp.alloc nb)) (fm2.alloc nb) (newOk fm2 s2 nb r2)
end
end VY

/-! VY: sorted(xs, key=f), f an own def that gives ints and changes nothing. -/
namespace VY
open PySem PySem.Spec PyProof.Rows L2
/-- all that is there stays -/
structure Kp (H H' : Hp) : Prop where
  k : Ex H H'
  g : ∀ b, H' b = none → H b = none
theorem Kp.refl (H : Hp) : Kp H H := ⟨Ex.refl _, fun _ z => z⟩
theorem Kp.trans {H H1 H2 : Hp} (a : Kp H H1) (b : Kp H1 H2) : Kp H H2 := ⟨a.k.trans b.k, fun c z => a.g c (b.g c z)⟩
/-- what does not change of FpOk -/
def FpSt (X : Cx) (pins : List (Addr × Obj)) (b : Addr) : Prop :=
  b ≠ X.env.locals ∧ b ∉ X.fs ∧ (b ∈ X.ex ∨ X.s_0.heap.objs.size ≤ b) ∧ (∀ x c, X.env.cells.lookup x = some c → c ≠ b) ∧ ∀ p ∈ X.pn ++ pins, p.1 ≠ b
section
variable {X : Cx} {pins : List (Addr × Obj)} {σ : L2.St} {a kS : Addr} {vs : List Value} {xs : List V} {kz : List Int} {e1 : Nat} {f : Value} {A : Around} {E : Value → Shared → Prop} {P : PySem.Fin → Shared → Prop}
theorem inv_pin2 {H : Hp} {s : Shared} {o1 o2 : Obj} (I : Inv X pins σ H s) (h1 : s.heap.get? kS = some o1) (h2 : s.heap.get? a = some o2) (f1 : FpSt X pins kS) (f2 : FpSt X pins a) (n1 : H kS = none) (n2 : H a = none) (d1 : ∀ v, o1.data ≠ .cell v) (d2 : ∀ v, o2.data ≠ .cell v) :
    Inv X ((kS, o1) :: (a, o2) :: pins) σ H s :=
  I.pins_of fun p hp => by
    rcases List.mem_cons.mp hp with rfl | hp
    · exact ⟨h1, n1, f1.1, f1.2.1, d1⟩
    · rcases List.mem_cons.mp hp with rfl | hp
      · exact ⟨h2, n2, f2.1, f2.2.1, d2⟩
      · exact I.pin p (List.mem_append_right _ hp)
theorem inv_unpin {H : Hp} {s : Shared} {p1 p2 : Addr × Obj} (I : Inv X (p1 :: p2 :: pins) σ H s) : Inv X pins σ H s :=
  I.pins_of fun p hp => I.pin p (List.mem_append_right _ (List.mem_cons_of_mem _ (List.mem_cons_of_mem _ hp)))
/-- the keys are asked for, then the sort -/
theorem sk_rest {H : Hp} {s : Shared} (I : Inv X pins σ H s) (hk0 : s.heap.get? kS = some (seqObj "list" #[] 0)) (ha0 : s.heap.get? a = some (seqObj "list" #[] e1)) (hka : kS ≠ a) (fk : FpSt X pins kS) (fa : FpSt X pins a) (nk : H kS = none) (na : H a = none)
    (hv : Vals xs vs) (hlen : kz.length = vs.length) (h64 : vs.length < 64)
    (turn : ∀ (i : Nat) (x : V) (v : Value) (k : Int) (pins' : List (Addr × Obj)) (H1 : Hp) (s1 : Shared), xs[i]? = some x → RelV x v → kz[i]? = some k → Kp H H1 → Inv X pins' σ H1 s1 →
      wpAny (model X.prog X.w) A (call f [v]) (EP X pins' σ fun r H2 => r = .int k ∧ Kp H1 H2) (fun _ _ => False) s1)
    (h : ∀ (H2 : Hp) (s2 : Shared) (ys : List V), Kp H H2 → H2 a = none → Inv X pins σ (upd H2 a (.lst ys)) s2 → ys.Perm xs → P (.done (.ret .none)) s2) :
    wpAny (model X.prog X.w) A (ksk_rest a f false vs.toArray e1 (.ref kS)) P E s := by
  unfold ksk_rest
  refine wpAny_bind (wpAny_rule ?_)
  first
    | rw [List.forIn_toArray]
    | (rw [← Array.forIn_toList]; simp only [List.toList_toArray])
    | rw [← Array.forIn_toList]
  refine wpAny_bind (ksk_fold (fun i s' => ∃ H1 kA e, Kp H H1 ∧ H1 kS = none ∧ H1 a = none ∧ Inv X pins σ H1 s' ∧ s'.heap.get? kS = some (seqObj "list" kA e) ∧ s'.heap.get? a = some (seqObj "list" #[] e1) ∧ IntsAre kA.toList (kz.take i)) vs 0 s
    ⟨H, #[], 0, Kp.refl _, nk, na, I, hk0, ha0, by simpa using IntsAre.nil⟩ ?step ?done)
  case step =>
    rintro j v s' hx ⟨H1, kA, e, kp, n1, n2, I1, g1, g2, hk⟩
    simp only [Nat.zero_add] at hk ⊢
    have hj : j < vs.length := (List.getElem?_eq_some_iff.mp hx).1
    obtain ⟨k, hkj⟩ : ∃ k, kz[j]? = some k := ⟨_, List.getElem?_eq_getElem (by omega)⟩
    have hz : kA.size ≤ vs.length := by
      have h1 := hk.length
      rw [Array.length_toList, List.length_take] at h1
      omega
    have hxl : j < xs.length := by rw [hv.length]; exact hj
    obtain ⟨u, hu, ru⟩ := hv.get (List.getElem?_eq_getElem hxl)
    rw [hx] at hu
    cases hu
    have I2 := inv_pin2 I1 g1 g2 fk fa n1 n2 (fun v q => nomatch q) (fun v q => nomatch q)
    refine wpAny_bind (wpAny_attempt (wpAny_mono (turn j _ v k _ H1 s' (List.getElem?_eq_getElem hxl) ru hkj kp I2) (fun w s'' he => ?_) fun _ _ hF => hF.elim))
    obtain ⟨r, H2, I3, rr, rfl, kp2⟩ := he
    obtain ⟨t2, rfl⟩ := rr
    try dsimp only
    have q1 := I3.pin (kS, seqObj "list" kA e) (List.mem_append_right _ List.mem_cons_self)
    have q2 := I3.pin (a, seqObj "list" #[] e1) (List.mem_append_right _ (List.mem_cons_of_mem _ List.mem_cons_self))
    have I4 := inv_unpin I3
    have s1 := Heap.SameBut.update s''.heap kS (Obj.mapSeq (·.push (.int k t2)))
    obtain ⟨c2, hc2⟩ : ∃ c2, (s''.heap.update kS (Obj.mapSeq (·.push (.int k t2)))).get? kS = some (seqObj "list" (kA.push (.int k t2)) c2) := ⟨_, get?_update_seq q1.1 (·.push (.int k t2))⟩
    have ek : kz.take (j + 1) = kz.take j ++ [k] := by rw [List.take_add_one, hkj]; simp
    have ea : (kA.push (Value.int k t2)).toList = kA.toList ++ [Value.int k t2] := by simp
    refine wpAny_bind (listUpdate_at q1.1 rfl ?_ (by rw [sizeLine_eq]; omega) (Nat.le_trans (Nat.le_of_eq (Array.size_push ..)) (by rw [sizeLine_eq]; omega)))
    refine wpAny_pure ⟨rfl, H2, kA.push (.int k t2), c2, kp.trans kp2, q1.2.1, q2.2.1, ?_, hc2, (s1.2 a hka.symm).trans q2.1, by rw [ea, ek]; exact ksk_snoc hk⟩
    exact I4.turnedL (t' := s''.toks) (ch := [kS]) (fun b o hb q => (s1.2 b (fun z => hb (by simp [z]))).trans q) fun b hb => by
      have : b = kS := by simpa using hb
      subst this
      exact ⟨q1.2.1, fk⟩
  case done =>
    rintro s' ⟨H1, kA, e, kp, n1, n2, I1, g1, g2, hk⟩
    have hk' : IntsAre kA.toList kz := by
      have e3 : kz.take (0 + vs.length) = kz := List.take_of_length_le (by omega)
      rw [e3] at hk
      exact hk
    try dsimp only
    refine wpAny_bind (listItems_at g1 rfl ?_)
    obtain ⟨m, F⟩ := I1.fr
    have bk : X.base.get? kS = none := by
      cases q : X.base.get? kS with
      | none => rfl
      | some o =>
        rcases fk.2.2.1 with z | z
        · exact absurd z (I1.ok.noex _ _ q)
        · exact absurd (Nat.lt_of_lt_of_le (Heap.lt_size (I1.ok.bs _ _ q).1) z) (Nat.lt_irrefl _)
    have ba : X.base.get? a = none := by
      cases q : X.base.get? a with
      | none => rfl
      | some o =>
        rcases fa.2.2.1 with z | z
        · exact absurd z (I1.ok.noex _ _ q)
        · exact absurd (Nat.lt_of_lt_of_le (Heap.lt_size (I1.ok.bs _ _ q).1) z) (Nat.lt_irrefl _)
    refine ksk_end_ (e := e) (news := (rest X.base s'.heap X.env.locals kS).filter fun p => decide (p.1 ≠ a)) F (fun p hp => ?_) hka (fun p hp => rest_ne p (List.mem_filter.mp hp).1) (fun p hp => of_decide_eq_true (List.mem_filter.mp hp).2) hk' hlen h64 fun h3 tk3 out c F3 N3 k3 => ?_
    · rcases List.mem_append.mp hp with hp | hp
      · exact news_all p (List.mem_filter.mp (List.mem_filter.mp hp).1).1
      · rcases List.mem_cons.mp hp with rfl | hp
        · exact ⟨g1, fk.1, bk⟩
        · rw [List.mem_singleton.mp hp]
          exact ⟨g2, fa.1, ba⟩
    · obtain ⟨ps, hp1, hp2, _⟩ := k3
      have hperm : out.toList.Perm vs := by
        rw [hp2]
        have z := hp1.map Prod.snd
        rw [List.map_snd_zip (by omega)] at z
        exact z
      obtain ⟨ys, hys, pys⟩ : ∃ ys : List V, Vals ys out.toList ∧ ys.Perm xs := by
        clear hp1 hp2 N3 F3 hlen h64 turn h hk hk'
        generalize out.toList = l at hperm
        clear out
        induction hperm generalizing xs with
        | nil => cases hv; exact ⟨[], .nil, .nil⟩
        | cons x _ ih =>
          cases hv with
          | cons r t =>
          obtain ⟨ys, h1, h2⟩ := ih t
          exact ⟨_ :: ys, .cons r h1, h2.cons _⟩
        | swap x y l =>
          cases hv with
          | cons r t =>
          cases t with
          | cons r' t =>
          exact ⟨_ :: _ :: _, .cons r' (.cons r t), List.Perm.swap _ _ _⟩
        | trans _ _ ih1 ih2 =>
          obtain ⟨ys, h1, h2⟩ := ih2 hv
          obtain ⟨zs, h3, h4⟩ := ih1 h1
          exact ⟨zs, h3, h4.trans h2⟩
      have ka := N3 _ List.mem_cons_self
      have keep : ∀ b o, b ∉ [kS, a, X.env.locals] → s'.heap.get? b = some o → h3.get? b = some o := fun b o hb q => by
        cases q0 : X.base.get? b with
        | some u =>
          have e0 := I1.bk b u q0
          rw [q] at e0; cases e0
          exact F3.keep b _ q0
        | none => exact (N3 (b, o) (List.mem_cons_of_mem _ (List.mem_filter.mpr ⟨mem_rest (fun z => hb (by simp [z])) q0 q (fun z => hb (by simp [z])), decide_eq_true (fun z => hb (by rw [show b = a from z]; simp))⟩))).1
      refine h H1 _ ys kp n2 ?_ pys
      have nb : ∀ b u, H1 b = some u → b ≠ kS ∧ b ≠ a := fun b u q => ⟨ne_of_none q n1, ne_of_none q n2⟩
      have hch : ∀ b ∈ [kS, a], FpSt X pins b := fun b hb => by
        have : b = kS ∨ b = a := by simpa using hb
        rcases this with rfl | rfl
        · exact fk
        · exact fa
      have kp' : ∀ b o, b ≠ X.env.locals → b ∉ [kS, a] → s'.heap.get? b = some o → h3.get? b = some o := fun b o h1 h2 q => keep b o (fun z => by
        have : b = kS ∨ b = a ∨ b = X.env.locals := by simpa using z
        rcases this with z | z | z
        · exact h2 (by simp [z])
        · exact h2 (by simp [z])
        · exact h1 z) q
      refine I1.step (g' := s'.gens) (d' := s'.drawn) (ch := [kS, a]) (fun b hb => ⟨(hch b hb).2.2.1, (hch b hb).1, (hch b hb).2.2.2.1, (hch b hb).2.2.2.2⟩) (fun b o h1 _ hc e _ => kp' b o h1 hc e) (fun b o h1 _ hc e _ => ⟨o.slots, kp' b o h1 hc e⟩)
        (fun b o hc _ n => ?_) (fun b o hc q => ?_) (fun b xs q => ?_) (fun b o u q => ?_) (fun b ps q => ⟨#[], ?_⟩) (fun m' hm => ?_) (fun b u q => ?_) I1.bare
      · rw [upd_ne (fun z => hc (by simp [z]))]; exact n
      · by_cases hL : b = X.env.locals
        · subst hL
          obtain ⟨o', es, ep, ho, _⟩ := F3.ns
          exact ⟨_, ho⟩
        · exact ⟨o, kp' b o hL hc q⟩
      · rw [upd_ne (nb _ _ q).2]; exact q
      · rw [upd_ne (nb _ _ q).2]; exact q
      · rw [upd_ne (nb _ _ q).2, q]; simp
      · rw [SlX.ns_only hm F.ns]
        exact F3.ns
      · by_cases hb : b = a
        · subst hb
          rw [upd_same] at q
          cases q
          refine ⟨?_, out.toList, c, hys, ?_⟩
          · rw [pys.length_eq, hv.length, sizeLine_eq]; omega
          · rw [Array.toArray_toList]; exact ka.1
        · rw [upd_ne hb] at q
          refine (I1.hok b u q).stay (fun c v hc q' => kp' c v ?_ ?_ q') (fun c q' => by rw [upd_ne (nb _ _ q').2]; exact q') fun c xs q' => by rw [upd_ne (nb _ _ q').2]; exact q'
          · rcases hc with z | z
            · rw [z]; exact fun y => by rw [y, I1.free] at q; cases q
            · exact fun y => by rw [y, I1.free] at z; cases z
          · have : c ≠ kS ∧ c ≠ a := by
              rcases hc with z | z
              · rw [z]; exact nb b u q
              · exact nb c _ z
            simp [this]
end
end VY

namespace VY
open PySem PySem.Spec PyProof.Rows L2
def rSortedOwn (K : PySem.W.Frag) (sp : Sp) (f : Addr) : List V → List V → Hp → VK → Prop := fun vs zs H Q => ∃ (l : Addr) (xs : List V) (kz : List Int), vs = [V.ref l] ∧ zs = [.ref f] ∧ SqL K H l xs ∧ xs.length < 64 ∧ kz.length = xs.length ∧
  (∀ (i : Nat) (x : V) (k : Int), xs[i]? = some x → kz[i]? = some k → ∀ H1, Kp H H1 → sp [x] H1 (fun r H2 => r = .int k ∧ Kp H1 H2) E0) ∧
  ∀ (ys : List V) (H2 : Hp) (p : Addr), ys.Perm xs → Kp H H2 → H2 p = none → Q (.ref p) (upd H2 p (.lst ys))
section
variable {X : Cx} {Γ : List Dsc} {P : PD} {a b c e o tg iter elt : Expr} {es ifs : List Expr} {pos p p2 q2 pos' apos cpos kpos : Pos} {x y : Str}
theorem cr_sortedOwn {k j : Nat} {f : Addr} {fd : FuncData} {ps : List Str} {sp : Sp} (Fn : FnOk X.prog X.w X.K X.mg X.base CX0 k f fd ps sp) (hb : Binds X.K fd ps []) (hr : Room j X.A) (hk : k + 2 ≤ j) :
    CallRK X (.builtin "sorted") [Str.ofString "key"] (rSortedOwn X.K sp f) := by
  intro pins s σ H xs0 zs0 us ws Q I r1 r2 h
  obtain ⟨l, xs, kz, rfl, rfl, hl, h64, hkz, turn, q⟩ := h
  cases r2 with
  | cons rf r2 =>
  cases r2
  cases rf
  rw [Vals.ref1 r1]
  obtain ⟨its, rv, pl, hz⟩ := I.list hl
  have hlen : xs.length = its.length := rv.length
  have hLs : s.heap.IsList l its.toArray := pl.isList
  show wpAny (model X.prog X.w) X.A (call (.builtin "sorted") [.ref l] [(Str.ofString "key", .ref f)]) (EP X pins σ Q) X.xe s
  refine call_function_entry_kw kind_sorted plain_sorted entry_sorted (ksk_s1 _ _) ?_
  unfold Builtin.«sorted»
  refine wpAny_bind (m := checkCount "sorted" 1 1 _) (wpAny_pure ?_)
  refine wpAny_bind (collect_list hLs ?_ (by first | (rw [List.size_toArray, sizeLine_eq]; omega) | (rw [sizeLine_eq]; omega)))
  refine wpAny_bind (wpAny_newList ?_ (by rw [sizeLine_eq]; first | omega | (simp; omega)))
  have hsz : ((s.heap.push (seqObj "list" #[] 0)).update s.heap.objs.size (Obj.mapSeq (· ++ its.toArray))).objs.size = s.heap.objs.size + 1 := by
    rw [Heap.size_update, size_push']
  have hoL : (((s.heap.push (seqObj "list" #[] 0)).update s.heap.objs.size (Obj.mapSeq (· ++ its.toArray))).push (seqObj "list" its.toArray 0)).get? (s.heap.objs.size + 1) = some (seqObj "list" its.toArray 0) := by
    rw [← hsz]; exact Heap.get?_push_size _ rfl
  have keep : ∀ b o, s.heap.get? b = some o → (((s.heap.push (seqObj "list" #[] 0)).update s.heap.objs.size (Obj.mapSeq (· ++ its.toArray))).push (seqObj "list" its.toArray 0)).get? b = some o := fun b o q => by
    have hlt : b < s.heap.objs.size := Heap.lt_size q
    rw [Heap.get?_push_ne _ _ _ (by rw [hsz]; exact Nat.ne_of_lt (Nat.lt_succ_of_lt hlt)), Heap.get?_update_ne _ _ _ _ (Nat.ne_of_lt hlt), Heap.get?_push_ne _ _ _ (Nat.ne_of_lt hlt)]
    exact q
  show wpAny _ _ _ _ _ { s with heap := ((s.heap.push (seqObj "list" #[] 0)).update s.heap.objs.size (Obj.mapSeq (· ++ its.toArray))).push (seqObj "list" its.toArray 0) }
  rw [hsz]
  generalize hh1 : (((s.heap.push (seqObj "list" #[] 0)).update s.heap.objs.size (Obj.mapSeq (· ++ its.toArray))).push (seqObj "list" its.toArray 0)) = h1 at hoL keep ⊢
  have hs1 : h1.objs.size = s.heap.objs.size + 2 := by rw [← hh1, size_push', hsz]
  refine wpAny_bind (wpAny_holding (wpAny_call_entry_kw slot_list_sort ⟨_, hoL, rfl⟩ entry_list_sort ?body (ksk_l1 _ _)))
  case body =>
    show wpAny (model X.prog X.w) X.A.in1.in1 (Builtin.«list.sort» ⟨[.ref (s.heap.objs.size + 1)], [(Str.ofString "key", .ref f)]⟩) _ _ _
    rw [ksk_t1]
    obtain ⟨e1, ho1⟩ : ∃ e1, (h1.update (s.heap.objs.size + 1) (Obj.mapSeq fun _ => (#[] : Array Value))).get? (s.heap.objs.size + 1) = some (seqObj "list" #[] e1) := ⟨_, get?_update_seq hoL fun _ => #[]⟩
    unfold ksk_tree
    refine wpAny_bind (listItems_at (s := { s with heap := h1 }) hoL rfl ?_)
    refine wpAny_bind (listUpdate_at (s := { s with heap := h1 }) hoL rfl ?_ (by rw [List.size_toArray, sizeLine_eq]; omega) (Nat.zero_le _))
    refine wpAny_bind (seqEpoch_at (s := { s with heap := h1.update (s.heap.objs.size + 1) (Obj.mapSeq fun _ => (#[] : Array Value)) }) ho1 rfl ?_)
    refine wpAny_bind (wpAny_newTuple ?_ (by show its.length ≤ _; rw [sizeLine_eq]; omega))
    refine wpAny_bind (wpAny_newList ?_ (Nat.zero_le _))
    refine wpAny_holding ?_
    have hs2 : (h1.update (s.heap.objs.size + 1) (Obj.mapSeq fun _ => (#[] : Array Value))).objs.size = s.heap.objs.size + 2 := by rw [Heap.size_update, hs1]
    have hs3 : ((h1.update (s.heap.objs.size + 1) (Obj.mapSeq fun _ => (#[] : Array Value))).push (seqObj "tuple" its.toArray 0)).objs.size = s.heap.objs.size + 3 := by rw [size_push', hs2]
    have keep2 : ∀ b o, s.heap.get? b = some o → (((h1.update (s.heap.objs.size + 1) (Obj.mapSeq fun _ => (#[] : Array Value))).push (seqObj "tuple" its.toArray 0)).push (seqObj "list" #[] 0)).get? b = some o := fun b o q => by
      have hlt : b < s.heap.objs.size := Heap.lt_size q
      refine Heap.get?_push_of_some _ (Heap.get?_push_of_some _ ?_)
      rw [Heap.get?_update_ne _ _ _ _ (Nat.ne_of_lt (Nat.lt_succ_of_lt hlt))]
      exact keep b o q
    have I2 : Inv X pins σ H { s with heap := ((h1.update (s.heap.objs.size + 1) (Obj.mapSeq fun _ => (#[] : Array Value))).push (seqObj "tuple" its.toArray 0)).push (seqObj "list" #[] 0) } := I.kept (t' := s.toks) keep2
    have fp : ∀ b, s.heap.objs.size ≤ b → FpSt X pins b ∧ H b = none := fun b hb => by
      have n := I.hok.fresh hb
      exact ⟨(I.fpOk hb n).2, n⟩
    obtain ⟨fa, na⟩ := fp (s.heap.objs.size + 1) (Nat.le_succ _)
    obtain ⟨fk, nk⟩ := fp (s.heap.objs.size + 3) (by omega)
    show wpAny _ _ (ksk_rest (s.heap.objs.size + 1) (.ref f) false its.toArray e1 (.ref ((h1.update (s.heap.objs.size + 1) (Obj.mapSeq fun _ => (#[] : Array Value))).push (seqObj "tuple" its.toArray 0)).objs.size)) _ _ _
    rw [hs3]
    refine sk_rest (xs := xs) (kz := kz) I2 (by rw [← hs3]; exact Heap.get?_push_size _ rfl) (Heap.get?_push_of_some _ (Heap.get?_push_of_some _ ho1)) (Nat.ne_of_gt (Nat.add_lt_add_left (by decide) _)) fk fa nk na rv (by rw [hkz, hlen]) (by rw [← hlen]; exact h64)
      (fun i x v ki pins' H1 s1 hx rx hki kp I1 => ?_) fun H2 s2 ys kp n2 I3 pm => ⟨_, rfl, ?_⟩
    · have hsp := turn i x ki hx hki H1 kp
      have hr' : Room k X.A.in1.in1 := ((hr.mono hk).in1).in1
      have hl' : ([v] : List Value).length = ps.length := Fn.len _ _ _ _ hsp ▸ rfl
      refine wpAny_call (codeAny_mono (Fn.run X.A.in1.in1 X.stack s1 H1 ⟨[v], []⟩ [v] [x] _ E0 hr' I1.env0.in1.in1 (hb s1 [v] I1.kIn hl') (.cons rx .nil) hsp) fun r s' hq => ?_)
      cases r with
      | error e => exact hq.elim
      | ok fl =>
        cases fl with
        | ret u => exact I1.after hq
        | next => exact False.elim hq
        | brk => exact False.elim hq
        | cont => exact False.elim hq
    · exact wpAny_pure ⟨_, rfl, .ref (s.heap.objs.size + 1), _, I3, rfl, q ys H2 _ pm kp n2⟩
/-- sorted(e, key=f) -/
theorem ew_sortedK {k j : Nat} {S : Spc} (cf : C8.Cal X.prog X.w X.K X.mg X.base k y (spW X.K S) []) (hr : Room j X.A) (hk : k + 2 ≤ j) (hm : X.mg "sorted" = none)
    (h : EW X e Γ fun x Γ1 => ∃ (ds : List D) (kz : List Int), Lst Γ1 x ds ∧ ds.length < 64 ∧ kz.length = ds.length ∧ (∀ (i : Nat) d z, ds[i]? = some d → kz[i]? = some z → S [.dat d] fun r _ => r = .dat (.int z)) ∧ ∀ ds' : List D, ds'.Perm ds → P (.new (.l ds')) Γ1) (hg : Gl X "sorted" := by rfl) (hgy : Gl X y := by rfl)
    (hdb : (y == ("__debug__" : Str)) = false := by decide)
    (he : backTo pos (starEach [e] X.env) = (false, eval e X.env) :: backTo pos (starEach [] X.env) := by rfl) (hpl : (backTo pos (starEach [e] X.env)).any (·.1) = false := by rfl) (hst : starEach [e] X.env = (false, eval e X.env) :: starEach [] X.env := by rfl)
    (hall : (backToKw pos (keywordEach [⟨some (Str.ofString "key"), .Name y p2, kpos⟩] X.env)).all (·.1.isSome) = true := by rfl) (hnone : (backToKw pos (keywordEach [⟨some (Str.ofString "key"), .Name y p2, kpos⟩] X.env)).any (·.1.isNone) = false := by rfl) (hks : (backToKw pos (keywordEach [⟨some (Str.ofString "key"), .Name y p2, kpos⟩] X.env)).filterMap (·.1) = [Str.ofString "key"] := by rfl) :
    EW X (.Call (.Name "sorted" p) [e] [⟨some (Str.ofString "key"), .Name y p2, kpos⟩] pos) Γ P := by
  intro A F H σ fm Q q
  obtain ⟨f, fd, ps, dvs, Fn, hmy, kp, b, dv⟩ := cf.ex
  cases dv
  refine ⟨_, pe_callBK (cr_sortedOwn Fn b hr hk) hg hm (by decide +kernel) (pa_cons pe_top pa_nil hst) (pk_cons (pe_glob (v := .ref f) hgy hmy rfl hdb) pk_nil) (by decide) (by decide) he hpl hall hnone hks, ?_⟩
  show EV X e σ H fun v H1 => rSortedOwn X.K (spW X.K S) f [v] [.ref f] H1 Q
  refine h.run fm Stp.refl fun x Γ1 v F1 H1 hx s1 _ fm1 ok => ?_
  obtain ⟨ds, kz, hd, hl, hkz, hS, hp⟩ := hx
  obtain ⟨a, xs, rfl, g, r⟩ := VOk.lst ok fm1 hd
  have hlx : ds.length = xs.length := r.len
  refine ⟨a, xs, kz, rfl, rfl, .inl (.inl g), by omega, by omega, fun i x z hx hz H2 kp2 => ?_, fun ys H2 b pm kp2 nb => ?_⟩
  · obtain ⟨d, hd, rd⟩ := r.getV hx
    refine ⟨F1, [.dat d], _, fm1.fh.trans kp2.k, .dat rd .nil, fun m n z u b h => by simp [zsOf, ioK] at h, hS i d z hd hz, fun r outs w F' H' hr po rt => ?_⟩
    subst hr
    exact ⟨Rep.int_eq rt, fun b o e => po.k b o e (fun z hz => by simp [zsOf, ioK] at hz), po.g⟩
  · obtain ⟨ds', e1, e2⟩ : ∃ ds', Reps X.K F1 ds' ys ∧ ds'.Perm ds := by
      clear hp hS hkz hl hd g hlx
      induction pm generalizing ds with
      | nil => cases r; exact ⟨[], .nil, .nil⟩
      | cons x _ ih =>
        cases r with
        | cons r t =>
        obtain ⟨ys, h1, h2⟩ := ih _ t
        exact ⟨_ :: ys, .cons r h1, h2.cons _⟩
      | swap x y l =>
        cases r with
        | cons r t =>
        cases t with
        | cons r' t =>
        exact ⟨_ :: _ :: _, .cons r' (.cons r t), List.Perm.swap _ _ _⟩
      | trans _ _ ih1 ih2 =>
        obtain ⟨ys, h1, h2⟩ := ih2 _ r
        obtain ⟨zs, h3, h4⟩ := ih1 _ h1
        exact ⟨zs, h3, h4.trans h2⟩
    have st2 : Stp σ Γ1 Γ1 F1 H1 F1 H2 := ⟨Ex.refl _, fun b o e _ => kp2.k b o e, fun _ _ _ z => z, kp2.g, Sim.refl _, fun _ _ h => .inl h⟩
    have fm2 : Fm X.K A F1 H2 σ Γ1 := fm1.mv (fm1.fh.trans kp2.k) (Ex.refl _) (fun b u _ _ e => kp2.k b u e) kp2.g (fun _ _ _ z => z) fun b w u e z => ⟨kp2.k b u e, z⟩
    have s2 := s1.trans st2
    exact q _ _ _ _ _ (hp ds' e2) (s2.trans (Stp.alloc nb)) (fm2.alloc nb) (newOk fm2 s2 nb e1)
end
end VY

/-! VY: list.extend, more of lists. -/
namespace VY
open PySem PySem.Spec PyProof.Rows L2
section
variable {X : Cx} {Γ : List Dsc} {P : PD} {o e : Expr} {apos cpos : Pos}
/-- o.extend(e), e a list -/
theorem ew_extend (h : EW X o Γ fun x Γ1 => plc x = true ∧ (∃ ds, Lst Γ1 x ds) ∧ EW X e Γ1 fun y Γ2 => ∃ es ds, Lst Γ2 y es ∧ Lst Γ2 x ds ∧ ds.length + es.length < 1000000 ∧ P (.dat .non) (setC Γ2 x (.lst (ds ++ es))))
    (hbase : attributeBase o "extend" X.env (eval o X.env) = eval o X.env := by rfl)
    (hfew : ((backTo cpos (starEach [e] X.env)).all (fun x => !x.1) && (backToKw cpos (keywordEach [] X.env)).all (fun x => x.1.isSome)
      && decide (([e] : List Expr).length + ([] : List Keyword).length + (if ([] : List Keyword).isEmpty then 0 else 1) < 30)) = true := by rfl)
    (hline : (apos.endLine == cpos.line) = true := by rfl) (hs : starEach [e] X.env = (false, eval e X.env) :: starEach [] X.env := by rfl) :
    EW X (.Call (.Attribute o "extend" apos) [e] [] cpos) Γ P := by
  intro A F H σ fm Q q
  refine ⟨_, pe_bm PySem.F.plainAttrs_list PySem.F.slot_list_extend PySem.F.type_list_extend mt_extend pe_top (pa_cons pe_top pa_nil hs) hbase hfew hline hs (by rfl), ?_⟩
  show EV X o σ H fun x H1 => tyV X.K "list" x H1 ∧ EV X e σ H1 fun y H2 => rExtend x [y] H2 Q
  refine h.run fm Stp.refl fun x Γ1 vx F1 H1 hx s1 _ fm1 ox => ?_
  obtain ⟨hpl, ⟨ds0, hl0⟩, h2⟩ := hx
  obtain ⟨a, xs0, rfl, e0, _⟩ := ox.lst fm1 hl0
  refine ⟨.inl ⟨rfl, _, .inl (.inl e0)⟩, ?_⟩
  refine h2.run fm1 s1 fun y Γ2 vy F2 H2 hy s2 s12 fm2 oy => ?_
  obtain ⟨es, ds, hd, hl, hz, hp⟩ := hy
  obtain ⟨b, zs, rfl, gb, rb⟩ := VOk.lst oy fm2 hd
  have ox2 := VOk.stp ox s12
  obtain ⟨a', xs, e, g, r⟩ := ox2.lst fm2 hl
  cases e
  obtain ⟨w1, w2⟩ := ox2.write fm2 (Con1.lst hl hpl) (plc_new hpl) (c' := .lst (ds ++ es)) (o := .lst (xs ++ zs)) (r.append rb)
  refine ⟨a, b, xs, zs, rfl, rfl, g, gb, ?_, ?_⟩
  · rw [← r.len, ← rb.len]
    have := sz1 hz
    omega
  · exact q _ _ _ F2 _ hp (s2.trans w2) w1 .non
/-- o.insert(e, f) -/
theorem ew_insert {f : Expr} (h : EW X o Γ fun x Γ1 => plc x = true ∧ (∃ ds, Lst Γ1 x ds) ∧ EW X e Γ1 fun y Γ2 => ∃ k, y = .dat (.int k) ∧ EW X f Γ2 fun z Γ3 => ∃ d ds, datOf z = some d ∧ Lst Γ3 x ds ∧ 0 ≤ k ∧ k < 2 ^ 63 ∧ ds.length < 1000000 ∧ P (.dat .non) (setC Γ3 x (.lst (ds.take k.toNat ++ [d] ++ ds.drop k.toNat))))
    (hbase : attributeBase o "insert" X.env (eval o X.env) = eval o X.env := by rfl)
    (hfew : ((backTo cpos (starEach [e, f] X.env)).all (fun x => !x.1) && (backToKw cpos (keywordEach [] X.env)).all (fun x => x.1.isSome)
      && decide (([e, f] : List Expr).length + ([] : List Keyword).length + (if ([] : List Keyword).isEmpty then 0 else 1) < 30)) = true := by rfl)
    (hline : (apos.endLine == cpos.line) = true := by rfl) (hs : starEach [e, f] X.env = (false, eval e X.env) :: starEach [f] X.env := by rfl)
    (hs2 : starEach [f] X.env = (false, eval f X.env) :: starEach [] X.env := by rfl) (hst : ((backTo cpos (starEach [f] X.env)).any fun x => x.1) = false := by rfl) :
    EW X (.Call (.Attribute o "insert" apos) [e, f] [] cpos) Γ P := by
  intro A F H σ fm Q q
  refine ⟨_, pe_bm PySem.F.plainAttrs_list PySem.F.slot_list_insert PySem.F.type_list_insert mt_insert pe_top (pa_cons pe_top (pa_cons pe_top pa_nil hs2) hs) hbase hfew hline hs hst, ?_⟩
  show EV X o σ H fun x H1 => tyV X.K "list" x H1 ∧ EV X e σ H1 fun y H2 => EV X f σ H2 fun z H3 => (∃ (l : Addr) (xs : List V) (i : Int) (w : V), x = .ref l ∧ [y, z] = [.int i, w] ∧ H3 l = some (.lst xs) ∧ xs.length < sizeLine ∧ 0 ≤ i ∧ i < 2 ^ 63 ∧ Q .non (upd H3 l (.lst (xs.take i.toNat ++ [w] ++ xs.drop i.toNat))))
  refine h.run fm Stp.refl fun x Γ1 vx F1 H1 hx s1 _ fm1 ox => ?_
  obtain ⟨hpl, ⟨ds0, hl0⟩, h2⟩ := hx
  obtain ⟨a, xs0, rfl, e0, _⟩ := ox.lst fm1 hl0
  refine ⟨.inl ⟨rfl, _, .inl (.inl e0)⟩, ?_⟩
  refine h2.run fm1 s1 fun y Γ2 vy F2 H2 hy s2 s12 fm2 oy => ?_
  obtain ⟨k, rfl, h3⟩ := hy
  cases Rep.int_eq oy
  refine h3.run fm2 s2 fun z Γ3 vz F3 H3 hz s3 s23 fm3 oz => ?_
  obtain ⟨d, ds, hd, hl, hk0, hk1, hn, hp⟩ := hz
  obtain ⟨F4, f34, fm4, s4, rd⟩ := freeze1 oz fm3 s3 hd
  have ox2 := VOk.stp (VOk.stp ox s12) s23
  obtain ⟨a', xs, e, g, r⟩ := ox2.lst fm3 hl
  cases e
  refine ⟨a, xs, k, vz, rfl, rfl, g, by rw [← r.len]; exact sz1 hn, hk0, hk1, ?_⟩
  have r4 := r.ex f34
  have r' : Reps X.K F4 (ds.take k.toNat ++ [d] ++ ds.drop k.toNat) (xs.take k.toNat ++ [vz] ++ xs.drop k.toNat) := ((r4.take _).append (Reps.one rd)).append (r4.drop _)
  have ox4 : VOk X.K A H F4 H3 σ Γ3 x (.ref a) := by
    cases x with
    | dat _ => cases hpl
    | new _ => cases hpl
    | loc i => exact ox2
    | fld i f b => exact ox2
  obtain ⟨w1, w2⟩ := ox4.write fm4 (Con1.lst hl hpl) (plc_new hpl) (c' := .lst (ds.take k.toNat ++ [d] ++ ds.drop k.toNat)) (o := .lst (xs.take k.toNat ++ [vz] ++ xs.drop k.toNat)) r'
  exact q _ _ _ F4 _ hp (s4.trans w2) w1 .non
theorem Reps.rev {K : PySem.W.Frag} {F : Hp} : ∀ {ts : List D} {vs : List V}, Reps K F ts vs → Reps K F ts.reverse vs.reverse
  | _, _, .nil => .nil
  | _, _, .cons r t => by
    rw [List.reverse_cons, List.reverse_cons]
    exact (Reps.rev t).append (Reps.one r)
/-- e[::-1], e a list -/
theorem ew_revL {k : Nat} {p1 p2 p3 : Pos} (h : EW X e Γ fun x Γ1 => ∃ ds, (x = .dat (.scr ds) ∨ Lst Γ1 x ds) ∧ P (.new (.l ds.reverse)) Γ1) :
    EW X (.Subscript e (.Slice none none (some (.UnaryOp .USub (.Constant (.int 1) k p1) p2)) p3) cpos) Γ P := by
  intro A F H σ fm Q q
  refine ⟨_, pe_revL pe_top, ?_⟩
  show EV X e σ H fun x H1 => ∃ a xs, x = .ref a ∧ SqL X.K H1 a xs ∧ ∀ p, H1 p = none → Q (.ref p) (upd H1 p (.lst xs.reverse))
  refine h.run fm Stp.refl fun x Γ1 vx F1 H1 hx s1 _ fm1 ox => ?_
  obtain ⟨ds, hd, hp⟩ := hx
  have key : ∃ a vs, vx = .ref a ∧ SqL X.K H1 a vs ∧ Reps X.K F1 ds vs := by
    rcases hd with rfl | hd
    · cases ox with
      | scr e r => exact ⟨_, _, rfl, fm1.fh.sq e, r⟩
    · obtain ⟨a, vs, e, g, r⟩ := ox.lst fm1 hd
      exact ⟨a, vs, e, .inl (.inl g), r⟩
  obtain ⟨a, vs, rfl, g, r⟩ := key
  exact ⟨a, vs, rfl, g, fun p np => q _ _ _ _ _ hp (s1.trans (Stp.alloc np)) (fm1.alloc np) (newOk fm1 s1 np r.rev)⟩
end
end VY

/-! VZq: sorted of a list or a tuple of tuples of ints, of unlike length; reverse=True; xs[::-1] of tuples; dict of a tuple of pairs; dicts read. -/
namespace SrtN
open PySem PyProof.Rows SrtO
/-- by the first place that differs; a part comes first -/
def lexN : List Int → List Int → Bool
  | [], [] => false
  | [], _ :: _ => true
  | _ :: _, [] => false
  | p :: r, q :: t => if p = q then lexN r t else decide (p < q)
theorem lexN_asym : ∀ x y, lexN x y = true → lexN y x = false
  | [], [], h => by cases h
  | [], _ :: _, _ => rfl
  | _ :: _, [], h => by cases h
  | p :: r, q :: t, h => by
    unfold lexN at h ⊢
    by_cases e : p = q
    · subst e
      rw [if_pos rfl] at h ⊢
      exact lexN_asym r t h
    · rw [if_neg e, decide_eq_true_eq] at h
      rw [if_neg (fun z => e z.symm), decide_eq_false_iff_not]
      omega
theorem lexN_tr : ∀ x y z, lexN y x = false → lexN z y = false → lexN z x = false
  | [], y, [], _, _ => rfl
  | _ :: _, y, [], h1, h2 => by
    cases y with
    | nil => cases h1
    | cons q t => cases h2
  | [], y, _ :: _, h1, h2 => rfl
  | p :: r, [], u :: v, h1, h2 => by cases h1
  | p :: r, q :: t, u :: v, h1, h2 => by
    unfold lexN at h1 h2 ⊢
    by_cases e1 : q = p
    · subst e1
      rw [if_pos rfl] at h1
      by_cases e2 : u = q
      · subst e2
        rw [if_pos rfl] at h2 ⊢
        exact lexN_tr r t v h1 h2
      · rw [if_neg e2, decide_eq_false_iff_not] at h2
        rw [if_neg e2, decide_eq_false_iff_not]
        exact h2
    · rw [if_neg e1, decide_eq_false_iff_not] at h1
      by_cases e2 : u = q
      · subst e2
        rw [if_neg e1, decide_eq_false_iff_not]
        exact h1
      · rw [if_neg e2, decide_eq_false_iff_not] at h2
        have : ¬ u = p := by omega
        rw [if_neg this, decide_eq_false_iff_not]
        omega
theorem lexN_eq : ∀ {x y}, lexN x y = false → lexN y x = false → x = y
  | [], [], _, _ => rfl
  | [], _ :: _, h, _ => by cases h
  | _ :: _, [], _, h => by cases h
  | p :: r, q :: t, h1, h2 => by
    unfold lexN at h1 h2
    by_cases e : p = q
    · subst e
      rw [if_pos rfl] at h1 h2
      rw [lexN_eq h1 h2]
    · rw [if_neg e, decide_eq_false_iff_not] at h1
      rw [if_neg (fun z => e z.symm), decide_eq_false_iff_not] at h2
      omega
theorem swoN {α : Type} (k : α → List Int) : Swo fun v u => lexN (k v) (k u) := ⟨fun _ _ h => lexN_asym _ _ h, fun _ _ _ h1 h2 => lexN_tr _ _ _ h1 h2⟩
section
variable {prog : Program} {w : World} {A : Around} {E : Value → Shared → Prop} {s : Shared} {Q : Bool → Shared → Prop}
theorem lex_any {b fin : Bool} {xs ys : List Value} {ns ms : List Int} (i : Nat) (hx : IntsAre xs ns) (hy : IntsAre ys ms) (hf : fin = decide (ns.length < ms.length)) (h : Q (lexN ns ms) s) : PySem.W.KatLex prog w A b fin Q (xs.zip ys) i s := by
  induction hx generalizing ys ms i with
  | nil =>
    cases hy with
    | nil =>
      subst hf
      exact PySem.W.kat_nil h
    | cons q u hy =>
      subst hf
      exact PySem.W.kat_nil (by simpa [lexN] using h)
  | @cons p t xs ns hx ih =>
    cases hy with
    | nil =>
      subst hf
      exact PySem.W.kat_nil (by simpa [lexN] using h)
    | @cons q u ys ms hy =>
      show PySem.W.KatLex prog w A b fin Q ((Value.int p t, Value.int q u) :: xs.zip ys) i s
      refine PySem.W.kat_cons (wpAny_eqBool_int ?_)
      have hf' : fin = decide (ns.length < ms.length) := by
        rw [hf, List.length_cons, List.length_cons]
        exact decide_eq_decide.mpr (by omega)
      unfold lexN at h
      by_cases e : p = q
      · subst e
        rw [if_pos rfl] at h
        rw [beq_self_eq_true]
        exact PySem.W.kat_yes (ih (i + 1) hy hf' h)
      · rw [if_neg e] at h
        rw [show (p == q) = false from beq_eq_false_iff_ne.mpr e]
        exact PySem.W.kat_no (TS.oneLt_ints _ h)
end

theorem firstsN {h : Heap} {k : Value → List Int} : ∀ vs : List Value, (∀ v ∈ vs, TS.TupInts h v (k v) ∧ k v ≠ []) → ∃ fs, PySem.W.KatTups h vs fs ∧ fs.length = vs.length ∧ ∀ f, f ∈ fs → ∃ n t, f = Value.int n t
  | [], _ => ⟨[], PySem.W.KatTups.nil, rfl, fun f hf => by simp at hf⟩
  | v :: vs, x => by
    obtain ⟨fs, kk, hl, hi⟩ := firstsN vs fun u hu => x u (List.mem_cons_of_mem _ hu)
    obtain ⟨⟨a, xs, e0, ⟨o, ho, hc, n, hdt⟩, i⟩, hn⟩ := x v List.mem_cons_self
    subst e0
    obtain ⟨y, ys, e⟩ : ∃ y ys, xs.toList = y :: ys := by
      cases q : xs.toList with
      | nil =>
        rw [q] at i
        have l := i.length
        exact absurd (List.length_eq_zero_iff.mp l.symm) hn
      | cons y ys => exact ⟨y, ys, rfl⟩
    obtain ⟨m, t, hy⟩ := i.all y (by rw [e]; exact List.mem_cons_self)
    refine ⟨y :: fs, PySem.W.KatTups.cons ho hc hdt ?_ kk, by simp [hl], ?_⟩
    · have z := congrArg (fun l : List Value => l[0]?) e
      simpa using z
    · intro f hf
      rcases List.mem_cons.mp hf with rfl | hf
      · exact ⟨m, t, hy⟩
      · exact hi f hf
section
variable {prog : Program} {w : World} {A : Around} {E : Value → Shared → Prop} {s : Shared}
theorem tups_cmp {vs : List Value} {k : Value → List Int} (hp : ∀ v ∈ vs, TS.TupInts s.heap v (k v) ∧ k v ≠ []) : Cmp prog w A s (tuples' true) (fun p => p.1 ∈ vs) (lt2 fun v u => lexN (k v) (k u)) := by
  intro p q hm hm'
  obtain ⟨h1, _⟩ := hp _ hm
  obtain ⟨h2, _⟩ := hp _ hm'
  show wpAny (model prog w) A (keyLt' (tuples' true) p.1 q.1) (fun r s' => s' = s ∧ r = lexN (k p.1) (k q.1)) (fun _ _ => False) s
  generalize k p.1 = x at h1 ⊢
  generalize k q.1 = y at h2 ⊢
  obtain ⟨a, xs, e1, ⟨o, ho, hc, n, hdt⟩, i⟩ := h1
  obtain ⟨a', ys, e2, ⟨o', ho', hc', n', hdt'⟩, i'⟩ := h2
  rw [e1, e2]
  refine PySem.W.kat_lt ho hdt ho' hdt' (lex_any 0 i i' ?_ ⟨rfl, rfl⟩)
  have l1 := i.length
  have l2 := i'.length
  rw [Array.length_toList] at l1 l2
  rw [l1, l2]
theorem tups_sortable {a : Addr} {vs : List Value} {k : Value → List Int} (h0 : 0 < vs.length) (hp : ∀ v ∈ vs, TS.TupInts s.heap v (k v) ∧ k v ≠ []) (ha : ∀ o, s.heap.get? a = some o → o.cls ≠ .type "tuple") : SortableO prog w A s a vs fun v u => lexN (k v) (k u) := by
  intro h' keep
  have hp' : ∀ v ∈ vs, TS.TupInts h' v (k v) ∧ k v ≠ [] := fun v hm => ⟨(hp v hm).1.keeps fun b o e c => keep b o (fun z => by subst z; exact ha o e c) e, (hp v hm).2⟩
  obtain ⟨fs, h1, h2, h3⟩ := firstsN vs hp'
  refine ⟨tuples' true, fun Q E hq => ?_, tups_cmp hp'⟩
  refine PySem.W.kat_kind (T := .type "int") h1 (by omega) (fun f hm => ?_) (by rfl) ?_
  · obtain ⟨x, t, rfl⟩ := h3 f hm
    exact PySem.W.Looks.now
  · have e : (Value.type "int" != Value.type "tuple") = true := by first | decide +kernel | rfl | decide
    rw [e]
    exact hq
/-- list.sort, as sorted calls it: by keywords, or none -/
structure SortBy (prog : Program) (w : World) (kw : List (Str × Value)) (b : Bool) : Prop where
  run : ∀ {A : Around} {E : Value → Shared → Prop} {s : Shared} {a : Addr} {vs : List Value} {n : Nat} {ltv : Value → Value → Bool} {R : PySem.Fin → Shared → Prop}, Swo ltv → s.heap.get? a = some (seqObj "list" vs.toArray n) → vs.length ≤ sizeLine →
    (2 ≤ vs.length → SortableO prog w A s a vs ltv) → (∀ out : List Value, Srtd ltv out → out.Perm vs → R (.done (.ret .none)) { s with heap := sortedHeap s.heap a vs (if b = true then out.toArray.reverse else out.toArray) }) →
    wpAny (model prog w) A (Builtin.«list.sort» ⟨[.ref a], kw⟩) R E s
  a1 : ∀ v, argsOk "sorted" ⟨[v], kw⟩
  a2 : ∀ v, argsOk "list.sort" ⟨[v], kw⟩
theorem sortBy0 : SortBy prog w [] false := ⟨fun O ho hz hS h => SrtO.list_sort_ord O ho hz hS fun out h1 h2 => h out h1 h2.perm, fun v => args_sorted1 v, fun v => args_list_sort v⟩
theorem sortByR {b : Bool} : SortBy prog w [(Str.ofString "reverse", .bool b)] b := ⟨fun O ho hz hS h => SrtR.list_sort_ordR O ho hz hS fun out h1 h2 => h out h1 (by
  cases b with
  | false => exact h2.perm
  | true => exact h2.perm.trans (List.reverse_perm _)), fun v => PyProof.Rows.args_sorted_rev _ _, fun v => PyProof.Rows.args_list_sort_rev _ _⟩
theorem collect_any {Q : List Value → Shared → Prop} (it : Addr) {T : String} {o : Obj} {items : Array Value} {n : Nat} (hT : T = "list" ∨ T = "tuple")
    (ho : s.heap.get? it = some o) (hc : o.cls = .type T) (hd : o.data = .seq items n)
    (hQ : Q items.toList { s with heap := (s.heap.push { cls := .type "list", data := .seq ([] : List Value).toArray }).update s.heap.objs.size (Obj.mapSeq (· ++ items)) }) (hsz : items.size ≤ sizeLine) :
    wpAny (model prog w) A (collect (.ref it)) Q E s := by
  unfold collect
  refine wpAny_bind (wpAny_runValue (codeAny_builtin F.entry_proto_collect ?_))
  rw [Around.under_plainId F.plain_proto_collect _]
  show wpAny _ A.in1 (newList [] >>= fun l => again (.builtin "list.__iadd__" ⟨[l, .ref it], []⟩)) _ _ s
  refine wpAny_bind (wpAny_newObj_type ?_)
  refine wpAny_pure ⟨plainId_quiet F.plain_list_iadd _, codeAny_builtin F.entry_list_iadd ?_⟩
  rw [Around.under_plainId F.plain_list_iadd _]
  show wpAny _ A.in1 (Builtin.List.listExtendWith (.ref s.heap.objs.size) (.ref it) (.ref s.heap.objs.size)) _ _ _
  have hS : (s.heap.push { cls := .type "list", data := .seq ([] : List Value).toArray }).get? s.heap.objs.size = some { cls := .type "list", data := .seq #[] 0 } := Heap.get?_push_size _ rfl
  have hS₂ := Heap.get?_update_self (Obj.mapSeq (· ++ items)) hS rfl
  have fin' : wpAny (model prog w) A (match Value.ref s.heap.objs.size with
      | Value.ref a => do
        match (← load a).data with
          | Data.seq xs _ => pure xs.toList
          | _ => unsupported "internal:collect"
      | _ => unsupported "internal:collect") Q E { s with heap := (s.heap.push { cls := .type "list", data := .seq ([] : List Value).toArray }).update s.heap.objs.size (Obj.mapSeq (· ++ items)) } := by
    show wpAny _ A (load s.heap.objs.size >>= _) _ _ _
    refine wpAny_bind (wpAny_load hS₂ ?_)
    refine wpAny_pure ?_
    have e : ((#[] : Array Value) ++ items).toList = items.toList := by simp
    show Q ((#[] : Array Value) ++ items).toList _
    rw [e]
    exact hQ
  refine wpAny_mono (wpAny_extend_seq (hsz := hsz) (A := A) (R := fun r s' => r = .ok (.ret (.ref s.heap.objs.size)) ∧ s' = { s with heap := (s.heap.push { cls := .type "list", data := .seq ([] : List Value).toArray }).update s.heap.objs.size (Obj.mapSeq (· ++ items)) })
    (s := { s with heap := s.heap.push { cls := .type "list", data := .seq ([] : List Value).toArray } }) _ it _ 0 hT hS (Heap.get?_push_of_some _ ho) hc hd ⟨rfl, rfl⟩) (fun fin s' h => ?_) (fun e s' h => ?_)
  · cases fin with
    | done f =>
      obtain ⟨e, rfl⟩ := h
      cases e
      exact fin'
    | again c' => exact ⟨h.1, codeAny_mono h.2 fun r s'' hr => by obtain ⟨rfl, rfl⟩ := hr; exact fin'⟩
  · exact absurd h.1 (by simp)
/-- sorted of a list or a tuple -/
theorem sorted_seq {it : Addr} {T : String} {oi : Obj} {vs : List Value} {ni : Nat} {b : Bool} {kw : List (Str × Value)} {ltv : Value → Value → Bool} {Q : Value → Shared → Prop} (B : SortBy prog w kw b) (hT : T = "list" ∨ T = "tuple") (hi : s.heap.get? it = some oi) (hc : oi.cls = .type T) (hd : oi.data = .seq vs.toArray ni)
    (O : Swo ltv) (hz : vs.length ≤ sizeLine)
    (hS : 2 ≤ vs.length → ∀ (h₁ : Heap) (a : Addr), h₁.get? a = some (seqObj "list" vs.toArray 0) → (∀ b o, s.heap.get? b = some o → b ≠ a ∧ h₁.get? b = some o) → SortableO prog w A.in1.in1 { s with heap := h₁ } a vs ltv)
    (h : ∀ (out : List Value) (h' : Heap) (d : Addr), Srtd ltv out → out.Perm vs → (∀ b o, s.heap.get? b = some o → h'.get? b = some o) → s.heap.objs.size ≤ d → (∃ n, h'.get? d = some (seqObj "list" (if b = true then out.toArray.reverse else out.toArray) n)) → Q (.ref d) { s with heap := h' }) :
    wpAny (model prog w) A (call (.builtin "sorted") [.ref it] kw) Q E s := by
  refine call_function_entry_kw kind_sorted plain_sorted entry_sorted (B.a1 _) ?_
  unfold Builtin.«sorted»
  refine wpAny_bind (m := checkCount "sorted" 1 1 _) (wpAny_pure ?_)
  refine wpAny_bind (collect_any it hT hi hc hd ?_ (by rw [List.size_toArray]; exact hz))
  refine wpAny_bind (wpAny_newList ?_ (by simpa using hz))
  have sz1 : ((s.heap.push { cls := .type "list", data := .seq ([] : List Value).toArray }).update s.heap.objs.size (Obj.mapSeq (· ++ vs.toArray))).objs.size = s.heap.objs.size + 1 := by
    rw [Heap.size_update, size_push']
  have k1 : ∀ b o, s.heap.get? b = some o → ((s.heap.push { cls := .type "list", data := .seq ([] : List Value).toArray }).update s.heap.objs.size (Obj.mapSeq (· ++ vs.toArray))).get? b = some o := fun b o hb =>
    (Heap.get?_update_other _ _ (Nat.ne_of_gt (Heap.lt_size hb))).trans (Heap.get?_push_of_some _ hb)
  generalize (s.heap.push { cls := .type "list", data := .seq ([] : List Value).toArray }).update s.heap.objs.size (Obj.mapSeq (· ++ vs.toArray)) = h1 at sz1 k1 ⊢
  have le : s.heap.objs.size ≤ h1.objs.size := by omega
  have hoL : (h1.push (seqObj "list" vs.toArray 0)).get? h1.objs.size = some (seqObj "list" vs.toArray 0) := Heap.get?_push_size _ rfl
  have keep : ∀ b o, s.heap.get? b = some o → b ≠ h1.objs.size ∧ (h1.push (seqObj "list" vs.toArray 0)).get? b = some o := fun b o q => ⟨Nat.ne_of_lt (Heap.lt_size (k1 _ _ q)), Heap.get?_push_of_some _ (k1 _ _ q)⟩
  show wpAny _ _ _ _ _ { s with heap := h1.push (seqObj "list" vs.toArray 0) }
  refine wpAny_bind (wpAny_holding (wpAny_call_entry_kw slot_list_sort ⟨_, hoL, rfl⟩ entry_list_sort ?_ (B.a2 _)))
  refine B.run O hoL hz (fun h2 => hS h2 _ _ hoL keep) fun out hs hb => ⟨_, rfl, ?_⟩
  refine wpAny_pure ⟨_, rfl, h out _ _ hs hb (fun b o e => ?_) le (sortedHeap_at hoL)⟩
  obtain ⟨n1, g1⟩ := keep b o e
  rw [sortedHeap_old n1 (Heap.lt_size g1)]
  exact g1
end
end SrtN

namespace L2
open PySem PySem.Spec PyProof.Rows
def rSortN (K : PySem.W.Frag) (b : Bool) : List V → Hp → VK → Prop := fun vs H Q => ∃ (a : Addr) (xs : List V) (k : V → List Int), vs = [V.ref a] ∧ (SqL K H a xs ∨ SqT K H a xs) ∧
  (∀ x ∈ xs, k x ≠ [] ∧ ∃ t, x = V.ref t ∧ H t = some (.tup ((k x).map V.int))) ∧
  ∀ ys p, SrtO.Srtd (fun v u => SrtN.lexN (k v) (k u)) ys → ys.Perm xs → H p = none → Q (.ref p) (upd H p (.lst (if b = true then ys.reverse else ys)))
theorem Srtd_map {α β : Type} {f : α → β} {lt : β → β → Bool} {l : List α} (h : SrtO.Srtd (fun v u => lt (f v) (f u)) l) : SrtO.Srtd lt (l.map f) := SrtO.srtd_map h
section
variable {X : Cx}
theorem sortN_run {b : Bool} {kw : List (Str × Value)} {pins : List (Addr × Obj)} {s : Shared} {σ : St} {H : Hp} {vs : List V} {us : List Value} {Q : VK} (B : SrtN.SortBy X.prog X.w kw b) (I : Inv X pins σ H s) (r : Vals vs us) (h : rSortN X.K b vs H Q) : wpAny (model X.prog X.w) X.A (call (.builtin "sorted") us kw) (EP X pins σ Q) X.xe s := by
  obtain ⟨a, xs, k, rfl, hs, hx, q⟩ := h
  obtain ⟨u, rfl, ru⟩ := vals1 r
  obtain rfl : u = Value.ref a := ru
  obtain ⟨its, T, o, n, rv, hT, ho, hc, hd, hz⟩ : ∃ (its : List Value) (T : String) (o : Obj) (n : Nat), Vals xs its ∧ (T = "list" ∨ T = "tuple") ∧ s.heap.get? a = some o ∧ o.cls = .type T ∧ o.data = .seq its.toArray n ∧ xs.length ≤ sizeLine := by
    rcases hs with hs | hs
    · obtain ⟨its, rv, hl, hz⟩ := I.list hs
      obtain ⟨o, ho, hc, n, hd⟩ := hl.isList
      exact ⟨its, "list", o, n, rv, .inl rfl, ho, hc, hd, hz⟩
    · obtain ⟨its, rv, hl, hz⟩ := I.tuple hs
      obtain ⟨o, ho, hc, n, hd⟩ := hl
      exact ⟨its, "tuple", o, n, rv, .inr rfl, ho, hc, hd, hz⟩
  obtain ⟨e1, e2⟩ := refs_back rv fun x m => by
    obtain ⟨_, t, e, _⟩ := hx x m
    exact ⟨t, e⟩
  have hp : ∀ v ∈ its, TS.TupInts s.heap v (k (backV v)) ∧ k (backV v) ≠ [] := fun v hv => by
    obtain ⟨t, rfl⟩ := e2 v hv
    have hm : V.ref t ∈ xs := by rw [e1]; exact List.mem_map.mpr ⟨_, hv, rfl⟩
    obtain ⟨ne, t', e, ht⟩ := hx _ hm
    cases e
    refine ⟨?_, ne⟩
    obtain ⟨its2, r2, hT2, _⟩ := I.tuple (a := t) (xs := (k (.ref t)).map V.int) (.inl (.inl ht))
    exact ⟨t, its2.toArray, rfl, hT2, show IntsAre its2.toArray.toList (k (.ref t)) from by simpa using r2.ints⟩
  refine SrtN.sorted_seq B hT ho hc hd (SrtN.swoN fun u => k (backV u)) (by rw [← rv.length]; exact hz) (fun h2 h₁ a' ha kk => ?_) fun out h' d h1 h2 kp hd' hn => ?_
  · refine SrtN.tups_sortable (s := { s with heap := h₁ }) (k := fun u => k (backV u)) (by omega) (fun v hm => ⟨(hp v hm).1.keeps fun b o e _ => (kk b o e).2, (hp v hm).2⟩) fun o e => ?_
    have e' : some o = some (seqObj "list" its.toArray 0) := e.symm.trans ha
    cases e'
    intro c
    exact absurd (Value.type.inj c) (by decide)
  · have h3 : ∀ u ∈ out, ∃ a, u = Value.ref a := fun u hu => e2 u (h2.mem_iff.mp hu)
    have hb : (out.map backV).Perm xs := by rw [e1]; exact h2.map backV
    obtain ⟨n, hn⟩ := hn
    have hlen : (if b = true then (out.map backV).reverse else out.map backV).length ≤ sizeLine := by
      split
      · rw [List.length_reverse, hb.length_eq]; exact hz
      · rw [hb.length_eq]; exact hz
    refine ⟨.ref d, upd H d (.lst (if b = true then (out.map backV).reverse else out.map backV)), I.laid (t' := s.toks) kp hd' ⟨hlen, (if b = true then out.reverse else out), n, ?_, ?_⟩, rfl, q _ d (SrtO.srtd_map h1) hb (I.hok.fresh hd')⟩
    · cases b with
      | false => exact vals_back h3
      | true =>
        show Vals (out.map backV).reverse out.reverse
        rw [← List.map_reverse]
        exact vals_back fun u hu => h3 u (List.mem_reverse.mp hu)
    · cases b with
      | false => exact hn
      | true =>
        have ea : out.reverse.toArray = out.toArray.reverse := by
          apply Array.ext'
          rw [Array.toList_reverse]
        show h'.get? d = some (seqObj "list" out.reverse.toArray n)
        rw [ea]
        exact hn
theorem cr_sortedN : CallR X (.builtin "sorted") (rSortN X.K false) := fun pins s σ H vs us Q I r h => sortN_run SrtN.sortBy0 I r h
theorem cr_sortedNR {b : Bool} : CallRK X (.builtin "sorted") [Str.ofString "reverse"] (fun vs zs H Q => zs = [.bl b] ∧ rSortN X.K b vs H Q) := fun pins s σ H vs zs us ws Q I r rz h => by
  obtain ⟨rfl, h⟩ := h
  obtain ⟨w1, rfl, e1⟩ := vals1 rz
  obtain rfl : w1 = Value.bool b := e1
  exact sortN_run SrtN.sortByR I r h
end
end L2
namespace VY
open PySem PySem.Spec PyProof.Rows L2
/-- a tuple of ints -/
def rowD (r : List Int) : D := .tup (r.map .int)
def rowIn (F : Hp) : V → List Int
  | .ref t => match F t with
    | some (.tup xs) => xs.map fun | .int i => i | _ => 0
    | _ => []
  | _ => []
theorem row_rep {K : PySem.W.Frag} {F : Hp} {r : List Int} {v : V} (h : Rep K F (rowD r) v) : (∃ t, v = .ref t ∧ F t = some (.tup (r.map V.int))) ∧ rowIn F v = r := by
  cases h with
  | tup e rr =>
    rw [Reps.ints_eq rr] at e
    refine ⟨⟨_, rfl, e⟩, ?_⟩
    show (match F _ with | some (.tup xs) => xs.map (fun | .int i => i | _ => 0) | _ => []) = r
    rw [e]
    show (r.map V.int).map _ = r
    rw [List.map_map]
    exact List.map_id' _
theorem rows_in {K : PySem.W.Frag} {F : Hp} : ∀ {qs : List (List Int)} {vs : List V}, Reps K F (qs.map rowD) vs → (∀ v ∈ vs, rowIn F v ∈ qs ∧ ∃ t, v = .ref t ∧ F t = some (.tup ((rowIn F v).map V.int))) ∧ vs.map (rowIn F) = qs
  | [], _, .nil => ⟨fun v h => (nomatch h), rfl⟩
  | q :: qs, _, .cons r1 r2 => by
    obtain ⟨⟨t, e1, e2⟩, e3⟩ := row_rep r1
    obtain ⟨h1, h2⟩ := rows_in r2
    refine ⟨fun v hv => ?_, by rw [List.map_cons, e3, h2]⟩
    rcases List.mem_cons.mp hv with rfl | hv
    · rw [e3]
      exact ⟨List.mem_cons_self, t, e1, e2⟩
    · exact ⟨List.mem_cons_of_mem _ (h1 v hv).1, (h1 v hv).2⟩
theorem rows_back {K : PySem.W.Frag} {F : Hp} : ∀ {vs : List V}, (∀ v ∈ vs, ∃ t, v = .ref t ∧ F t = some (.tup ((rowIn F v).map V.int))) → Reps K F ((vs.map (rowIn F)).map rowD) vs
  | [], _ => .nil
  | v :: vs, h => by
    obtain ⟨t, e1, e2⟩ := h v List.mem_cons_self
    refine .cons ?_ (rows_back fun w hw => h w (List.mem_cons_of_mem _ hw))
    generalize rowIn F v = z at e2
    subst e1
    exact .tup e2 Reps.ints
def lexLe (a b : List Int) : Prop := SrtN.lexN b a = false
theorem rows_uniq {ys qs : List (List Int)} (p : ys.Perm qs) (h1 : ys.Pairwise lexLe) (h2 : qs.Pairwise lexLe) : ys = qs := by
  refine List.Perm.eq_of_pairwise (le := lexLe) (fun u v _ _ a1 a2 => ?_) h1 h2 p
  exact SrtN.lexN_eq a2 a1
section
variable {X : Cx} {Γ : List Dsc} {P : PD} {a b c e o tg iter elt : Expr} {es ifs : List Expr} {pos p p2 q2 pos' apos cpos : Pos} {x : Str}
theorem kw_sortN {K : PySem.W.Frag} {A : Ac} {Hs F0 F H : Hp} {σ : L2.St} {Γs Γ1 : List Dsc} {x : Dv} {v : V} {b : Bool} {qs qs' : List (List Int)} {Q : VK} (fm : Fm K A F H σ Γ1) (o1 : VOk K A Hs F H σ Γ1 x v)
    (hd : Sq Γ1 x (qs.map rowD)) (hne : ∀ q ∈ qs, q ≠ []) (hpe : qs'.Perm qs) (hpw : qs'.Pairwise lexLe)
    (q : ∀ (p : Addr) (vs : List V), H p = none → Reps K F (if b = true then qs'.reverse.map rowD else qs'.map rowD) vs → Q (.ref p) (upd H p (.lst vs))) : rSortN K b [v] H Q := by
  obtain ⟨a, vs, rfl, g, r⟩ := VOk.seq o1 fm hd
  obtain ⟨h1, h2⟩ := rows_in r
  refine ⟨a, vs, rowIn F, rfl, g, fun v hv => ?_, fun ys p hs hb np => ?_⟩
  · obtain ⟨hm, t, e1, e2⟩ := h1 v hv
    exact ⟨hne _ hm, t, e1, fm.fh _ _ e2⟩
  · have hy : ∀ v ∈ ys, ∃ t, v = .ref t ∧ F t = some (.tup ((rowIn F v).map V.int)) := fun v hv => (h1 v (hb.mem_iff.mp hv)).2
    have e : ys.map (rowIn F) = qs' := by
      refine rows_uniq ?_ ?_ hpw
      · exact ((hb.map (rowIn F)).trans (.of_eq h2)).trans hpe.symm
      · rw [List.pairwise_map]
        exact hs
    refine q p _ np ?_
    cases b with
    | false =>
      rw [← e]
      exact rows_back hy
    | true =>
      show Reps K F (qs'.reverse.map rowD) ys.reverse
      rw [← e, ← List.map_reverse]
      exact rows_back fun v hv => hy v (List.mem_reverse.mp hv)
theorem ew_sortedN (hm : X.mg "sorted" = none) (h : EW X e Γ fun x Γ1 => ∃ qs qs' : List (List Int), Sq Γ1 x (qs.map rowD) ∧ (∀ q ∈ qs, q ≠ []) ∧ qs'.Perm qs ∧ qs'.Pairwise lexLe ∧ P (.new (.l (qs'.map rowD))) Γ1) (hg : Gl X "sorted" := by rfl)
    (he : starEach [e] X.env = (false, eval e X.env) :: starEach [] X.env := by rfl) : EW X (.Call (.Name "sorted" p) [e] [] pos) Γ P :=
  ew_cb cr_sortedN hm (by decide +kernel) (aw_one (h.mono fun x Γ1 ⟨qs, qs', hd, hne, hpe, hpw, hp⟩ A Fs Hs Γs F H σ vs fm st ok Q q => by
    cases ok with
    | cons o1 ok =>
      cases ok
      exact kw_sortN (b := false) (F0 := Fs) (Γs := Γs) fm o1 hd hne hpe hpw fun p vs np rr => q _ _ _ _ _ hp (st.trans (Stp.alloc np)) (fm.alloc np) (newOk fm st np rr)) he) hg (by decide) (by decide) he (by rfl)
end
end VY

/-! VZr: t[::-1] of a tuple; dict of a tuple of pairs; dicts read. -/
namespace TRev
open PySem PyProof.Rows
section
variable {prog : Program} {w : World} {A : Around} {E : Value → Shared → Prop} {s : Shared}
theorem adjust_rev (n : Nat) : Builtin.Slice.sliceAdjust none none (-1) (n : Int) = ((n : Int) - 1, -1) := by
  unfold Builtin.Slice.sliceAdjust
  have h1 : ((-1 : Int) < 0) := by omega
  simp only [h1, if_true]
theorem places_rev (n : Nat) : Builtin.Slice.slicePlaces ((n : Int) - 1) (-1) (-1) = n := by
  unfold Builtin.Slice.slicePlaces
  have h1 : ¬ ((-1 : Int) > 0) := by omega
  simp only [h1, if_false]
  split
  · simp only [Int.neg_neg, Int.ediv_one]
    omega
  · omega
theorem sliceApplied_rev {sl : Addr} {n : Nat} {u : Tok} {Q : Int × Int × Nat → Shared → Prop} (hs : s.heap.IsSliceOf sl .none .none (.int (-1) u)) (h : Q ((n : Int) - 1, -1, n) s) :
    wpAny (model prog w) A (Builtin.Slice.sliceApplied (.ref sl) (pure (n : Int))) Q E s := by
  obtain ⟨os, hos, hcs, hds⟩ := id hs
  unfold Builtin.Slice.sliceApplied Builtin.Slice.sliceFields
  refine wpAny_bind (wpAny_bind (wpAny_field hos hds (x := .none) rfl (wpAny_bind (wpAny_field hos hds (x := .none) rfl (wpAny_bind (wpAny_field hos hds (x := .int (-1) u) rfl (wpAny_pure ?_)))))))
  refine wpAny_bind (slicePart_int ?_)
  show wpAny _ _ (if ((-1 : Int) == 0) = true then _ else _) _ _ s
  rw [if_neg (by decide)]
  refine wpAny_bind (slicePart_none (wpAny_bind (slicePart_none (wpAny_bind (wpAny_pure ?_)))))
  show wpAny _ _ (match Builtin.Slice.sliceAdjust none none (-1) (n : Int) with | (lo, hi) => pure (lo, (-1 : Int), Builtin.Slice.slicePlaces lo hi (-1))) _ _ s
  rw [adjust_rev n]
  show wpAny _ _ (pure ((n : Int) - 1, (-1 : Int), Builtin.Slice.slicePlaces ((n : Int) - 1) (-1) (-1))) _ _ s
  rw [places_rev n]
  exact wpAny_pure h
theorem pick_rev (xs : Array Value) : ((List.range xs.size).filterMap fun (k : Nat) => xs[(((xs.size : Int) - 1) + (k : Int) * (-1)).toNat]?).toArray = xs.toList.reverse.toArray := by
  have h := PySem.W.krv_all xs
  have e : ((List.range xs.size).filterMap fun (k : Nat) => xs[(((xs.size : Int) - 1) + (k : Int) * (-1)).toNat]?) = ((List.range xs.size).map fun k => xs.size - 1 - k).filterMap (xs[·]?) := by
    rw [List.filterMap_map]
    congr 1
    funext k
    show xs[(((xs.size : Int) - 1) + (k : Int) * (-1)).toNat]? = xs[xs.size - 1 - k]?
    rcases Nat.lt_or_ge k xs.size with c | c
    · have : (((xs.size : Int) - 1) + (k : Int) * (-1)).toNat = xs.size - 1 - k := by omega
      rw [this]
    · have : (((xs.size : Int) - 1) + (k : Int) * (-1)).toNat = xs.size - 1 - k := by omega
      rw [this]
  rw [e, PySem.W.krv_range, List.filterMap_reverse, h]
theorem getItem_tuple_rev {t sl : Addr} {items : Array Value} {u : Tok} {Q : Value → Shared → Prop} (ht : IsTup s.heap t items) (hs : s.heap.IsSliceOf sl .none .none (.int (-1) u))
    (h : Q (.ref s.heap.objs.size) { s with heap := s.heap.push { cls := .type "tuple", data := .seq items.toList.reverse.toArray } })
    (hsz : items.size ≤ sizeLine) : wpAny (model prog w) A (getItem (.ref t) (.ref sl)) Q E s := by
  have hrev : sizeOk (.seq items.toList.reverse.toArray) := by
    show items.toList.reverse.toArray.size ≤ sizeLine
    rw [List.size_toArray, List.length_reverse, Array.length_toList]
    exact hsz
  obtain ⟨os, hos, hcs, hds⟩ := id hs
  have hTs : s.TypeIs (.ref sl) "slice" := ⟨os, hos, hcs⟩
  unfold getItem
  try with_reducible refine wpAny_holding ?_
  first | refine wpAny_bind (wpAny_pure ?_) | skip
  refine wpAny_bind (wpAny_sequenceKey ht.typeIs (by decide) ?_)
  refine wpAny_bind (wpAny_callSpecial?_slot (name := Str.ofString "__getitem__") ht.typeIs slot_tuple_getitem
    (wpAny_call_entry slot_tuple_getitem ht.typeIs entry_tuple_getitem ?_ (args_tuple_getitem _ _)))
  show wpAny _ _ (Builtin.Tuple.tupleItemsOf (.ref t) >>= _) _ _ s
  refine wpAny_bind (tupleItemsOf_ ht ?_)
  refine wpAny_bind (wpAny_typeOf hTs ?_)
  rw [if_pos (by decide)]
  refine wpAny_bind (sliceApplied_rev hs ?_)
  have hno : ¬ ((((items.size : Int) - 1) == 0 && (-1 : Int) == 1 && items.size == items.size) = true) := by
    simp
  show wpAny _ _ (if (((items.size : Int) - 1) == 0 && (-1 : Int) == 1 && items.size == items.size) = true then _ else _) _ _ s
  rw [if_neg hno, pick_rev items]
  first
    | exact wpAny_bind (m := Builtin.Tuple.tupleExact _) (wpAny_newObj_type (wpAny_pure ⟨_, rfl, wpAny_pure h⟩) hrev)
    | exact wpAny_bind (m := Builtin.Tuple.tupleExact _) (wpAny_newObj_type (wpAny_bind (wpAny_pure (wpAny_pure ⟨_, rfl, wpAny_pure h⟩))) hrev)
    | exact wpAny_bind (wpAny_bind (m := Builtin.Tuple.tupleExact _) (wpAny_newObj_type (wpAny_pure (wpAny_pure ⟨_, rfl, wpAny_pure h⟩)) hrev))
    | exact wpAny_bind (wpAny_bind (m := Builtin.Tuple.tupleExact _) (wpAny_newObj_type (wpAny_pure ⟨_, rfl, wpAny_pure h⟩) hrev))
end
end TRev
namespace L2
open PySem PySem.Spec PyProof.Rows
section
variable {X : Cx}
/-! ### t[::-1] -/
def tRevT (K : PySem.W.Frag) (te : TE) : TE := fun σ H Q => te σ H fun x H1 => ∃ a xs, x = .ref a ∧ SqT K H1 a xs ∧ ∀ p, H1 p = none → Q (.ref p) (upd H1 p (.tup xs.reverse))
theorem pe_revT {e : Expr} {te : TE} {k : Nat} {p1 p2 p3 pos : Pos} (he : PE X e te) : PE X (.Subscript e (.Slice none none (some (.UnaryOp .USub (.Constant (.int 1) k p1) p2)) p3) pos) (tRevT X.K te) := by
  refine ⟨fun pins s σ H Q I h => ?_⟩
  refine Subscript_ (thn (he.run pins s σ H _ I h) fun v s1 ⟨x, H1, I1, r1, q1⟩ => ?_)
  obtain ⟨a, xs, ex, hx, q⟩ := q1
  subst ex
  cases r1
  have hst : PO X (some (.UnaryOp .USub (.Constant (.int 1) k p1) p2)) (tPart (tUn (rU fun i => .int (-i)) (tC (.int 1)))) := po_some (pe_un un_neg pe_int)
  refine wpAny_Slice (thn (po_none.run pins s1 σ H1 (fun o H2 => o = none ∧ H2 = H1) I1 ⟨rfl, rfl⟩) fun vl s2 ⟨l, H2, I2, pl, el, e2⟩ => ?_)
  subst el e2
  refine thn (po_none.run pins s2 σ H2 (fun o H3 => o = none ∧ H3 = H2) I2 ⟨rfl, rfl⟩) fun vu s3 ⟨u, H3, I3, pu, eu, e3⟩ => ?_
  subst eu e3
  refine thn (hst.run pins s3 σ H3 (fun o H4 => o = some (-1) ∧ H4 = H3) I3 ⟨1, rfl, -1, rfl, rfl, rfl⟩) fun vs s4 ⟨o, H4, I4, ps, eo, e4⟩ => ?_
  subst eo e4
  cases pl
  cases pu
  cases ps with
  | int i t =>
  have I5 : Inv X pins σ H4 { s4 with heap := s4.heap.push { cls := .type "slice", data := .fields #[.none, .none, .int (-1) t] } } := I4.kept (t' := s4.toks) fun b ob q => Heap.get?_push_of_some _ q
  obtain ⟨its, r, ht, hz⟩ := I5.tuple hx
  have hlen := r.length
  show wpAny (model X.prog X.w) X.A (subscriptTail e (.Slice none none (some (.UnaryOp .USub (.Constant (.int 1) k p1) p2)) p3) (.ref a) (.ref s4.heap.objs.size)) (EP X pins σ Q) X.xe { s4 with heap := s4.heap.push { cls := .type "slice", data := .fields #[.none, .none, .int (-1) t] } }
  refine tail_any (ops := [.ref a, .ref s4.heap.objs.size]) ht.typeIs (PyProof.Rows.slot_tuple_getitem.lookup) ?_ (by with_unfolding_all rfl)
  refine TRev.getItem_tuple_rev ht (Heap.IsSliceOf.new _ .none .none (.int (-1) t)) ?_ (by rw [List.size_toArray]; omega)
  refine ⟨.ref _, _, I5.laid (t' := s4.toks) (o := .tup xs.reverse) (fun b ob q => Heap.get?_push_of_some _ q) (Nat.le_refl _) ?_, rfl, q _ (I5.hok.fresh (Nat.le_refl _))⟩
  exact ⟨by rw [List.length_reverse]; exact hz, _, r.reverse, IsTup.new _ _⟩
end
end L2
namespace L2
open PySem PySem.Spec PyProof.Rows
section
variable {X : Cx}
/-- x in ys (neg: not in), ys a list or a tuple of data of any depth -/
def rInQ (K : PySem.W.Frag) (neg : Bool) : R2 := fun x y H Q => ∃ d c ds, Dp K H x d ∧ Dp K H y c ∧ (c = .list ds ∨ c = .tuple ds) ∧ SeqAt.shaped d = true ∧ SeqAt.shaped c = true ∧ Q (.bl (if neg = true then !ds.any fun z => PyData.eqv z d else ds.any fun z => PyData.eqv z d)) H
theorem op_inQ (hu : X.A.units + 65 < cLine) : OpR X (compareOp .In) (rInQ X.K false) := by
  intro pins s σ H x y v u Q I rx ry h
  obtain ⟨d, c, ds, hd, he, hc, sd, se, q⟩ := h
  obtain ⟨as, r1⟩ := Dp.reads I d x v hd rx
  obtain ⟨bs, r2⟩ := Dp.reads I c y u he ry
  rcases hc with rfl | rfl
  · exact SeqAt.in_list_reads r2 r1 (SeqAt.canLay_of_shaped se) (SeqAt.canLay_of_shaped sd) (room_in_shaped sd hu) ⟨.bl _, H, I, rfl, q⟩
  · exact SeqAt.in_tuple_reads r2 r1 (SeqAt.canLay_of_shaped se) (SeqAt.canLay_of_shaped sd) (room_in_shaped sd hu) ⟨.bl _, H, I, rfl, q⟩
theorem op_notInQ (hu : X.A.units + 65 < cLine) : OpR X (compareOp .NotIn) (rInQ X.K true) := by
  intro pins s σ H x y v u Q I rx ry h
  obtain ⟨d, c, ds, hd, he, hc, sd, se, q⟩ := h
  obtain ⟨as, r1⟩ := Dp.reads I d x v hd rx
  obtain ⟨bs, r2⟩ := Dp.reads I c y u he ry
  rcases hc with rfl | rfl
  · exact SeqAt.notIn_list_reads r2 r1 (SeqAt.canLay_of_shaped se) (SeqAt.canLay_of_shaped sd) (room_in_shaped sd hu) ⟨.bl _, H, I, rfl, q⟩
  · exact SeqAt.notIn_tuple_reads r2 r1 (SeqAt.canLay_of_shaped se) (SeqAt.canLay_of_shaped sd) (room_in_shaped sd hu) ⟨.bl _, H, I, rfl, q⟩
end
end L2
namespace VY
open PySem PySem.Spec PyProof.Rows L2
section
variable {X : Cx} {Γ : List Dsc} {P : PD} {a b c e o tg iter elt : Expr} {es ifs : List Expr} {pos p p2 q2 pos' apos cpos : Pos} {x : Str}
def InD (Γ : List Dsc) (x y : Dv) (k : Bool) : Prop := ∃ d c ds, Py1 Γ x d ∧ Py1 Γ y c ∧ (c = .list ds ∨ c = .tuple ds) ∧ SeqAt.shaped d = true ∧ SeqAt.shaped c = true ∧ (ds.any fun z => PyData.eqv z d) = k
theorem kw_inQ {neg k : Bool} {x y : Dv} (h : InD Γ x y k) (hp : P (.dat (.bl (if neg = true then !k else k))) Γ) : Kw X Γ [x, y] (r2 (rInQ X.K neg)) P := by
  intro A Fs Hs Γs F H σ vs fm st ok Q q
  obtain ⟨d, e, ds, hd, he, hc, sd, se, rfl⟩ := h
  cases ok with
  | cons o1 ok =>
    cases ok with
    | cons o2 ok =>
      cases ok
      exact ⟨_, _, rfl, d, e, ds, o1.dp fm hd, o2.dp fm he, hc, sd, se, q _ _ _ F H hp st fm (.bl _)⟩
theorem ew_inD {k : Nat} (hr : Room k X.A) (h : EW X a Γ fun x Γ1 => EW X b Γ1 fun y Γ2 => ∃ r, InD Γ2 x y r ∧ P (.dat (.bl r)) Γ2) (hm : behindInMarks .In b = false := by rfl) : EW X (.Compare a [.In] [b] pos) Γ P :=
  ew_cmp (op_inQ (by have := hr.un; omega)) (h.mono fun x Γ1 h1 => h1.mono fun y Γ2 ⟨r, h2, hp⟩ => kw_inQ (neg := false) h2 hp) hm
theorem ew_notinD {k : Nat} (hr : Room k X.A) (h : EW X a Γ fun x Γ1 => EW X b Γ1 fun y Γ2 => ∃ r, InD Γ2 x y r ∧ P (.dat (.bl (!r))) Γ2) (hm : behindInMarks .NotIn b = false := by rfl) : EW X (.Compare a [.NotIn] [b] pos) Γ P :=
  ew_cmp (op_notInQ (by have := hr.un; omega)) (h.mono fun x Γ1 h1 => h1.mono fun y Γ2 ⟨r, h2, hp⟩ => kw_inQ (neg := true) h2 hp) hm
theorem tw_inD {k : Nat} {P : Bool → List Dsc → Prop} (hr : Room k X.A) (h : EW X a Γ fun x Γ1 => EW X b Γ1 fun y Γ2 => ∃ r, InD Γ2 x y r ∧ P r Γ2) (hm : behindInMarks .In b = false := by rfl) : TW X (.Compare a [.In] [b] pos) Γ P :=
  tw_cmp (op_inQ (by have := hr.un; omega)) (h.mono fun x Γ1 h1 => h1.mono fun y Γ2 ⟨r, h2, hp⟩ => kw_inQ (neg := false) h2 ⟨_, rfl, hp⟩) hm
theorem tw_notinD {k : Nat} {P : Bool → List Dsc → Prop} (hr : Room k X.A) (h : EW X a Γ fun x Γ1 => EW X b Γ1 fun y Γ2 => ∃ r, InD Γ2 x y r ∧ P (!r) Γ2) (hm : behindInMarks .NotIn b = false := by rfl) : TW X (.Compare a [.NotIn] [b] pos) Γ P :=
  tw_cmp (op_notInQ (by have := hr.un; omega)) (h.mono fun x Γ1 h1 => h1.mono fun y Γ2 ⟨r, h2, hp⟩ => kw_inQ (neg := true) h2 ⟨_, rfl, hp⟩) hm
theorem ew_revT {k : Nat} {p1 p2 p3 : Pos} (h : EW X e Γ fun x Γ1 => ∃ ds, x = .dat (.tup ds) ∧ P (.dat (.tup ds.reverse)) Γ1) :
    EW X (.Subscript e (.Slice none none (some (.UnaryOp .USub (.Constant (.int 1) k p1) p2)) p3) pos) Γ P := by
  intro A F H σ fm Q q
  refine ⟨_, pe_revT pe_top, ?_⟩
  show EV X e σ H fun x H1 => ∃ a xs, x = .ref a ∧ SqT X.K H1 a xs ∧ ∀ p, H1 p = none → Q (.ref p) (upd H1 p (.tup xs.reverse))
  refine h.run fm Stp.refl fun x Γ1 v F1 H1 hx s1 _ fm1 ok => ?_
  obtain ⟨ds, rfl, hp⟩ := hx
  cases ok with
  | tup g r =>
    exact ⟨_, _, rfl, .inl (.inl (fm1.fh _ _ g)), fun p np => q _ Γ1 _ _ _ hp (s1.trans (Stp.allocF np (fm1.fnone np))) (fm1.allocF np) (.tup upd_same (r.rev.ex (Ex.new (fm1.fnone np))))⟩
end
end VY

/-! VZs: dict of a list or a tuple of pairs; k in d; d[k]; sorted(.., reverse=..). -/
namespace L2
open PySem PySem.Spec PyProof.Rows
section
variable {X : Cx}
theorem pairs_vals {pins : List (Addr × Obj)} {σ : St} {H : Hp} {s : Shared} (I : Inv X pins σ H s) : ∀ {ps : List Addr} {kvs : List (Key × V)}, Paired (fun p kv => SqT X.K H p [kV kv.1, kv.2]) ps kvs →
    ∃ (vs : List (Value × Value)) (prs : List (Key × Value)), KV kvs prs ∧ vs.length = ps.length ∧ prs.length = ps.length ∧ ∀ (j : Nat) (k v : Value), vs[j]? = some (k, v) → ∃ (b : Addr) (q : Key), ps[j]? = some b ∧ prs[j]? = some (q, v) ∧ IsTup s.heap b #[k, v] ∧ keyIs q k = true
  | _, _, .nil => ⟨[], [], .nil, rfl, rfl, fun j k v e => by simp at e⟩
  | _, _, .cons (a := p) (b := kv) h t => by
    obtain ⟨vs, prs, r, hl, hl2, hp⟩ := pairs_vals I t
    obtain ⟨its, rv, ht, _⟩ := I.tuple h
    obtain ⟨u, y, ei, ru, ry⟩ := vals2 rv
    subst ei
    refine ⟨(u, y) :: vs, (kv.1, y) :: prs, .cons ⟨rfl, ry⟩ r, by rw [List.length_cons, List.length_cons, hl], by rw [List.length_cons, List.length_cons, hl2], fun j k v e => ?_⟩
    cases j with
    | zero =>
      have e' : (u, y) = (k, v) := Option.some.inj e
      cases e'
      exact ⟨p, kv.1, rfl, rfl, ht, kV_is (P := X.prog) (w := X.w) ru⟩
    | succ j =>
      obtain ⟨b, q, e1, e2, e3⟩ := hp j k v (by simpa using e)
      exact ⟨b, q, by simpa using e1, by simpa using e2, e3⟩
theorem call_dictQ (hcalm : X.calm = true) : CallR X (.type "dict") (fun xs H Q => ∃ (a : Addr) (ps : List Addr) (kvs : List (Key × V)), xs = [.ref a] ∧ (SqL X.K H a (ps.map V.ref) ∨ ∃ o, o.dict = none ∧ H a = some (.frz o (.tup (ps.map V.ref)))) ∧ Paired (fun p kv => SqT X.K H p [kV kv.1, kv.2]) ps kvs ∧
    ∀ p, H p = none → Q (.ref p) (upd H p (.dK (mergeK [] kvs)))) := by
  intro pins s σ H xs us Q I r q
  obtain ⟨a, ps, kvs, ex, hq, hp, q⟩ := q
  rcases hq with hq | ⟨o, hd, hq⟩
  · exact call_dictP hcalm pins s σ H xs us Q I r ⟨a, ps, kvs, ex, hq, hp, q⟩
  subst ex
  obtain ⟨u, eu, rx⟩ := vals1 r
  subst eu
  cases rx
  obtain ⟨ho, hz, its, rv, pl⟩ := I.hok _ _ hq
  have ei := refs_at rv
  subst ei
  rw [List.length_map] at hz
  obtain ⟨vs, prs, rel, hl, hl2, hpr⟩ := pairs_vals I hp
  obtain ⟨o', ho', hc, n, hdat⟩ := pl
  rw [ho] at ho'
  cases ho'
  refine PySem.call_dict_pairs (knd := mixKind X.prog X.w) (kvs := prs) (PairArg.tuple a (ps.map Value.ref).toArray (fun j => ps.getD j 0) vs) (I.ok.hd hcalm) ⟨⟨o, n, ho, hc, hd, hdat⟩, by simp [hl], fun j k v e => ?_⟩ ⟨by rw [hl2, hl], fun j k v e => ?_⟩ (by rw [hl]; exact hz) fun h' tk hd' k => ?_
  · obtain ⟨b, qq, e1, e2, ⟨ob, g1, g2, g3, g4⟩, e4⟩ := hpr j k v e
    have eb : ps.getD j 0 = b := by rw [List.getD_eq_getElem?_getD, e1]; rfl
    show (ps.map Value.ref).toArray[j]? = some (.ref (ps.getD j 0)) ∧ PairAt s.heap (ps.getD j 0) k v
    rw [eb]
    exact ⟨by simp [e1], .inl ⟨ob, g1, g2, g3, g4⟩⟩
  · obtain ⟨b, qq, e1, e2, e3, e4⟩ := hpr j k v e
    exact ⟨qq, e2, e4⟩
  · have hm : (s.heap.objs.size == sysModules) = false := beq_eq_false_iff_ne.mpr (Nat.ne_of_gt I.big)
    have hlen : (mergeK [] kvs).length ≤ sizeLine := by
      refine Nat.le_trans (length_mergeK kvs []) ?_
      rw [List.length_nil, Nat.zero_add, rel.length, hl2]
      exact hz
    exact ⟨.ref s.heap.objs.size, upd H s.heap.objs.size (.dK (mergeK [] kvs)), I.laid (t' := tk) (fun b o e => k b o (by simp) e) (Nat.le_refl _) (show ObjOk X.prog X.w _ _ _ (.dK (mergeK [] kvs)) from ⟨hlen, hm, merged [] prs, KV.merge rel .nil, hd'⟩), rfl, q _ (I.hok.fresh (Nat.le_refl _))⟩
/-- a tuple display whose tuple is known to have no dict -/
def tPtup (t : TA) : TE := fun σ H Q => t σ H fun xs H1 => xs.length ≤ sizeLine ∧ ∀ p o, H1 p = none → o.dict = none → Q (.ref p) (upd H1 p (.frz o (.tup xs)))
theorem pe_ptup {es : List Expr} {t : TA} {x1 : Nat} {pos : Pos} (h : PA X es t) : PE X (.Tuple es x1 pos) (tPtup t) := by
  refine ⟨fun pins s σ H Q I hq => ?_⟩
  refine wpAny_Tuple_spliced (thn (h.run pos pins s σ H _ I hq) fun us s1 ⟨xs, H1, I1, r, z, q⟩ => ⟨by rw [← r.length]; exact z, ?_⟩)
  have hf : H1 s1.heap.objs.size = none := I1.hok.fresh (Nat.le_refl _)
  refine ⟨.ref s1.heap.objs.size, _, I1.laid (t' := s1.toks) (o := .frz { cls := .type "tuple", data := .seq us.toArray } (.tup xs)) (fun b u e => Heap.get?_push_of_some _ e) (Nat.le_refl _) ?_, rfl, q _ _ hf rfl⟩
  exact ⟨Heap.get?_push_size _ rfl, z, us, r, ⟨_, Heap.get?_push_size _ rfl, rfl, _, rfl⟩⟩
def rDIn (neg : Bool) : R2 := fun y x H Q => ∃ a o, x = .ref a ∧ DGet H a y o ∧ Q (.bl (if neg = true then !o.isSome else o.isSome)) H
theorem op_din (hu : X.A.units + 1 < cLine) : OpR X (compareOp .In) (rDIn false) := by
  intro pins s σ H y x yv xv Q I ry rx h
  obtain ⟨a, o, rfl, g, q⟩ := h
  obtain rfl : xv = Value.ref a := rx
  exact d_in hu I g ry fun s3 I3 => ⟨.bl o.isSome, H, I3, rfl, q⟩
theorem op_dnotin (hu : X.A.units + 1 < cLine) : OpR X (compareOp .NotIn) (rDIn true) := by
  intro pins s σ H y x yv xv Q I ry rx h
  obtain ⟨a, o, rfl, g, q⟩ := h
  obtain rfl : xv = Value.ref a := rx
  exact d_notIn hu I g ry fun s3 I3 => ⟨.bl (!o.isSome), H, I3, rfl, q⟩
end
end L2
namespace VY
open PySem PySem.Spec PyProof.Rows L2
def keyD : Key → D
  | .inl i => .int i
  | .inr s => .str s
def keyOf : D → Option Key
  | .int i => some (.inl i)
  | .str s => some (.inr s)
  | _ => none
def valD (kvs : List (Key × D)) (k : Key) : Option D := (kvs.find? fun kv => decide (kv.1 = k)).map (·.2)
def itemD (kv : Key × D) : D := .tup [keyD kv.1, kv.2]
theorem key_rep {K : PySem.W.Frag} {F : Hp} {d : D} {k : Key} {v : V} (h : keyOf d = some k) (r : Rep K F d v) : v = kV k := by
  cases d with
  | int i => cases h; exact Rep.int_eq r
  | str s => cases h; cases r; rfl
  | _ => cases h
theorem keyD_of (k : Key) : keyOf (keyD k) = some k := by cases k <;> rfl
theorem val_rep {K : PySem.W.Frag} {F : Hp} {k : Key} : ∀ {kvs : List (Key × D)} {vs : List (Key × V)}, KReps K F kvs vs → (valD kvs k = none ∧ valV vs k = none) ∨ ∃ d v, valD kvs k = some d ∧ valV vs k = some v ∧ Rep K F d v
  | _, _, .nil => .inl ⟨rfl, rfl⟩
  | _, _, .cons (a := p) (b := q) r t => by
    by_cases e : p.1 = k
    · exact .inr ⟨p.2, q.2, by simp [valD, List.find?_cons, e], valV_pos (r.1 ▸ e), r.2⟩
    · have e2 : ¬ q.1 = k := r.1 ▸ e
      rw [valV_neg e2]
      rcases val_rep (k := k) t with ⟨h1, h2⟩ | ⟨d, v, h1, h2, h3⟩
      · exact .inl ⟨by simpa [valD, List.find?_cons, e] using h1, h2⟩
      · exact .inr ⟨d, v, by simpa [valD, List.find?_cons, e] using h1, h2, h3⟩
theorem merge_new {more : List (Key × V)} : ∀ {kvs : List (Key × V)}, (∀ p ∈ more, valV kvs p.1 = none) → (more.map (·.1)).Nodup → mergeK kvs more = kvs ++ more := by
  induction more with
  | nil => intro kvs _ _; simp [mergeK]
  | cons p r ih =>
    intro kvs h nd
    obtain ⟨n1, n2⟩ := List.nodup_cons.mp nd
    show mergeK (putK kvs p.1 p.2) r = _
    rw [putK_new p.2 (h p List.mem_cons_self), ih (fun q hq => ?_) n2, List.append_assoc]
    · rfl
    · rw [valV_snoc q.1 |> fun _ => valV_snoc p.1 q.1 p.2 kvs (h p List.mem_cons_self)]
      rw [if_neg (fun e => n1 (List.mem_map.mpr ⟨q, hq, e⟩))]
      exact h q (List.mem_cons_of_mem _ hq)
theorem items_rep {K : PySem.W.Frag} {F : Hp} : ∀ {kvs : List (Key × D)} {vs : List V}, Reps K F (kvs.map itemD) vs → ∃ (ps : List Addr) (ks : List (Key × V)), vs = ps.map V.ref ∧ (∀ H, Ex F H → Paired (fun p kv => SqT K H p [kV kv.1, kv.2]) ps ks) ∧ KReps K F kvs ks
  | [], _, .nil => ⟨[], [], rfl, fun _ _ => .nil, .nil⟩
  | kv :: kvs, _, .cons r t => by
    obtain ⟨ps, ks, e, h1, h2⟩ := items_rep t
    cases r with
    | @tup a xs _ g r =>
      cases r with
      | cons r1 r2 =>
        cases r2 with
        | cons r2 r3 =>
          cases r3
          rename_i v1 v2
          cases key_rep (keyD_of kv.1) r1
          exact ⟨a :: ps, (kv.1, v2) :: ks, by rw [e]; rfl, fun H f => .cons (.inl (.inl (f _ _ g))) (h1 H f), .cons ⟨rfl, r2⟩ h2⟩
section
variable {X : Cx} {Γ : List Dsc} {P : PD} {a b c e o tg iter elt : Expr} {es ifs : List Expr} {pos p p2 q2 pos' apos cpos : Pos} {x : Str}
theorem ew_ptup {k : Nat} (h : AW X es Γ fun xs Γ1 => ∃ ds, datsOf xs = some ds ∧ ds.length ≤ 1000000 ∧ P (.dat (.pt ds)) Γ1) : EW X (.Tuple es k pos) Γ P := by
  intro A F H σ fm Q q
  refine ⟨_, pe_ptup pa_top, ?_⟩
  show AV X es σ H fun xs H1 => xs.length ≤ sizeLine ∧ ∀ p o, H1 p = none → o.dict = none → Q (.ref p) (upd H1 p (.frz o (.tup xs)))
  refine h.run fm Stp.refl fun xs Γ1 vs F1 H1 hx s1 _ fm1 ok => ?_
  obtain ⟨ds, hd, hl, hp⟩ := hx
  have r := reps_of ok hd
  refine ⟨by rw [← r.len]; exact sz hl, fun p o np hd => ?_⟩
  exact q _ Γ1 _ _ _ hp (s1.trans (Stp.allocF np (fm1.fnone np))) (fm1.allocF np) (.pt upd_same hd (r.ex (Ex.new (fm1.fnone np))))
theorem ew_dict (hc : X.calm = true) (hm : X.mg "dict" = none) (h : EW X e Γ fun x Γ1 => ∃ kvs : List (Key × D), (x = .dat (.pt (kvs.map itemD)) ∨ Lst Γ1 x (kvs.map itemD)) ∧ (kvs.map (·.1)).Nodup ∧ P (.new (.cl (.dct kvs))) Γ1) (hg : Gl X "dict" := by rfl)
    (he : starEach [e] X.env = (false, eval e X.env) :: starEach [] X.env := by rfl) : EW X (.Call (.Name "dict" p) [e] [] pos) Γ P :=
  ew_cty (call_dictQ hc) hm (by decide +kernel) (aw_one (h.mono fun x Γ1 ⟨kvs, hd, nd, hp⟩ A Fs Hs Γs F H σ vs fm st ok Q q => by
    cases ok with
    | @cons _ v0 _ _ o1 ok =>
      cases ok
      have key : ∃ a vs, v0 = V.ref a ∧ (SqL X.K H a vs ∨ ∃ o, o.dict = none ∧ H a = some (.frz o (.tup vs))) ∧ Reps X.K F (kvs.map itemD) vs := by
        rcases hd with rfl | hd
        · cases o1 with
          | pt g z r => exact ⟨_, _, rfl, .inr ⟨_, z, fm.fh _ _ g⟩, r⟩
        · obtain ⟨a, vs, e1, g, r⟩ := VOk.lst o1 fm hd
          exact ⟨a, vs, e1, .inl (.inl (.inl g)), r⟩
      obtain ⟨a, vs, rfl, g, r⟩ := key
      obtain ⟨ps, ks, rfl, h1, h2⟩ := items_rep r
      have ek : kvs.map (·.1) = ks.map (·.1) := by
        clear g h1 r hd hp nd
        induction h2 with
        | nil => rfl
        | cons r t ih => rw [List.map_cons, List.map_cons, r.1, ih]
      refine ⟨a, ps, ks, rfl, g, h1 _ fm.fh, fun p np => ?_⟩
      rw [merge_new (fun p _ => rfl) (ek ▸ nd), List.nil_append]
      refine q _ _ _ F _ hp (st.trans (Stp.alloc np)) (fm.alloc np) ⟨p, rfl, ⟨⟨ks, upd_same, h2⟩, fm.fnone np⟩, fun b m => ?_⟩
      rcases List.mem_cons.mp m with rfl | m
      · exact ⟨fm.h0 np, fm.notOwn np, st.g _ np⟩
      · cases m) he) hg (by decide) (by decide) he (by rfl)
theorem kw_din {neg : Bool} {x y : Dv} (h : ∃ d k kvs, x = .dat d ∧ keyOf d = some k ∧ Con1 Γ y (.dct kvs) ∧ P (.dat (.bl (if neg = true then !(valD kvs k).isSome else (valD kvs k).isSome))) Γ) : Kw X Γ [x, y] (r2 (rDIn neg)) P := by
  intro A Fs Hs Γs F H σ vs fm st ok Q q
  obtain ⟨d, k, kvs, rfl, hk, hy, hp⟩ := h
  cases ok with
  | cons o1 ok =>
    cases ok with
    | cons o2 ok =>
      cases ok
      obtain ⟨a, rfl, ⟨ks, g, r⟩, z⟩ := o2.con fm hy
      cases key_rep hk o1
      have e : (valV ks k).isSome = (valD kvs k).isSome := by
        rcases val_rep (k := k) r with ⟨h1, h2⟩ | ⟨d, v, h1, h2, _⟩ <;> rw [h1, h2] <;> rfl
      refine ⟨_, _, rfl, a, valV ks k, rfl, DGet.k g, ?_⟩
      rw [e]
      exact q _ _ _ F H hp st fm (.bl _)
theorem ew_din {k : Nat} (hr : Room k X.A) (h : EW X a Γ fun x Γ1 => EW X b Γ1 fun y Γ2 => ∃ d k kvs, x = .dat d ∧ keyOf d = some k ∧ Con1 Γ2 y (.dct kvs) ∧ P (.dat (.bl (valD kvs k).isSome)) Γ2) (hm : behindInMarks .In b = false := by rfl) : EW X (.Compare a [.In] [b] pos) Γ P :=
  ew_cmp (op_din (by have := hr.un; omega)) (h.mono fun x Γ1 h1 => h1.mono fun y Γ2 h2 => kw_din (neg := false) h2) hm
theorem ew_dnotin {k : Nat} (hr : Room k X.A) (h : EW X a Γ fun x Γ1 => EW X b Γ1 fun y Γ2 => ∃ d k kvs, x = .dat d ∧ keyOf d = some k ∧ Con1 Γ2 y (.dct kvs) ∧ P (.dat (.bl (!(valD kvs k).isSome))) Γ2) (hm : behindInMarks .NotIn b = false := by rfl) : EW X (.Compare a [.NotIn] [b] pos) Γ P :=
  ew_cmp (op_dnotin (by have := hr.un; omega)) (h.mono fun x Γ1 h1 => h1.mono fun y Γ2 h2 => kw_din (neg := true) h2) hm
theorem tw_din {k : Nat} {P : Bool → List Dsc → Prop} (hr : Room k X.A) (h : EW X a Γ fun x Γ1 => EW X b Γ1 fun y Γ2 => ∃ d k kvs, x = .dat d ∧ keyOf d = some k ∧ Con1 Γ2 y (.dct kvs) ∧ P (valD kvs k).isSome Γ2) (hm : behindInMarks .In b = false := by rfl) : TW X (.Compare a [.In] [b] pos) Γ P :=
  tw_cmp (op_din (by have := hr.un; omega)) (h.mono fun x Γ1 h1 => h1.mono fun y Γ2 ⟨d, k, kvs, a1, a2, a3, hp⟩ => kw_din (neg := false) ⟨d, k, kvs, a1, a2, a3, _, rfl, hp⟩) hm
theorem tw_dnotin {k : Nat} {P : Bool → List Dsc → Prop} (hr : Room k X.A) (h : EW X a Γ fun x Γ1 => EW X b Γ1 fun y Γ2 => ∃ d k kvs, x = .dat d ∧ keyOf d = some k ∧ Con1 Γ2 y (.dct kvs) ∧ P (!(valD kvs k).isSome) Γ2) (hm : behindInMarks .NotIn b = false := by rfl) : TW X (.Compare a [.NotIn] [b] pos) Γ P :=
  tw_cmp (op_dnotin (by have := hr.un; omega)) (h.mono fun x Γ1 h1 => h1.mono fun y Γ2 ⟨d, k, kvs, a1, a2, a3, hp⟩ => kw_din (neg := true) ⟨d, k, kvs, a1, a2, a3, _, rfl, hp⟩) hm
theorem ew_dget {k : Nat} (hr : Room k X.A) (h : EW X a Γ fun x Γ1 => EW X b Γ1 fun y Γ2 => ∃ d k kvs z, y = .dat d ∧ keyOf d = some k ∧ Con1 Γ2 x (.dct kvs) ∧ valD kvs k = some z ∧ P (.dat z) Γ2) (hs : NoSl b) : EW X (.Subscript a b pos) Γ P := by
  intro A F H σ fm Q q
  refine ⟨_, pe_dget (by have := hr.un; omega) pe_top pe_top hs, ?_⟩
  show EV X a σ H fun x H1 => EV X b σ H1 fun y H2 => ∃ a v, x = .ref a ∧ DGet H2 a y (some v) ∧ Q v H2
  refine h.run fm Stp.refl fun x Γ1 vx F1 H1 hx s1 _ fm1 ox => ?_
  refine hx.run fm1 s1 fun y Γ2 vy F2 H2 hk s2 s12 fm2 oy => ?_
  obtain ⟨d, k, kvs, z, rfl, hk, hc, hv, hp⟩ := hk
  obtain ⟨a, rfl, ⟨ks, g, r⟩, _⟩ := (ox.stp s12).con fm2 hc
  cases key_rep hk oy
  rcases val_rep (k := k) r with ⟨h1, h2⟩ | ⟨d', v, h1, h2, rr⟩
  · rw [hv] at h1; cases h1
  · rw [hv] at h1; cases h1
    exact ⟨a, v, rfl, h2 ▸ DGet.k g, q _ Γ2 _ F2 H2 hp s2 fm2 rr⟩
/-- sorted(e, reverse=True) -/
theorem ew_sortedNR {kp : Pos} {kk : Nat} {bb : Bool} {kpos : Pos} (hm : X.mg "sorted" = none) (h : EW X e Γ fun x Γ1 => ∃ qs qs' : List (List Int), Sq Γ1 x (qs.map rowD) ∧ (∀ q ∈ qs, q ≠ []) ∧ qs'.Perm qs ∧ qs'.Pairwise lexLe ∧ P (.new (.l (if bb = true then qs'.reverse.map rowD else qs'.map rowD))) Γ1) (hg : Gl X "sorted" := by rfl)
    (he : starEach [e] X.env = (false, eval e X.env) :: starEach [] X.env := by rfl) : EW X (.Call (.Name "sorted" p) [e] [⟨some "reverse", .Constant (.bool bb) kk kp, kpos⟩] pos) Γ P := by
  intro A F H σ fm Q q
  refine ⟨_, pe_callBK (ks := [Str.ofString "reverse"]) (cr_sortedNR (b := bb)) hg hm (by decide +kernel) (pa_cons pe_top pa_nil he) (pk_cons pe_bl pk_nil) (by decide) (by decide) (by rw [he]; rfl) (by rw [he]; rfl), ?_⟩
  show EV X e σ H fun x H1 => [V.bl bb] = [.bl bb] ∧ rSortN X.K bb [x] H1 Q
  refine h.run fm Stp.refl fun x Γ1 v F1 H1 hx s1 _ fm1 ok => ?_
  obtain ⟨qs, qs', hd, hne, hpe, hpw, hp⟩ := hx
  exact ⟨rfl, kw_sortN (F0 := F) (Γs := Γ) fm1 ok hd hne hpe hpw fun p vs np rr => q _ _ _ _ _ hp (s1.trans (Stp.alloc np)) (fm1.alloc np) (newOk fm1 s1 np (by cases bb <;> exact rr))⟩
end
end VY

/-! RI: a small language of its own, what it computes over the calculus' data. -/
namespace RI
open PySem PySem.Spec PyProof.Rows L2 VY

inductive Bop where
  | add | sub | mul | mod | fdiv | pow
inductive Cop where
  | lt | le | gt | ge | eq | ne | isN | notN | in_ | notin
inductive B1 where
  | len | int | abs | sum | all | any | list | tuple | sorted | sortedR | dict
mutual
inductive Ex where
  | slot (i : Nat) | cst (d : D) | glob (x : Str) (d : D)
  | tup (es : List Ex) | lst (es : List Ex) | star (e : Ex) | no
  | bin (op : Bop) (a b : Ex) | neg (a : Ex) | not (a : Ex) | and (a b : Ex) | or (a b : Ex) | orl (a b : Ex)
  | cmp (op : Cop) (a b : Ex) | chn (a b c : Ex) | ite (c a b : Ex)
  | idx (a b : Ex) | slc (a lo hi : Ex) | rev (a : Ex)
  | call (f : Nat) (es : List Ex) | b1 (b : B1) (e : Ex) | lrg (e : Ex) | min2 (a b : Ex) | isin (e : Ex) (ts : List String)
  | app (o e : Ex) | pop (o e : Ex) | ext (o e : Ex) | ins (o e f : Ex) | dnew
  | lc (own : List (Str × Nat)) (sh : Shp) (it : It) (c : Ex) (e : Ex)
  | bad | ptup (es : List Ex) | sortR (e : Ex)
inductive It where
  | of (e : Ex) | range1 (e : Ex) | range2 (a b : Ex) | enum (e : Ex) | zip (a b : Ex)
end
inductive Tg where
  | nm (i : Nat) | tup (ts : List Tg) | sub (a b : Ex)
inductive St where
  | frz (i : Nat) | set (t : Tg) (e : Ex) | par (is : List Nat) (es : List Ex) | aug (i : Nat) (e : Ex)
  | ex (e : Ex) | ret (e : Ex) | ite (c : Ex) (s1 s2 : List St) | for_ (t : Tg) (it : It) (b : List St) | bad
structure FD where
  name : Str
  ps : List Str
  N : List Str
  body : List St

/-! ### operations -/
def lstI (γ : List Dsc) : Dv → Option (List D)
  | .dat (.lst ds) => some ds
  | .new (.cl (.lst ds)) => some ds
  | .loc i => match locT γ i with
    | some (.cl (.lst ds)) => some ds
    | _ => none
  | _ => none
def sqI (γ : List Dsc) : Dv → Option (List D)
  | .dat (.tup ds) => some ds
  | .dat (.scr ds) => some ds
  | .dat (.pt ds) => some ds
  | x => lstI γ x
/-- a thing that may be walked: frozen -/
def itsI : Dv → Option (List D)
  | .dat (.tup ds) => some ds
  | .dat (.pt ds) => some ds
  | .dat (.scr ds) => some ds
  | .dat (.lst ds) => some ds
  | .new (.cl (.lst ds)) => some ds
  | _ => none
def tpI : Dv → Option (List D)
  | .dat (.tup ds) => some ds
  | .dat (.pt ds) => some ds
  | _ => none
def intI : Dv → Option Int
  | .dat (.int i) => some i
  | _ => none
def blI : Dv → Option Bool
  | .dat (.bl b) => some b
  | _ => none
def intsI : List D → Option (List Int)
  | [] => some []
  | .int i :: r => (intsI r).map (i :: ·)
  | _ => none
def blsI : List D → Option (List Bool)
  | [] => some []
  | .bl i :: r => (blsI r).map (i :: ·)
  | _ => none
def pairsI : List D → Option (List (Int × Int))
  | [] => some []
  | .tup [.int i, .int j] :: r => (pairsI r).map ((i, j) :: ·)
  | _ => none
def gd {α : Type} (c : Bool) (x : Option α) : Option α := if c = true then x else none
def binI (γ : List Dsc) : Bop → Dv → Dv → Option Dv
  | .add, .dat (.int i), .dat (.int j) => some (.dat (.int (i + j)))
  | .add, .dat (.tup xs), .dat (.tup ys) => gd (decide (xs.length + ys.length ≤ 1000000)) (some (.dat (.tup (xs ++ ys))))
  | .add, x, y => (lstI γ x).bind fun xs => (lstI γ y).bind fun ys => gd (decide (xs.length + ys.length ≤ 1000000)) (some (.new (.l (xs ++ ys))))
  | .sub, x, y => (intI x).bind fun i => (intI y).bind fun j => some (.dat (.int (i - j)))
  | .mul, .dat (.int i), .dat (.int j) => gd ((decide (-(18446744073709551616) < i) && decide (i < 18446744073709551616)) || (decide (-(18446744073709551616) < j) && decide (j < 18446744073709551616))) (some (.dat (.int (i * j))))
  | .mul, .dat (.tup xs), .dat (.int k) => gd (!xs.isEmpty && decide (2 ≤ k) && decide (k ≤ 1000) && decide (xs.length ≤ 1000)) (some (.dat (.tup (List.replicate k.toNat xs).flatten)))
  | .mul, x, .dat (.int k) => (lstI γ x).bind fun xs => gd (decide (k ≤ 1000) && decide (-1000 ≤ k) && decide (xs.length ≤ 1000)) (some (.new (.l (List.replicate k.toNat xs).flatten)))
  | .mod, x, y => (intI x).bind fun i => (intI y).bind fun j => gd (decide (0 < j)) (some (.dat (.int (i % j))))
  | .fdiv, x, y => (intI x).bind fun i => (intI y).bind fun j => gd (decide (0 < j) && decide (j < 1073741824)) (some (.dat (.int (i / j))))
  | .pow, x, y => (intI x).bind fun i => (intI y).bind fun j => gd (decide (0 ≤ j) && decide (j ≤ 1000000) && decide (i.natAbs < 18446744073709551616)) (some (.dat (.int (i ^ j.toNat))))
  | _, _, _ => none
def pyI (γ : List Dsc) : Dv → Option PyData
  | .dat d => some (py d)
  | x => (lstI γ x).map fun ds => .list (pys ds)
def scD : Dv → Option V
  | .dat d => scV d
  | _ => none
def eqI (γ : List Dsc) (x y : Dv) : Option Bool := match scD x, scD y with
  | some u, some v => gd (scal u v) (some (decide (u = v)))
  | _, _ => (pyI γ x).bind fun d => (pyI γ y).bind fun e => gd (SeqAt.shaped d && SeqAt.shaped e) (some (PyData.eqv d e))
def nonI : Dv → Option Bool
  | .dat .non => some true
  | .dat _ => some false
  | _ => none
/-- a dict -/
def dctI (γ : List Dsc) : Dv → Option (List (Key × D))
  | .new (.cl (.dct kvs)) => some kvs
  | .loc i => match locT γ i with
    | some (.cl (.dct kvs)) => some kvs
    | _ => none
  | _ => none
def datK : Dv → Option Key
  | .dat d => keyOf d
  | _ => none
/-- x in items: flat ones -/
def inF (γ : List Dsc) (x y : Dv) : Option Bool := (scD x).bind fun u => (sqI γ y).bind fun ds => (scVs ds).bind fun us => some (inV u us)
def itemsPy : PyData → Option (List PyData)
  | .list ds => some ds
  | .tuple ds => some ds
  | _ => none
def inP (γ : List Dsc) (x y : Dv) : Option Bool := (pyI γ x).bind fun d => (pyI γ y).bind fun c => (itemsPy c).bind fun ds => gd (SeqAt.shaped d && SeqAt.shaped c) (some (ds.any fun z => PyData.eqv z d))
def inI (γ : List Dsc) (x y : Dv) : Option Bool := match dctI γ y with
  | some kvs => (datK x).map fun k => (valD kvs k).isSome
  | none => match inF γ x y with
    | some b => some b
    | none => inP γ x y
def cmpI (γ : List Dsc) : Cop → Dv → Dv → Option Bool
  | .lt, x, y => (intI x).bind fun i => (intI y).bind fun j => some (decide (i < j))
  | .le, x, y => (intI x).bind fun i => (intI y).bind fun j => some (decide (i ≤ j))
  | .gt, x, y => (intI x).bind fun i => (intI y).bind fun j => some (decide (j < i))
  | .ge, x, y => (intI x).bind fun i => (intI y).bind fun j => some (decide (j ≤ i))
  | .eq, x, y => eqI γ x y
  | .ne, x, y => (eqI γ x y).map (!·)
  | .isN, x, .dat .non => nonI x
  | .notN, x, .dat .non => (nonI x).map (!·)
  | .in_, x, y => inI γ x y
  | .notin, x, y => (inI γ x y).map (!·)
  | _, _, _ => none
def idxI (γ : List Dsc) (x y : Dv) : Option Dv := match dctI γ x with
  | some kvs => (datK y).bind fun k => (valD kvs k).map .dat
  | none => (sqI γ x).bind fun ds => (intI y).bind fun i => (atI ds i).map .dat
def ixO : Option Dv → Option (Option Int)
  | none => some none
  | some x => (intI x).map some
def slcI (γ : List Dsc) (x : Dv) (lo hi : Option Int) : Option Dv := match x with
  | .dat (.tup ds) => some (.dat (.tup (cutD ds lo hi)))
  | .dat (.scr ds) => some (.new (.l (cutD ds lo hi)))
  | x => (lstI γ x).map fun ds => .new (.l (cutD ds lo hi))
def revI (γ : List Dsc) (x : Dv) : Option Dv := match x with
  | .dat (.tup ds) => some (.dat (.tup ds.reverse))
  | .dat (.scr ds) => some (.new (.l ds.reverse))
  | x => (lstI γ x).map fun ds => .new (.l ds.reverse)
def insI (n : Int) : List Int → List Int
  | [] => [n]
  | m :: r => if n ≤ m then n :: m :: r else m :: insI n r
def sortI (ns : List Int) : List Int := ns.foldr insI []
def ltB (a b : Int × Int) : Bool := decide (a.1 < b.1) || (decide (a.1 = b.1) && decide (a.2 < b.2))
def insP (n : Int × Int) : List (Int × Int) → List (Int × Int)
  | [] => [n]
  | m :: r => if ltB m n = true then m :: insP n r else n :: m :: r
def sortP (ns : List (Int × Int)) : List (Int × Int) := ns.foldr insP []
/-- strictly rising -/
def risP : List (Int × Int) → Bool
  | [] => true
  | [_] => true
  | a :: b :: r => ltB a b && risP (b :: r)
def rowsI : List D → Option (List (List Int))
  | [] => some []
  | .tup ts :: r => (intsI ts).bind fun ns => gd (!ns.isEmpty) ((rowsI r).map (ns :: ·))
  | _ => none
def insL (n : List Int) : List (List Int) → List (List Int)
  | [] => [n]
  | m :: r => if SrtN.lexN m n = true then m :: insL n r else n :: m :: r
def sortL (ns : List (List Int)) : List (List Int) := ns.foldr insL []
def kvsI : List D → Option (List (Key × D))
  | [] => some []
  | .tup [a, b] :: r => (keyOf a).bind fun k => (kvsI r).map ((k, b) :: ·)
  | _ => none
def dictI (γ : List Dsc) (x : Dv) : Option Dv := (match x with
  | .dat (.pt ds) => some ds
  | x => lstI γ x).bind fun ds => (kvsI ds).bind fun kvs => gd (decide (kvs.map Prod.fst).Nodup) (some (.new (.cl (.dct kvs))))
def intBI : Dv → Option Dv
  | .dat (.int i) => some (.dat (.int i))
  | .dat (.bl k) => some (.dat (.int (if k then 1 else 0)))
  | _ => none
def sumI (γ : List Dsc) : Dv → Option Dv
  | .dat (.tup ds) => (intsI ds).map fun ns => .dat (.int ns.sum)
  | x => (lstI γ x).bind fun ds => (intsI ds).map fun ns => .dat (.int ns.sum)
def sortdI (ds : List D) : Option Dv := match intsI ds with
  | some ns => some (.new (.l ((sortI ns).map .int)))
  | none => (rowsI ds).map fun qs => .new (.l ((sortL qs).map rowD))
def sortRI (ds : List D) : Option Dv := (rowsI ds).map fun qs => .new (.l ((sortL qs).reverse.map rowD))
def b1I (γ : List Dsc) (b : B1) (x : Dv) : Option Dv := match b with
  | .len => (sqI γ x).map fun ds => .dat (.int ds.length)
  | .int => intBI x
  | .abs => (intI x).map fun i => .dat (.int (if i < 0 then -i else i))
  | .sum => sumI γ x
  | .all => (lstI γ x).bind fun ds => (blsI ds).map fun ns => .dat (.bl (ns.all id))
  | .any => (lstI γ x).bind fun ds => (blsI ds).map fun ns => .dat (.bl (ns.any id))
  | .list => (sqI γ x).map fun ds => .new (.l ds)
  | .tuple => gd (!ptB x) ((sqI γ x).map fun ds => .dat (.tup ds))
  | .sorted => (lstI γ x).bind sortdI
  | .dict => dictI γ x
  | _ => none
def isinI (k : String) : List String → Option Bool
  | [t] => kitB k t
  | [s, t] => (kitB k s).bind fun a => (kitB k t).map fun b => a || b
  | _ => none
/-- a new list among arguments is frozen -/
def frzV : Dv → Dv
  | .new (.cl (.lst ds)) => .dat (.lst ds)
  | x => x
def setsI (γ : List Dsc) (x : Dv) (ds : List D) : Option (List Dsc) := gd (plc x) (some (setC γ x (.lst ds)))

def rtB : Dv → Bool
  | .dat _ => true
  | .new _ => true
  | _ => false
abbrev Rv := Option (Dv × List Dsc)
/-- the turns of a comprehension -/
def lcI (vs js : List Nat) (pt : D → Option (List D)) (fc : List Dsc → Option (Bool × List Dsc)) (fe : List Dsc → Rv) : List D → List D → List Dsc → Option (List D × List Dsc)
  | [], acc, γ => some (acc, γ)
  | d :: ds, acc, γ => gd (vs.all (canSet γ)) ((pt d).bind fun es => (fc (setsG (wipeG γ vs) js es)).bind fun r => if r.1 = true then (fe r.2).bind fun s => (datOf s.1).bind fun d' => lcI vs js pt fc fe ds (acc ++ [d']) (mergeG vs γ s.2)
    else lcI vs js pt fc fe ds acc (mergeG vs γ r.2))
def noB : Ex → Bool
  | .no => true
  | _ => false
/-- a test of a comprehension, or none -/
def evcW (no : Bool) (r : Rv) (γ : List Dsc) : Option (Bool × List Dsc) := if no = true then some (true, γ) else r.bind fun r => (blI r.1).map fun k => (k, r.2)
/-- a slice's part -/
def evoW (no : Bool) (r : Rv) (γ : List Dsc) : Option (Option Int × List Dsc) := if no = true then some (none, γ) else r.bind fun r => (intI r.1).map fun k => (some k, r.2)
section
variable (cal : Nat → List Ag → Option (Dv × List T))
mutual
def ev : Ex → List Dsc → Rv
  | .slot i, γ => match γ[i]? with
    | some .un => none
    | some d => some (dvOf i d, γ)
    | none => none
  | .cst d, γ => some (.dat d, γ)
  | .glob _ d, γ => some (.dat d, γ)
  | .tup es, γ => (evs es γ).bind fun r => (datsOf r.1).bind fun ds => gd (decide (ds.length ≤ 1000000)) (some (.dat (.tup ds), r.2))
  | .lst es, γ => (evs es γ).bind fun r => (datsOf r.1).bind fun ds => gd (decide (ds.length ≤ 1000000)) (some (.new (.l ds), r.2))
  | .star _, _ => none
  | .no, _ => none
  | .bin op a b, γ => (ev a γ).bind fun r => (ev b r.2).bind fun s => (binI s.2 op r.1 s.1).map fun d => (d, s.2)
  | .neg a, γ => (ev a γ).bind fun r => (intI r.1).map fun i => (.dat (.int (-i)), r.2)
  | .not a, γ => (ev a γ).bind fun r => (blI r.1).map fun k => (.dat (.bl (!k)), r.2)
  | .and a b, γ => (ev a γ).bind fun r => (blI r.1).bind fun k => if k = true then ev b r.2 else some (.dat (.bl false), r.2)
  | .or a b, γ => (ev a γ).bind fun r => (blI r.1).bind fun k => if k = true then some (.dat (.bl true), r.2) else ev b r.2
  | .orl a b, γ => (ev a γ).bind fun r => (lstI r.2 r.1).bind fun ds => if ds.isEmpty = true then ev b r.2 else some r
  | .cmp op a b, γ => (ev a γ).bind fun r => (ev b r.2).bind fun s => (cmpI s.2 op r.1 s.1).map fun k => (.dat (.bl k), s.2)
  | .chn a b c, γ => (ev a γ).bind fun r => (ev b r.2).bind fun s => (intI r.1).bind fun i => (intI s.1).bind fun j => if i ≤ j then (ev c s.2).bind fun t => (intI t.1).map fun l => (.dat (.bl (decide (j < l))), t.2) else some (.dat (.bl false), s.2)
  | .ite c a b, γ => (ev c γ).bind fun r => (blI r.1).bind fun k => if k = true then ev a r.2 else ev b r.2
  | .idx a b, γ => (ev a γ).bind fun r => (ev b r.2).bind fun s => (idxI s.2 r.1 s.1).map fun d => (d, s.2)
  | .slc a lo hi, γ => (ev a γ).bind fun r => (evoW (noB lo) (ev lo r.2) r.2).bind fun s => (evoW (noB hi) (ev hi s.2) s.2).bind fun t => (slcI t.2 r.1 s.1 t.1).map fun d => (d, t.2)
  | .rev a, γ => (ev a γ).bind fun r => (revI r.2 r.1).map fun d => (d, r.2)
  | .call f es, γ => (evs es γ).bind fun r => (agsOf r.2 r.1).bind fun as => gd (decide (plOf r.1).Nodup) ((cal f as).bind fun o => gd (rtB o.1) (some (o.1, putP r.2 (plOf r.1) o.2)))
  | .b1 b e, γ => (ev e γ).bind fun r => (b1I r.2 b r.1).map fun d => (d, r.2)
  | .lrg e, γ => (ev e γ).bind fun r => (intI r.1).bind fun n => gd (decide (0 ≤ n) && decide (n ≤ 1000000)) (some (.new (.l (rangeD 0 n.toNat)), r.2))
  | .min2 a b, γ => (ev a γ).bind fun r => (ev b r.2).bind fun s => (intI r.1).bind fun i => (intI s.1).map fun j => (.dat (.int (if j < i then j else i)), s.2)
  | .isin e ts, γ => (ev e γ).bind fun r => (kindOf r.2 r.1).bind fun k => (isinI k ts).map fun b => (.dat (.bl b), r.2)
  | .app o e, γ => (ev o γ).bind fun r => (lstI r.2 r.1).bind fun _ => (ev e r.2).bind fun s => (datOf s.1).bind fun d => (lstI s.2 r.1).bind fun ds => gd (decide (ds.length < 1000000)) ((setsI s.2 r.1 (ds ++ [d])).map fun γ' => (.dat .non, γ'))
  | .ext o e, γ => (ev o γ).bind fun r => (lstI r.2 r.1).bind fun _ => (ev e r.2).bind fun s => (lstI s.2 s.1).bind fun es => (lstI s.2 r.1).bind fun ds => gd (decide (ds.length + es.length < 1000000)) ((setsI s.2 r.1 (ds ++ es)).map fun γ' => (.dat .non, γ'))
  | .pop o e, γ => (ev o γ).bind fun r => (lstI r.2 r.1).bind fun _ => (ev e r.2).bind fun s => (intI s.1).bind fun k => (lstI s.2 r.1).bind fun ds => gd (decide (-(9223372036854775808) ≤ k) && decide (k < 9223372036854775808)) ((seqIndex? k ds.length).bind fun j => (ds[j]?).bind fun d => (setsI s.2 r.1 (ds.eraseIdx j)).map fun γ' => (.dat d, γ'))
  | .ins o e f, γ => (ev o γ).bind fun r => (lstI r.2 r.1).bind fun _ => (ev e r.2).bind fun s => (intI s.1).bind fun k => (ev f s.2).bind fun t => (datOf t.1).bind fun d => (lstI t.2 r.1).bind fun ds => gd (decide (0 ≤ k) && decide (k < 9223372036854775808) && decide (ds.length < 1000000)) ((setsI t.2 r.1 (ds.take k.toNat ++ [d] ++ ds.drop k.toNat)).map fun γ' => (.dat .non, γ'))
  | .dnew, γ => some (.new (.cl (.dct [])), γ)
  | .bad, _ => none
  | .ptup es, γ => (evs es γ).bind fun r => (datsOf r.1).bind fun ds => gd (decide (ds.length ≤ 1000000)) (some (.dat (.pt ds), r.2))
  | .sortR e, γ => (ev e γ).bind fun r => ((sqI r.2 r.1).bind sortRI).map fun d => (d, r.2)
  | .lc own sh it c e, γ => (evi it γ).bind fun r => gd (decide (r.1.length < 1000000)) ((lcI (own.map (·.2)) sh.js sh.parts (fun γ => evcW (noB c) (ev c γ) γ) (ev e) r.1 [] r.2).map fun s => (.new (.l s.1), s.2))
termination_by structural e => e
/-- arguments, items of a display -/
def evs : List Ex → List Dsc → Option (List Dv × List Dsc)
  | [], γ => some ([], γ)
  | .star e :: es, γ => (ev e γ).bind fun r => gd (!plc r.1) ((sqI r.2 r.1).bind fun ds => (evs es r.2).map fun s => (ds.map .dat ++ s.1, s.2))
  | e :: es, γ => (ev e γ).bind fun r => (evs es r.2).map fun s => (frzV r.1 :: s.1, s.2)
termination_by structural es => es
def evi : It → List Dsc → Option (List D × List Dsc)
  | .of e, γ => (ev e γ).bind fun r => (itsI r.1).map fun ds => (ds, r.2)
  | .range1 e, γ => (ev e γ).bind fun r => (intI r.1).bind fun n => gd (decide (-1000000 ≤ n) && decide (n ≤ 1000000)) (some (rangeD 0 n.toNat, r.2))
  | .range2 a b, γ => (ev a γ).bind fun r => (ev b r.2).bind fun s => (intI r.1).bind fun i => (intI s.1).bind fun j => gd (decide (-1000000 ≤ i) && decide (i ≤ 1000000) && decide (-1000000 ≤ j) && decide (j ≤ 1000000)) (some (rangeD i (j - i).toNat, s.2))
  | .enum e, γ => (ev e γ).bind fun r => (itsI r.1).map fun ds => (enumD ds, r.2)
  | .zip a b, γ => (ev a γ).bind fun r => (ev b r.2).bind fun s => match tpI r.1, tpI s.1 with
    | some xs, some ys => some (zipD xs ys, s.2)
    | _, _ => match r.1, s.1 with
    | .dat (.lst xs), .dat (.lst ys) => some (zipD xs ys, s.2)
    | .dat (.lst xs), .dat (.tup ys) => some (zipD xs ys, s.2)
    | _, _ => none
termination_by structural it => it
end
mutual
def tgI : Tg → Dv → List Dsc → Option (List Dsc)
  | .nm i, x, γ => (dscOf x).bind fun s => gd (canSet γ i) (some (γ.set i s))
  | .tup ts, .dat (.tup ds), γ => tgsI ts ds γ
  | .sub a b, x, γ => (datOf x).bind fun t => (ev cal a γ).bind fun r => gd (plc r.1) ((ev cal b r.2).bind fun s => (intI s.1).bind fun k => (lstI s.2 r.1).bind fun ds => (ixN ds.length k).bind fun j => setsI s.2 r.1 (ds.set j t))
  | _, _, _ => none
termination_by structural t => t
def tgsI : List Tg → List D → List Dsc → Option (List Dsc)
  | [], [], γ => some γ
  | t :: ts, d :: ds, γ => (tgI t (.dat d) γ).bind fun γ' => tgsI ts ds γ'
  | _, _, _ => none
termination_by structural ts => ts
end
inductive Fl where
  | nx (γ : List Dsc) | rt (d : Dv) (γ : List Dsc)
/-- the turns of a for -/
def forI (step : D → List Dsc → Option Fl) : List D → List Dsc → Option Fl
  | [], γ => some (.nx γ)
  | d :: ds, γ => (step d γ).bind fun
    | .nx γ' => forI step ds γ'
    | .rt x γ' => some (.rt x γ')
def frzI (i : Nat) (γ : List Dsc) : List Dsc := match γ[i]? with
  | some (.own (.cl (.lst ds))) => γ.set i (.dat (.lst ds))
  | _ => γ
/-- values in order, nothing frozen -/
def evn : List Ex → List Dsc → Option (List Dv × List Dsc)
  | [], γ => some ([], γ)
  | e :: es, γ => (ev cal e γ).bind fun r => (evn es r.2).map fun s => (r.1 :: s.1, s.2)
mutual
def exS : St → List Dsc → Option Fl
  | .frz i, γ => some (.nx (frzI i γ))
  | .set t e, γ => (ev cal e γ).bind fun r => (tgI cal t r.1 r.2).map .nx
  | .par is es, γ => (evn cal es γ).bind fun r => (putS r.2 is r.1).map .nx
  | .aug i e, γ => match γ[i]? with
    | some (.dat (.int n)) => (ev cal e γ).bind fun r => (intI r.1).bind fun m => gd (canSet r.2 i) (some (.nx (r.2.set i (.dat (.int (n + m))))))
    | _ => none
  | .ex e, γ => (ev cal e γ).map fun r => .nx r.2
  | .ret e, γ => (ev cal e γ).map fun r => .rt r.1 r.2
  | .ite c s1 s2, γ => (ev cal c γ).bind fun r => (blI r.1).bind fun k => if k = true then exB s1 r.2 else exB s2 r.2
  | .for_ t it b, γ => (evi cal it γ).bind fun r => forI (fun d γ => (tgI cal t (.dat d) γ).bind fun γ' => exB b γ') r.1 r.2
  | .bad, _ => none
termination_by structural s => s
def exB : List St → List Dsc → Option Fl
  | [], γ => some (.nx γ)
  | s :: ss, γ => (exS s γ).bind fun
    | .nx γ' => exB ss γ'
    | .rt x γ' => some (.rt x γ')
termination_by structural ss => ss
end
end
/-- a def at a depth -/
def callI (tb : List FD) : Nat → Nat → List Ag → Option (Dv × List VY.T)
  | 0, _, _ => none
  | n + 1, f, as => (tb[f]?).bind fun fd => gd (decide (as.length = fd.ps.length)) ((exB (callI tb n) fd.body (G0 fd.N as)).bind fun
    | .nx γ => some (.dat .non, outsG γ as)
    | .rt d γ => (retOf γ d).map fun r => (r, outsG γ as))
end RI

/-! RI: when a program's row says what a row of the small language says. -/
namespace RI
open PySem PySem.Spec PyProof.Rows L2 VY

structure Tb where
  fn : List FD
  ct : List (Str × V)
structure SC where
  N : List Str
  sc : Scope
  root : Bool
  bn : List (Str × NameKind)
def SC.fn (S : SC) (x : Str) : Bool := if S.root = true then true else S.bn.lookup x == some .cell
def SC.blk (S : SC) (scope : Scope) : SC := ⟨S.N, relS scope S.sc, false, scope.names⟩
def visB (sc : Scope) (x : Str) : Bool := match sc.names.lookup x with
  | some .local => true
  | some .cell => true
  | some .free => true
  | _ => false
def locB (sc : Scope) (x : Str) : Bool := match sc.names.lookup x with
  | some .local => true
  | some .cell => true
  | _ => false
def lclB (sc : Scope) (x : Str) : Bool := match sc.names.lookup x with
  | some .local => true
  | _ => false
def glB (sc : Scope) (x : Str) : Bool := match sc.names.lookup x with
  | some .globalImplicit => true
  | _ => false
def dbgB (x : Str) : Bool := !(x == ("__debug__" : Str)) && !(x == ("__classdict__" : Str)) && decide (x ≠ "__name__")
def stB : Expr → Bool
  | .Starred _ _ => true
  | _ => false
def slB : Expr → Bool
  | .Slice _ _ _ _ => true
  | _ => false
def setB : Expr → Bool
  | .Set _ _ _ => true
  | _ => false
def cmpB : Expr → Bool
  | .ListComp _ _ _ _ => true
  | .SetComp _ _ _ _ => true
  | .DictComp _ _ _ _ _ => true
  | _ => false
/-- attributeBase does nothing -/
def atB : Expr → Bool
  | .Call (.Name _ _) [] [] _ => false
  | _ => true
def opB : Bop → Operator → Bool
  | .add, .Add => true
  | .sub, .Sub => true
  | .mul, .Mult => true
  | .mod, .Mod => true
  | .fdiv, .FloorDiv => true
  | .pow, .Pow => true
  | _, _ => false
def copB : Cop → CmpOp → Bool
  | .lt, .Lt => true
  | .le, .LtE => true
  | .gt, .Gt => true
  | .ge, .GtE => true
  | .eq, .Eq => true
  | .ne, .NotEq => true
  | .isN, .Is => true
  | .notN, .IsNot => true
  | .in_, .In => true
  | .notin, .NotIn => true
  | _, _ => false
def cstB : D → Const → Bool
  | .int i, .int j => decide (i = j)
  | .bl i, .bool j => i == j
  | .str i, .str j => decide (i = j)
  | .non, .none => true
  | _, _ => false
def b1N : B1 → Str
  | .len => "len"
  | .int => "int"
  | .abs => "abs"
  | .sum => "sum"
  | .all => "all"
  | .any => "any"
  | .list => "list"
  | .tuple => "tuple"
  | .sorted => "sorted"
  | .dict => "dict"
  | _ => ""
def slotB (S : SC) (i : Nat) (x : Str) : Bool := decide (S.N[i]? = some x) && visB S.sc x && dbgB x
def storeB (S : SC) (i : Nat) (x : Str) : Bool := decide (S.N[i]? = some x) && locB S.sc x && (S.fn x || lclB S.sc x)
/-- the target of a comprehension -/
def shpB (S : SC) : Shp → Expr → Bool
  | .one j, .Name x _ => storeB S j x
  | .two j k, .Tuple [.Name x _, .Name y _] _ _ => storeB S j x && storeB S k y
  | _, _ => false
def isTup : Expr → Bool
  | .Tuple _ _ _ => true
  | _ => false
/-- what may stand as a test -/
def tstB : Ex → Bool
  | .ite _ _ _ => false
  | .orl _ _ => false
  | .not a => tstB a
  | .and a b => tstB a && tstB b
  | .or a b => tstB a && tstB b
  | _ => true
mutual
def chkE (tb : Tb) : SC → Ex → Expr → Bool
  | S, .slot i, .Name x _ => slotB S i x
  | S, .cst d, .Constant c _ _ => cstB d c
  | S, .glob x d, .Name y _ => decide (x = y) && glB S.sc x && dbgB x && (scV d).isSome && decide (tb.ct.lookup x = scV d)
  | S, .tup es, .Tuple xs _ _ => chkEs tb S es xs
  | S, .lst es, .List xs _ => chkEs tb S es xs
  | S, .bin op a b, .BinOp x o y _ => opB op o && chkE tb S a x && chkE tb S b y
  | S, .neg a, .UnaryOp .USub x _ => chkE tb S a x
  | S, .not a, .UnaryOp .Not x _ => chkE tb S a x
  | S, .and a b, .BoolOp .And (x :: y :: r) p => chkE tb S a x && (match r with | [] => chkE tb S b y | _ => chkE tb S b (.BoolOp .And (y :: r) p))
  | S, .or a b, .BoolOp .Or (x :: y :: r) p => chkE tb S a x && (match r with | [] => chkE tb S b y | _ => chkE tb S b (.BoolOp .Or (y :: r) p))
  | S, .orl a b, .BoolOp .Or (x :: y :: r) p => chkE tb S a x && (match r with | [] => chkE tb S b y | _ => chkE tb S b (.BoolOp .Or (y :: r) p))
  | S, .cmp op a b, .Compare x [o] [y] _ => copB op o && chkE tb S a x && chkE tb S b y && !behindInMarks o y
  | S, .chn a b c, .Compare x [.LtE, .Lt] [y, z] _ => chkE tb S a x && chkE tb S b y && chkE tb S c z && !lastMarks [.LtE, .Lt] [y, z]
  | S, .ite c a b, .IfExp t x y _ => tstB c && chkE tb S c t && chkE tb S a x && chkE tb S b y
  | S, .idx a b, .Subscript x y _ => chkE tb S a x && chkE tb S b y && !slB y
  | S, .slc a lo hi, .Subscript x (.Slice l h none _) _ => chkE tb S a x && (match l with | none => noB lo | some y => !noB lo && chkE tb S lo y) && (match h with | none => noB hi | some y => !noB hi && chkE tb S hi y)
  | S, .rev a, .Subscript x (.Slice none none (some (.UnaryOp .USub (.Constant (.int 1) _ _) _)) _) _ => chkE tb S a x
  | S, .call f es, .Call (.Name x _) xs [] _ => decide (tb.fn[f]?.map (·.name) = some x) && glB S.sc x && dbgB x && xs.all (fun e => !stB e) && chkEs tb S es xs
  | S, .lrg e, .Call (.Name x _) [.Call (.Name y _) [z] [] _] [] _ => decide (x = "list") && decide (y = "range") && glB S.sc x && glB S.sc y && !stB z && chkE tb S e z
  | S, .b1 b e, .Call (.Name x _) [y] [] _ => decide (x = b1N b) && decide (x ≠ "") && glB S.sc x && !stB y && chkE tb S e y
  | S, .min2 a b, .Call (.Name x _) [y, z] [] _ => decide (x = "min") && glB S.sc x && !stB y && !stB z && chkE tb S a y && chkE tb S b z
  | S, .isin e [t], .Call (.Name x _) [y, .Name t' _] [] _ => decide (x = "isinstance") && glB S.sc x && glB S.sc t' && !stB y && decide (bootBuiltins t' = some (.type t)) && dbgB t' && decide (t' ∈ (["int", "bool", "list", "tuple", "str"] : List Str)) && chkE tb S e y
  | S, .isin e [s, t], .Call (.Name x _) [y, .Tuple [.Name s' _, .Name t' _] _ _] [] _ => decide (x = "isinstance") && glB S.sc x && glB S.sc s' && glB S.sc t' && !stB y && decide (bootBuiltins s' = some (.type s)) && decide (bootBuiltins t' = some (.type t)) && dbgB s' && dbgB t' && decide (s' ∈ (["int", "bool", "list", "tuple", "str"] : List Str)) && decide (t' ∈ (["int", "bool", "list", "tuple", "str"] : List Str)) && chkE tb S e y
  | S, .app o e, .Call (.Attribute x m ap) [y] [] cp => decide (m = "append") && decide (ap.endLine = cp.line) && atB x && !stB y && chkE tb S o x && chkE tb S e y
  | S, .pop o e, .Call (.Attribute x m ap) [y] [] cp => decide (m = "pop") && decide (ap.endLine = cp.line) && atB x && !stB y && chkE tb S o x && chkE tb S e y
  | S, .ext o e, .Call (.Attribute x m ap) [y] [] cp => decide (m = "extend") && decide (ap.endLine = cp.line) && atB x && !stB y && chkE tb S o x && chkE tb S e y
  | S, .ins o e f, .Call (.Attribute x m ap) [y, z] [] cp => decide (m = "insert") && decide (ap.endLine = cp.line) && atB x && !stB y && !stB z && chkE tb S o x && chkE tb S e y && chkE tb S f z
  | S, .dnew, .Dict [] [] _ => true
  | _, .bad, _ => true
  | S, .ptup es, .Tuple xs _ _ => chkEs tb S es xs
  | S, .sortR e, .Call (.Name x _) [y] [⟨some k, .Constant (.bool true) _ _, _⟩] _ => decide (x = "sorted") && decide (k = "reverse") && glB S.sc x && !stB y && chkE tb S e y
  | S, .lc own sh it c e, .ListComp elt [⟨tg, iter, ifs, 0⟩] scope _ => blkC S.N S.sc scope own && sh.js.all (fun j => decide (j ∈ own.map (·.2))) && shpB (S.blk scope) sh tg && !setB iter && chkI tb S it iter tg && (match ifs with | [] => noB c | [x] => !noB c && tstB c && chkE tb (S.blk scope) c x | _ => false) && chkE tb (S.blk scope) e elt
  | _, _, _ => false
termination_by structural _ e => e
def chkEs (tb : Tb) : SC → List Ex → List Expr → Bool
  | _, [], [] => true
  | S, .star e :: es, .Starred x _ :: xs => chkE tb S e x && chkEs tb S es xs
  | S, e :: es, x :: xs => !stB x && chkE tb S e x && chkEs tb S es xs
  | _, _, _ => false
termination_by structural _ es => es
def chkI (tb : Tb) : SC → It → Expr → Expr → Bool
  | S, .of e, x, _ => chkE tb S e x
  | S, .range1 e, .Call (.Name x _) [y] [] _, _ => decide (x = "range") && glB S.sc x && !stB y && chkE tb S e y
  | S, .range2 a b, .Call (.Name x _) [y, z] [] _, _ => decide (x = "range") && glB S.sc x && !stB y && !stB z && chkE tb S a y && chkE tb S b z
  | S, .enum e, .Call (.Name x _) [y] [] _, tg => decide (x = "enumerate") && glB S.sc x && !stB y && isTup tg && chkE tb S e y
  | S, .zip a b, .Call (.Name x _) [y, z] [] _, tg => decide (x = "zip") && glB S.sc x && !stB y && !stB z && isTup tg && chkE tb S a y && chkE tb S b z
  | _, _, _, _ => false
termination_by structural _ it => it
end
/-- what an assignment stores without a tuple: its names; none: this look cannot tell -/
def swS (sc : Scope) (ts vs : List Expr) : Option (Option (List Str)) :=
  if (!(ts.length == 2 || ts.length == 3) || vs.length != ts.length) = true then some none
  else if (vs.any stB) = true then some none
  else
    let line := (ts.head?.map (·.pos.line)).getD 0
    let names := ts.filterMap fun
      | .Name id pos => if sc.names.lookup id == some .local && pos.line == line then some id else none
      | _ => none
    if (names.length != ts.length || names.eraseDups.length != names.length) = true then some none
    else if (vs.all (foldedForSure 8)) = true then some none
    else if (vs.all (constantsAlone 8)) = true then none
    else some (some names)
def idsOf : List Expr → Option (List Str)
  | [] => some []
  | .Name x _ :: r => (idsOf r).map (x :: ·)
  | _ => none
def storesB (S : SC) : List Nat → List Expr → Bool
  | [], [] => true
  | i :: is, .Name x _ :: r => storeB S i x && storesB S is r
  | _, _ => false
def lclsB (S : SC) : List Nat → List Expr → Bool
  | [], [] => true
  | i :: is, .Name x _ :: r => decide (S.N[i]? = some x) && lclB S.sc x && lclsB S is r
  | _, _ => false
mutual
def chkTg (tb : Tb) (S : SC) : Tg → Expr → Bool
  | .nm i, .Name x _ => storeB S i x
  | .tup ts, .Tuple xs _ _ => xs.all (fun e => !stB e) && chkTgs tb S ts xs
  | .sub a b, .Subscript x y _ => chkE tb S a x && chkE tb S b y && !slB y
  | _, _ => false
termination_by structural t => t
def chkTgs (tb : Tb) (S : SC) : List Tg → List Expr → Bool
  | [], [] => true
  | t :: ts, x :: xs => chkTg tb S t x && chkTgs tb S ts xs
  | _, _ => false
termination_by structural ts => ts
end
/-- a comprehension's value goes to its name by an exchange; none: not so -/
def swpN (sc : Scope) (x : Str) (xp : Pos) (v : Expr) : Bool := match v with
  | .ListComp _ _ s _ => decide (sc.kind = .function) && lclB sc x && (xp.line == v.pos.line) && !(s.names.any fun (n, k) => n == x && (k == .local || k == .cell))
  | _ => false
/-- a comprehension's value goes to its name plainly -/
def swpF (sc : Scope) (x : Str) (xp : Pos) (v : Expr) : Bool := match v with
  | .ListComp _ _ s _ => !(decide (sc.kind = .function) && (sc.names.lookup x == some .local) && (xp.line == v.pos.line) && !(s.names.any fun (n, k) => n == x && (k == .local || k == .cell)))
  | _ => !cmpB v
mutual
def chkS (tb : Tb) (S : SC) : RI.St → Stmt → Bool
  | .set (.nm i) e, .Assign [.Name x xp] v _ => storeB S i x && chkE tb S e v && (swpF S.sc x xp v || swpN S.sc x xp v)
  | .set t e, .Assign [tg] v _ => (match tg with | .Name _ _ => false | .Tuple ts _ _ => (match v with | .Tuple vs _ _ => decide (swS S.sc ts vs = some none) | _ => true) | _ => true) && chkTg tb S t tg && chkE tb S e v
  | .par is es, .Assign [.Tuple ts _ _] (.Tuple vs _ _) _ => decide (2 ≤ is.length) && decide (is.length ≤ 1000) && (match swS S.sc ts vs with
      | some none => storesB S is ts
      | some (some ns) => decide (idsOf ts = some ns) && lclsB S is ts && decide is.Nodup && decide (is.length ≤ 3)
      | none => false) && vs.all (fun e => !stB e) && chkEs tb S es vs && es.all fun e => (match e with | .star _ => false | _ => true)
  | .aug i e, .AugAssign (.Name x _) .Add v _ => storeB S i x && chkE tb S e v
  | .ex e, .Expr v _ => !cmpB v && chkE tb S e v
  | .ret e, .Return (some v) _ => chkE tb S e v
  | .ite c s1 s2, .If t b1 b2 _ => tstB c && chkE tb S c t && chkB tb S s1 b1 && chkB tb S s2 b2
  | .for_ t it b, .For tg iter body [] _ => !setB iter && chkI tb S it iter tg && chkTg tb S t tg && chkB tb S b body
  | .bad, _ => true
  | _, _ => false
termination_by structural s => s
def chkB (tb : Tb) (S : SC) : List RI.St → List Stmt → Bool
  | [], [] => true
  | .frz _ :: ss, sts => chkB tb S ss sts
  | s :: ss, st :: sts => chkS tb S s st && chkB tb S ss sts
  | _, _ => false
termination_by structural ss => ss
end
end RI

/-! RI: what the small language computes is what the program computes: expressions, one form after the other. -/
namespace RI
open PySem PySem.Spec PyProof.Rows L2 VY

abbrev Cal' := Nat → List Ag → Option (Dv × List VY.T)
/-- a def's promise, from what it computes -/
def SIc (cal : Cal') (f : Nat) : Spc := fun as P => ∃ r os, cal f as = some (r, os) ∧ rtD r ∧ P r os
def biNames : List Str := ["len", "int", "abs", "sum", "all", "any", "list", "tuple", "sorted", "range", "min", "isinstance", "bool", "str", "enumerate", "zip", "dict", "set"]
structure CtxOk (cal : Cal') (tb : Tb) (k : Nat) (S : SC) (X : Cx) : Prop where
  N : X.N = S.N
  sc : X.env.scope = S.sc
  fn : ∀ x, X.fn x = S.fn x
  calm : X.calm = true
  nd : S.N.Nodup
  kind : S.sc.kind = .function
  room : Room k X.A
  bi : ∀ x ∈ biNames, X.mg x = none
  ct : ∀ x v, tb.ct.lookup x = some v → ∃ u, X.mg x = some u ∧ RelV v u
  fns : ∀ f fd, tb.fn[f]? = some fd → C8.Cal X.prog X.w X.K X.mg X.base k fd.name (spW X.K (SIc cal f)) []
abbrev Is (d : Dv) (γ : List Dsc) : PD := fun d1 Γ1 => d1 = d ∧ Γ1 = γ
abbrev IsB (b : Bool) (γ : List Dsc) : Bool → List Dsc → Prop := fun d1 Γ1 => d1 = b ∧ Γ1 = γ
def SE (cal : Cal') (tb : Tb) (k : Nat) (e : Ex) : Prop := ∀ S X x γ d γ', CtxOk cal tb k S X → chkE tb S e x = true → ev cal e γ = some (d, γ') → EW X x γ (Is d γ')
def boB : Expr → Bool
  | .BoolOp _ _ _ => true
  | _ => false
def ST (cal : Cal') (tb : Tb) (k : Nat) (e : Ex) : Prop := ∀ S X x γ b γ', CtxOk cal tb k S X → chkE tb S e x = true → tstB e = true → ev cal e γ = some (.dat (.bl b), γ') → TW X x γ (IsB b γ') ∧ (boB x = true → WW X x γ (IsB b γ'))
theorem gd_some {α : Type} {c : Bool} {x : Option α} {y : α} (h : gd c x = some y) : c = true ∧ x = some y := by
  unfold gd at h
  split at h
  · rename_i e; exact ⟨e, h⟩
  · cases h
theorem bnd {α β : Type} {x : Option α} {f : α → Option β} {y : β} (h : x.bind f = some y) : ∃ a, x = some a ∧ f a = some y := Option.bind_eq_some_iff.mp h
theorem mpd {α β : Type} {x : Option α} {f : α → β} {y : β} (h : x.map f = some y) : ∃ a, x = some a ∧ f a = y := Option.map_eq_some_iff.mp h
theorem an {a b : Bool} (h : (a && b) = true) : a = true ∧ b = true := Bool.and_eq_true_iff.mp h
theorem nt {a : Bool} (h : (!a) = true) : a = false := by cases a <;> first | rfl | cases h
theorem stE {e : Expr} {es : List Expr} {env : Env} (h : stB e = false) : starEach (e :: es) env = (false, eval e env) :: starEach es env := by
  cases e <;> first | rfl | cases h
theorem stAll {pos : Pos} {env : Env} : ∀ {es : List Expr}, es.all (fun e => !stB e) = true → (backTo pos (starEach es env)).any (·.1) = false
  | [], _ => rfl
  | e :: es, h => by
    obtain ⟨h1, h2⟩ := an (show (!stB e && es.all (fun e => !stB e)) = true from h)
    rw [stE (nt h1)]
    show (false || (backTo pos (starEach es env)).any (·.1)) = false
    rw [stAll h2]
    rfl
theorem atE {o : Expr} {m : Str} {env : Env} (h : atB o = true) : attributeBase o m env (eval o env) = eval o env := by
  unfold attributeBase
  split
  · cases h
  · rfl
theorem swE {v : Expr} {t : Option Expr} {l : Nat} {env : Env} (h : cmpB v = false) : swapsWith v t l env = pure false := by
  cases v <;> first | rfl | cases h
theorem ixE {y : Expr} (h : slB y = false) : PlainIx y := fun o i => by
  cases y <;> first | rfl | cases h
theorem fsE {iter : Expr} {env : Env} (h : setB iter = false) : ∀ x, foldedSetIterable iter env x = pure x := fun x => by
  cases iter <;> first | rfl | cases h
section
variable {cal : Cal'} {tb : Tb} {k : Nat} {S : SC} {X : Cx}
theorem CtxOk.vis (c : CtxOk cal tb k S X) {x : Str} (h : visB S.sc x = true) : Vis X.env.scope x := by
  rw [c.sc]
  unfold visB at h
  split at h
  · exact .inl (by assumption)
  · exact .inr (.inl (by assumption))
  · exact .inr (.inr (by assumption))
  · cases h
theorem CtxOk.loc (c : CtxOk cal tb k S X) {x : Str} (h : locB S.sc x = true) : Loc X.env.scope x := by
  rw [c.sc]
  unfold locB at h
  split at h
  · exact .inl (by assumption)
  · exact .inr (by assumption)
  · cases h
theorem CtxOk.lcl (c : CtxOk cal tb k S X) {x : Str} (h : lclB S.sc x = true) : X.env.scope.names.lookup x = some .local := by
  rw [c.sc]
  unfold lclB at h
  split at h
  · assumption
  · cases h
theorem CtxOk.gl (c : CtxOk cal tb k S X) {x : Str} (h : glB S.sc x = true) : Gl X x := by
  show X.env.scope.names.lookup x = some .globalImplicit
  rw [c.sc]
  unfold glB at h
  split at h
  · assumption
  · cases h
theorem dbg {x : Str} (h : dbgB x = true) : (x == ("__debug__" : Str)) = false ∧ (x == ("__classdict__" : Str)) = false ∧ x ≠ "__name__" := by
  obtain ⟨h1, h3⟩ := an h
  obtain ⟨h1, h2⟩ := an h1
  exact ⟨nt h1, nt h2, of_decide_eq_true h3⟩
theorem CtxOk.store (c : CtxOk cal tb k S X) {i : Nat} {x : Str} (h : storeB S i x = true) : X.N[i]? = some x ∧ Loc X.env.scope x ∧ (X.fn x = true ∨ X.env.scope.names.lookup x = some .local) := by
  obtain ⟨h1, h3⟩ := an h
  obtain ⟨h1, h2⟩ := an h1
  refine ⟨by rw [c.N]; exact of_decide_eq_true h1, c.loc h2, ?_⟩
  rcases Bool.or_eq_true_iff.mp h3 with h3 | h3
  · exact .inl (by rw [c.fn]; exact h3)
  · exact .inr (c.lcl h3)
theorem CtxOk.blk (c : CtxOk cal tb k S X) {scope : Scope} (hk : scope.kind = .function) (s : Shared) (H : Hp) (C : Addr) (cl : List (Str × Addr)) (fp : List Addr) : CtxOk cal tb k (S.blk scope) (X.blk s H scope (compEnvC scope cl C X.env) fp) where
  N := c.N
  sc := by
    show relabel scope X.env = relS scope S.sc
    rw [← c.sc]
    rfl
  fn := fun x => rfl
  calm := c.calm
  nd := c.nd
  kind := hk
  room := c.room
  bi := c.bi
  ct := c.ct
  fns := c.fns
theorem CtxOk.b (c : CtxOk cal tb k S X) (x : Str) (h : x ∈ biNames := by decide) : X.mg x = none := c.bi x h

theorem se_slot {i : Nat} : SE cal tb k (.slot i) := by
  intro S X x γ d γ' c hc he
  cases x <;> try (exact Bool.noConfusion (show false = true from hc))
  rename_i id pos
  obtain ⟨h1, h3⟩ := an (show (decide (S.N[i]? = some id) && visB S.sc id && dbgB id) = true from hc)
  obtain ⟨h1, h2⟩ := an h1
  obtain ⟨d1, d2, _⟩ := dbg h3
  simp only [ev] at he
  split at he
  · cases he
  · rename_i s hn e
    cases he
    exact ew_name i e (fun z => hn z) ⟨rfl, rfl⟩ (by rw [c.N]; exact of_decide_eq_true h1) (c.vis h2) d1 d2
  · cases he
theorem se_cst {d : D} : SE cal tb k (.cst d) := by
  intro S X x γ d1 γ' c hc he
  cases x <;> try (exact Bool.noConfusion (show false = true from hc))
  rename_i cc j pos
  simp only [ev] at he
  cases he
  have hc' : cstB d cc = true := hc
  cases d <;> cases cc <;> try (exact Bool.noConfusion (show false = true from hc'))
  · exact ew_non ⟨rfl, rfl⟩
  · rename_i a b
    have e : a = b := by cases a <;> cases b <;> first | rfl | cases hc'
    subst e
    exact ew_bl ⟨rfl, rfl⟩
  · rename_i a b
    have e : a = b := of_decide_eq_true hc'
    subst e
    exact ew_int ⟨rfl, rfl⟩
  · rename_i a b
    have e : a = b := of_decide_eq_true hc'
    subst e
    exact ew_str ⟨rfl, rfl⟩
theorem se_glob {y : Str} {d : D} : SE cal tb k (.glob y d) := by
  intro S X x γ d1 γ' c hc he
  cases x <;> try (exact Bool.noConfusion (show false = true from hc))
  rename_i id pos
  simp only [ev] at he
  cases he
  obtain ⟨h1, h5⟩ := an (show (decide (y = id) && glB S.sc y && dbgB y && (scV d).isSome && decide (tb.ct.lookup y = scV d)) = true from hc)
  obtain ⟨h1, h4⟩ := an h1
  obtain ⟨h1, h3⟩ := an h1
  obtain ⟨h1, h2⟩ := an h1
  have e : y = id := of_decide_eq_true h1
  subst e
  obtain ⟨v, hv⟩ := Option.isSome_iff_exists.mp h4
  obtain ⟨u, hm, r⟩ := c.ct y v (by rw [of_decide_eq_true h5, hv])
  exact ew_glob hm hv r ⟨rfl, rfl⟩ (c.gl h2) (dbg h3).1

/-! ### values as the calculus asks for them -/
theorem lst_of {γ : List Dsc} {x : Dv} {ds : List D} (h : lstI γ x = some ds) : Lst γ x ds := by
  unfold lstI at h
  split at h
  · cases h; rfl
  · cases h; rfl
  · split at h
    · rename_i e; cases h; exact e
    · cases h
  · cases h
theorem lst_sq {γ : List Dsc} {x : Dv} {ds : List D} (l : Lst γ x ds) : Sq γ x ds := by
  cases x with
  | dat d => cases d <;> first | exact l | exact l.elim
  | new t => exact l
  | loc i => exact l
  | fld i f b => exact l
theorem sq_of {γ : List Dsc} {x : Dv} {ds : List D} (h : sqI γ x = some ds) : Sq γ x ds := by
  unfold sqI at h
  split at h
  · cases h; rfl
  · cases h; rfl
  · cases h; rfl
  · have l := lst_of h
    cases x with
    | dat d => cases d <;> first | exact l | exact l.elim
    | new t => exact l
    | loc i => exact l
    | fld i f b => exact l
theorem tp_of {x : Dv} {ds : List D} (h : tpI x = some ds) : x = .dat (.tup ds) ∨ x = .dat (.pt ds) := by
  unfold tpI at h
  split at h <;> cases h
  · exact .inl rfl
  · exact .inr rfl
theorem its_of {x : Dv} {ds : List D} (h : itsI x = some ds) : (x = .dat (.tup ds) ∨ x = .dat (.pt ds)) ∨ x = .dat (.scr ds) ∨ datOf x = some (.lst ds) := by
  unfold itsI at h
  split at h <;> cases h
  · exact .inl (.inl rfl)
  · exact .inl (.inr rfl)
  · exact .inr (.inl rfl)
  · exact .inr (.inr rfl)
  · exact .inr (.inr rfl)
theorem int_of {x : Dv} {i : Int} (h : intI x = some i) : x = .dat (.int i) := by
  unfold intI at h
  split at h <;> cases h
  rfl
theorem bl_of {x : Dv} {i : Bool} (h : blI x = some i) : x = .dat (.bl i) := by
  unfold blI at h
  split at h <;> cases h
  rfl
theorem ints_of : ∀ {ds : List D} {ns : List Int}, intsI ds = some ns → ds = ns.map .int
  | [], _, h => by cases h; rfl
  | d :: ds, ns, h => by
    unfold intsI at h
    split at h
    · rename_i e; cases e
    · rename_i i r e
      cases e
      obtain ⟨ms, e1, rfl⟩ := mpd h
      rw [ints_of e1]
      rfl
    · cases h
theorem bls_of : ∀ {ds : List D} {ns : List Bool}, blsI ds = some ns → ds = ns.map .bl
  | [], _, h => by cases h; rfl
  | d :: ds, ns, h => by
    unfold blsI at h
    split at h
    · rename_i e; cases e
    · rename_i i r e
      cases e
      obtain ⟨ms, e1, rfl⟩ := mpd h
      rw [bls_of e1]
      rfl
    · cases h
theorem pairs_of : ∀ {ds : List D} {ns : List (Int × Int)}, pairsI ds = some ns → ds = ns.map VY.pairD
  | [], _, h => by cases h; rfl
  | d :: ds, ns, h => by
    unfold pairsI at h
    split at h
    · rename_i e; cases e
    · rename_i i j r e
      cases e
      obtain ⟨ms, e1, rfl⟩ := mpd h
      rw [pairs_of e1]
      rfl
    · cases h

/-! ### operators -/
theorem se_bin {op : Bop} {a b : Ex} (ha : SE cal tb k a) (hb : SE cal tb k b) : SE cal tb k (.bin op a b) := by
  intro S X x γ d γ' c hc he
  cases x <;> try (exact Bool.noConfusion (show false = true from hc))
  rename_i l o r pos
  obtain ⟨h1, h3⟩ := an (show (opB op o && chkE tb S a l && chkE tb S b r) = true from hc)
  obtain ⟨h1, h2⟩ := an h1
  simp only [ev] at he
  obtain ⟨⟨x, γ1⟩, e1, he⟩ := bnd he
  obtain ⟨⟨y, γ2⟩, e2, he⟩ := bnd he
  obtain ⟨z, e3, e4⟩ := mpd he
  cases e4
  have A := ha S X l γ x γ1 c h2 e1
  have B := hb S X r γ1 y _ c h3 e2
  have go : ∀ {P : PD}, P y γ2 → EW X r γ1 P := fun {P} p => B.mono fun _ _ ⟨e, f⟩ => by rw [e, f]; exact p
  have go2 : ∀ {P : Dv → List Dsc → Dv → List Dsc → Prop}, P x γ1 y γ2 → EW X l γ fun x1 Γ1 => EW X r Γ1 fun y1 Γ2 => P x1 Γ1 y1 Γ2 := fun {P} p => A.mono fun _ _ ⟨e, f⟩ => by rw [e, f]; exact go p
  dsimp only at e3
  unfold binI at e3
  split at e3 <;> cases o <;> try (exact Bool.noConfusion (show false = true from h1))
  · cases e3
    exact ew_add (go2 (P := fun x1 _ y1 Γ2 => ∃ i j, x1 = .dat (.int i) ∧ y1 = .dat (.int j) ∧ Is _ _ (.dat (.int (i + j))) Γ2) ⟨_, _, rfl, rfl, rfl, rfl⟩)
  · obtain ⟨g, e3⟩ := gd_some e3
    cases e3
    exact ew_catT (go2 (P := fun x1 _ y1 Γ2 => ∃ xs ys, x1 = .dat (.tup xs) ∧ y1 = .dat (.tup ys) ∧ xs.length + ys.length ≤ 1000000 ∧ Is _ _ (.dat (.tup (xs ++ ys))) Γ2) ⟨_, _, rfl, rfl, of_decide_eq_true g, rfl, rfl⟩)
  · obtain ⟨xs, f1, e3⟩ := bnd e3
    obtain ⟨ys, f2, e3⟩ := bnd e3
    obtain ⟨g, e3⟩ := gd_some e3
    cases e3
    exact ew_catL (go2 (P := fun x1 _ y1 Γ2 => ∃ xs ys, Lst Γ2 x1 xs ∧ Lst Γ2 y1 ys ∧ xs.length + ys.length ≤ 1000000 ∧ Is _ _ (.new (.l (xs ++ ys))) Γ2) ⟨_, _, lst_of f1, lst_of f2, of_decide_eq_true g, rfl, rfl⟩)
  · obtain ⟨i, f1, e3⟩ := bnd e3
    obtain ⟨j, f2, e3⟩ := bnd e3
    cases e3
    exact ew_sub (go2 (P := fun x1 _ y1 Γ2 => ∃ i j, x1 = .dat (.int i) ∧ y1 = .dat (.int j) ∧ Is _ _ (.dat (.int (i - j))) Γ2) ⟨_, _, int_of f1, int_of f2, rfl, rfl⟩)
  · obtain ⟨g, e3⟩ := gd_some e3
    cases e3
    refine ew_mul (go2 (P := fun x1 _ y1 Γ2 => ∃ i j, x1 = .dat (.int i) ∧ y1 = .dat (.int j) ∧ CMul i j ∧ Is _ _ (.dat (.int (i * j))) Γ2) ⟨_, _, rfl, rfl, ?_, rfl, rfl⟩)
    rcases Bool.or_eq_true_iff.mp g with g | g
    · obtain ⟨g1, g2⟩ := an g
      exact .inl ⟨of_decide_eq_true g1, of_decide_eq_true g2⟩
    · obtain ⟨g1, g2⟩ := an g
      exact .inr ⟨of_decide_eq_true g1, of_decide_eq_true g2⟩
  · obtain ⟨g, e3⟩ := gd_some e3
    cases e3
    obtain ⟨g, g4⟩ := an g
    obtain ⟨g, g3⟩ := an g
    obtain ⟨g1, g2⟩ := an g
    exact ew_repT (go2 (P := fun x1 _ y1 Γ2 => ∃ xs k, x1 = .dat (.tup xs) ∧ y1 = .dat (.int k) ∧ xs ≠ [] ∧ 2 ≤ k ∧ k ≤ 1000 ∧ xs.length ≤ 1000 ∧ Is _ _ (.dat (.tup (List.replicate k.toNat xs).flatten)) Γ2)
      ⟨_, _, rfl, rfl, (by intro z; rw [z] at g1; cases g1), of_decide_eq_true g2, of_decide_eq_true g3, of_decide_eq_true g4, rfl, rfl⟩)
  · obtain ⟨xs, f1, e3⟩ := bnd e3
    obtain ⟨g, e3⟩ := gd_some e3
    cases e3
    obtain ⟨g, g3⟩ := an g
    obtain ⟨g1, g2⟩ := an g
    exact ew_repL (go2 (P := fun x1 _ y1 Γ2 => ∃ xs k, Lst Γ2 x1 xs ∧ y1 = .dat (.int k) ∧ k ≤ 1000 ∧ -1000 ≤ k ∧ xs.length ≤ 1000 ∧ Is _ _ (.new (.l (List.replicate k.toNat xs).flatten)) Γ2)
      ⟨_, _, lst_of f1, rfl, of_decide_eq_true g1, of_decide_eq_true g2, of_decide_eq_true g3, rfl, rfl⟩)
  · obtain ⟨i, f1, e3⟩ := bnd e3
    obtain ⟨j, f2, e3⟩ := bnd e3
    obtain ⟨g, e3⟩ := gd_some e3
    cases e3
    exact ew_mod (go2 (P := fun x1 _ y1 Γ2 => ∃ i j, x1 = .dat (.int i) ∧ y1 = .dat (.int j) ∧ 0 < j ∧ Is _ _ (.dat (.int (i % j))) Γ2) ⟨_, _, int_of f1, int_of f2, of_decide_eq_true g, rfl, rfl⟩)
  · obtain ⟨i, f1, e3⟩ := bnd e3
    obtain ⟨j, f2, e3⟩ := bnd e3
    obtain ⟨g, e3⟩ := gd_some e3
    cases e3
    obtain ⟨g1, g2⟩ := an g
    exact ew_fdiv (go2 (P := fun x1 _ y1 Γ2 => ∃ i j, x1 = .dat (.int i) ∧ y1 = .dat (.int j) ∧ CDiv i j ∧ Is _ _ (.dat (.int (i / j))) Γ2) ⟨_, _, int_of f1, int_of f2, ⟨of_decide_eq_true g1, of_decide_eq_true g2⟩, rfl, rfl⟩)
  · obtain ⟨i, f1, e3⟩ := bnd e3
    obtain ⟨j, f2, e3⟩ := bnd e3
    obtain ⟨g, e3⟩ := gd_some e3
    cases e3
    obtain ⟨g, g3⟩ := an g
    obtain ⟨g1, g2⟩ := an g
    exact ew_pow (go2 (P := fun x1 _ y1 Γ2 => ∃ i j, x1 = .dat (.int i) ∧ y1 = .dat (.int j) ∧ CPow i j ∧ Is _ _ (.dat (.int (i ^ j.toNat))) Γ2) ⟨_, _, int_of f1, int_of f2, ⟨of_decide_eq_true g1, of_decide_eq_true g2, of_decide_eq_true g3⟩, rfl, rfl⟩)
  all_goals cases e3
end
end RI

/-! RI: expressions, the rest. -/
namespace RI
open PySem PySem.Spec PyProof.Rows L2 VY
theorem EW.th {X : Cx} {x : Expr} {γ γ' : List Dsc} {d : Dv} {P : PD} (h : EW X x γ (Is d γ')) (p : P d γ') : EW X x γ P := h.mono fun _ _ ⟨e, f⟩ => by rw [e, f]; exact p
theorem TW.th {X : Cx} {x : Expr} {γ γ' : List Dsc} {d : Bool} {P : Bool → List Dsc → Prop} (h : TW X x γ (IsB d γ')) (p : P d γ') : TW X x γ P := h.mono fun _ _ ⟨e, f⟩ => by rw [e, f]; exact p
theorem ew_ne2 {X : Cx} {Γ : List Dsc} {P : PD} {a b : Expr} {pos : Pos} {k : Nat} (hr : Room k X.A) (h : EW X a Γ fun x Γ1 => EW X b Γ1 fun y Γ2 => (∃ d e u v, x = .dat d ∧ y = .dat e ∧ scV d = some u ∧ scV e = some v ∧ scal u v = true ∧ P (.dat (.bl (!decide (u = v)))) Γ2) ∨
      ∃ d e, Py1 Γ2 x d ∧ Py1 Γ2 y e ∧ SeqAt.shaped d = true ∧ SeqAt.shaped e = true ∧ P (.dat (.bl (!PyData.eqv d e))) Γ2) : EW X (.Compare a [.NotEq] [b] pos) Γ P :=
  ew_cmp (OpR.or op_ne (op_neD (by have := hr.un; omega))) (h.mono fun x Γ1 h1 => h1.mono fun y Γ2 h2 => h2.elim
    (fun h => (kw_neS h).mono fun vs H Q ⟨u, v, e, q⟩ => ⟨u, v, e, .inl q⟩) fun h => (show Kw X Γ2 [x, y] (r2 (rNeD X.K)) P from fun A Fs Hs Γs F H σ vs fm st ok Q q => by
      obtain ⟨d, e, hd, he, sd, se, hp⟩ := h
      cases ok with
      | cons o1 ok =>
        cases ok with
        | cons o2 ok =>
          cases ok
          exact ⟨_, _, rfl, d, e, VOk.dp o1 fm hd, VOk.dp o2 fm he, sd, se, q _ _ _ F H hp st fm (.bl _)⟩).mono fun vs H Q ⟨u, v, e, q⟩ => ⟨u, v, e, .inr q⟩)
theorem tw_ne2 {X : Cx} {Γ : List Dsc} {P : Bool → List Dsc → Prop} {a b : Expr} {pos : Pos} {k : Nat} (hr : Room k X.A) (h : EW X a Γ fun x Γ1 => EW X b Γ1 fun y Γ2 => (∃ d e u v, x = .dat d ∧ y = .dat e ∧ scV d = some u ∧ scV e = some v ∧ scal u v = true ∧ P (!decide (u = v)) Γ2) ∨
      ∃ d e, Py1 Γ2 x d ∧ Py1 Γ2 y e ∧ SeqAt.shaped d = true ∧ SeqAt.shaped e = true ∧ P (!PyData.eqv d e) Γ2) : TW X (.Compare a [.NotEq] [b] pos) Γ P :=
  tw_cmp (OpR.or op_ne (op_neD (by have := hr.un; omega))) (h.mono fun x Γ1 h1 => h1.mono fun y Γ2 h2 => h2.elim
    (fun ⟨d, e, u, v, a1, a2, a3, a4, a5, h⟩ => (kw_neS ⟨d, e, u, v, a1, a2, a3, a4, a5, _, rfl, h⟩).mono fun vs H Q ⟨u, v, e, q⟩ => ⟨u, v, e, .inl q⟩) fun ⟨d, e, hd, he, sd, se, hp⟩ => (show Kw X Γ2 [x, y] (r2 (rNeD X.K)) _ from fun A Fs Hs Γs F H σ vs fm st ok Q q => by
      cases ok with
      | cons o1 ok =>
        cases ok with
        | cons o2 ok =>
          cases ok
          exact ⟨_, _, rfl, d, e, VOk.dp o1 fm hd, VOk.dp o2 fm he, sd, se, q _ _ _ F H ⟨_, rfl, hp⟩ st fm (.bl _)⟩).mono fun vs H Q ⟨u, v, e, q⟩ => ⟨u, v, e, .inr q⟩)
section
variable {cal : Cal'} {tb : Tb} {k : Nat} {S : SC} {X : Cx}
theorem py_of {γ : List Dsc} {x : Dv} {d : PyData} (h : pyI γ x = some d) : Py1 γ x d := by
  unfold pyI at h
  split at h
  · cases h; rfl
  · obtain ⟨ds, e, rfl⟩ := mpd h
    have l := lst_of e
    cases x with
    | dat d => rename_i n; exact absurd rfl (n d)
    | new t =>
      cases t with
      | cl c =>
        cases c with
        | lst es => cases (show es = ds from l); rfl
        | dct _ => exact l.elim
      | ins _ _ => exact l.elim
    | loc i => exact ⟨ds, l, rfl⟩
    | fld i f b => exact ⟨ds, l, rfl⟩
theorem sc_of {x : Dv} {u : V} (h : scD x = some u) : ∃ d, x = .dat d ∧ scV d = some u := by
  unfold scD at h
  split at h
  · exact ⟨_, rfl, h⟩
  · cases h
/-- == as the calculus asks for it -/
theorem eq_of {γ : List Dsc} {x y : Dv} {b : Bool} (h : eqI γ x y = some b) : (∃ d e u v, x = .dat d ∧ y = .dat e ∧ scV d = some u ∧ scV e = some v ∧ scal u v = true ∧ decide (u = v) = b) ∨
    ∃ d e, Py1 γ x d ∧ Py1 γ y e ∧ SeqAt.shaped d = true ∧ SeqAt.shaped e = true ∧ PyData.eqv d e = b := by
  unfold eqI at h
  split at h
  · rename_i u v e1 e2
    obtain ⟨g, h⟩ := gd_some h
    cases h
    obtain ⟨d, rfl, h1⟩ := sc_of e1
    obtain ⟨e, rfl, h2⟩ := sc_of e2
    exact .inl ⟨d, e, u, v, rfl, rfl, h1, h2, g, rfl⟩
  · obtain ⟨d, e1, h⟩ := bnd h
    obtain ⟨e, e2, h⟩ := bnd h
    obtain ⟨g, h⟩ := gd_some h
    cases h
    obtain ⟨g1, g2⟩ := an g
    exact .inr ⟨d, e, py_of e1, py_of e2, g1, g2, rfl⟩
theorem non_of {x : Dv} {b : Bool} (h : nonI x = some b) : ∃ d, x = .dat d ∧ (match d with | .non => true | _ => false) = b ∧ (match d with | .non => false | _ => true) = !b := by
  unfold nonI at h
  split at h
  · cases h; exact ⟨_, rfl, rfl, rfl⟩
  · rename_i d n
    cases h
    refine ⟨d, rfl, ?_, ?_⟩ <;> cases d <;> first | rfl | exact absurd rfl n
  · cases h
theorem dct_of {γ : List Dsc} {x : Dv} {kvs : List (Key × D)} (h : dctI γ x = some kvs) : Con1 γ x (.dct kvs) := by
  unfold dctI at h
  split at h
  · cases h; rfl
  · split at h
    · rename_i e; cases h; exact e
    · cases h
  · cases h
theorem datK_of {x : Dv} {k : Key} (h : datK x = some k) : ∃ d, x = .dat d ∧ keyOf d = some k := by
  unfold datK at h
  split at h
  · exact ⟨_, rfl, h⟩
  · cases h
theorem inF_of {γ : List Dsc} {x y : Dv} {b : Bool} (h : inF γ x y = some b) : ∃ d u ds us, x = .dat d ∧ scV d = some u ∧ Sq γ y ds ∧ scVs ds = some us ∧ inV u us = b := by
  unfold inF at h
  obtain ⟨u, e1, h⟩ := bnd h
  obtain ⟨ds, e2, h⟩ := bnd h
  obtain ⟨us, e3, h⟩ := bnd h
  cases h
  obtain ⟨d, rfl, h1⟩ := sc_of e1
  exact ⟨d, u, ds, us, rfl, h1, sq_of e2, e3, rfl⟩
theorem in_of {γ : List Dsc} {x y : Dv} {b : Bool} (h : inI γ x y = some b) : (∃ d u ds us, x = .dat d ∧ scV d = some u ∧ Sq γ y ds ∧ scVs ds = some us ∧ inV u us = b) ∨ (∃ d k kvs, x = .dat d ∧ keyOf d = some k ∧ Con1 γ y (.dct kvs) ∧ (valD kvs k).isSome = b) ∨ InD γ x y b := by
  unfold inI at h
  split at h
  · rename_i kvs e
    obtain ⟨k, e1, rfl⟩ := mpd h
    obtain ⟨d, rfl, e2⟩ := datK_of e1
    exact .inr (.inl ⟨d, k, kvs, rfl, e2, dct_of e, rfl⟩)
  · split at h
    · rename_i e
      cases h
      exact .inl (inF_of e)
    · unfold inP at h
      obtain ⟨d, e1, h⟩ := bnd h
      obtain ⟨c, e2, h⟩ := bnd h
      obtain ⟨ds, e3, h⟩ := bnd h
      obtain ⟨g, h⟩ := gd_some h
      cases h
      obtain ⟨g1, g2⟩ := an g
      refine .inr (.inr ⟨d, c, ds, py_of e1, py_of e2, ?_, g1, g2, rfl⟩)
      unfold itemsPy at e3
      split at e3
      · cases e3; exact .inl rfl
      · cases e3; exact .inr rfl
      · cases e3
theorem se_neg {a : Ex} (ha : SE cal tb k a) : SE cal tb k (.neg a) := by
  intro S X x γ d γ' c hc he
  cases x <;> try (exact Bool.noConfusion (show false = true from hc))
  rename_i op x pos
  cases op <;> try (exact Bool.noConfusion (show false = true from hc))
  simp only [ev] at he
  obtain ⟨⟨v, γ1⟩, e1, he⟩ := bnd he
  obtain ⟨i, e2, e3⟩ := mpd he
  cases e3
  exact ew_neg (i := 0) (EW.th (ha S X x γ v _ c hc e1) ⟨i, int_of e2, rfl, rfl⟩)
theorem se_not {a : Ex} (ha : SE cal tb k a) : SE cal tb k (.not a) := by
  intro S X x γ d γ' c hc he
  cases x <;> try (exact Bool.noConfusion (show false = true from hc))
  rename_i op x pos
  cases op <;> try (exact Bool.noConfusion (show false = true from hc))
  simp only [ev] at he
  obtain ⟨⟨v, γ1⟩, e1, he⟩ := bnd he
  obtain ⟨i, e2, e3⟩ := mpd he
  cases e3
  exact ew_not (EW.th (ha S X x γ v _ c hc e1) ⟨i, bl_of e2, rfl, rfl⟩)
theorem st_not {a : Ex} (ha : ST cal tb k a) : ST cal tb k (.not a) := by
  intro S X x γ d γ' c hc ht he
  cases x <;> try (exact Bool.noConfusion (show false = true from hc))
  rename_i op x pos
  cases op <;> try (exact Bool.noConfusion (show false = true from hc))
  simp only [ev] at he
  obtain ⟨⟨v, γ1⟩, e1, he⟩ := bnd he
  obtain ⟨i, e2, e3⟩ := mpd he
  cases e3
  cases bl_of e2
  exact ⟨tw_not (TW.th (ha S X x γ i _ c hc ht e1).1 ⟨rfl, rfl⟩), fun hb => Bool.noConfusion (show false = true from hb)⟩
theorem se_and {a b : Ex} (ha : SE cal tb k a) (hb : SE cal tb k b) : SE cal tb k (.and a b) := by
  intro S X x γ d γ' c hc he
  cases x <;> try (exact Bool.noConfusion (show false = true from hc))
  rename_i op xs pos
  cases op <;> try (exact Bool.noConfusion (show false = true from hc))
  match xs, hc with
  | [], hc => exact Bool.noConfusion (show false = true from hc)
  | [_], hc => exact Bool.noConfusion (show false = true from hc)
  | x :: y :: r, hc =>
    obtain ⟨h1, h2⟩ := an (show (chkE tb S a x && (match (generalizing := false) r with | [] => chkE tb S b y | _ => chkE tb S b (.BoolOp .And (y :: r) pos))) = true from hc)
    simp only [ev] at he
    obtain ⟨⟨v, γ1⟩, e1, he⟩ := bnd he
    obtain ⟨i, e2, he⟩ := bnd he
    refine ew_and (EW.th (ha S X x γ v _ c h1 e1) ⟨i, bl_of e2, fun hi => ?_, fun hi => ?_⟩)
    · subst hi
      rw [if_pos rfl] at he
      cases r with
      | nil => exact ew_one (hb S X y _ d _ c h2 he)
      | cons z r => exact hb S X _ _ d _ c h2 he
    · subst hi
      rw [if_neg Bool.false_ne_true] at he
      cases he
      exact ⟨rfl, rfl⟩
theorem se_or {a b : Ex} (ha : SE cal tb k a) (hb : SE cal tb k b) : SE cal tb k (.or a b) := by
  intro S X x γ d γ' c hc he
  cases x <;> try (exact Bool.noConfusion (show false = true from hc))
  rename_i op xs pos
  cases op <;> try (exact Bool.noConfusion (show false = true from hc))
  match xs, hc with
  | [], hc => exact Bool.noConfusion (show false = true from hc)
  | [_], hc => exact Bool.noConfusion (show false = true from hc)
  | x :: y :: r, hc =>
    obtain ⟨h1, h2⟩ := an (show (chkE tb S a x && (match (generalizing := false) r with | [] => chkE tb S b y | _ => chkE tb S b (.BoolOp .Or (y :: r) pos))) = true from hc)
    simp only [ev] at he
    obtain ⟨⟨v, γ1⟩, e1, he⟩ := bnd he
    obtain ⟨i, e2, he⟩ := bnd he
    refine ew_or (EW.th (ha S X x γ v _ c h1 e1) ⟨i, bl_of e2, fun hi => ?_, fun hi => ?_⟩)
    · subst hi
      rw [if_pos rfl] at he
      cases he
      exact ⟨rfl, rfl⟩
    · subst hi
      rw [if_neg Bool.false_ne_true] at he
      cases r with
      | nil => exact ew_one (hb S X y _ d _ c h2 he)
      | cons z r => exact hb S X _ _ d _ c h2 he
theorem se_orl {a b : Ex} (ha : SE cal tb k a) (hb : SE cal tb k b) : SE cal tb k (.orl a b) := by
  intro S X x γ d γ' c hc he
  cases x <;> try (exact Bool.noConfusion (show false = true from hc))
  rename_i op xs pos
  cases op <;> try (exact Bool.noConfusion (show false = true from hc))
  match xs, hc with
  | [], hc => exact Bool.noConfusion (show false = true from hc)
  | [_], hc => exact Bool.noConfusion (show false = true from hc)
  | x :: y :: r, hc =>
    obtain ⟨h1, h2⟩ := an (show (chkE tb S a x && (match (generalizing := false) r with | [] => chkE tb S b y | _ => chkE tb S b (.BoolOp .Or (y :: r) pos))) = true from hc)
    simp only [ev] at he
    obtain ⟨⟨v, γ1⟩, e1, he⟩ := bnd he
    obtain ⟨ds, e2, he⟩ := bnd he
    refine ew_orL (EW.th (ha S X x γ v _ c h1 e1) ⟨ds, lst_of e2, fun hi => ?_, fun hi => ?_⟩)
    · rw [if_neg (by cases ds with | nil => exact absurd rfl hi | cons _ _ => exact Bool.false_ne_true)] at he
      cases he
      exact ⟨rfl, rfl⟩
    · subst hi
      rw [if_pos (show ([] : List D).isEmpty = true from rfl)] at he
      cases r with
      | nil => exact ew_one (hb S X y _ d _ c h2 he)
      | cons z r => exact hb S X _ _ d _ c h2 he
theorem st_and {a b : Ex} (ha : ST cal tb k a) (hb : ST cal tb k b) : ST cal tb k (.and a b) := by
  intro S X x γ d γ' c hc ht he
  obtain ⟨t1, t2⟩ := an (show (tstB a && tstB b) = true from ht)
  cases x <;> try (exact Bool.noConfusion (show false = true from hc))
  rename_i op xs pos
  cases op <;> try (exact Bool.noConfusion (show false = true from hc))
  match xs, hc with
  | [], hc => exact Bool.noConfusion (show false = true from hc)
  | [_], hc => exact Bool.noConfusion (show false = true from hc)
  | x :: y :: r, hc =>
    obtain ⟨h1, h2⟩ := an (show (chkE tb S a x && (match (generalizing := false) r with | [] => chkE tb S b y | _ => chkE tb S b (.BoolOp .And (y :: r) pos))) = true from hc)
    simp only [ev] at he
    obtain ⟨⟨v, γ1⟩, e1, he⟩ := bnd he
    obtain ⟨i, e2, he⟩ := bnd he
    cases bl_of e2
    have key : WW X (.BoolOp .And (x :: y :: r) pos) γ (IsB d γ') := by
      refine ww_and (TW.th (ha S X x γ i _ c h1 t1 e1).1 ⟨fun hi => ?_, fun hi => ?_⟩)
      · subst hi
        rw [if_pos rfl] at he
        cases r with
        | nil => exact ww_one (hb S X y _ d _ c h2 t2 he).1
        | cons z r => exact (hb S X _ _ d _ c h2 t2 he).2 rfl
      · subst hi
        rw [if_neg Bool.false_ne_true] at he
        cases he
        exact ⟨rfl, rfl⟩
    exact ⟨tw_w key, fun _ => key⟩
theorem st_or {a b : Ex} (ha : ST cal tb k a) (hb : ST cal tb k b) : ST cal tb k (.or a b) := by
  intro S X x γ d γ' c hc ht he
  obtain ⟨t1, t2⟩ := an (show (tstB a && tstB b) = true from ht)
  cases x <;> try (exact Bool.noConfusion (show false = true from hc))
  rename_i op xs pos
  cases op <;> try (exact Bool.noConfusion (show false = true from hc))
  match xs, hc with
  | [], hc => exact Bool.noConfusion (show false = true from hc)
  | [_], hc => exact Bool.noConfusion (show false = true from hc)
  | x :: y :: r, hc =>
    obtain ⟨h1, h2⟩ := an (show (chkE tb S a x && (match (generalizing := false) r with | [] => chkE tb S b y | _ => chkE tb S b (.BoolOp .Or (y :: r) pos))) = true from hc)
    simp only [ev] at he
    obtain ⟨⟨v, γ1⟩, e1, he⟩ := bnd he
    obtain ⟨i, e2, he⟩ := bnd he
    cases bl_of e2
    have key : WW X (.BoolOp .Or (x :: y :: r) pos) γ (IsB d γ') := by
      refine ww_or (TW.th (ha S X x γ i _ c h1 t1 e1).1 ⟨fun hi => ?_, fun hi => ?_⟩)
      · subst hi
        rw [if_pos rfl] at he
        cases he
        exact ⟨rfl, rfl⟩
      · subst hi
        rw [if_neg Bool.false_ne_true] at he
        cases r with
        | nil => exact ww_one (hb S X y _ d _ c h2 t2 he).1
        | cons z r => exact (hb S X _ _ d _ c h2 t2 he).2 rfl
    exact ⟨tw_w key, fun _ => key⟩
/-- a test that is a value -/
theorem st_val {e : Ex} (h : SE cal tb k e) (hx : ∀ S x, chkE tb S e x = true → (match x with | .UnaryOp .Not _ _ => false | .BoolOp _ _ _ => false | .IfExp _ _ _ _ => false | .Compare _ _ _ _ => false | _ => true) = true) : ST cal tb k e := by
  intro S X x γ d γ' c hc ht he
  have n := hx S x hc
  refine ⟨tw_val (EW.th (h S X x γ _ γ' c hc he) ⟨d, rfl, rfl, rfl⟩) (fun whole => ?_), fun hb => ?_⟩
  · cases x <;> first | rfl | (exact Bool.noConfusion (show false = true from n)) | skip
    rename_i op y p
    cases op <;> first | rfl | (exact Bool.noConfusion (show false = true from n))
  · cases x <;> first | (exact Bool.noConfusion (show false = true from hb)) | (exact Bool.noConfusion (show false = true from n))
theorem isN_of {γ : List Dsc} {x y : Dv} {z : Bool} (h : cmpI γ .isN x y = some z) : y = .dat .non ∧ nonI x = some z := by
  cases y with
  | dat d => cases d <;> first | exact ⟨rfl, h⟩ | cases h
  | _ => cases h
theorem notN_of {γ : List Dsc} {x y : Dv} {z : Bool} (h : cmpI γ .notN x y = some z) : y = .dat .non ∧ ∃ w, nonI x = some w ∧ (!w) = z := by
  cases y with
  | dat d => cases d <;> first | exact ⟨rfl, mpd h⟩ | cases h
  | _ => cases h
theorem tw_isN {X : Cx} {Γ : List Dsc} {a b : Expr} {pos : Pos} {P : Bool → List Dsc → Prop} (h : EW X a Γ fun x Γ1 => EW X b Γ1 fun y Γ2 => ∃ d, x = .dat d ∧ y = .dat .non ∧ P (match d with | .non => true | _ => false) Γ2) : TW X (.Compare a [.Is] [b] pos) Γ P :=
  tw_cmp op_isN (h.mono fun x Γ1 h1 => h1.mono fun y Γ2 ⟨d, e1, e2, hp⟩ => (kw_isN (neg := false) (P := fun d Γ3 => ∃ k, d = .dat (.bl k) ∧ P k Γ3) ⟨d, e1, e2, _, rfl, hp⟩).mono fun vs H Q z => z)
theorem tw_notN {X : Cx} {Γ : List Dsc} {a b : Expr} {pos : Pos} {P : Bool → List Dsc → Prop} (h : EW X a Γ fun x Γ1 => EW X b Γ1 fun y Γ2 => ∃ d, x = .dat d ∧ y = .dat .non ∧ P (match d with | .non => false | _ => true) Γ2) : TW X (.Compare a [.IsNot] [b] pos) Γ P :=
  tw_cmp op_notN (h.mono fun x Γ1 h1 => h1.mono fun y Γ2 ⟨d, e1, e2, hp⟩ => (kw_isN (neg := true) (P := fun d Γ3 => ∃ k, d = .dat (.bl k) ∧ P k Γ3) ⟨d, e1, e2, _, rfl, hp⟩).mono fun vs H Q z => z)
theorem cmp_shape {op : Cop} {a b : Ex} {x : Expr} {S : SC} (hc : chkE tb S (.cmp op a b) x = true) : ∃ l o r p, x = .Compare l [o] [r] p ∧ copB op o = true ∧ chkE tb S a l = true ∧ chkE tb S b r = true ∧ behindInMarks o r = false := by
  cases x <;> try (exact Bool.noConfusion (show false = true from hc))
  rename_i l os rs pos
  match os, rs, hc with
  | [], _, hc => exact Bool.noConfusion (show false = true from hc)
  | _ :: _ :: _, _, hc => exact Bool.noConfusion (show false = true from hc)
  | [_], [], hc => exact Bool.noConfusion (show false = true from hc)
  | [_], _ :: _ :: _, hc => exact Bool.noConfusion (show false = true from hc)
  | [o], [r], hc =>
    obtain ⟨h1, h4⟩ := an (show (copB op o && chkE tb S a l && chkE tb S b r && !behindInMarks o r) = true from hc)
    obtain ⟨h1, h3⟩ := an h1
    obtain ⟨h1, h2⟩ := an h1
    exact ⟨l, o, r, pos, rfl, h1, h2, h3, nt h4⟩
theorem se_cmp {op : Cop} {a b : Ex} (ha : SE cal tb k a) (hb : SE cal tb k b) : SE cal tb k (.cmp op a b) := by
  intro S X x γ d γ' c hc he
  obtain ⟨l, o, r, p, rfl, h1, h2, h3, h4⟩ := cmp_shape hc
  simp only [ev] at he
  obtain ⟨⟨x, γ1⟩, e1, he⟩ := bnd he
  obtain ⟨⟨y, γ2⟩, e2, he⟩ := bnd he
  obtain ⟨z, e3, e4⟩ := mpd he
  cases e4
  have A := ha S X l γ x γ1 c h2 e1
  have B := hb S X r γ1 y γ2 c h3 e2
  dsimp only at e3
  cases op <;> cases o <;> try (exact Bool.noConfusion (show false = true from h1))
  · obtain ⟨i, f1, e3⟩ := bnd e3
    obtain ⟨j, f2, e3⟩ := bnd e3
    cases e3
    exact ew_lt (EW.th A (EW.th B ⟨_, _, int_of f1, int_of f2, rfl, rfl⟩))
  · obtain ⟨i, f1, e3⟩ := bnd e3
    obtain ⟨j, f2, e3⟩ := bnd e3
    cases e3
    exact ew_le (EW.th A (EW.th B ⟨_, _, int_of f1, int_of f2, rfl, rfl⟩))
  · obtain ⟨i, f1, e3⟩ := bnd e3
    obtain ⟨j, f2, e3⟩ := bnd e3
    cases e3
    exact ew_gt (EW.th A (EW.th B ⟨_, _, int_of f1, int_of f2, rfl, rfl⟩))
  · obtain ⟨i, f1, e3⟩ := bnd e3
    obtain ⟨j, f2, e3⟩ := bnd e3
    cases e3
    exact ew_ge (EW.th A (EW.th B ⟨_, _, int_of f1, int_of f2, rfl, rfl⟩))
  · refine ew_eq c.room (EW.th A (EW.th B ?_))
    rcases eq_of (show eqI γ2 x y = some z from e3) with ⟨d, e, u, v, g1, g2, g3, g4, g5, g6⟩ | ⟨d, e, g1, g2, g3, g4, g5⟩
    · exact .inl ⟨d, e, u, v, g1, g2, g3, g4, g5, by rw [g6], rfl⟩
    · exact .inr ⟨d, e, g1, g2, g3, g4, by rw [g5], rfl⟩
  · obtain ⟨w, e5, rfl⟩ := mpd (show (eqI γ2 x y).map (!·) = some z from e3)
    refine ew_ne2 c.room (EW.th A (EW.th B ?_))
    rcases eq_of e5 with ⟨d, e, u, v, g1, g2, g3, g4, g5, g6⟩ | ⟨d, e, g1, g2, g3, g4, g5⟩
    · exact .inl ⟨d, e, u, v, g1, g2, g3, g4, g5, by rw [g6], rfl⟩
    · exact .inr ⟨d, e, g1, g2, g3, g4, by rw [g5], rfl⟩
  · obtain ⟨rfl, e5⟩ := isN_of e3
    obtain ⟨d, rfl, g1, _⟩ := non_of e5
    exact ew_isN (EW.th A (EW.th B ⟨d, rfl, rfl, by rw [← g1] <;> rfl, rfl⟩))
  · obtain ⟨rfl, w, e5, rfl⟩ := notN_of e3
    obtain ⟨d, rfl, _, g1⟩ := non_of e5
    exact ew_notN (EW.th A (EW.th B ⟨d, rfl, rfl, by rw [← g1] <;> rfl, rfl⟩))
  · rcases in_of (show inI γ2 x y = some z from e3) with ⟨d, u, ds, us, rfl, g1, g2, g3, g4⟩ | ⟨d, u, ds, rfl, g1, g2, g3⟩ | g
    · exact ew_in (EW.th A (EW.th B ⟨d, u, ds, us, rfl, g1, g2, g3, by rw [g4], rfl⟩)) h4
    · exact ew_din c.room (EW.th A (EW.th B ⟨d, u, ds, rfl, g1, g2, by rw [g3], rfl⟩)) h4
    · exact ew_inD c.room (EW.th A (EW.th B ⟨_, g, rfl, rfl⟩)) h4
  · obtain ⟨w, e5, rfl⟩ := mpd (show (inI γ2 x y).map (!·) = some z from e3)
    rcases in_of e5 with ⟨d, u, ds, us, rfl, g1, g2, g3, g4⟩ | ⟨d, u, ds, rfl, g1, g2, g3⟩ | g
    · exact ew_notin (EW.th A (EW.th B ⟨d, u, ds, us, rfl, g1, g2, g3, by rw [g4], rfl⟩)) h4
    · exact ew_dnotin c.room (EW.th A (EW.th B ⟨d, u, ds, rfl, g1, g2, by rw [g3], rfl⟩)) h4
    · exact ew_notinD c.room (EW.th A (EW.th B ⟨_, g, rfl, rfl⟩)) h4
theorem st_cmp {op : Cop} {a b : Ex} (ha : SE cal tb k a) (hb : SE cal tb k b) : ST cal tb k (.cmp op a b) := by
  intro S X x γ d γ' c hc ht he
  obtain ⟨l, o, r, p, rfl, h1, h2, h3, h4⟩ := cmp_shape hc
  refine ⟨?_, fun hb => Bool.noConfusion (show false = true from hb)⟩
  simp only [ev] at he
  obtain ⟨⟨x, γ1⟩, e1, he⟩ := bnd he
  obtain ⟨⟨y, γ2⟩, e2, he⟩ := bnd he
  obtain ⟨z, e3, e4⟩ := mpd he
  cases e4
  have A := ha S X l γ x γ1 c h2 e1
  have B := hb S X r γ1 y γ2 c h3 e2
  dsimp only at e3
  cases op <;> cases o <;> try (exact Bool.noConfusion (show false = true from h1))
  · obtain ⟨i, f1, e3⟩ := bnd e3
    obtain ⟨j, f2, e3⟩ := bnd e3
    cases e3
    exact tw_lt (EW.th A (EW.th B ⟨_, _, int_of f1, int_of f2, rfl, rfl⟩))
  · obtain ⟨i, f1, e3⟩ := bnd e3
    obtain ⟨j, f2, e3⟩ := bnd e3
    cases e3
    exact tw_le (EW.th A (EW.th B ⟨_, _, int_of f1, int_of f2, rfl, rfl⟩))
  · obtain ⟨i, f1, e3⟩ := bnd e3
    obtain ⟨j, f2, e3⟩ := bnd e3
    cases e3
    exact tw_gt (EW.th A (EW.th B ⟨_, _, int_of f1, int_of f2, rfl, rfl⟩))
  · obtain ⟨i, f1, e3⟩ := bnd e3
    obtain ⟨j, f2, e3⟩ := bnd e3
    cases e3
    exact tw_ge (EW.th A (EW.th B ⟨_, _, int_of f1, int_of f2, rfl, rfl⟩))
  · refine tw_eq c.room (EW.th A (EW.th B ?_))
    rcases eq_of (show eqI γ2 x y = some d from e3) with ⟨d, e, u, v, g1, g2, g3, g4, g5, g6⟩ | ⟨d, e, g1, g2, g3, g4, g5⟩
    · exact .inl ⟨d, e, u, v, g1, g2, g3, g4, g5, g6, rfl⟩
    · exact .inr ⟨d, e, g1, g2, g3, g4, g5, rfl⟩
  · obtain ⟨w, e5, rfl⟩ := mpd (show (eqI γ2 x y).map (!·) = some d from e3)
    refine tw_ne2 c.room (EW.th A (EW.th B ?_))
    rcases eq_of e5 with ⟨d, e, u, v, g1, g2, g3, g4, g5, g6⟩ | ⟨d, e, g1, g2, g3, g4, g5⟩
    · exact .inl ⟨d, e, u, v, g1, g2, g3, g4, g5, by rw [g6], rfl⟩
    · exact .inr ⟨d, e, g1, g2, g3, g4, by rw [g5], rfl⟩
  · obtain ⟨rfl, e5⟩ := isN_of e3
    obtain ⟨d, rfl, g1, _⟩ := non_of e5
    exact tw_isN (EW.th A (EW.th B ⟨d, rfl, rfl, by rw [← g1], rfl⟩))
  · obtain ⟨rfl, w, e5, rfl⟩ := notN_of e3
    obtain ⟨d, rfl, _, g1⟩ := non_of e5
    exact tw_notN (EW.th A (EW.th B ⟨d, rfl, rfl, by rw [← g1], rfl⟩))
  · rcases in_of (show inI γ2 x y = some d from e3) with ⟨d, u, ds, us, rfl, g1, g2, g3, g4⟩ | ⟨d, u, ds, rfl, g1, g2, g3⟩ | g
    · exact tw_in (EW.th A (EW.th B ⟨d, u, ds, us, rfl, g1, g2, g3, g4, rfl⟩)) h4
    · exact tw_din c.room (EW.th A (EW.th B ⟨d, u, ds, rfl, g1, g2, g3, rfl⟩)) h4
    · exact tw_inD c.room (EW.th A (EW.th B ⟨_, g, rfl, rfl⟩)) h4
  · obtain ⟨w, e5, rfl⟩ := mpd (show (inI γ2 x y).map (!·) = some d from e3)
    rcases in_of e5 with ⟨d, u, ds, us, rfl, g1, g2, g3, g4⟩ | ⟨d, u, ds, rfl, g1, g2, g3⟩ | g
    · exact tw_notin (EW.th A (EW.th B ⟨d, u, ds, us, rfl, g1, g2, g3, by rw [g4], rfl⟩)) h4
    · exact tw_dnotin c.room (EW.th A (EW.th B ⟨d, u, ds, rfl, g1, g2, by rw [g3], rfl⟩)) h4
    · exact tw_notinD c.room (EW.th A (EW.th B ⟨_, g, rfl, rfl⟩)) h4
end
end RI

/-! RI: expressions: subscripts, calls, lists. -/
namespace RI
open PySem PySem.Spec PyProof.Rows L2 VY
section
variable {cal : Cal'} {tb : Tb} {k : Nat} {S : SC} {X : Cx}
theorem se_chn {a b e : Ex} (ha : SE cal tb k a) (hb : SE cal tb k b) (hd : SE cal tb k e) : SE cal tb k (.chn a b e) := by
  intro S X x γ d γ' c hc he
  have sh : ∃ l m r p, x = .Compare l [.LtE, .Lt] [m, r] p ∧ chkE tb S a l = true ∧ chkE tb S b m = true ∧ chkE tb S e r = true ∧ lastMarks [.LtE, .Lt] [m, r] = false := by
    cases x <;> try (exact Bool.noConfusion (show false = true from hc))
    rename_i l os rs pos
    match os, rs, hc with
    | [.LtE, .Lt], [m, r], hc =>
      obtain ⟨h1, h4⟩ := an (show (chkE tb S a l && chkE tb S b m && chkE tb S e r && !lastMarks [.LtE, .Lt] [m, r]) = true from hc)
      obtain ⟨h1, h3⟩ := an h1
      obtain ⟨h1, h2⟩ := an h1
      exact ⟨l, m, r, pos, rfl, h1, h2, h3, nt h4⟩
    | [.LtE, .Lt], [], hc => exact Bool.noConfusion (show false = true from hc)
    | [.LtE, .Lt], [_], hc => exact Bool.noConfusion (show false = true from hc)
    | [.LtE, .Lt], _ :: _ :: _ :: _, hc => exact Bool.noConfusion (show false = true from hc)
    | [], _, hc => exact Bool.noConfusion (show false = true from hc)
    | [o], _, hc => cases o <;> exact Bool.noConfusion (show false = true from hc)
    | o :: o2 :: _ :: _, _, hc => cases o <;> cases o2 <;> exact Bool.noConfusion (show false = true from hc)
    | [.Eq, _], _, hc | [.NotEq, _], _, hc | [.Lt, _], _, hc | [.Gt, _], _, hc | [.GtE, _], _, hc | [.Is, _], _, hc | [.IsNot, _], _, hc | [.In, _], _, hc | [.NotIn, _], _, hc => exact Bool.noConfusion (show false = true from hc)
    | [.LtE, .Eq], _, hc | [.LtE, .NotEq], _, hc | [.LtE, .LtE], _, hc | [.LtE, .Gt], _, hc | [.LtE, .GtE], _, hc | [.LtE, .Is], _, hc | [.LtE, .IsNot], _, hc | [.LtE, .In], _, hc | [.LtE, .NotIn], _, hc => exact Bool.noConfusion (show false = true from hc)
  obtain ⟨l, m, r, p, rfl, h1, h2, h3, h4⟩ := sh
  simp only [ev] at he
  obtain ⟨⟨x, γ1⟩, e1, he⟩ := bnd he
  obtain ⟨⟨y, γ2⟩, e2, he⟩ := bnd he
  obtain ⟨i, f1, he⟩ := bnd he
  obtain ⟨j, f2, he⟩ := bnd he
  refine ew_chLeLt (EW.th (ha S X l γ x γ1 c h1 e1) (EW.th (hb S X m γ1 y γ2 c h2 e2) ⟨i, j, int_of f1, int_of f2, fun hn => ?_, fun hy => ?_⟩)) h4
  · rw [if_neg hn] at he
    cases he
    exact ⟨rfl, rfl⟩
  · rw [if_pos hy] at he
    obtain ⟨⟨z, γ3⟩, e3, he⟩ := bnd he
    obtain ⟨q, f3, he⟩ := mpd he
    cases he
    exact EW.th (hd S X r γ2 z γ3 c h3 e3) ⟨q, int_of f3, rfl, rfl⟩
theorem st_chn {a b e : Ex} (ha : SE cal tb k a) (hb : SE cal tb k b) (hd : SE cal tb k e) : ST cal tb k (.chn a b e) := by
  intro S X x γ d γ' c hc ht he
  have sh : ∃ l m r p, x = .Compare l [.LtE, .Lt] [m, r] p ∧ chkE tb S a l = true ∧ chkE tb S b m = true ∧ chkE tb S e r = true ∧ lastMarks [.LtE, .Lt] [m, r] = false := by
    cases x <;> try (exact Bool.noConfusion (show false = true from hc))
    rename_i l os rs pos
    match os, rs, hc with
    | [.LtE, .Lt], [m, r], hc =>
      obtain ⟨h1, h4⟩ := an (show (chkE tb S a l && chkE tb S b m && chkE tb S e r && !lastMarks [.LtE, .Lt] [m, r]) = true from hc)
      obtain ⟨h1, h3⟩ := an h1
      obtain ⟨h1, h2⟩ := an h1
      exact ⟨l, m, r, pos, rfl, h1, h2, h3, nt h4⟩
    | [.LtE, .Lt], [], hc => exact Bool.noConfusion (show false = true from hc)
    | [.LtE, .Lt], [_], hc => exact Bool.noConfusion (show false = true from hc)
    | [.LtE, .Lt], _ :: _ :: _ :: _, hc => exact Bool.noConfusion (show false = true from hc)
    | [], _, hc => exact Bool.noConfusion (show false = true from hc)
    | [o], _, hc => cases o <;> exact Bool.noConfusion (show false = true from hc)
    | o :: o2 :: _ :: _, _, hc => cases o <;> cases o2 <;> exact Bool.noConfusion (show false = true from hc)
    | [.Eq, _], _, hc | [.NotEq, _], _, hc | [.Lt, _], _, hc | [.Gt, _], _, hc | [.GtE, _], _, hc | [.Is, _], _, hc | [.IsNot, _], _, hc | [.In, _], _, hc | [.NotIn, _], _, hc => exact Bool.noConfusion (show false = true from hc)
    | [.LtE, .Eq], _, hc | [.LtE, .NotEq], _, hc | [.LtE, .LtE], _, hc | [.LtE, .Gt], _, hc | [.LtE, .GtE], _, hc | [.LtE, .Is], _, hc | [.LtE, .IsNot], _, hc | [.LtE, .In], _, hc | [.LtE, .NotIn], _, hc => exact Bool.noConfusion (show false = true from hc)
  obtain ⟨l, m, r, p, rfl, h1, h2, h3, h4⟩ := sh
  refine ⟨?_, fun hb => Bool.noConfusion (show false = true from hb)⟩
  simp only [ev] at he
  obtain ⟨⟨x, γ1⟩, e1, he⟩ := bnd he
  obtain ⟨⟨y, γ2⟩, e2, he⟩ := bnd he
  obtain ⟨i, f1, he⟩ := bnd he
  obtain ⟨j, f2, he⟩ := bnd he
  refine tw_chLeLt (EW.th (ha S X l γ x γ1 c h1 e1) (EW.th (hb S X m γ1 y γ2 c h2 e2) ⟨i, j, int_of f1, int_of f2, fun hn => ?_, fun hy => ?_⟩)) h4
  · rw [if_neg hn] at he
    cases he
    exact ⟨rfl, rfl⟩
  · rw [if_pos hy] at he
    obtain ⟨⟨z, γ3⟩, e3, he⟩ := bnd he
    obtain ⟨q, f3, he⟩ := mpd he
    cases he
    exact EW.th (hd S X r γ2 z γ3 c h3 e3) ⟨q, int_of f3, rfl, rfl⟩
theorem se_ite {e a b : Ex} (he : SE cal tb k e) (ht : ST cal tb k e) (ha : SE cal tb k a) (hb : SE cal tb k b) : SE cal tb k (.ite e a b) := by
  intro S X x γ d γ' c hc hv
  cases x <;> try (exact Bool.noConfusion (show false = true from hc))
  rename_i t y z pos
  obtain ⟨h1, h4⟩ := an (show (tstB e && chkE tb S e t && chkE tb S a y && chkE tb S b z) = true from hc)
  obtain ⟨h1, h3⟩ := an h1
  obtain ⟨h1, h2⟩ := an h1
  simp only [ev] at hv
  obtain ⟨⟨x, γ1⟩, e1, hv⟩ := bnd hv
  obtain ⟨i, e2, hv⟩ := bnd hv
  cases bl_of e2
  refine ew_if (TW.th (ht S X t γ i γ1 c h2 h1 e1).1 ⟨fun hi => ?_, fun hi => ?_⟩)
  · subst hi
    rw [if_pos rfl] at hv
    exact ha S X y γ1 d γ' c h3 hv
  · subst hi
    rw [if_neg Bool.false_ne_true] at hv
    exact hb S X z γ1 d γ' c h4 hv
theorem slE {y : Expr} (h : slB y = false) : NoSl y := fun o i => by
  cases y <;> first | rfl | cases h
theorem se_idx {a b : Ex} (ha : SE cal tb k a) (hb : SE cal tb k b) : SE cal tb k (.idx a b) := by
  intro S X x γ d γ' c hc he
  cases x <;> try (exact Bool.noConfusion (show false = true from hc))
  rename_i l r pos
  obtain ⟨h1, h3⟩ := an (show (chkE tb S a l && chkE tb S b r && !slB r) = true from hc)
  obtain ⟨h1, h2⟩ := an h1
  simp only [ev] at he
  obtain ⟨⟨x, γ1⟩, e1, he⟩ := bnd he
  obtain ⟨⟨y, γ2⟩, e2, he⟩ := bnd he
  obtain ⟨z, e3, e4⟩ := mpd he
  cases e4
  unfold idxI at e3
  split at e3
  · rename_i kvs f0
    obtain ⟨k', f2, e3⟩ := bnd e3
    obtain ⟨q, f3, rfl⟩ := mpd e3
    obtain ⟨dk, rfl, f4⟩ := datK_of f2
    exact ew_dget c.room (EW.th (ha S X l γ x γ1 c h1 e1) (EW.th (hb S X r γ1 _ γ2 c h2 e2) ⟨dk, k', kvs, q, rfl, f4, dct_of f0, f3, rfl, rfl⟩)) (slE (nt h3))
  obtain ⟨ds, f1, e3⟩ := bnd e3
  obtain ⟨i, f2, e3⟩ := bnd e3
  obtain ⟨q, f3, rfl⟩ := mpd e3
  exact ew_ix (EW.th (ha S X l γ x γ1 c h1 e1) (EW.th (hb S X r γ1 y γ2 c h2 e2) ⟨ds, i, q, sq_of f1, int_of f2, f3, rfl, rfl⟩)) (ixE (nt h3))
theorem OW.th {X : Cx} {x : Option Expr} {γ γ' : List Dsc} {d : Option Int} {P : Option Int → List Dsc → Prop} (h : OW X x γ fun d1 Γ1 => d1 = d ∧ Γ1 = γ') (p : P d γ') : OW X x γ P :=
  fun A F H σ fm Q q => h A F H σ fm Q fun b Γ' F' H' ⟨e, f⟩ s fm' => q b Γ' F' H' (by rw [e, f]; exact p) s fm'
theorem so_of {lo : Ex} {l : Option Expr} {γ γ' : List Dsc} {i : Option Int} (h : SE cal tb k lo) (c : CtxOk cal tb k S X) (hc : (match (generalizing := false) l with | none => noB lo | some y => !noB lo && chkE tb S lo y) = true) (he : evoW (noB lo) (ev cal lo γ) γ = some (i, γ')) : OW X l γ fun d1 Γ1 => d1 = i ∧ Γ1 = γ' := by
  cases l with
  | none =>
    have hn : noB lo = true := hc
    rw [hn] at he
    cases he
    exact ow_none ⟨rfl, rfl⟩
  | some y =>
    obtain ⟨h1, h2⟩ := an (show (!noB lo && chkE tb S lo y) = true from hc)
    rw [nt h1] at he
    obtain ⟨⟨v, γ1⟩, e1, he⟩ := bnd (show (ev cal lo γ).bind (fun r => (intI r.1).map fun k => (some k, r.2)) = some _ from he)
    obtain ⟨j, e2, e3⟩ := mpd he
    cases e3
    exact ow_some (EW.th (h S X y γ v _ c h2 e1) ⟨j, int_of e2, rfl, rfl⟩)
theorem se_slc {a lo hi : Ex} (ha : SE cal tb k a) (hl : SE cal tb k lo) (hh : SE cal tb k hi) : SE cal tb k (.slc a lo hi) := by
  intro S X x γ d γ' c hc he
  cases x <;> try (exact Bool.noConfusion (show false = true from hc))
  rename_i y r pos
  cases r <;> try (exact Bool.noConfusion (show false = true from hc))
  rename_i l h st p2
  cases st <;> try (exact Bool.noConfusion (show false = true from hc))
  obtain ⟨h1, h3⟩ := an (show (chkE tb S a y && (match (generalizing := false) l with | none => noB lo | some y => !noB lo && chkE tb S lo y) && (match (generalizing := false) h with | none => noB hi | some y => !noB hi && chkE tb S hi y)) = true from hc)
  obtain ⟨h1, h2⟩ := an h1
  simp only [ev] at he
  obtain ⟨⟨x, γ1⟩, e1, he⟩ := bnd he
  obtain ⟨⟨i, γ2⟩, e2, he⟩ := bnd he
  obtain ⟨⟨j, γ3⟩, e3, he⟩ := bnd he
  obtain ⟨z, e4, e5⟩ := mpd he
  cases e5
  have A := ha S X y γ x γ1 c h1 e1
  have L := so_of hl c h2 e2
  have U := so_of hh c h3 e3
  dsimp only at e4
  unfold slcI at e4
  split at e4
  · cases e4
    exact ew_slT (EW.th A (OW.th L (OW.th U ⟨_, rfl, rfl, rfl⟩)))
  · cases e4
    exact ew_slL (EW.th A (OW.th L (OW.th U ⟨_, .inl rfl, rfl, rfl⟩)))
  · obtain ⟨ds, f1, rfl⟩ := mpd e4
    exact ew_slL (EW.th A (OW.th L (OW.th U ⟨_, .inr (lst_of f1), rfl, rfl⟩)))
theorem se_rev {a : Ex} (ha : SE cal tb k a) : SE cal tb k (.rev a) := by
  intro S X x γ d γ' c hc he
  have sh : ∃ y n p1 p2 p3 p, x = .Subscript y (.Slice none none (some (.UnaryOp .USub (.Constant (.int 1) n p1) p2)) p3) p ∧ chkE tb S a y = true := by
    unfold chkE at hc
    split at hc <;> first | (rename_i h; cases h) | skip
    all_goals first | (rename_i h _; cases h) | skip
    all_goals first | exact ⟨_, _, _, _, _, _, rfl, hc⟩ | cases hc
  obtain ⟨y, n, p1, p2, p3, p, rfl, h1⟩ := sh
  simp only [ev] at he
  obtain ⟨⟨x, γ1⟩, e1, he⟩ := bnd he
  obtain ⟨z, e4, e5⟩ := mpd he
  cases e5
  have A := ha S X y γ x γ1 c h1 e1
  dsimp only at e4
  unfold revI at e4
  split at e4
  · cases e4
    exact ew_revT (EW.th A ⟨_, rfl, rfl, rfl⟩)
  · cases e4
    exact ew_revL (EW.th A ⟨_, .inl rfl, rfl, rfl⟩)
  · obtain ⟨ds, f1, rfl⟩ := mpd e4
    exact ew_revL (EW.th A ⟨_, .inr (lst_of f1), rfl, rfl⟩)
end
end RI

/-! RI: expressions: displays, arguments, built-in calls, methods of lists. -/
namespace RI
open PySem PySem.Spec PyProof.Rows L2 VY
/-- a list among arguments is frozen, else nothing happens -/
theorem EW.frz {X : Cx} {x : Expr} {γ γ' : List Dsc} {d : Dv} (h : EW X x γ (Is d γ')) : EW X x γ (Is (frzV d) γ') := by
  cases d with
  | new t =>
    cases t with
    | cl c =>
      cases c with
      | lst ds => exact ew_frz (EW.th h ⟨.lst ds, rfl, rfl, rfl⟩)
      | dct _ => exact h
    | ins _ _ => exact h
  | dat _ => exact h
  | loc _ => exact h
  | fld _ _ _ => exact h
section
variable {cal : Cal'} {tb : Tb} {k : Nat} {S : SC} {X : Cx}
def SEs (cal : Cal') (tb : Tb) (k : Nat) (es : List Ex) : Prop := ∀ S X xs γ ds γ', CtxOk cal tb k S X → chkEs tb S es xs = true → evs cal es γ = some (ds, γ') → AW X xs γ fun d1 Γ1 => d1 = ds ∧ Γ1 = γ'
theorem AW.th {X : Cx} {xs : List Expr} {γ γ' : List Dsc} {ds : List Dv} {P : List Dv → List Dsc → Prop} (h : AW X xs γ fun d1 Γ1 => d1 = ds ∧ Γ1 = γ') (p : P ds γ') : AW X xs γ P :=
  fun A F H σ fm Q q => h A F H σ fm Q fun b Γ' vs F' H' ⟨e, f⟩ s fm' ok => q b Γ' vs F' H' (by rw [e, f]; exact p) s fm' ok
theorem ses_nil : SEs cal tb k [] := by
  intro S X xs γ ds γ' c hc he
  cases xs with
  | nil =>
    simp only [evs] at he
    cases he
    exact aw_nil ⟨rfl, rfl⟩
  | cons _ _ => exact Bool.noConfusion (show false = true from hc)
theorem ses_star {e : Ex} {es : List Ex} (h : SE cal tb k e) (hs : SEs cal tb k es) : SEs cal tb k (.star e :: es) := by
  intro S X xs γ ds γ' c hc he
  have sh : ∃ y p ys, xs = .Starred y p :: ys ∧ chkE tb S e y = true ∧ chkEs tb S es ys = true := by
    cases xs with
    | nil => exact Bool.noConfusion (show false = true from hc)
    | cons x xs =>
      cases x with
      | Starred y p =>
        obtain ⟨h1, h2⟩ := an (show (chkE tb S e y && chkEs tb S es xs) = true from hc)
        exact ⟨y, p, xs, rfl, h1, h2⟩
      | _ =>
        obtain ⟨h1, _⟩ := an (show (!stB _ && chkE tb S (.star e) _ && chkEs tb S es xs) = true from hc)
        obtain ⟨_, h2⟩ := an h1
        exact Bool.noConfusion (show false = true from h2)
  obtain ⟨y, p, ys, rfl, h1, h2⟩ := sh
  simp only [evs] at he
  obtain ⟨⟨v, γ1⟩, e1, he⟩ := bnd he
  obtain ⟨g, he⟩ := gd_some he
  obtain ⟨us, e2, he⟩ := bnd he
  obtain ⟨⟨ws, γ2⟩, e3, he⟩ := mpd he
  cases he
  refine aw_star (EW.th (h S X y γ v γ1 c h1 e1) ⟨us, sq_of e2, fun i z => ?_, AW.th (hs S X ys γ1 ws γ2 c h2 e3) ⟨rfl, rfl⟩⟩)
  subst z
  exact Bool.noConfusion (show false = true from g)
theorem ses_cons {e : Ex} {es : List Ex} (hn : ∀ z, e ≠ .star z) (h : SE cal tb k e) (hs : SEs cal tb k es) : SEs cal tb k (e :: es) := by
  intro S X xs γ ds γ' c hc he
  cases xs with
  | nil => exfalso; cases e <;> exact Bool.noConfusion (show false = true from hc)
  | cons x xs =>
    have hc' : (!stB x && chkE tb S e x && chkEs tb S es xs) = true := by
      cases e <;> first | exact hc | exact absurd rfl (hn _)
    obtain ⟨h1, h3⟩ := an hc'
    obtain ⟨h1, h2⟩ := an h1
    have he' : (ev cal e γ).bind (fun r => (evs cal es r.2).map fun s => (frzV r.1 :: s.1, s.2)) = some (ds, γ') := by
      cases e <;> first | exact he | exact absurd rfl (hn _)
    obtain ⟨⟨v, γ1⟩, e1, he⟩ := bnd he'
    obtain ⟨⟨ws, γ2⟩, e3, he⟩ := mpd he
    cases he
    exact aw_cons (EW.th (EW.frz (h S X x γ v γ1 c h2 e1)) (AW.th (hs S X xs γ1 ws γ2 c h3 e3) ⟨rfl, rfl⟩)) (stE (nt h1))
theorem se_tup {es : List Ex} (h : SEs cal tb k es) : SE cal tb k (.tup es) := by
  intro S X x γ d γ' c hc he
  cases x <;> try (exact Bool.noConfusion (show false = true from hc))
  simp only [ev] at he
  obtain ⟨⟨vs, γ1⟩, e1, he⟩ := bnd he
  obtain ⟨ds, e2, he⟩ := bnd he
  obtain ⟨g, he⟩ := gd_some he
  cases he
  exact ew_tup (AW.th (h S X _ γ vs _ c hc e1) ⟨ds, e2, of_decide_eq_true g, rfl, rfl⟩)
theorem se_ptup {es : List Ex} (h : SEs cal tb k es) : SE cal tb k (.ptup es) := by
  intro S X x γ d γ' c hc he
  cases x <;> try (exact Bool.noConfusion (show false = true from hc))
  simp only [ev] at he
  obtain ⟨⟨vs, γ1⟩, e1, he⟩ := bnd he
  obtain ⟨ds, e2, he⟩ := bnd he
  obtain ⟨g, he⟩ := gd_some he
  cases he
  exact ew_ptup (AW.th (h S X _ γ vs _ c hc e1) ⟨ds, e2, of_decide_eq_true g, rfl, rfl⟩)
theorem se_lst {es : List Ex} (h : SEs cal tb k es) : SE cal tb k (.lst es) := by
  intro S X x γ d γ' c hc he
  cases x <;> try (exact Bool.noConfusion (show false = true from hc))
  simp only [ev] at he
  obtain ⟨⟨vs, γ1⟩, e1, he⟩ := bnd he
  obtain ⟨ds, e2, he⟩ := bnd he
  obtain ⟨g, he⟩ := gd_some he
  cases he
  exact ew_lst (AW.th (h S X _ γ vs _ c hc e1) ⟨ds, e2, of_decide_eq_true g, rfl, rfl⟩)
theorem se_dnew : SE cal tb k .dnew := by
  intro S X x γ d γ' c hc he
  have sh : ∃ p, x = .Dict [] [] p := by
    cases x <;> try (exact Bool.noConfusion (show false = true from hc))
    rename_i ks vs p
    match ks, vs, hc with
    | [], [], _ => exact ⟨p, rfl⟩
    | [], _ :: _, hc => exact Bool.noConfusion (show false = true from hc)
    | _ :: _, _, hc => exact Bool.noConfusion (show false = true from hc)
  obtain ⟨p, rfl⟩ := sh
  simp only [ev] at he
  cases he
  intro A F H σ fm Q q
  refine ⟨_, pe_dnewK, fun a na => ?_⟩
  refine q _ γ _ F _ ⟨rfl, rfl⟩ (Stp.alloc na) (fm.alloc na) ⟨a, rfl, ⟨⟨[], upd_same, .nil⟩, fm.fnone na⟩, fun b m => ?_⟩
  rcases List.mem_cons.mp m with rfl | m
  · exact ⟨fm.h0 na, fm.notOwn na, na⟩
  · cases m
/-- the shape of a call by a name -/
theorem se_call {f : Nat} {es : List Ex} (h : SEs cal tb k es) : SE cal tb k (.call f es) := by
  intro S X x γ d γ' c hc he
  have sh : ∃ y p xs q, x = .Call (.Name y p) xs [] q ∧ (decide (tb.fn[f]?.map (·.name) = some y) && glB S.sc y && dbgB y && xs.all (fun e => !stB e) && chkEs tb S es xs) = true := by
    cases x <;> try (exact Bool.noConfusion (show false = true from hc))
    rename_i fn as kw pos
    cases fn <;> try (exact Bool.noConfusion (show false = true from hc))
    rename_i y p
    match kw, hc with
    | [], hc => exact ⟨y, p, as, pos, rfl, hc⟩
    | _ :: _, hc => exact Bool.noConfusion (show false = true from hc)
  obtain ⟨y, p, xs, q, rfl, h1⟩ := sh
  obtain ⟨h1, h5⟩ := an h1
  obtain ⟨h1, h4⟩ := an h1
  obtain ⟨h1, h3⟩ := an h1
  obtain ⟨h1, h2⟩ := an h1
  obtain ⟨fd, hf, hy⟩ := mpd (of_decide_eq_true h1)
  have C := c.fns f fd hf
  rw [show fd.name = y from hy] at C
  simp only [ev] at he
  obtain ⟨⟨vs, γ1⟩, e1, he⟩ := bnd he
  obtain ⟨as, e2, he⟩ := bnd he
  obtain ⟨g, he⟩ := gd_some he
  obtain ⟨⟨r, os⟩, e3, he⟩ := bnd he
  obtain ⟨g2, he⟩ := gd_some he
  have hn : (plOf vs).Nodup := of_decide_eq_true g
  have rt : rtD r := by cases r <;> first | trivial | exact Bool.noConfusion (show false = true from g2)
  cases he
  cases xs with
  | nil =>
    have ez : es = [] := by
      cases es with
      | nil => rfl
      | cons e es => exfalso; cases e <;> exact Bool.noConfusion (show false = true from h5)
    subst ez
    simp only [evs] at e1
    cases e1
    cases e2
    exact ew_call0 C c.room (Nat.le_refl _) ⟨_, _, e3, rt, rt, rfl, by show γ = putP γ [] os; unfold putP; rfl⟩ (c.gl h2) (dbg h3).1
  | cons x xs =>
    obtain ⟨h6, h7⟩ := an (show (!stB x && xs.all (fun e => !stB e)) = true from h4)
    exact ew_call C c.room (Nat.le_refl _) (AW.th (h S X (x :: xs) γ vs γ1 c h5 e1) ⟨as, e2, hn, _, _, e3, rt, rt, rfl, rfl⟩) (c.gl h2) (dbg h3).1 (stE (nt h6)) (stAll h7)
end
end RI

/-! RI: expressions: what is built in. -/
namespace RI
open PySem PySem.Spec PyProof.Rows L2 VY
theorem insI_perm (n : Int) : ∀ ns : List Int, (insI n ns).Perm (n :: ns)
  | [] => List.Perm.refl _
  | m :: r => by
    unfold insI
    split
    · exact List.Perm.refl _
    · exact ((insI_perm n r).cons m).trans (List.Perm.swap _ _ _)
theorem sortI_perm : ∀ ns : List Int, (sortI ns).Perm ns
  | [] => List.Perm.refl _
  | n :: ns => (insI_perm n (sortI ns)).trans ((sortI_perm ns).cons n)
theorem insI_ris (n : Int) : ∀ {ns : List Int}, ns.Pairwise (· ≤ ·) → (insI n ns).Pairwise (· ≤ ·)
  | [], _ => List.pairwise_singleton _ _
  | m :: r, h => by
    obtain ⟨h1, h2⟩ := List.pairwise_cons.mp h
    unfold insI
    split
    · rename_i hle
      refine List.pairwise_cons.mpr ⟨fun a ha => ?_, h⟩
      rcases List.mem_cons.mp ha with rfl | ha
      · exact hle
      · exact Int.le_trans hle (h1 a ha)
    · rename_i hle
      refine List.pairwise_cons.mpr ⟨fun a ha => ?_, insI_ris n h2⟩
      rcases List.mem_cons.mp ((insI_perm n r).mem_iff.mp ha) with rfl | ha
      · omega
      · exact h1 a ha
theorem sortI_ris : ∀ ns : List Int, (sortI ns).Pairwise (· ≤ ·)
  | [] => List.Pairwise.nil
  | n :: ns => insI_ris n (sortI_ris ns)
theorem sortI_uniq {ns ms : List Int} (h1 : ms.Perm ns) (h2 : ms.Pairwise (· ≤ ·)) : ms = sortI ns :=
  List.Perm.eq_of_pairwise (le := fun a b : Int => a ≤ b) (fun u v _ _ a1 a2 => Int.le_antisymm a1 a2) h2 (sortI_ris ns) (h1.trans (sortI_perm ns).symm)
theorem insL_perm (n : List Int) : ∀ ns : List (List Int), (insL n ns).Perm (n :: ns)
  | [] => List.Perm.refl _
  | m :: r => by
    unfold insL
    split
    · exact ((insL_perm n r).cons m).trans (List.Perm.swap _ _ _)
    · exact List.Perm.refl _
theorem sortL_perm : ∀ ns : List (List Int), (sortL ns).Perm ns
  | [] => List.Perm.refl _
  | n :: ns => (insL_perm n (sortL ns)).trans ((sortL_perm ns).cons n)
theorem insL_ris (n : List Int) : ∀ {ns : List (List Int)}, ns.Pairwise lexLe → (insL n ns).Pairwise lexLe
  | [], _ => List.pairwise_singleton _ _
  | m :: r, h => by
    obtain ⟨h1, h2⟩ := List.pairwise_cons.mp h
    unfold insL
    split
    · rename_i hle
      refine List.pairwise_cons.mpr ⟨fun a ha => ?_, insL_ris n h2⟩
      rcases List.mem_cons.mp ((insL_perm n r).mem_iff.mp ha) with rfl | ha
      · exact SrtN.lexN_asym _ _ hle
      · exact h1 a ha
    · rename_i hle
      have hle : SrtN.lexN m n = false := by
        cases e : SrtN.lexN m n with
        | true => exact absurd e hle
        | false => rfl
      refine List.pairwise_cons.mpr ⟨fun a ha => ?_, h⟩
      rcases List.mem_cons.mp ha with rfl | ha
      · exact hle
      · exact SrtN.lexN_tr _ _ _ hle (h1 a ha)
theorem sortL_ris : ∀ ns : List (List Int), (sortL ns).Pairwise lexLe
  | [] => List.Pairwise.nil
  | n :: ns => insL_ris n (sortL_ris ns)
theorem rows_of : ∀ {ds : List D} {qs : List (List Int)}, rowsI ds = some qs → ds = qs.map rowD ∧ ∀ q ∈ qs, q ≠ []
  | [], qs, h => by cases h; exact ⟨rfl, nofun⟩
  | d :: r, qs, h => by
    cases d with
    | tup ts =>
      obtain ⟨ns, e1, h⟩ := bnd (show (intsI ts).bind (fun ns => gd (!ns.isEmpty) ((rowsI r).map (ns :: ·))) = some qs from h)
      obtain ⟨g, h⟩ := gd_some h
      obtain ⟨ms, e2, rfl⟩ := mpd h
      obtain ⟨h1, h2⟩ := rows_of e2
      refine ⟨?_, fun q hq => ?_⟩
      · rw [List.map_cons, ← h1, ints_of e1]
        rfl
      · rcases List.mem_cons.mp hq with rfl | hq
        · intro z; subst z; cases g
        · exact h2 q hq
    | _ => cases h
theorem kvs_of : ∀ {ds : List D} {kvs : List (Key × D)}, kvsI ds = some kvs → ds = kvs.map itemD
  | [], kvs, h => by cases h; rfl
  | d :: r, kvs, h => by
    unfold kvsI at h
    split at h
    · rename_i e; cases e
    · rename_i a b r' e
      cases e
      obtain ⟨k, e1, h⟩ := bnd h
      obtain ⟨ms, e2, rfl⟩ := mpd h
      rw [List.map_cons, ← kvs_of e2]
      congr 1
      cases a <;> cases e1 <;> rfl
    · cases h
section
variable {cal : Cal'} {tb : Tb} {k : Nat} {S : SC} {X : Cx}
theorem b1_shape {b : B1} {e : Ex} {x : Expr} (hc : chkE tb S (.b1 b e) x = true) : ∃ p y q, x = .Call (.Name (b1N b) p) [y] [] q ∧ b1N b ≠ "" ∧ glB S.sc (b1N b) = true ∧ stB y = false ∧ chkE tb S e y = true := by
  cases x <;> try (exact Bool.noConfusion (show false = true from hc))
  rename_i fn as kw pos
  cases fn <;> try (exact Bool.noConfusion (show false = true from hc))
  rename_i x p
  match as, kw, hc with
  | [], kw, hc => exact Bool.noConfusion (show false = true from hc)
  | _ :: _ :: _, kw, hc => exact Bool.noConfusion (show false = true from hc)
  | [y], _ :: _, hc => exact Bool.noConfusion (show false = true from hc)
  | [y], [], hc =>
    obtain ⟨h1, h5⟩ := an (show (decide (x = b1N b) && decide (x ≠ "") && glB S.sc x && !stB y && chkE tb S e y) = true from hc)
    obtain ⟨h1, h4⟩ := an h1
    obtain ⟨h1, h3⟩ := an h1
    obtain ⟨h1, h2⟩ := an h1
    have e1 : x = b1N b := of_decide_eq_true h1
    subst e1
    exact ⟨p, y, pos, rfl, of_decide_eq_true h2, h3, nt h4, h5⟩
theorem intB_of {v z : Dv} (h : intBI v = some z) : (∃ i, v = .dat (.int i) ∧ z = .dat (.int i)) ∨ ∃ k, v = .dat (.bl k) ∧ z = .dat (.int (if k then 1 else 0)) := by
  unfold intBI at h
  split at h <;> cases h
  · exact .inl ⟨_, rfl, rfl⟩
  · exact .inr ⟨_, rfl, rfl⟩
theorem sum_of {γ : List Dsc} {v z : Dv} (h : sumI γ v = some z) : ∃ ns : List Int, z = .dat (.int ns.sum) ∧ (v = .dat (.tup (ns.map .int)) ∨ Lst γ v (ns.map .int)) := by
  unfold sumI at h
  split at h
  · obtain ⟨ns, f1, rfl⟩ := mpd h
    exact ⟨ns, rfl, .inl (by rw [ints_of f1])⟩
  · obtain ⟨ds, f0, h⟩ := bnd h
    obtain ⟨ns, f1, rfl⟩ := mpd h
    exact ⟨ns, rfl, .inr (by rw [← ints_of f1]; exact lst_of f0)⟩
theorem sorted_of {ds : List D} {z : Dv} (h : sortdI ds = some z) : (∃ ns : List Int, ds = ns.map .int ∧ z = .new (.l ((sortI ns).map .int))) ∨ ∃ qs : List (List Int), ds = qs.map rowD ∧ (∀ q ∈ qs, q ≠ []) ∧ z = .new (.l ((sortL qs).map rowD)) := by
  unfold sortdI at h
  split at h
  · rename_i ns e
    cases h
    exact .inl ⟨ns, ints_of e, rfl⟩
  · obtain ⟨qs, e, rfl⟩ := mpd h
    exact .inr ⟨qs, (rows_of e).1, (rows_of e).2, rfl⟩
theorem dict_of {γ : List Dsc} {x z : Dv} (h : dictI γ x = some z) : ∃ kvs : List (Key × D), (x = .dat (.pt (kvs.map itemD)) ∨ Lst γ x (kvs.map itemD)) ∧ (kvs.map Prod.fst).Nodup ∧ z = .new (.cl (.dct kvs)) := by
  unfold dictI at h
  obtain ⟨ds, e, h⟩ := bnd h
  obtain ⟨kvs, e1, h⟩ := bnd h
  obtain ⟨g, h⟩ := gd_some h
  cases h
  refine ⟨kvs, ?_, of_decide_eq_true g, rfl⟩
  rw [← kvs_of e1]
  split at e
  · cases e; exact .inl rfl
  · exact .inr (lst_of e)
theorem se_b1 {b : B1} {e : Ex} (h : SE cal tb k e) : SE cal tb k (.b1 b e) := by
  intro S X x γ d γ' c hc he
  obtain ⟨p, y, q, rfl, h1, h2, h3, h4⟩ := b1_shape hc
  simp only [ev] at he
  obtain ⟨⟨v, γ1⟩, e1, he⟩ := bnd he
  obtain ⟨z, e2, he⟩ := mpd he
  cases he
  have A := h S X y γ v γ1 c h4 e1
  have s1 := stE (es := []) (env := X.env) h3
  have g := c.gl h2
  cases b with
  | len =>
    obtain ⟨ds, f1, rfl⟩ := mpd (show (sqI γ1 v).map (fun ds => Dv.dat (.int ds.length)) = some _ from e2)
    exact ew_len (c.b "len") (EW.th A ⟨ds, sq_of f1, rfl, rfl⟩) g s1
  | int =>
    rcases intB_of (show intBI v = some _ from e2) with ⟨i, rfl, rfl⟩ | ⟨i, rfl, rfl⟩
    · exact ew_int1 (c.b "int") (EW.th A (.inl ⟨_, rfl, rfl, rfl⟩)) g s1
    · exact ew_int1 (c.b "int") (EW.th A (.inr ⟨_, rfl, rfl, rfl⟩)) g s1
  | abs =>
    obtain ⟨i, f1, rfl⟩ := mpd (show (intI v).map (fun i => Dv.dat (.int (if i < 0 then -i else i))) = some _ from e2)
    exact ew_abs (c.b "abs") (EW.th A ⟨i, int_of f1, rfl, rfl⟩) g s1
  | sum =>
    obtain ⟨ns, rfl, rfl | hl⟩ := sum_of (show sumI γ1 v = some _ from e2)
    · exact ew_sumT c.calm (c.b "sum") (EW.th A ⟨ns, rfl, rfl, rfl⟩) g s1
    · exact ew_sum c.calm (c.b "sum") (EW.th A ⟨ns, hl, rfl, rfl⟩) g s1
  | all =>
    obtain ⟨ds, f0, e3⟩ := bnd (show (lstI γ1 v).bind (fun ds => (blsI ds).map fun ns => Dv.dat (.bl (ns.all id))) = some _ from e2)
    obtain ⟨ns, f1, rfl⟩ := mpd e3
    exact ew_all c.calm (c.b "all") (EW.th A ⟨ns, by rw [← bls_of f1]; exact lst_of f0, rfl, rfl⟩) g s1
  | any =>
    obtain ⟨ds, f0, e3⟩ := bnd (show (lstI γ1 v).bind (fun ds => (blsI ds).map fun ns => Dv.dat (.bl (ns.any id))) = some _ from e2)
    obtain ⟨ns, f1, rfl⟩ := mpd e3
    exact ew_any c.calm (c.b "any") (EW.th A ⟨ns, by rw [← bls_of f1]; exact lst_of f0, rfl, rfl⟩) g s1
  | list =>
    obtain ⟨ds, f1, rfl⟩ := mpd (show (sqI γ1 v).map (fun ds => Dv.new (.l ds)) = some _ from e2)
    exact ew_list (c.b "list") (EW.th A ⟨ds, sq_of f1, rfl, rfl⟩) g s1
  | tuple =>
    obtain ⟨gg, e3⟩ := gd_some (show gd (!ptB v) ((sqI γ1 v).map (fun ds => Dv.dat (.tup ds))) = some _ from e2)
    obtain ⟨ds, f1, rfl⟩ := mpd e3
    exact ew_tuple (c.b "tuple") (EW.th A ⟨ds, sq_of f1, nt gg, rfl, rfl⟩) g s1
  | sorted =>
    obtain ⟨ds, f0, e3⟩ := bnd (show (lstI γ1 v).bind sortdI = some _ from e2)
    rcases sorted_of e3 with ⟨ns, rfl, rfl⟩ | ⟨qs, rfl, hr, rfl⟩
    · exact ew_sortedI (c.b "sorted") (EW.th A ⟨ns, lst_of f0, fun ns' hp hs => ⟨by rw [sortI_uniq hp hs], rfl⟩⟩) g s1
    · exact ew_sortedN (c.b "sorted") (EW.th A ⟨qs, _, lst_sq (lst_of f0), hr, sortL_perm qs, sortL_ris qs, rfl, rfl⟩) g s1
  | sortedR => exact absurd rfl h1
  | dict =>
    obtain ⟨kvs, hd, nd, rfl⟩ := dict_of (show dictI γ1 v = some _ from e2)
    exact ew_dict c.calm (c.b "dict") (EW.th A ⟨kvs, hd, nd, rfl, rfl⟩) g s1
theorem se_sortR {e : Ex} (h : SE cal tb k e) : SE cal tb k (.sortR e) := by
  intro S X x γ d γ' c hc he
  have sh : ∃ p y n p1 p2 q, x = .Call (.Name "sorted" p) [y] [⟨some "reverse", .Constant (.bool true) n p1, p2⟩] q ∧ glB S.sc "sorted" = true ∧ stB y = false ∧ chkE tb S e y = true := by
    unfold chkE at hc
    split at hc <;> first | (rename_i h; cases h) | skip
    all_goals first | (rename_i h _; cases h) | skip
    all_goals first | cases hc | skip
    rename_i x p y k n p1 p2 q _
    obtain ⟨h1, h5⟩ := an hc
    obtain ⟨h1, h4⟩ := an h1
    obtain ⟨h1, h3⟩ := an h1
    obtain ⟨h1, h2⟩ := an h1
    have e1 := of_decide_eq_true h1
    have e2 := of_decide_eq_true h2
    subst e1 e2
    exact ⟨_, _, _, _, _, _, rfl, h3, nt h4, h5⟩
  obtain ⟨p, y, n, p1, p2, q, rfl, h2, h3, h4⟩ := sh
  simp only [ev] at he
  obtain ⟨⟨v, γ1⟩, e1, he⟩ := bnd he
  obtain ⟨z, e2, he⟩ := mpd he
  cases he
  obtain ⟨ds, f1, e2⟩ := bnd e2
  obtain ⟨qs, e3, rfl⟩ := mpd (show (rowsI ds).map (fun qs => Dv.new (.l ((sortL qs).reverse.map rowD))) = some _ from e2)
  obtain ⟨r1, r2⟩ := rows_of e3
  subst r1
  exact ew_sortedNR (c.b "sorted") (EW.th (h S X y γ v γ1 c h4 e1) ⟨qs, _, sq_of f1, r2, sortL_perm qs, sortL_ris qs, rfl, rfl⟩) (c.gl h2) (stE (es := []) (env := X.env) h3)
theorem se_lrg {e : Ex} (h : SE cal tb k e) : SE cal tb k (.lrg e) := by
  intro S X x γ d γ' c hc he
  have sh : ∃ p p2 y q q2, x = .Call (.Name "list" p) [.Call (.Name "range" p2) [y] [] q2] [] q ∧ glB S.sc "list" = true ∧ glB S.sc "range" = true ∧ stB y = false ∧ chkE tb S e y = true := by
    cases x <;> try (exact Bool.noConfusion (show false = true from hc))
    rename_i fn as kw pos
    cases fn <;> try (exact Bool.noConfusion (show false = true from hc))
    rename_i x p
    match as, kw, hc with
    | [], kw, hc => exact Bool.noConfusion (show false = true from hc)
    | [y], kw, hc =>
      cases y <;> try (exact Bool.noConfusion (show false = true from hc))
      rename_i f2 as2 kw2 q2
      cases f2 <;> try (exact Bool.noConfusion (show false = true from hc))
      rename_i y2 p2
      match as2, kw2, kw, hc with
      | [], _, _, hc => exact Bool.noConfusion (show false = true from hc)
      | _ :: _ :: _, _, _, hc => exact Bool.noConfusion (show false = true from hc)
      | [z], _ :: _, _, hc => exact Bool.noConfusion (show false = true from hc)
      | [z], [], _ :: _, hc => exact Bool.noConfusion (show false = true from hc)
      | [z], [], [], hc =>
        obtain ⟨h1, h6⟩ := an (show (decide (x = "list") && decide (y2 = "range") && glB S.sc x && glB S.sc y2 && !stB z && chkE tb S e z) = true from hc)
        obtain ⟨h1, h5⟩ := an h1
        obtain ⟨h1, h4⟩ := an h1
        obtain ⟨h1, h3⟩ := an h1
        obtain ⟨h1, h2⟩ := an h1
        have e1 : x = "list" := of_decide_eq_true h1
        have e2 : y2 = "range" := of_decide_eq_true h2
        subst e1 e2
        exact ⟨p, p2, z, pos, q2, rfl, h3, h4, nt h5, h6⟩
    | y :: _ :: _, kw, hc =>
      cases y <;> try (exact Bool.noConfusion (show false = true from hc))
      rename_i f2 as2 kw2 q2
      cases f2 <;> try (exact Bool.noConfusion (show false = true from hc))
      match as2, kw2, hc with
      | [], _, hc => exact Bool.noConfusion (show false = true from hc)
      | _ :: _ :: _, _, hc => exact Bool.noConfusion (show false = true from hc)
      | [z], _ :: _, hc => exact Bool.noConfusion (show false = true from hc)
      | [z], [], hc => exact Bool.noConfusion (show false = true from hc)
  obtain ⟨p, p2, y, q, q2, rfl, h1, h2, h3, h4⟩ := sh
  simp only [ev] at he
  obtain ⟨⟨v, γ1⟩, e1, he⟩ := bnd he
  obtain ⟨n, e2, he⟩ := bnd he
  obtain ⟨g, he⟩ := gd_some he
  cases he
  obtain ⟨g1, g2⟩ := an g
  exact ew_listRg c.calm (c.b "list") (c.b "range") (EW.th (h S X y γ v _ c h4 e1) ⟨n, int_of e2, of_decide_eq_true g1, of_decide_eq_true g2, rfl, rfl⟩) (c.gl h1) (c.gl h2) (stE h3)
theorem se_min2 {a b : Ex} (ha : SE cal tb k a) (hb : SE cal tb k b) : SE cal tb k (.min2 a b) := by
  intro S X x γ d γ' c hc he
  have sh : ∃ p y z q, x = .Call (.Name "min" p) [y, z] [] q ∧ glB S.sc "min" = true ∧ stB y = false ∧ stB z = false ∧ chkE tb S a y = true ∧ chkE tb S b z = true := by
    cases x <;> try (exact Bool.noConfusion (show false = true from hc))
    rename_i fn as kw pos
    cases fn <;> try (exact Bool.noConfusion (show false = true from hc))
    rename_i x p
    match as, kw, hc with
    | [], kw, hc => exact Bool.noConfusion (show false = true from hc)
    | [_], kw, hc => exact Bool.noConfusion (show false = true from hc)
    | _ :: _ :: _ :: _, kw, hc => exact Bool.noConfusion (show false = true from hc)
    | [y, z], _ :: _, hc => exact Bool.noConfusion (show false = true from hc)
    | [y, z], [], hc =>
      obtain ⟨h1, h6⟩ := an (show (decide (x = "min") && glB S.sc x && !stB y && !stB z && chkE tb S a y && chkE tb S b z) = true from hc)
      obtain ⟨h1, h5⟩ := an h1
      obtain ⟨h1, h4⟩ := an h1
      obtain ⟨h1, h3⟩ := an h1
      obtain ⟨h1, h2⟩ := an h1
      have e1 : x = "min" := of_decide_eq_true h1
      subst e1
      exact ⟨p, y, z, pos, rfl, h2, nt h3, nt h4, h5, h6⟩
  obtain ⟨p, y, z, q, rfl, h1, h2, h3, h4, h5⟩ := sh
  simp only [ev] at he
  obtain ⟨⟨v, γ1⟩, e1, he⟩ := bnd he
  obtain ⟨⟨w, γ2⟩, e2, he⟩ := bnd he
  obtain ⟨i, f1, he⟩ := bnd he
  obtain ⟨j, f2, he⟩ := mpd he
  cases he
  exact ew_min2 c.calm (c.b "min") (EW.th (ha S X y γ v γ1 c h4 e1) (EW.th (hb S X z γ1 w _ c h5 e2) ⟨i, j, int_of f1, int_of f2, rfl, rfl⟩)) (c.gl h1) (stE h2) (stE h3) (stAll (by rw [List.all_cons, h3]; rfl))
end
end RI

/-! RI: expressions: isinstance, methods of lists, what is walked, comprehensions. -/
namespace RI
open PySem PySem.Spec PyProof.Rows L2 VY
section
variable {cal : Cal'} {tb : Tb} {k : Nat} {S : SC} {X : Cx}
def tyNames : List Str := ["int", "bool", "list", "tuple", "str"]
theorem CtxOk.ty (c : CtxOk cal tb k S X) {t : Str} (h : t ∈ (["int", "bool", "list", "tuple", "str"] : List Str)) : X.mg t = none := by
  refine c.bi t ?_
  simp only [List.mem_cons, List.not_mem_nil, or_false] at h
  rcases h with rfl | rfl | rfl | rfl | rfl <;> decide
theorem isin_call {e : Ex} {ts : List String} {x : Expr} (hc : chkE tb S (.isin e ts) x = true) : ∃ y p as kw pos, x = .Call (.Name y p) as kw pos := by
  match ts with
  | [] => cases x <;> exact Bool.noConfusion (show false = true from hc)
  | _ :: _ :: _ :: _ => cases x <;> exact Bool.noConfusion (show false = true from hc)
  | [t] =>
    cases x with
    | Call fn as kw pos =>
      cases fn with
      | Name y p => exact ⟨y, p, as, kw, pos, rfl⟩
      | _ => exact Bool.noConfusion (show false = true from hc)
    | _ => exact Bool.noConfusion (show false = true from hc)
  | [s, t] =>
    cases x with
    | Call fn as kw pos =>
      cases fn with
      | Name y p => exact ⟨y, p, as, kw, pos, rfl⟩
      | _ => exact Bool.noConfusion (show false = true from hc)
    | _ => exact Bool.noConfusion (show false = true from hc)
theorem isin2_shape {e : Ex} {s t : String} {x : Expr} (hc : chkE tb S (.isin e [s, t]) x = true) : ∃ x' p y s' ps t' pt kk p2 pos, x = .Call (.Name x' p) [y, .Tuple [.Name s' ps, .Name t' pt] kk p2] [] pos := by
  obtain ⟨x', p, as, kw, pos, rfl⟩ := isin_call hc
  have bad : ∀ {a b : Expr} {r : List Expr} {y : Expr} {kk : Nat} {p2 : Pos} {tl : List Expr} {kw : List Keyword}, chkE tb S (.isin e [s, t]) (.Call (.Name x' p) (y :: .Tuple (a :: b :: r) kk p2 :: tl) kw pos) = true → (∃ s' ps, a = .Name s' ps) ∧ ∃ t' pt, b = .Name t' pt := fun {a b r y kk p2 tl kw} h => by
    cases a with
    | Name s' ps =>
      cases b with
      | Name t' pt => exact ⟨⟨_, _, rfl⟩, _, _, rfl⟩
      | _ => exact Bool.noConfusion (show false = true from h)
    | _ => exact Bool.noConfusion (show false = true from h)
  match as, hc with
  | [], hc => exact Bool.noConfusion (show false = true from hc)
  | [_], hc => exact Bool.noConfusion (show false = true from hc)
  | y :: z :: r, hc =>
    cases z with
    | Tuple es kk p2 =>
      match es, hc with
      | [], hc => exact Bool.noConfusion (show false = true from hc)
      | [a], hc => cases a <;> exact Bool.noConfusion (show false = true from hc)
      | a :: b :: es, hc =>
        obtain ⟨⟨s', ps, rfl⟩, t', pt, rfl⟩ := bad hc
        match es, r, kw, hc with
        | [], [], [], hc => exact ⟨x', p, y, s', ps, t', pt, kk, p2, pos, rfl⟩
        | _ :: _, _, _, hc => exact Bool.noConfusion (show false = true from hc)
        | [], _ :: _, _, hc => exact Bool.noConfusion (show false = true from hc)
        | [], [], _ :: _, hc => exact Bool.noConfusion (show false = true from hc)
    | _ => exact Bool.noConfusion (show false = true from hc)
theorem se_isin {e : Ex} {ts : List String} (h : SE cal tb k e) : SE cal tb k (.isin e ts) := by
  intro S X x γ d γ' c hc he
  simp only [ev] at he
  obtain ⟨⟨v, γ1⟩, e1, he⟩ := bnd he
  obtain ⟨kd, e2, he⟩ := bnd he
  obtain ⟨b, e3, he⟩ := mpd he
  cases he
  match ts, hc, e3 with
  | [], hc, e3 => cases e3
  | _ :: _ :: _ :: _, hc, e3 => cases e3
  | [t], hc, e3 =>
    rcases isin_call hc with ⟨x, p, as, kw, pos, rfl⟩
    match as, kw, hc with
    | [], kw, hc => exact Bool.noConfusion (show false = true from hc)
    | [_], kw, hc => exact Bool.noConfusion (show false = true from hc)
    | [y, z], _ :: _, hc => cases z <;> exact Bool.noConfusion (show false = true from hc)
    | [y, z], [], hc =>
      cases z with
      | Name t' p2 =>
        obtain ⟨h1, h8⟩ := an (show (decide (x = "isinstance") && glB S.sc x && glB S.sc t' && !stB y && decide (bootBuiltins t' = some (.type t)) && dbgB t' && decide (t' ∈ (["int", "bool", "list", "tuple", "str"] : List Str)) && chkE tb S e y) = true from hc)
        obtain ⟨h1, h7⟩ := an h1
        obtain ⟨h1, h6⟩ := an h1
        obtain ⟨h1, h5⟩ := an h1
        obtain ⟨h1, h4⟩ := an h1
        obtain ⟨h1, h3⟩ := an h1
        obtain ⟨h1, h2⟩ := an h1
        have e4 : x = "isinstance" := of_decide_eq_true h1
        subst e4
        obtain ⟨q1, _, q3⟩ := dbg h6
        exact ew_isi (T := t) (c.b "isinstance") (c.ty (of_decide_eq_true h7)) (of_decide_eq_true h5) (EW.th (h S X y γ v _ c h8 e1) ⟨kd, b, e2, e3, rfl, rfl⟩) (c.gl h2) (c.gl h3) q3 q1 (stE (nt h4)) (by rfl) (by rfl)
      | _ => exact Bool.noConfusion (show false = true from hc)
    | _ :: z :: _ :: _, _, hc => cases z <;> exact Bool.noConfusion (show false = true from hc)
  | [s, t], hc, e3 =>
    obtain ⟨x, p, y, s', ps, t', pt, kk, p2, pos, rfl⟩ := isin2_shape hc
    obtain ⟨h1, h12⟩ := an (show (decide (x = "isinstance") && glB S.sc x && glB S.sc s' && glB S.sc t' && !stB y && decide (bootBuiltins s' = some (.type s)) && decide (bootBuiltins t' = some (.type t)) && dbgB s' && dbgB t' && decide (s' ∈ (["int", "bool", "list", "tuple", "str"] : List Str)) && decide (t' ∈ (["int", "bool", "list", "tuple", "str"] : List Str)) && chkE tb S e y) = true from hc)
    obtain ⟨h1, h11⟩ := an h1
    obtain ⟨h1, h10⟩ := an h1
    obtain ⟨h1, h9⟩ := an h1
    obtain ⟨h1, h8⟩ := an h1
    obtain ⟨h1, h7⟩ := an h1
    obtain ⟨h1, h6⟩ := an h1
    obtain ⟨h1, h5⟩ := an h1
    obtain ⟨h1, h4⟩ := an h1
    obtain ⟨h1, h3⟩ := an h1
    obtain ⟨h1, h2⟩ := an h1
    have e4 : x = "isinstance" := of_decide_eq_true h1
    subst e4
    obtain ⟨q1, _, q3⟩ := dbg h8
    obtain ⟨r1, _, r3⟩ := dbg h9
    obtain ⟨a1, f1, e3⟩ := bnd (show (kitB kd s).bind (fun a => (kitB kd t).map fun b => a || b) = some b from e3)
    obtain ⟨b1, f2, rfl⟩ := mpd e3
    exact ew_isi2 (S := s) (T := t) (c.b "isinstance") (c.ty (of_decide_eq_true h10)) (of_decide_eq_true h6) (c.ty (of_decide_eq_true h11)) (of_decide_eq_true h7) (EW.th (h S X y γ v _ c h12 e1) ⟨kd, a1, b1, e2, f1, f2, rfl, rfl⟩) (c.gl h2) (c.gl h3) q3 q1 (c.gl h4) r3 r1 (stE (nt h5)) (by rfl) (by rfl) (by rfl) (by rfl)
theorem few1 {e : Expr} {env : Env} {cp : Pos} (h : stB e = false) : ((backTo cp (starEach [e] env)).all (fun x => !x.1) && (backToKw cp (keywordEach [] env)).all (fun x => x.1.isSome)
      && decide (([e] : List Expr).length + ([] : List Keyword).length + (if ([] : List Keyword).isEmpty then 0 else 1) < 30)) = true := by
  rw [stE h]
  rfl
theorem few2 {e f : Expr} {env : Env} {cp : Pos} (h : stB e = false) (h2 : stB f = false) : ((backTo cp (starEach [e, f] env)).all (fun x => !x.1) && (backToKw cp (keywordEach [] env)).all (fun x => x.1.isSome)
      && decide (([e, f] : List Expr).length + ([] : List Keyword).length + (if ([] : List Keyword).isEmpty then 0 else 1) < 30)) = true := by
  rw [stE h, stE h2]
  rfl
theorem sets_of {γ γ' : List Dsc} {x : Dv} {ds : List D} (h : setsI γ x ds = some γ') : plc x = true ∧ setC γ x (.lst ds) = γ' := by
  obtain ⟨g, h⟩ := gd_some h
  exact ⟨g, Option.some.inj h⟩
theorem se_app {o e : Ex} (ho : SE cal tb k o) (h : SE cal tb k e) : SE cal tb k (.app o e) := by
  intro S X x γ d γ' c hc he
  have sh : ∃ y ap z cp, x = .Call (.Attribute y "append" ap) [z] [] cp ∧ ap.endLine = cp.line ∧ atB y = true ∧ stB z = false ∧ chkE tb S o y = true ∧ chkE tb S e z = true := by
    cases x <;> try (exact Bool.noConfusion (show false = true from hc))
    rename_i fn as kw pos
    cases fn <;> try (exact Bool.noConfusion (show false = true from hc))
    rename_i y m ap
    match as, kw, hc with
    | [], kw, hc => exact Bool.noConfusion (show false = true from hc)
    | _ :: _ :: _, kw, hc => exact Bool.noConfusion (show false = true from hc)
    | [z], _ :: _, hc => exact Bool.noConfusion (show false = true from hc)
    | [z], [], hc =>
      obtain ⟨h1, h6⟩ := an (show (decide (m = "append") && decide (ap.endLine = pos.line) && atB y && !stB z && chkE tb S o y && chkE tb S e z) = true from hc)
      obtain ⟨h1, h5⟩ := an h1
      obtain ⟨h1, h4⟩ := an h1
      obtain ⟨h1, h3⟩ := an h1
      obtain ⟨h1, h2⟩ := an h1
      have e1 : m = "append" := of_decide_eq_true h1
      subst e1
      exact ⟨y, ap, z, pos, rfl, of_decide_eq_true h2, h3, nt h4, h5, h6⟩
  obtain ⟨y, ap, z, cp, rfl, h1, h2, h3, h4, h5⟩ := sh
  simp only [ev] at he
  obtain ⟨⟨v, γ1⟩, e1, he⟩ := bnd he
  obtain ⟨ds0, e0, he⟩ := bnd he
  obtain ⟨⟨w, γ2⟩, e2, he⟩ := bnd he
  obtain ⟨dd, e3, he⟩ := bnd he
  obtain ⟨ds, e4, he⟩ := bnd he
  obtain ⟨g, he⟩ := gd_some he
  obtain ⟨γ3, e5, he⟩ := mpd he
  cases he
  obtain ⟨p1, p2⟩ := sets_of e5
  exact ew_append (EW.th (ho S X y γ v γ1 c h4 e1) ⟨p1, ⟨ds0, lst_of e0⟩, EW.th (h S X z γ1 w γ2 c h5 e2) ⟨dd, ds, e3, lst_of e4, of_decide_eq_true g, rfl, p2⟩⟩) (atE h2) (few1 h3) (by rw [h1]; exact beq_self_eq_true _) (stE h3)
theorem se_ext {o e : Ex} (ho : SE cal tb k o) (h : SE cal tb k e) : SE cal tb k (.ext o e) := by
  intro S X x γ d γ' c hc he
  have sh : ∃ y ap z cp, x = .Call (.Attribute y "extend" ap) [z] [] cp ∧ ap.endLine = cp.line ∧ atB y = true ∧ stB z = false ∧ chkE tb S o y = true ∧ chkE tb S e z = true := by
    cases x <;> try (exact Bool.noConfusion (show false = true from hc))
    rename_i fn as kw pos
    cases fn <;> try (exact Bool.noConfusion (show false = true from hc))
    rename_i y m ap
    match as, kw, hc with
    | [], kw, hc => exact Bool.noConfusion (show false = true from hc)
    | _ :: _ :: _, kw, hc => exact Bool.noConfusion (show false = true from hc)
    | [z], _ :: _, hc => exact Bool.noConfusion (show false = true from hc)
    | [z], [], hc =>
      obtain ⟨h1, h6⟩ := an (show (decide (m = "extend") && decide (ap.endLine = pos.line) && atB y && !stB z && chkE tb S o y && chkE tb S e z) = true from hc)
      obtain ⟨h1, h5⟩ := an h1
      obtain ⟨h1, h4⟩ := an h1
      obtain ⟨h1, h3⟩ := an h1
      obtain ⟨h1, h2⟩ := an h1
      have e1 : m = "extend" := of_decide_eq_true h1
      subst e1
      exact ⟨y, ap, z, pos, rfl, of_decide_eq_true h2, h3, nt h4, h5, h6⟩
  obtain ⟨y, ap, z, cp, rfl, h1, h2, h3, h4, h5⟩ := sh
  simp only [ev] at he
  obtain ⟨⟨v, γ1⟩, e1, he⟩ := bnd he
  obtain ⟨ds0, e0, he⟩ := bnd he
  obtain ⟨⟨w, γ2⟩, e2, he⟩ := bnd he
  obtain ⟨dd, e3, he⟩ := bnd he
  obtain ⟨ds, e4, he⟩ := bnd he
  obtain ⟨g, he⟩ := gd_some he
  obtain ⟨γ3, e5, he⟩ := mpd he
  cases he
  obtain ⟨p1, p2⟩ := sets_of e5
  exact ew_extend (EW.th (ho S X y γ v γ1 c h4 e1) ⟨p1, ⟨ds0, lst_of e0⟩, EW.th (h S X z γ1 w γ2 c h5 e2) ⟨dd, ds, lst_of e3, lst_of e4, of_decide_eq_true g, rfl, p2⟩⟩) (atE h2) (few1 h3) (by rw [h1]; exact beq_self_eq_true _) (stE h3)
theorem se_pop {o e : Ex} (ho : SE cal tb k o) (h : SE cal tb k e) : SE cal tb k (.pop o e) := by
  intro S X x γ d γ' c hc he
  have sh : ∃ y ap z cp, x = .Call (.Attribute y "pop" ap) [z] [] cp ∧ ap.endLine = cp.line ∧ atB y = true ∧ stB z = false ∧ chkE tb S o y = true ∧ chkE tb S e z = true := by
    cases x <;> try (exact Bool.noConfusion (show false = true from hc))
    rename_i fn as kw pos
    cases fn <;> try (exact Bool.noConfusion (show false = true from hc))
    rename_i y m ap
    match as, kw, hc with
    | [], kw, hc => exact Bool.noConfusion (show false = true from hc)
    | _ :: _ :: _, kw, hc => exact Bool.noConfusion (show false = true from hc)
    | [z], _ :: _, hc => exact Bool.noConfusion (show false = true from hc)
    | [z], [], hc =>
      obtain ⟨h1, h6⟩ := an (show (decide (m = "pop") && decide (ap.endLine = pos.line) && atB y && !stB z && chkE tb S o y && chkE tb S e z) = true from hc)
      obtain ⟨h1, h5⟩ := an h1
      obtain ⟨h1, h4⟩ := an h1
      obtain ⟨h1, h3⟩ := an h1
      obtain ⟨h1, h2⟩ := an h1
      have e1 : m = "pop" := of_decide_eq_true h1
      subst e1
      exact ⟨y, ap, z, pos, rfl, of_decide_eq_true h2, h3, nt h4, h5, h6⟩
  obtain ⟨y, ap, z, cp, rfl, h1, h2, h3, h4, h5⟩ := sh
  simp only [ev] at he
  obtain ⟨⟨v, γ1⟩, e1, he⟩ := bnd he
  obtain ⟨ds0, e0, he⟩ := bnd he
  obtain ⟨⟨w, γ2⟩, e2, he⟩ := bnd he
  obtain ⟨n, e3, he⟩ := bnd he
  obtain ⟨ds, e4, he⟩ := bnd he
  obtain ⟨g, he⟩ := gd_some he
  obtain ⟨j, e5, he⟩ := bnd he
  obtain ⟨dd, e6, he⟩ := bnd he
  obtain ⟨γ3, e7, he⟩ := mpd he
  cases he
  obtain ⟨p1, p2⟩ := sets_of e7
  obtain ⟨g1, g2⟩ := an g
  exact ew_popAt (EW.th (ho S X y γ v γ1 c h4 e1) ⟨p1, ⟨ds0, lst_of e0⟩, EW.th (h S X z γ1 w γ2 c h5 e2) ⟨n, j, dd, ds, int_of e3, lst_of e4, of_decide_eq_true g1, of_decide_eq_true g2, e5, e6, rfl, p2⟩⟩) (atE h2) (few1 h3) (by rw [h1]; exact beq_self_eq_true _) (stE h3)
theorem se_ins {o e f : Ex} (ho : SE cal tb k o) (h : SE cal tb k e) (hf : SE cal tb k f) : SE cal tb k (.ins o e f) := by
  intro S X x γ d γ' c hc he
  have sh : ∃ y ap z u cp, x = .Call (.Attribute y "insert" ap) [z, u] [] cp ∧ ap.endLine = cp.line ∧ atB y = true ∧ stB z = false ∧ stB u = false ∧ chkE tb S o y = true ∧ chkE tb S e z = true ∧ chkE tb S f u = true := by
    cases x <;> try (exact Bool.noConfusion (show false = true from hc))
    rename_i fn as kw pos
    cases fn <;> try (exact Bool.noConfusion (show false = true from hc))
    rename_i y m ap
    match as, kw, hc with
    | [], kw, hc => exact Bool.noConfusion (show false = true from hc)
    | [_], kw, hc => exact Bool.noConfusion (show false = true from hc)
    | _ :: _ :: _ :: _, kw, hc => exact Bool.noConfusion (show false = true from hc)
    | [z, u], _ :: _, hc => exact Bool.noConfusion (show false = true from hc)
    | [z, u], [], hc =>
      obtain ⟨h1, h8⟩ := an (show (decide (m = "insert") && decide (ap.endLine = pos.line) && atB y && !stB z && !stB u && chkE tb S o y && chkE tb S e z && chkE tb S f u) = true from hc)
      obtain ⟨h1, h7⟩ := an h1
      obtain ⟨h1, h6⟩ := an h1
      obtain ⟨h1, h5⟩ := an h1
      obtain ⟨h1, h4⟩ := an h1
      obtain ⟨h1, h3⟩ := an h1
      obtain ⟨h1, h2⟩ := an h1
      have e1 : m = "insert" := of_decide_eq_true h1
      subst e1
      exact ⟨y, ap, z, u, pos, rfl, of_decide_eq_true h2, h3, nt h4, nt h5, h6, h7, h8⟩
  obtain ⟨y, ap, z, u, cp, rfl, h1, h2, h3, h3u, h4, h5, h6⟩ := sh
  simp only [ev] at he
  obtain ⟨⟨v, γ1⟩, e1, he⟩ := bnd he
  obtain ⟨ds0, e0, he⟩ := bnd he
  obtain ⟨⟨w, γ2⟩, e2, he⟩ := bnd he
  obtain ⟨n, e3, he⟩ := bnd he
  obtain ⟨⟨t, γ3⟩, e4, he⟩ := bnd he
  obtain ⟨dd, e5, he⟩ := bnd he
  obtain ⟨ds, e6, he⟩ := bnd he
  obtain ⟨g, he⟩ := gd_some he
  obtain ⟨γ4, e7, he⟩ := mpd he
  cases he
  obtain ⟨p1, p2⟩ := sets_of e7
  obtain ⟨g, g3⟩ := an g
  obtain ⟨g1, g2⟩ := an g
  exact ew_insert (EW.th (ho S X y γ v γ1 c h4 e1) ⟨p1, ⟨ds0, lst_of e0⟩, EW.th (h S X z γ1 w γ2 c h5 e2) ⟨n, int_of e3, EW.th (hf S X u γ2 t γ3 c h6 e4) ⟨dd, ds, e5, lst_of e6, of_decide_eq_true g1, of_decide_eq_true g2, of_decide_eq_true g3, rfl, p2⟩⟩⟩) (atE h2) (few2 h3 h3u) (by rw [h1]; exact beq_self_eq_true _) (stE h3) (stE h3u) (by rw [stE h3u]; rfl)

/-! ### what is walked -/
def SI (cal : Cal') (tb : Tb) (k : Nat) (it : It) : Prop := ∀ S X x tg γ ds γ', CtxOk cal tb k S X → chkI tb S it x tg = true → evi cal it γ = some (ds, γ') → IW X tg x γ fun d1 Γ1 => d1 = ds ∧ Γ1 = γ'
theorem si_of {e : Ex} (h : SE cal tb k e) : SI cal tb k (.of e) := by
  intro S X x tg γ ds γ' c hc he
  simp only [evi] at he
  obtain ⟨⟨v, γ1⟩, e1, he⟩ := bnd he
  obtain ⟨us, e2, he⟩ := mpd he
  cases he
  have A := h S X x γ v γ1 c hc e1
  rcases its_of e2 with ht | rfl | hd
  · exact iw_tup (EW.th A ⟨_, ht, rfl, rfl⟩)
  · exact iw_lst (EW.th A ⟨_, .inl rfl, rfl, rfl⟩)
  · exact iw_lst (EW.th A ⟨_, .inr hd, rfl, rfl⟩)
theorem call1_shape {e : Ex} {x : Expr} {n : Str} {f : Expr → Bool} (hc : (match x with | .Call (.Name x _) [y] [] _ => decide (x = n) && glB S.sc x && !stB y && f y | _ => false) = true) : ∃ p y q, x = .Call (.Name n p) [y] [] q ∧ glB S.sc n = true ∧ stB y = false ∧ f y = true := by
  split at hc
  · rename_i x p y q
    obtain ⟨h1, h4⟩ := an hc
    obtain ⟨h1, h3⟩ := an h1
    obtain ⟨h1, h2⟩ := an h1
    have e1 : x = n := of_decide_eq_true h1
    subst e1
    exact ⟨p, y, q, rfl, h2, nt h3, h4⟩
  · cases hc
theorem call2_shape {x : Expr} {n : Str} {f g : Expr → Bool} (hc : (match x with | .Call (.Name x _) [y, z] [] _ => decide (x = n) && glB S.sc x && !stB y && !stB z && f y && g z | _ => false) = true) : ∃ p y z q, x = .Call (.Name n p) [y, z] [] q ∧ glB S.sc n = true ∧ stB y = false ∧ stB z = false ∧ f y = true ∧ g z = true := by
  split at hc
  · rename_i x p y z q
    obtain ⟨h1, h6⟩ := an hc
    obtain ⟨h1, h5⟩ := an h1
    obtain ⟨h1, h4⟩ := an h1
    obtain ⟨h1, h3⟩ := an h1
    obtain ⟨h1, h2⟩ := an h1
    have e1 : x = n := of_decide_eq_true h1
    subst e1
    exact ⟨p, y, z, q, rfl, h2, nt h3, nt h4, h5, h6⟩
  · cases hc
theorem si_range1 {e : Ex} (h : SE cal tb k e) : SI cal tb k (.range1 e) := by
  intro S X x tg γ ds γ' c hc he
  obtain ⟨p, y, q, rfl, h1, h2, h3⟩ := call1_shape (e := e) (n := "range") (f := fun y => chkE tb S e y) (S := S) (x := x) (by
    unfold chkI at hc
    split at hc <;> first | (rename_i h; cases h) | skip
    all_goals first | (rename_i h _; cases h) | skip
    all_goals first | exact hc | (cases hc))
  simp only [evi] at he
  obtain ⟨⟨v, γ1⟩, e1, he⟩ := bnd he
  obtain ⟨n, e2, he⟩ := bnd he
  obtain ⟨g, he⟩ := gd_some he
  cases he
  obtain ⟨g1, g2⟩ := an g
  exact iw_range1 (c.b "range") (EW.th (h S X y γ v _ c h3 e1) ⟨n, int_of e2, of_decide_eq_true g1, of_decide_eq_true g2, rfl, rfl⟩) (c.gl h1) (stE h2)
end
end RI

/-! RI: what is walked, comprehensions; all expressions. -/
namespace RI
open PySem PySem.Spec PyProof.Rows L2 VY
theorem IW.th {X : Cx} {tg x : Expr} {γ γ' : List Dsc} {ds : List D} {P : List D → List Dsc → Prop} (h : IW X tg x γ fun d1 Γ1 => d1 = ds ∧ Γ1 = γ') (p : P ds γ') : IW X tg x γ P :=
  fun A F H σ fm R q => h A F H σ fm R fun J ds' Γ' F' H' ⟨e, f⟩ => q J ds' Γ' F' H' (by rw [e, f]; exact p)
section
variable {cal : Cal'} {tb : Tb} {k : Nat} {S : SC} {X : Cx}
theorem si_range2 {a b : Ex} (ha : SE cal tb k a) (hb : SE cal tb k b) : SI cal tb k (.range2 a b) := by
  intro S X x tg γ ds γ' c hc he
  obtain ⟨p, y, z, q, rfl, h1, h2, h3, h4, h5⟩ := call2_shape (n := "range") (f := fun y => chkE tb S a y) (g := fun y => chkE tb S b y) (S := S) (x := x) (by
    unfold chkI at hc
    split at hc <;> first | (rename_i h; cases h) | skip
    all_goals first | (rename_i h _; cases h) | skip
    all_goals first | exact hc | (cases hc))
  simp only [evi] at he
  obtain ⟨⟨v, γ1⟩, e1, he⟩ := bnd he
  obtain ⟨⟨w, γ2⟩, e2, he⟩ := bnd he
  obtain ⟨i, f1, he⟩ := bnd he
  obtain ⟨j, f2, he⟩ := bnd he
  obtain ⟨g, he⟩ := gd_some he
  cases he
  obtain ⟨g, g4⟩ := an g
  obtain ⟨g, g3⟩ := an g
  obtain ⟨g1, g2⟩ := an g
  exact iw_range2 (c.b "range") (EW.th (ha S X y γ v γ1 c h4 e1) (EW.th (hb S X z γ1 w _ c h5 e2) ⟨i, j, int_of f1, int_of f2, ⟨of_decide_eq_true g1, of_decide_eq_true g2, of_decide_eq_true g3, of_decide_eq_true g4⟩, rfl, rfl⟩)) (c.gl h1)
    (by rw [stE h2, stE h3]; rfl) (by rw [stE h3]; rfl)
theorem tup_of {t : Expr} (h : isTup t = true) : ∃ es kk p, t = .Tuple es kk p := by
  cases t <;> first | exact ⟨_, _, _, rfl⟩ | exact Bool.noConfusion (show false = true from h)
theorem si_enum {e : Ex} (h : SE cal tb k e) : SI cal tb k (.enum e) := by
  intro S X x tg γ ds γ' c hc he
  obtain ⟨p, y, q, rfl, h1, h2, h3⟩ := call1_shape (e := e) (n := "enumerate") (f := fun y => isTup tg && chkE tb S e y) (S := S) (x := x) (by
    unfold chkI at hc
    split at hc <;> first | (rename_i h; cases h) | skip
    all_goals first | (rename_i h _; cases h) | skip
    all_goals first | (simpa [Bool.and_assoc] using hc) | (cases hc))
  obtain ⟨h4, h5⟩ := an h3
  obtain ⟨es, kk, tp, rfl⟩ := tup_of h4
  simp only [evi] at he
  obtain ⟨⟨v, γ1⟩, e1, he⟩ := bnd he
  obtain ⟨us, e2, he⟩ := mpd he
  cases he
  have A := h S X y γ v γ1 c h5 e1
  rcases its_of e2 with ht | rfl | hd
  · exact iw_enumT (c.b "enumerate") (EW.th A ⟨_, ht, rfl, rfl⟩) (c.gl h1) (by rw [stE h2]; rfl)
  · exact iw_enumL (c.b "enumerate") (EW.th A ⟨_, .inl rfl, rfl, rfl⟩) (c.gl h1) (by rw [stE h2]; rfl)
  · exact iw_enumL (c.b "enumerate") (EW.th A ⟨_, .inr hd, rfl, rfl⟩) (c.gl h1) (by rw [stE h2]; rfl)
theorem si_zip {a b : Ex} (ha : SE cal tb k a) (hb : SE cal tb k b) : SI cal tb k (.zip a b) := by
  intro S X x tg γ ds γ' c hc he
  obtain ⟨p, y, z, q, rfl, h1, h2, h3, h4, h5⟩ := call2_shape (n := "zip") (f := fun y => isTup tg && chkE tb S a y) (g := fun y => chkE tb S b y) (S := S) (x := x) (by
    unfold chkI at hc
    split at hc <;> first | (rename_i h; cases h) | skip
    all_goals first | (rename_i h _; cases h) | skip
    all_goals first | (simpa [Bool.and_assoc] using hc) | (cases hc))
  obtain ⟨h4, h6⟩ := an h4
  obtain ⟨es, kk, tp, rfl⟩ := tup_of h4
  simp only [evi] at he
  obtain ⟨⟨v, γ1⟩, e1, he⟩ := bnd he
  obtain ⟨⟨w, γ2⟩, e2, he⟩ := bnd he
  have A := ha S X y γ v γ1 c h6 e1
  have B := hb S X z γ1 w γ2 c h5 e2
  dsimp only at he
  split at he
  · rename_i f1 f2
    cases he
    exact iw_zipT (c.b "zip") (EW.th A (EW.th B ⟨_, _, tp_of f1, tp_of f2, rfl, rfl⟩)) (c.gl h1) (stE h2) (stE h3) (by rw [stE h3]; rfl)
  split at he
  · cases he
    exact iw_zipL (c.b "zip") (EW.th A (EW.th B ⟨_, _, rfl, rfl, rfl, rfl⟩)) (c.gl h1) (stE h2) (stE h3) (by rw [stE h3]; rfl)
  · cases he
    exact iw_zipM (c.b "zip") (EW.th A (EW.th B ⟨_, _, rfl, rfl, rfl, rfl⟩)) (c.gl h1) (stE h2) (stE h3) (by rw [stE h3]; rfl)
  · cases he

/-! ### comprehensions -/
theorem pg_shp {K : PySem.W.Frag} {Y : Cx} (c : CtxOk cal tb k S Y) (hK : Y.K = K) {sh : Shp} {tg : Expr} (h : shpB S sh tg = true) : PG Y tg (sh.rd K) := by
  have hN : Y.N.Nodup := by rw [c.N]; exact c.nd
  subst hK
  cases sh with
  | one j =>
    cases tg <;> try (exact Bool.noConfusion (show false = true from h))
    obtain ⟨h1, h2, h3⟩ := c.store (show storeB S j _ = true from h)
    exact pg_name hN h1 h2 h3
  | two i j =>
    cases tg <;> try (exact Bool.noConfusion (show false = true from h))
    rename_i es kk p
    match es, h with
    | [], h => exact Bool.noConfusion (show false = true from h)
    | [x], h => cases x <;> exact Bool.noConfusion (show false = true from h)
    | x :: y :: z :: r, h =>
      exfalso
      cases x <;> try (exact Bool.noConfusion (show false = true from h))
      cases y <;> exact Bool.noConfusion (show false = true from h)
    | [x, y], h =>
      cases x <;> try (exact Bool.noConfusion (show false = true from h))
      cases y <;> try (exact Bool.noConfusion (show false = true from h))
      obtain ⟨g1, g2⟩ := an (show (storeB S i _ && storeB S j _) = true from h)
      obtain ⟨h1, h2, h3⟩ := c.store g1
      obtain ⟨k1, k2, k3⟩ := c.store g2
      exact pg_tup (n := 2) c.calm (pgs_cons (pg_name hN h1 h2 h3) (pgs_cons (pg_name hN k1 k2 k3) pgs_nil rfl) rfl) rfl rfl
theorem blk_kind {N : List Str} {sc scope : Scope} {own : List (Str × Nat)} (h : blkC N sc scope own = true) : scope.kind = .function := (blkOk_by h).kind
theorem drop_cons {α : Type} {xs : List α} {i : Nat} {x : α} (h : xs[i]? = some x) : xs.drop i = x :: xs.drop (i + 1) := by
  obtain ⟨hi, e⟩ := List.getElem?_eq_some_iff.mp h
  rw [List.drop_eq_getElem_cons hi, e]
/-- what a comprehension asks, from its turns -/
theorem lc_turns {own : List (Str × Nat)} {sh : Shp} {t e : Ex} {ifs : List Expr} {elt : Expr} {scope : Scope} (c : CtxOk cal tb k S X) (hk : scope.kind = .function) (he : SE cal tb k e) (ht : ST cal tb k t) (hif : (match (generalizing := false) ifs with | [] => noB t | [x] => !noB t && tstB t && chkE tb (S.blk scope) t x | _ => false) = true) (hel : chkE tb (S.blk scope) e elt = true)
    {ds : List D} {γ1 : List Dsc} {res : List D × List Dsc} {P : List D → List Dsc → Prop} (hlen : ds.length < 1000000) (hl : lcI (own.map (·.2)) sh.js sh.parts (fun γ => evcW (noB t) (ev cal t γ) γ) (ev cal e) ds [] γ1 = some res) (hp : P res.1 res.2) :
    ds.length < 1000000 ∧ ∃ J : Nat → List D → List Dsc → Prop, J 0 [] γ1 ∧ (∀ i d acc Γ2, ds[i]? = some d → J i acc Γ2 → acc.length ≤ i → (∀ v ∈ own.map (·.2), canSet Γ2 v = true) ∧ ∃ es, sh.parts d = some es ∧
        inBlk X scope fun Y => TsW Y ifs (setsG (wipeG Γ2 (own.map (·.2))) sh.js es) fun k Γ4 => (k = true → inBlk X scope fun Y => EW Y elt Γ4 fun y Γ5 => ∃ d', datOf y = some d' ∧ J (i + 1) (acc ++ [d']) (mergeG (own.map (·.2)) Γ2 Γ5)) ∧ (k = false → J (i + 1) acc (mergeG (own.map (·.2)) Γ2 Γ4))) ∧
        ∀ acc Γ2, J ds.length acc Γ2 → P acc Γ2 := by
  refine ⟨hlen, fun i acc Γ2 => lcI (own.map (·.2)) sh.js sh.parts (fun γ => evcW (noB t) (ev cal t γ) γ) (ev cal e) (ds.drop i) acc Γ2 = some res, hl, fun i d acc Γ2 hd hJ hacc => ?_, fun acc Γ2 hJ => ?_⟩
  · dsimp only at hJ
    rw [drop_cons hd] at hJ
    unfold lcI at hJ
    obtain ⟨g, hJ⟩ := gd_some hJ
    obtain ⟨es, e1, hJ⟩ := bnd hJ
    obtain ⟨⟨b, γ4⟩, e2, hJ⟩ := bnd hJ
    refine ⟨List.all_eq_true.mp g, es, e1, fun s H C cl fp => ?_⟩
    have go : ∀ b' Γ4, b' = b ∧ Γ4 = γ4 → (b' = true → inBlk X scope fun Y => EW Y elt Γ4 fun y Γ5 => ∃ d', datOf y = some d' ∧ lcI (own.map (·.2)) sh.js sh.parts (fun γ => evcW (noB t) (ev cal t γ) γ) (ev cal e) (ds.drop (i + 1)) (acc ++ [d']) (mergeG (own.map (·.2)) Γ2 Γ5) = some res) ∧
        (b' = false → lcI (own.map (·.2)) sh.js sh.parts (fun γ => evcW (noB t) (ev cal t γ) γ) (ev cal e) (ds.drop (i + 1)) acc (mergeG (own.map (·.2)) Γ2 Γ4) = some res) := by
      rintro b' Γ4 ⟨rfl, rfl⟩
      refine ⟨fun hb => fun s H C cl fp => ?_, fun hb => ?_⟩
      · subst hb
        rw [if_pos rfl] at hJ
        obtain ⟨⟨y, γ5⟩, e3, hJ⟩ := bnd hJ
        obtain ⟨d', e4, hJ⟩ := bnd hJ
        exact EW.th (he (S.blk scope) _ elt Γ4 y γ5 (c.blk hk s H C cl fp) hel e3) ⟨d', e4, hJ⟩
      · subst hb
        rw [if_neg Bool.false_ne_true] at hJ
        exact hJ
    match ifs, hif with
    | [], hif =>
      have hn : noB t = true := hif
      unfold evcW at e2
      rw [hn, if_pos rfl] at e2
      cases e2
      exact go _ _ ⟨rfl, rfl⟩
    | [x], hif =>
      obtain ⟨h1, h3⟩ := an (show (!noB t && tstB t && chkE tb (S.blk scope) t x) = true from hif)
      obtain ⟨h1, h2⟩ := an h1
      unfold evcW at e2
      rw [nt h1, if_neg Bool.false_ne_true] at e2
      obtain ⟨⟨v, γ3⟩, e5, e2⟩ := bnd e2
      obtain ⟨b2, e6, e7⟩ := mpd e2
      cases e7
      cases bl_of e6
      exact TW.mono (ht (S.blk scope) _ x _ b _ (c.blk hk s H C cl fp) h3 h2 e5).1 go
    | _ :: _ :: _, hif => exact Bool.noConfusion (show false = true from hif)
  · dsimp only at hJ
    rw [List.drop_length] at hJ
    cases hJ
    exact hp
theorem lc_shape {own : List (Str × Nat)} {sh : Shp} {it : It} {t e : Ex} {x : Expr} (hc : chkE tb S (.lc own sh it t e) x = true) : ∃ elt tg iter ifs scope pos, x = .ListComp elt [⟨tg, iter, ifs, 0⟩] scope pos ∧ blkC S.N S.sc scope own = true ∧ (∀ j ∈ sh.js, j ∈ own.map (·.2)) ∧ shpB (S.blk scope) sh tg = true ∧ setB iter = false ∧ chkI tb S it iter tg = true ∧
    (match (generalizing := false) ifs with | [] => noB t | [x] => !noB t && tstB t && chkE tb (S.blk scope) t x | _ => false) = true ∧ chkE tb (S.blk scope) e elt = true := by
  cases x <;> try (exact Bool.noConfusion (show false = true from hc))
  rename_i elt gs scope pos
  match gs, hc with
  | [], hc => exact Bool.noConfusion (show false = true from hc)
  | _ :: _ :: _, hc =>
    exfalso
    unfold chkE at hc
    split at hc <;> first | (rename_i h; cases h) | skip
    all_goals first | (rename_i h _; cases h) | skip
    all_goals (cases hc)
  | [⟨tg, iter, ifs, a⟩], hc =>
    have ha : a = 0 := by
      unfold chkE at hc
      split at hc <;> first | (rename_i h; cases h) | skip
      all_goals first | (rename_i h _; cases h) | skip
      all_goals first | rfl | (cases hc)
    subst ha
    obtain ⟨h1, h7⟩ := an (show (blkC S.N S.sc scope own && sh.js.all (fun j => decide (j ∈ own.map (·.2))) && shpB (S.blk scope) sh tg && !setB iter && chkI tb S it iter tg && (match (generalizing := false) ifs with | [] => noB t | [x] => !noB t && tstB t && chkE tb (S.blk scope) t x | _ => false) && chkE tb (S.blk scope) e elt) = true from hc)
    obtain ⟨h1, h6⟩ := an h1
    obtain ⟨h1, h5⟩ := an h1
    obtain ⟨h1, h4⟩ := an h1
    obtain ⟨h1, h3⟩ := an h1
    obtain ⟨h1, h2⟩ := an h1
    exact ⟨elt, tg, iter, ifs, scope, pos, rfl, h1, fun j hj => of_decide_eq_true (List.all_eq_true.mp h2 j hj), h3, nt h4, h5, h6, h7⟩
theorem se_lc {own : List (Str × Nat)} {sh : Shp} {it : It} {t e : Ex} (hi : SI cal tb k it) (ht : ST cal tb k t) (he : SE cal tb k e) : SE cal tb k (.lc own sh it t e) := by
  intro S X x γ d γ' c hc hv
  obtain ⟨elt, tg, iter, ifs, scope, pos, rfl, h1, h2, h3, h4, h5, h6, h7⟩ := lc_shape hc
  simp only [ev] at hv
  obtain ⟨⟨ds, γ1⟩, e1, hv⟩ := bnd hv
  obtain ⟨g, hv⟩ := gd_some hv
  obtain ⟨res, e2, hv⟩ := mpd hv
  cases hv
  have hk := blk_kind h1
  have hN : X.N.Nodup := by rw [c.N]; exact c.nd
  refine ew_lc sh own c.calm hN (by rw [c.N, c.sc]; exact blkOk_by h1) h2 (fun s H C cl fp => pg_shp (c.blk hk s H C cl fp) rfl h3) (IW.th (hi S X iter tg γ ds γ1 c h5 e1) ?_) (fsE h4)
  exact lc_turns (P := fun acc Γ2 => Is (.new (.l res.1)) res.2 (.new (.l acc)) Γ2) c hk he ht h6 h7 (of_decide_eq_true g) e2 ⟨rfl, rfl⟩

/-! ### all expressions -/
theorem st_bad {e : Ex} (h : ∀ cal γ, ev cal e γ = none) : SE cal tb k e := fun S X x γ d γ' c hc he => by rw [h] at he; cases he
def vlB : Ex → Bool
  | .not _ => false
  | .and _ _ => false
  | .or _ _ => false
  | .orl _ _ => false
  | .cmp _ _ _ => false
  | .chn _ _ _ => false
  | .ite _ _ _ => false
  | .neg _ => false
  | .isin _ _ => false
  | .bad => false
  | _ => true
theorem not_shape {e : Ex} {S : SC} {x : Expr} (hc : chkE tb S e x = true) (hn : vlB e = true) :
    (match (generalizing := false) x with | .UnaryOp .Not _ _ => false | .BoolOp _ _ _ => false | .IfExp _ _ _ _ => false | .Compare _ _ _ _ => false | _ => true) = true := by
  cases x with
  | UnaryOp op y p => exfalso; cases op <;> cases e <;> first | (exact Bool.noConfusion (show false = true from hn)) | (exact Bool.noConfusion (show false = true from hc))
  | BoolOp op y p => exfalso; cases e <;> first | (exact Bool.noConfusion (show false = true from hn)) | (exact Bool.noConfusion (show false = true from hc))
  | IfExp a b c p => exfalso; cases e <;> first | (exact Bool.noConfusion (show false = true from hn)) | (exact Bool.noConfusion (show false = true from hc))
  | Compare a b c p => exfalso; cases e <;> first | (exact Bool.noConfusion (show false = true from hn)) | (exact Bool.noConfusion (show false = true from hc))
  | _ => rfl
theorem st_v {e : Ex} (h : SE cal tb k e) (hn : vlB e = true) : ST cal tb k e := st_val h fun S x hc => not_shape hc hn
theorem st_isin {e : Ex} {ts : List String} (h : SE cal tb k (.isin e ts)) : ST cal tb k (.isin e ts) := st_val h fun S x hc => by
  obtain ⟨y, p, as, kw, pos, rfl⟩ := isin_call hc
  rfl
theorem st_neg {a : Ex} : ST cal tb k (.neg a) := fun S X x γ d γ' c hc ht he => by
  simp only [ev] at he
  obtain ⟨_, _, he⟩ := bnd he
  obtain ⟨_, _, he⟩ := mpd he
  cases he
theorem st_no {e : Ex} (h : tstB e = false) : ST cal tb k e := fun S X x γ d γ' c hc ht he => by rw [h] at ht; cases ht
mutual
theorem se_all : ∀ e : Ex, SE cal tb k e ∧ ST cal tb k e
  | .slot i => ⟨se_slot, st_v se_slot rfl⟩
  | .cst d => ⟨se_cst, st_v se_cst rfl⟩
  | .glob x d => ⟨se_glob, st_v se_glob rfl⟩
  | .tup es => ⟨se_tup (ses_all es), st_v (se_tup (ses_all es)) rfl⟩
  | .lst es => ⟨se_lst (ses_all es), st_v (se_lst (ses_all es)) rfl⟩
  | .star e => ⟨st_bad fun _ _ => rfl, st_v (st_bad fun _ _ => rfl) rfl⟩
  | .no => ⟨st_bad fun _ _ => rfl, st_v (st_bad fun _ _ => rfl) rfl⟩
  | .bin op a b => ⟨se_bin (se_all a).1 (se_all b).1, st_v (se_bin (se_all a).1 (se_all b).1) rfl⟩
  | .neg a => ⟨se_neg (se_all a).1, st_neg⟩
  | .not a => ⟨se_not (se_all a).1, st_not (se_all a).2⟩
  | .and a b => ⟨se_and (se_all a).1 (se_all b).1, st_and (se_all a).2 (se_all b).2⟩
  | .or a b => ⟨se_or (se_all a).1 (se_all b).1, st_or (se_all a).2 (se_all b).2⟩
  | .orl a b => ⟨se_orl (se_all a).1 (se_all b).1, st_no rfl⟩
  | .cmp op a b => ⟨se_cmp (se_all a).1 (se_all b).1, st_cmp (se_all a).1 (se_all b).1⟩
  | .chn a b c => ⟨se_chn (se_all a).1 (se_all b).1 (se_all c).1, st_chn (se_all a).1 (se_all b).1 (se_all c).1⟩
  | .ite c a b => ⟨se_ite (se_all c).1 (se_all c).2 (se_all a).1 (se_all b).1, st_no rfl⟩
  | .idx a b => ⟨se_idx (se_all a).1 (se_all b).1, st_v (se_idx (se_all a).1 (se_all b).1) rfl⟩
  | .slc a lo hi => ⟨se_slc (se_all a).1 (se_all lo).1 (se_all hi).1, st_v (se_slc (se_all a).1 (se_all lo).1 (se_all hi).1) rfl⟩
  | .rev a => ⟨se_rev (se_all a).1, st_v (se_rev (se_all a).1) rfl⟩
  | .call f es => ⟨se_call (ses_all es), st_v (se_call (ses_all es)) rfl⟩
  | .b1 b e => ⟨se_b1 (se_all e).1, st_v (se_b1 (se_all e).1) rfl⟩
  | .lrg e => ⟨se_lrg (se_all e).1, st_v (se_lrg (se_all e).1) rfl⟩
  | .min2 a b => ⟨se_min2 (se_all a).1 (se_all b).1, st_v (se_min2 (se_all a).1 (se_all b).1) rfl⟩
  | .isin e ts => ⟨se_isin (se_all e).1, st_isin (se_isin (se_all e).1)⟩
  | .app o e => ⟨se_app (se_all o).1 (se_all e).1, st_v (se_app (se_all o).1 (se_all e).1) rfl⟩
  | .pop o e => ⟨se_pop (se_all o).1 (se_all e).1, st_v (se_pop (se_all o).1 (se_all e).1) rfl⟩
  | .ext o e => ⟨se_ext (se_all o).1 (se_all e).1, st_v (se_ext (se_all o).1 (se_all e).1) rfl⟩
  | .ins o e f => ⟨se_ins (se_all o).1 (se_all e).1 (se_all f).1, st_v (se_ins (se_all o).1 (se_all e).1 (se_all f).1) rfl⟩
  | .dnew => ⟨se_dnew, st_v se_dnew rfl⟩
  | .bad => ⟨st_bad fun _ _ => rfl, fun S X x γ d γ' c hc ht he => by cases he⟩
  | .ptup es => ⟨se_ptup (ses_all es), st_v (se_ptup (ses_all es)) rfl⟩
  | .sortR e => ⟨se_sortR (se_all e).1, st_v (se_sortR (se_all e).1) rfl⟩
  | .lc own sh it c e => ⟨se_lc (si_all it) (se_all c).2 (se_all e).1, st_v (se_lc (si_all it) (se_all c).2 (se_all e).1) rfl⟩
termination_by structural e => e
theorem ses_all : ∀ es : List Ex, SEs cal tb k es
  | [] => ses_nil
  | .star e :: es => ses_star (se_all e).1 (ses_all es)
  | .slot i :: es => ses_cons nofun (se_all _).1 (ses_all es)
  | .cst i :: es => ses_cons nofun (se_all _).1 (ses_all es)
  | .glob i _ :: es => ses_cons nofun (se_all _).1 (ses_all es)
  | .tup i :: es => ses_cons nofun (se_all _).1 (ses_all es)
  | .lst i :: es => ses_cons nofun (se_all _).1 (ses_all es)
  | .no :: es => ses_cons nofun (se_all _).1 (ses_all es)
  | .bin _ _ _ :: es => ses_cons nofun (se_all _).1 (ses_all es)
  | .neg _ :: es => ses_cons nofun (se_all _).1 (ses_all es)
  | .not _ :: es => ses_cons nofun (se_all _).1 (ses_all es)
  | .and _ _ :: es => ses_cons nofun (se_all _).1 (ses_all es)
  | .or _ _ :: es => ses_cons nofun (se_all _).1 (ses_all es)
  | .orl _ _ :: es => ses_cons nofun (se_all _).1 (ses_all es)
  | .cmp _ _ _ :: es => ses_cons nofun (se_all _).1 (ses_all es)
  | .chn _ _ _ :: es => ses_cons nofun (se_all _).1 (ses_all es)
  | .ite _ _ _ :: es => ses_cons nofun (se_all _).1 (ses_all es)
  | .idx _ _ :: es => ses_cons nofun (se_all _).1 (ses_all es)
  | .slc _ _ _ :: es => ses_cons nofun (se_all _).1 (ses_all es)
  | .rev _ :: es => ses_cons nofun (se_all _).1 (ses_all es)
  | .call _ _ :: es => ses_cons nofun (se_all _).1 (ses_all es)
  | .b1 _ _ :: es => ses_cons nofun (se_all _).1 (ses_all es)
  | .lrg _ :: es => ses_cons nofun (se_all _).1 (ses_all es)
  | .min2 _ _ :: es => ses_cons nofun (se_all _).1 (ses_all es)
  | .isin _ _ :: es => ses_cons nofun (se_all _).1 (ses_all es)
  | .app _ _ :: es => ses_cons nofun (se_all _).1 (ses_all es)
  | .pop _ _ :: es => ses_cons nofun (se_all _).1 (ses_all es)
  | .ext _ _ :: es => ses_cons nofun (se_all _).1 (ses_all es)
  | .ins _ _ _ :: es => ses_cons nofun (se_all _).1 (ses_all es)
  | .dnew :: es => ses_cons nofun (se_all _).1 (ses_all es)
  | .bad :: es => ses_cons nofun (se_all _).1 (ses_all es)
  | .ptup _ :: es => ses_cons nofun (se_all _).1 (ses_all es)
  | .sortR _ :: es => ses_cons nofun (se_all _).1 (ses_all es)
  | .lc _ _ _ _ _ :: es => ses_cons nofun (se_all _).1 (ses_all es)
termination_by structural es => es
theorem si_all : ∀ it : It, SI cal tb k it
  | .of e => si_of (se_all e).1
  | .range1 e => si_range1 (se_all e).1
  | .range2 a b => si_range2 (se_all a).1 (se_all b).1
  | .enum e => si_enum (se_all e).1
  | .zip a b => si_zip (se_all a).1 (se_all b).1
termination_by structural it => it
end
end
end RI

/-! RI: targets, statements. -/
namespace RI
open PySem PySem.Spec PyProof.Rows L2 VY
theorem asE {e : Expr} {es : List Expr} {env : Env} (h : stB e = false) : (assignEach (e :: es) env) = (false, assign e env) :: assignEach es env := by
  cases e <;> first | rfl | cases h
theorem asAll {env : Env} : ∀ {es : List Expr}, es.all (fun e => !stB e) = true → (assignEach es env).length = es.length ∧ (assignEach es env).findIdx? (·.1) = none
  | [], _ => ⟨rfl, rfl⟩
  | e :: es, h => by
    obtain ⟨h1, h2⟩ := an (show (!stB e && es.all (fun e => !stB e)) = true from h)
    obtain ⟨g1, g2⟩ := asAll (env := env) h2
    rw [asE (nt h1)]
    refine ⟨congrArg (· + 1) g1, ?_⟩
    rw [List.findIdx?_cons]
    simp [g2]
theorem swNN {v tg : Expr} {l : Nat} {env : Env} (h : ∀ x p, tg ≠ .Name x p) : swapsWith v (some tg) l env = pure false := by
  cases v <;> first | rfl | (cases tg <;> first | rfl | exact absurd rfl (h _ _))
theorem swS_ok {sc : Scope} {env : Env} {ts vs : List Expr} {k k2 : Nat} {p p2 : Pos} {r : Option (List Str)} (hs : env.scope = sc) (hk : sc.kind = .function) (h : swS sc ts vs = some r) : swappedStores [.Tuple ts k p] (.Tuple vs k2 p2) env = pure r := by
  have hb : (env.blockKind != .function) = false := by unfold Env.blockKind; rw [hs, hk]; rfl
  have hv : (vs.any fun | .Starred .. => true | _ => false) = vs.any stB := by
    congr 1
  subst hs
  unfold swS at h
  unfold swappedStores
  dsimp only
  rw [hb, Bool.or_false]
  split at h
  · rename_i c
    cases h
    exact if_pos c
  · rename_i c
    refine Eq.trans (if_neg c) ?_
    split at h
    · rename_i c
      cases h
      exact if_pos c
    · rename_i c
      refine Eq.trans (if_neg c) ?_
      dsimp only at h
      split at h
      · rename_i c
        cases h
        exact if_pos c
      · rename_i c
        refine Eq.trans (if_neg c) ?_
        split at h
        · rename_i c
          cases h
          exact if_pos c
        · rename_i c
          refine Eq.trans (if_neg c) ?_
          split at h
          · cases h
          · rename_i c
            cases h
            refine Eq.trans (if_neg c) ?_
            rfl
section
variable {cal : Cal'} {tb : Tb} {k : Nat} {S : SC} {X : Cx}
def SG (cal : Cal') (tb : Tb) (k : Nat) (t : Tg) : Prop := ∀ S X tg x γ γ', CtxOk cal tb k S X → chkTg tb S t tg = true → tgI cal t x γ = some γ' → GW X tg x γ (· = γ')
def SGs (cal : Cal') (tb : Tb) (k : Nat) (ts : List Tg) : Prop := ∀ S X tgs ds γ γ', CtxOk cal tb k S X → tgs.all (fun e => !stB e) = true → chkTgs tb S ts tgs = true → tgsI cal ts ds γ = some γ' → GsW X tgs ds γ (· = γ')
theorem GW.th {X : Cx} {tg : Expr} {x : Dv} {γ γ' : List Dsc} {P : List Dsc → Prop} (h : GW X tg x γ (· = γ')) (p : P γ') : GW X tg x γ P :=
  fun A F H σ v fm ok Q q => h A F H σ v fm ok Q fun Γ' F' H' σ' e => q Γ' F' H' σ' (by rw [e]; exact p)
theorem GsW.th {X : Cx} {tg : List Expr} {x : List D} {γ γ' : List Dsc} {P : List Dsc → Prop} (h : GsW X tg x γ (· = γ')) (p : P γ') : GsW X tg x γ P :=
  fun A F H σ v fm ok Q q => h A F H σ v fm ok Q fun Γ' F' H' σ' e => q Γ' F' H' σ' (by rw [e]; exact p)
theorem sg_nm {i : Nat} : SG cal tb k (.nm i) := by
  intro S X tg x γ γ' c hc he
  cases tg <;> try (exact Bool.noConfusion (show false = true from hc))
  obtain ⟨h1, h2, h3⟩ := c.store (show storeB S i _ = true from hc)
  obtain ⟨s, e1, he⟩ := bnd (show (dscOf x).bind (fun s => gd (canSet γ i) (some (γ.set i s))) = some γ' by unfold tgI at he; exact he)
  obtain ⟨g, he⟩ := gd_some he
  cases he
  exact gw_name i (by rw [c.N]; exact c.nd) e1 g rfl h1 h2 h3
theorem sg_sub {a b : Ex} : SG cal tb k (.sub a b) := by
  intro S X tg x γ γ' c hc he
  cases tg <;> try (exact Bool.noConfusion (show false = true from hc))
  rename_i y z p
  obtain ⟨h1, h3⟩ := an (show (chkE tb S a y && chkE tb S b z && !slB z) = true from hc)
  obtain ⟨h1, h2⟩ := an h1
  unfold tgI at he
  obtain ⟨t, e1, he⟩ := bnd he
  obtain ⟨⟨v, γ1⟩, e2, he⟩ := bnd he
  obtain ⟨g, he⟩ := gd_some he
  obtain ⟨⟨w, γ2⟩, e3, he⟩ := bnd he
  obtain ⟨n, e4, he⟩ := bnd he
  obtain ⟨ds, e5, he⟩ := bnd he
  obtain ⟨j, e6, he⟩ := bnd he
  obtain ⟨p1, p2⟩ := sets_of he
  refine gw_sub e1 (EW.th ((se_all a).1 S X y γ v γ1 c h1 e2) ⟨p1, EW.th ((se_all b).1 S X z γ1 w γ2 c h2 e3) ⟨n, j, ds, int_of e4, lst_of e5, e6, p2⟩⟩) (fun v => ?_)
  have hz := nt h3
  cases z <;> first | rfl | (exact Bool.noConfusion (show true = false from hz))
theorem sgs_nil : SGs cal tb k [] := by
  intro S X tgs ds γ γ' c hs hc he
  cases tgs with
  | cons _ _ => exact Bool.noConfusion (show false = true from hc)
  | nil =>
    cases ds with
    | cons _ _ => cases he
    | nil => cases he; exact gsw_nil rfl
theorem sgs_cons {t : Tg} {ts : List Tg} (h : SG cal tb k t) (hs : SGs cal tb k ts) : SGs cal tb k (t :: ts) := by
  intro S X tgs ds γ γ' c hn hc he
  cases tgs with
  | nil => exact Bool.noConfusion (show false = true from hc)
  | cons x xs =>
    obtain ⟨h1, h2⟩ := an (show (chkTg tb S t x && chkTgs tb S ts xs) = true from hc)
    obtain ⟨n1, n2⟩ := an (show (!stB x && xs.all (fun e => !stB e)) = true from hn)
    cases ds with
    | nil => cases he
    | cons d ds =>
      obtain ⟨γ1, e1, he⟩ := bnd (show (tgI cal t (.dat d) γ).bind (fun γ' => tgsI cal ts ds γ') = some γ' from he)
      exact gsw_cons (GW.th (h S X x (.dat d) γ γ1 c h1 e1) (hs S X xs ds γ1 γ' c n2 h2 he)) (by rw [asE (nt n1)]; rfl)
theorem tgs_len : ∀ {ts : List Tg} {tgs : List Expr} {ds : List D} {γ γ' : List Dsc}, chkTgs tb S ts tgs = true → tgsI cal ts ds γ = some γ' → ds.length = tgs.length
  | [], [], [], _, _, _, _ => rfl
  | [], _ :: _, _, _, _, h, _ => Bool.noConfusion (show false = true from h)
  | [], [], _ :: _, _, _, _, h => by cases h
  | t :: ts, [], _, _, _, h, _ => Bool.noConfusion (show false = true from h)
  | t :: ts, x :: xs, [], _, _, _, h => by cases h
  | t :: ts, x :: xs, d :: ds, γ, γ', h, he => by
    obtain ⟨h1, h2⟩ := an (show (chkTg tb S t x && chkTgs tb S ts xs) = true from h)
    obtain ⟨γ1, e1, he⟩ := bnd (show (tgI cal t (.dat d) γ).bind (fun γ' => tgsI cal ts ds γ') = some γ' from he)
    exact congrArg (· + 1) (tgs_len h2 he)
theorem sg_tup {ts : List Tg} (h : SGs cal tb k ts) : SG cal tb k (.tup ts) := by
  intro S X tg x γ γ' c hc he
  cases tg <;> try (exact Bool.noConfusion (show false = true from hc))
  rename_i xs kk p
  obtain ⟨h1, h2⟩ := an (show (xs.all (fun e => !stB e) && chkTgs tb S ts xs) = true from hc)
  have sh : ∃ ds, x = .dat (.tup ds) ∧ tgsI cal ts ds γ = some γ' := by
    cases x with
    | dat d =>
      cases d with
      | tup ds => exact ⟨ds, rfl, he⟩
      | _ => cases he
    | _ => cases he
  obtain ⟨ds, rfl, he⟩ := sh
  obtain ⟨a1, a2⟩ := asAll (env := X.env) h1
  exact gw_tup c.calm (tgs_len h2 he) (h S X xs ds γ γ' c h1 h2 he) a1 a2
mutual
theorem sg_all : ∀ t : Tg, SG cal tb k t
  | .nm i => sg_nm
  | .tup ts => sg_tup (sgs_all ts)
  | .sub a b => sg_sub
termination_by structural t => t
theorem sgs_all : ∀ ts : List Tg, SGs cal tb k ts
  | [] => sgs_nil
  | t :: ts => sgs_cons (sg_all t) (sgs_all ts)
termination_by structural ts => ts
end
end
end RI

/-! RI: statements. -/
namespace RI
open PySem PySem.Spec PyProof.Rows L2 VY
def FlOk (D : PEnds) : Fl → Prop
  | .nx γ => D.nx γ
  | .rt d γ => D.rt d γ
abbrev PO (X : Cx) : Prop := PassesOwn (model X.prog X.w) X.A X.env X.xe
def SS (cal : Cal') (tb : Tb) (k : Nat) (s : RI.St) : Prop := ∀ S X st γ fl D, CtxOk cal tb k S X → PO X → chkS tb S s st = true → exS cal s γ = some fl → FlOk D fl → SW X st γ D
def SB (cal : Cal') (tb : Tb) (k : Nat) (ss : List RI.St) : Prop := ∀ S X sts γ fl D, CtxOk cal tb k S X → PO X → chkB tb S ss sts = true → exB cal ss γ = some fl → FlOk D fl → SsW X sts γ D
section
variable {cal : Cal'} {tb : Tb} {k : Nat} {S : SC} {X : Cx}
theorem swF {sc : Scope} {env : Env} {x : Str} {xp : Pos} {v : Expr} {l : Nat} (hs : env.scope = sc) (hk : sc.kind = .function) (h : swpF sc x xp v = true) : swapsWith v (some (.Name x xp)) l env = pure false := by
  subst hs
  unfold swpF at h
  split at h
  · rename_i elt gs s p
    show pure (env.blockKind == .function && env.kindOf x == some .local && xp.line == p.line && !(s.names.any fun (n, k) => n == x && (k == .local || k == .cell))) = _
    have e : (env.blockKind == .function && env.kindOf x == some .local && xp.line == p.line && !(s.names.any fun (n, k) => n == x && (k == .local || k == .cell))) = (decide (env.scope.kind = .function) && (env.scope.names.lookup x == some .local) && (xp.line == (Expr.ListComp elt gs s p).pos.line) && !(s.names.any fun (n, k) => n == x && (k == .local || k == .cell))) := by
      congr 3
      unfold Env.blockKind
      rw [hk]
      rfl
    rw [e, nt h]
  · exact swE (nt h)
theorem lcl_of {sc : Scope} {x : Str} (h : lclB sc x = true) : sc.names.lookup x = some .local := by
  unfold lclB at h
  split at h
  · assumption
  · cases h
/-- x = [..] on one line -/
theorem ss_setLc {i : Nat} {e : Ex} {x : Str} {xp sp p : Pos} {elt : Expr} {gs : List Comprehension} {scope : Scope} {γ : List Dsc} {fl : Fl} {D : PEnds} (c : CtxOk cal tb k S X) (h1 : storeB S i x = true) (h2 : chkE tb S e (.ListComp elt gs scope p) = true)
    (h3 : swpN S.sc x xp (.ListComp elt gs scope p) = true) (he : exS cal (.set (.nm i) e) γ = some fl) (hD : FlOk D fl) : SW X (.Assign [.Name x xp] (.ListComp elt gs scope p) sp) γ D := by
  have sh : ∃ own sh it t e', e = .lc own sh it t e' := by
    cases e <;> first | exact ⟨_, _, _, _, _, rfl⟩ | (exact Bool.noConfusion (show false = true from h2)) | (exfalso; exact absurd (show none = some fl from he) nofun) | skip
    rename_i ts
    obtain ⟨y, p, as, kw, pos, z⟩ := isin_call h2
    cases z
  obtain ⟨own, sh, it, t, e', rfl⟩ := sh
  obtain ⟨elt', tg, iter, ifs, scope', pos', ex, g1, g2, g3, g4, g5, g6, g7⟩ := lc_shape h2
  cases ex
  obtain ⟨s1, s3, s4⟩ := c.store h1
  obtain ⟨q1, q4⟩ := an (show (decide (S.sc.kind = .function) && lclB S.sc x && (xp.line == p.line) && !(scope.names.any fun (n, k) => n == x && (k == .local || k == .cell))) = true from h3)
  obtain ⟨q1, q3⟩ := an q1
  obtain ⟨q1, q2⟩ := an q1
  have he' : (ev cal (.lc own sh it t e') γ).bind (fun r => (tgI cal (.nm i) r.1 r.2).map .nx) = some fl := he
  obtain ⟨⟨d, γ2⟩, e1, he⟩ := bnd he'
  obtain ⟨γ3, e2, rfl⟩ := mpd he
  simp only [ev] at e1
  obtain ⟨⟨ds, γ1⟩, e3, e1⟩ := bnd e1
  obtain ⟨g, e1⟩ := gd_some e1
  obtain ⟨res, e4, e5⟩ := mpd e1
  cases e5
  obtain ⟨s, e6, e7⟩ := bnd (show (dscOf (.new (.l res.1))).bind (fun s => gd (canSet res.2 i) (some (res.2.set i s))) = some γ3 by unfold tgI at e2; exact e2)
  obtain ⟨gc, e7⟩ := gd_some e7
  cases e6
  cases e7
  have hk := blk_kind g1
  have hN : X.N.Nodup := by rw [c.N]; exact c.nd
  refine sw_setLc i sh own c.calm hN (by rw [c.N, c.sc]; exact blkOk_by g1) g2 (fun s H C cl fp => pg_shp (c.blk hk s H C cl fp) rfl g3) (sw_true (by rw [c.sc]; exact of_decide_eq_true q1) (c.lcl q2) q3 (nt q4)) (IW.th (si_all it S X iter tg γ ds γ1 c g5 e3) ?_) s1 (c.lcl q2) (fsE g4)
  exact lc_turns (P := fun acc Γ2 => canSet Γ2 i = true ∧ D.nx (Γ2.set i (.own (.l acc)))) c hk (se_all e').1 (se_all t).2 g6 g7 (of_decide_eq_true g) e4 ⟨gc, hD⟩
theorem ss_set {t : Tg} {e : Ex} : SS cal tb k (.set t e) := by
  intro S X st γ fl D c po hc he hD
  have hst : ∃ tgs v sp, st = .Assign tgs v sp := by
    cases st with
    | Assign tgs v sp => exact ⟨_, _, _, rfl⟩
    | _ => exfalso; cases t <;> exact Bool.noConfusion (show false = true from hc)
  obtain ⟨tgs, v, sp, rfl⟩ := hst
  have gen : ∀ tg, tgs = [tg] → (∀ x p, tg ≠ .Name x p) → ((match (generalizing := false) tg with | .Name _ _ => false | .Tuple ts _ _ => (match (generalizing := false) v with | .Tuple vs _ _ => decide (swS S.sc ts vs = some none) | _ => true) | _ => true) && chkTg tb S t tg && chkE tb S e v) = true → SW X (.Assign tgs v sp) γ D := fun tg htg hn hh => by
    subst htg
    obtain ⟨h1, h3⟩ := an hh
    obtain ⟨h1, h2⟩ := an h1
    obtain ⟨⟨d, γ1⟩, e1, he⟩ := bnd (show (ev cal e γ).bind (fun r => (tgI cal t r.1 r.2).map .nx) = some fl from he)
    obtain ⟨γ2, e2, rfl⟩ := mpd he
    refine sw_asg (EW.th ((se_all e).1 S X v γ d γ1 c h3 e1) (GW.th (sg_all t S X tg d γ1 γ2 c h2 e2) hD)) (swNN hn) ?_ ?_
    · cases tg with
      | Name x p => exact absurd rfl (hn x p)
      | Tuple ts kk p =>
        cases v with
        | Tuple vs k2 p2 => exact swS_ok c.sc c.kind (of_decide_eq_true h1)
        | _ => rfl
      | _ => first | rfl | (exfalso; cases t <;> exact Bool.noConfusion (show false = true from h2))
    · cases tg <;> first | rfl | (exfalso; cases t <;> exact Bool.noConfusion (show false = true from h2))
  match tgs, hc with
  | [], hc => exfalso; cases t <;> exact Bool.noConfusion (show false = true from hc)
  | a :: _ :: _, hc => exfalso; cases t <;> first | exact Bool.noConfusion (show false = true from hc) | (cases a <;> exact Bool.noConfusion (show false = true from hc))
  | [tg], hc =>
    cases t with
    | nm i =>
      cases tg with
      | Name x xp =>
        obtain ⟨h0, h3⟩ := an (show (storeB S i x && chkE tb S e v && (swpF S.sc x xp v || swpN S.sc x xp v)) = true from hc)
        obtain ⟨h1, h2⟩ := an h0
        clear h0
        have plain : swapsWith v (some (.Name x xp)) sp.line X.env = pure false → SW X (.Assign [.Name x xp] v sp) γ D := fun hv => by
          obtain ⟨s1, s3, s4⟩ := c.store h1
          obtain ⟨⟨d, γ1⟩, e1, he⟩ := bnd (show (ev cal e γ).bind (fun r => (tgI cal (.nm i) r.1 r.2).map .nx) = some fl from he)
          obtain ⟨γ2, e2, rfl⟩ := mpd he
          obtain ⟨s, e6, e7⟩ := bnd (show (dscOf d).bind (fun s => gd (canSet γ1 i) (some (γ1.set i s))) = some γ2 by unfold tgI at e2; exact e2)
          obtain ⟨gc, e7⟩ := gd_some e7
          cases e7
          exact sw_set i (by rw [c.N]; exact c.nd) (EW.th ((se_all e).1 S X v γ d γ1 c h2 e1) ⟨s, e6, gc, hD⟩) s1 s3 hv s4
        rcases Bool.or_eq_true_iff.mp h3 with h3 | h3
        · exact plain (swF c.sc c.kind h3)
        · cases v with
          | ListComp elt gs scope p => exact ss_setLc (xp := xp) (sp := sp) c h1 h2 h3 he hD
          | _ => first | exact plain (swE rfl) | exact Bool.noConfusion (show false = true from h3)
      | _ => exact gen _ rfl nofun hc
    | tup ts => exact gen tg rfl (by rintro x p rfl; exact Bool.noConfusion (show false = true from hc)) hc
    | sub a b => exact gen tg rfl (by rintro x p rfl; exact Bool.noConfusion (show false = true from hc)) hc
theorem ss_aug {i : Nat} {e : Ex} : SS cal tb k (.aug i e) := by
  intro S X st γ fl D c po hc he hD
  cases st <;> try (exact Bool.noConfusion (show false = true from hc))
  rename_i tg op v p
  cases tg <;> try (exact Bool.noConfusion (show false = true from hc))
  cases op <;> try (exact Bool.noConfusion (show false = true from hc))
  rename_i x xp
  obtain ⟨h1, h2⟩ := an (show (storeB S i x && chkE tb S e v) = true from hc)
  obtain ⟨s1, s3, s4⟩ := c.store h1
  simp only [exS] at he
  split at he
  · rename_i n hn
    obtain ⟨⟨d, γ1⟩, e1, he⟩ := bnd he
    obtain ⟨m, e2, he⟩ := bnd he
    obtain ⟨g, he⟩ := gd_some he
    cases he
    exact sw_aug i (by rw [c.N]; exact c.nd) hn (EW.th ((se_all e).1 S X v γ d γ1 c h2 e1) ⟨m, int_of e2, g, hD⟩) s1 s3 s4
  · cases he
theorem ss_ex {e : Ex} : SS cal tb k (.ex e) := by
  intro S X st γ fl D c po hc he hD
  cases st <;> try (exact Bool.noConfusion (show false = true from hc))
  rename_i v p
  obtain ⟨h1, h2⟩ := an (show (!cmpB v && chkE tb S e v) = true from hc)
  simp only [exS] at he
  obtain ⟨⟨d, γ1⟩, e1, rfl⟩ := mpd he
  exact sw_expr (EW.th ((se_all e).1 S X v γ d γ1 c h2 e1) hD) (swE (nt h1))
theorem ss_ret {e : Ex} : SS cal tb k (.ret e) := by
  intro S X st γ fl D c po hc he hD
  cases st <;> try (exact Bool.noConfusion (show false = true from hc))
  rename_i v p
  cases v with
  | none => exact Bool.noConfusion (show false = true from hc)
  | some v =>
    simp only [exS] at he
    obtain ⟨⟨d, γ1⟩, e1, rfl⟩ := mpd he
    exact sw_ret (EW.th ((se_all e).1 S X v γ d γ1 c hc e1) hD)
theorem ss_ite {e : Ex} {s1 s2 : List RI.St} (h1 : SB cal tb k s1) (h2 : SB cal tb k s2) : SS cal tb k (.ite e s1 s2) := by
  intro S X st γ fl D c po hc he hD
  cases st <;> try (exact Bool.noConfusion (show false = true from hc))
  rename_i t b1 b2 p
  obtain ⟨g1, g4⟩ := an (show (tstB e && chkE tb S e t && chkB tb S s1 b1 && chkB tb S s2 b2) = true from hc)
  obtain ⟨g1, g3⟩ := an g1
  obtain ⟨g1, g2⟩ := an g1
  simp only [exS] at he
  obtain ⟨⟨d, γ1⟩, e1, he⟩ := bnd he
  obtain ⟨b, e2, he⟩ := bnd he
  cases bl_of e2
  refine sw_if (TW.th ((se_all e).2 S X t γ b γ1 c g2 g1 e1).1 ⟨fun hb => ?_, fun hb => ?_⟩)
  · subst hb
    rw [if_pos rfl] at he
    exact h1 S X b1 γ1 fl D c po g3 he hD
  · subst hb
    rw [if_neg Bool.false_ne_true] at he
    exact h2 S X b2 γ1 fl D c po g4 he hD
theorem ss_for {t : Tg} {it : It} {b : List RI.St} (h : SB cal tb k b) : SS cal tb k (.for_ t it b) := by
  intro S X st γ fl D c po hc he hD
  cases st <;> try (exact Bool.noConfusion (show false = true from hc))
  rename_i tg iter body orelse p
  cases orelse with
  | cons _ _ => exact Bool.noConfusion (show false = true from hc)
  | nil =>
    obtain ⟨g1, g4⟩ := an (show (!setB iter && chkI tb S it iter tg && chkTg tb S t tg && chkB tb S b body) = true from hc)
    obtain ⟨g1, g3⟩ := an g1
    obtain ⟨g1, g2⟩ := an g1
    simp only [exS] at he
    obtain ⟨⟨ds, γ1⟩, e1, he⟩ := bnd he
    refine sw_for c.calm po (IW.th (si_all it S X iter tg γ ds γ1 c g2 e1) ?_) (fsE (nt g1))
    refine ⟨fun i Γ => forI (fun d γ => (tgI cal t (.dat d) γ).bind fun γ' => exB cal b γ') (ds.drop i) Γ = some fl, he, fun i d Γ2 hd hJ => ?_, fun Γ2 hJ => ?_⟩
    · dsimp only at hJ
      rw [drop_cons hd] at hJ
      unfold forI at hJ
      obtain ⟨f1, e2, hJ⟩ := bnd hJ
      obtain ⟨γ2, e3, e4⟩ := bnd e2
      refine GW.th (sg_all t S X tg (.dat d) Γ2 γ2 c g3 e3) (h S X body γ2 f1 _ c po g4 e4 ?_)
      cases f1 with
      | nx γ3 => exact hJ
      | rt x γ3 => cases hJ; exact hD
    · dsimp only at hJ
      rw [List.drop_length] at hJ
      cases hJ
      exact hD
theorem ss_bad : SS cal tb k .bad := fun S X st γ fl D c po hc he hD => by cases he
end
end RI

/-! RI: several stores at once, lists of statements, all statements. -/
namespace RI
open PySem PySem.Spec PyProof.Rows L2 VY
def nsB : Ex → Bool
  | .star _ => false
  | _ => true
section
variable {cal : Cal'} {tb : Tb} {k : Nat} {S : SC} {X : Cx}
theorem chkEs_cons {e : Ex} {es : List Ex} {x : Expr} {xs : List Expr} (hn : nsB e = true) (h : chkEs tb S (e :: es) (x :: xs) = true) : stB x = false ∧ chkE tb S e x = true ∧ chkEs tb S es xs = true := by
  have h' : (!stB x && chkE tb S e x && chkEs tb S es xs) = true := by
    cases e <;> first | exact h | exact Bool.noConfusion (show false = true from hn)
  obtain ⟨h1, h3⟩ := an h'
  obtain ⟨h1, h2⟩ := an h1
  exact ⟨nt h1, h2, h3⟩
theorem nw_of (c : CtxOk cal tb k S X) : ∀ {es : List Ex} {vs : List Expr} {γ γ' : List Dsc} {ds : List Dv} {P : List Dv → List Dsc → Prop}, es.all nsB = true → chkEs tb S es vs = true → evn cal es γ = some (ds, γ') → P ds γ' → NW X vs γ P
  | [], vs, γ, γ', ds, P, hn, hc, he, p => by
    cases vs with
    | nil => cases he; exact nw_nil p
    | cons _ _ => exact Bool.noConfusion (show false = true from hc)
  | e :: es, vs, γ, γ', ds, P, hn, hc, he, p => by
    cases vs with
    | nil => exfalso; cases e <;> exact Bool.noConfusion (show false = true from hc)
    | cons x vs =>
      obtain ⟨n1, n2⟩ := an (show (nsB e && es.all nsB) = true from hn)
      obtain ⟨h1, h2, h3⟩ := chkEs_cons n1 hc
      obtain ⟨⟨d, γ1⟩, e1, he⟩ := bnd (show (ev cal e γ).bind (fun r => (evn cal es r.2).map fun s => (r.1 :: s.1, s.2)) = some (ds, γ') from he)
      obtain ⟨⟨ds', γ2⟩, e2, e3⟩ := mpd he
      cases e3
      exact nw_cons (EW.th ((se_all e).1 S X x γ d γ1 c h2 e1) (nw_of c n2 h3 e2 p)) (stE h1)
theorem chkEs_len : ∀ {es : List Ex} {vs : List Expr}, es.all nsB = true → chkEs tb S es vs = true → es.length = vs.length
  | [], vs, hn, hc => by
    cases vs with
    | nil => rfl
    | cons _ _ => exact Bool.noConfusion (show false = true from hc)
  | e :: es, vs, hn, hc => by
    cases vs with
    | nil => exfalso; cases e <;> exact Bool.noConfusion (show false = true from hc)
    | cons x vs =>
      obtain ⟨n1, n2⟩ := an (show (nsB e && es.all nsB) = true from hn)
      obtain ⟨h1, h2, h3⟩ := chkEs_cons n1 hc
      exact congrArg (· + 1) (chkEs_len n2 h3)
theorem evn_len : ∀ {es : List Ex} {γ γ' : List Dsc} {ds : List Dv}, evn cal es γ = some (ds, γ') → ds.length = es.length
  | [], γ, γ', ds, he => by cases he; rfl
  | e :: es, γ, γ', ds, he => by
    obtain ⟨⟨d, γ1⟩, e1, he⟩ := bnd (show (ev cal e γ).bind (fun r => (evn cal es r.2).map fun s => (r.1 :: s.1, s.2)) = some (ds, γ') from he)
    obtain ⟨⟨ds', γ2⟩, e2, e3⟩ := mpd he
    cases e3
    exact congrArg (· + 1) (evn_len e2)
theorem stores_ok (c : CtxOk cal tb k S X) : ∀ {is : List Nat} {ts : List Expr}, storesB S is ts = true → NmsOk X ts is ∧ is.length = ts.length ∧ ts.all (fun e => !stB e) = true
  | [], [], _ => ⟨.nil, rfl, rfl⟩
  | [], _ :: _, h => Bool.noConfusion (show false = true from h)
  | i :: is, [], h => Bool.noConfusion (show false = true from h)
  | i :: is, t :: r, h => by
    cases t <;> try (exact Bool.noConfusion (show false = true from h))
    rename_i x p
    obtain ⟨h1, h2⟩ := an (show (storeB S i x && storesB S is r) = true from h)
    obtain ⟨g1, g2, g3⟩ := stores_ok c h2
    obtain ⟨s1, s3, s4⟩ := c.store h1
    exact ⟨.cons s1 s3 s4 g1 rfl, congrArg (· + 1) g2, g3⟩
theorem lcls_cons {is : List Nat} {ts : List Expr} {i : Nat} (c : CtxOk cal tb k S X) (h : lclsB S (i :: is) ts = true) : ∃ x p r, ts = .Name x p :: r ∧ X.N[i]? = some x ∧ X.env.scope.names.lookup x = some .local ∧ lclsB S is r = true := by
  cases ts with
  | nil => exact Bool.noConfusion (show false = true from h)
  | cons t r =>
    cases t <;> try (exact Bool.noConfusion (show false = true from h))
    rename_i x p
    obtain ⟨h1, h3⟩ := an (show (decide (S.N[i]? = some x) && lclB S.sc x && lclsB S is r) = true from h)
    obtain ⟨h1, h2⟩ := an h1
    exact ⟨x, p, r, rfl, by rw [c.N]; exact of_decide_eq_true h1, by rw [c.sc]; exact lcl_of h2, h3⟩
theorem lcls_nil {ts : List Expr} (h : lclsB S [] ts = true) : ts = [] := by
  cases ts with
  | nil => rfl
  | cons _ _ => exact Bool.noConfusion (show false = true from h)
theorem ids_cons {x : Str} {p : Pos} {r : List Expr} {ns : List Str} (h : idsOf (.Name x p :: r) = some ns) : ∃ ms, idsOf r = some ms ∧ x :: ms = ns := mpd h
theorem sole_ok {ts vs : List Expr} {k k2 : Nat} {p p2 : Pos} {l : Nat} {env : Env} : swapsWithSole [.Tuple ts k p] (.Tuple vs k2 p2) l env = pure false := rfl
theorem ss_par {is : List Nat} {es : List Ex} : SS cal tb k (.par is es) := by
  intro S X st γ fl D c po hc he hD
  have hst : ∃ ts kt pt vs k2 p2 sp, st = .Assign [.Tuple ts kt pt] (.Tuple vs k2 p2) sp := by
    cases st <;> try (exact Bool.noConfusion (show false = true from hc))
    rename_i tgs v sp
    match tgs with
    | [] => exact Bool.noConfusion (show false = true from hc)
    | a :: _ :: _ => cases a <;> exact Bool.noConfusion (show false = true from hc)
    | [a] =>
      cases a <;> try (exact Bool.noConfusion (show false = true from hc))
      cases v <;> try (exact Bool.noConfusion (show false = true from hc))
      exact ⟨_, _, _, _, _, _, _, rfl⟩
  obtain ⟨ts, kt, pt, vs, k2, p2, sp, rfl⟩ := hst
  obtain ⟨h1, h6⟩ := an (show (decide (2 ≤ is.length) && decide (is.length ≤ 1000) && (match swS S.sc ts vs with
      | some none => storesB S is ts
      | some (some ns) => decide (idsOf ts = some ns) && lclsB S is ts && decide is.Nodup && decide (is.length ≤ 3)
      | none => false) && vs.all (fun e => !stB e) && chkEs tb S es vs && es.all nsB) = true from hc)
  obtain ⟨h1, h5⟩ := an h1
  obtain ⟨h1, h4⟩ := an h1
  obtain ⟨h1, h3⟩ := an h1
  obtain ⟨h1, h2⟩ := an h1
  have h1 := of_decide_eq_true h1
  have h2 := of_decide_eq_true h2
  obtain ⟨⟨ds, γ1⟩, e1, he⟩ := bnd (show (evn cal es γ).bind (fun r => (putS r.2 is r.1).map .nx) = some fl from he)
  obtain ⟨γ2, e2, rfl⟩ := mpd he
  have hw : NW X vs γ fun ds Γ1 => ∃ Γ2, putS Γ1 is ds = some Γ2 ∧ D.nx Γ2 := nw_of c h6 h5 e1 ⟨γ2, e2, hD⟩
  have hN : X.N.Nodup := by rw [c.N]; exact c.nd
  have hl : vs.length = is.length := by rw [← chkEs_len h6 h5, ← evn_len e1]; exact putS_len e2
  split at h3
  · rename_i hs
    obtain ⟨g1, g2, g3⟩ := stores_ok c h3
    obtain ⟨a1, a2⟩ := asAll (env := X.env) g3
    exact sw_pt is c.calm hN g1 hw g2 h2 (swS_ok c.sc c.kind hs) sole_ok rfl a1 a2
  · rename_i ns hs
    obtain ⟨h3, g4⟩ := an h3
    obtain ⟨h3, g3⟩ := an h3
    obtain ⟨g1, g2⟩ := an h3
    have g1 := of_decide_eq_true g1
    have g3 := of_decide_eq_true g3
    have g4 := of_decide_eq_true g4
    match is, h1, g4 with
    | [i, j], _, _ =>
      obtain ⟨x, px, r, rfl, x1, x2, g2⟩ := lcls_cons c g2
      obtain ⟨y, py, r, rfl, y1, y2, g2⟩ := lcls_cons c g2
      cases lcls_nil g2
      match vs, hl with
      | [a, b], _ =>
        obtain ⟨m1, i1, rfl⟩ := ids_cons g1
        obtain ⟨m2, i2, rfl⟩ := ids_cons i1
        cases i2
        have nd := List.nodup_cons.mp g3
        exact sw_p2 i j c.calm hN hw (swS_ok c.sc c.kind hs) (fun e => nd.1 (by rw [e]; exact List.mem_cons_self)) x1 y1 x2 y2 sole_ok
    | [i, j, l], _, _ =>
      obtain ⟨x, px, r, rfl, x1, x2, g2⟩ := lcls_cons c g2
      obtain ⟨y, py, r, rfl, y1, y2, g2⟩ := lcls_cons c g2
      obtain ⟨z, pz, r, rfl, z1, z2, g2⟩ := lcls_cons c g2
      cases lcls_nil g2
      match vs, hl with
      | [a, b, d], _ =>
        obtain ⟨m1, i1, rfl⟩ := ids_cons g1
        obtain ⟨m2, i2, rfl⟩ := ids_cons i1
        obtain ⟨m3, i3, rfl⟩ := ids_cons i2
        cases i3
        have nd := List.nodup_cons.mp g3
        have nd2 := List.nodup_cons.mp nd.2
        exact sw_p3 i j l c.calm hN hw (swS_ok c.sc c.kind hs) (fun e => nd.1 (by rw [e]; exact List.mem_cons_self)) (fun e => nd.1 (by rw [e]; simp)) (fun e => nd2.1 (by rw [e]; exact List.mem_cons_self)) x1 y1 z1 x2 y2 z2 sole_ok
  · cases h3
theorem ssw_frz {i : Nat} {sts : List Stmt} {γ : List Dsc} {D : PEnds} (h : SsW X sts (frzI i γ) D) : SsW X sts γ D := by
  unfold frzI at h
  split at h
  · rename_i ds hd
    exact ssw_freeze i hd h
  · exact h
theorem sb_nil : SB cal tb k [] := by
  intro S X sts γ fl D c po hc he hD
  cases sts with
  | cons _ _ => exact Bool.noConfusion (show false = true from hc)
  | nil => cases he; exact ssw_nil hD
theorem sb_frz {i : Nat} {ss : List RI.St} (h : SB cal tb k ss) : SB cal tb k (.frz i :: ss) := by
  intro S X sts γ fl D c po hc he hD
  exact ssw_frz (h S X sts (frzI i γ) fl D c po (by cases sts <;> exact hc) he hD)
def frzS : RI.St → Bool
  | .frz _ => true
  | _ => false
theorem sb_cons {s : RI.St} {ss : List RI.St} (hs : SS cal tb k s) (hn : frzS s = false) (h : SB cal tb k ss) : SB cal tb k (s :: ss) := by
  intro S X sts γ fl D c po hc he hD
  cases sts with
  | nil => exfalso; cases s <;> first | exact Bool.noConfusion (show false = true from hc) | exact Bool.noConfusion (show true = false from hn)
  | cons st sts =>
    have hc' : (chkS tb S s st && chkB tb S ss sts) = true := by
      cases s <;> first | exact hc | exact Bool.noConfusion (show true = false from hn)
    obtain ⟨h1, h2⟩ := an hc'
    simp only [exB] at he
    obtain ⟨f1, e1, e2⟩ := bnd he
    refine ssw_cons (hs S X st γ f1 _ c po h1 e1 ?_)
    cases f1 with
    | nx γ1 => exact h S X sts γ1 fl D c po h2 e2 hD
    | rt d γ1 => cases e2; exact hD
theorem ss_frz {i : Nat} : SS cal tb k (.frz i) := by
  intro S X st γ fl D c po hc he hD
  cases st <;> exact Bool.noConfusion (show false = true from hc)
mutual
theorem ss_all : ∀ s : RI.St, SS cal tb k s
  | .frz i => ss_frz
  | .set t e => ss_set
  | .par is es => ss_par
  | .aug i e => ss_aug
  | .ex e => ss_ex
  | .ret e => ss_ret
  | .ite e s1 s2 => ss_ite (sb_all s1) (sb_all s2)
  | .for_ t it b => ss_for (sb_all b)
  | .bad => ss_bad
termination_by structural s => s
theorem sb_all : ∀ ss : List RI.St, SB cal tb k ss
  | [] => sb_nil
  | s :: ss => by
    cases hn : frzS s with
    | false => exact sb_cons (ss_all s) hn (sb_all ss)
    | true => cases s <;> first | exact sb_frz (sb_all ss) | cases hn
termination_by structural ss => ss
end
end
end RI

/-! RI: defs. -/
namespace RI
open PySem PySem.Spec PyProof.Rows L2 VY
def scB (N ps : List Str) (sc : Scope) : Bool := decide (sc.kind = .function) && !sc.isCoroutine && !sc.isGenerator && decide N.Nodup && decide (N.take ps.length = ps) && ps.all (fun x => decide (sc.names.lookup x = some .local) || decide (sc.names.lookup x = some .cell)) && sc.names.all (fun y => decide (y.2 ≠ .free))
theorem fsc_of {N ps : List Str} {sc : Scope} (h : scB N ps sc = true) : FnScope N ps sc := by
  obtain ⟨h, h7⟩ := an h
  obtain ⟨h, h6⟩ := an h
  obtain ⟨h, h5⟩ := an h
  obtain ⟨h, h4⟩ := an h
  obtain ⟨h, h3⟩ := an h
  obtain ⟨h1, h2⟩ := an h
  refine ⟨of_decide_eq_true h1, nt h2, nt h3, of_decide_eq_true h4, of_decide_eq_true h5, fun x m => ?_, fun y m => of_decide_eq_true (List.all_eq_true.mp h7 y m)⟩
  rcases Bool.or_eq_true_iff.mp (List.all_eq_true.mp h6 x m) with h | h
  · exact .inl (of_decide_eq_true h)
  · exact .inr (of_decide_eq_true h)
def defB (tb : Tb) (fd : FD) (st : Stmt) : Bool := scB fd.N fd.ps (defScope st) && chkB tb ⟨fd.N, defScope st, true, []⟩ fd.body (defBody st)
/-- every def of the table is the def that stands at its place of the top -/
def tabB (tb : Tb) (sts : List Stmt) : Bool := decide (tb.fn.length = sts.length) && (tb.fn.zip sts).all fun r => defB tb r.1 r.2
structure DefOk (K : PySem.W.Frag) (mg : Str → Option Value) (fd : FD) (st : Stmt) : Prop where
  ex : ∃ (f : Addr) (d : FuncData), Fun K fd.name fd.name st f d ∧ mg fd.name = some (.ref f) ∧ Binds K d fd.ps []
inductive DefsOk (K : PySem.W.Frag) (mg : Str → Option Value) : List FD → List Stmt → Prop
  | nil : DefsOk K mg [] []
  | cons {fd : FD} {st : Stmt} {l : List FD} {r : List Stmt} (h : DefOk K mg fd st) (t : DefsOk K mg l r) : DefsOk K mg (fd :: l) (st :: r)
theorem DefsOk.get {K : PySem.W.Frag} {mg : Str → Option Value} {fd : FD} : ∀ {l : List FD} {r : List Stmt}, DefsOk K mg l r → ∀ {f : Nat}, l[f]? = some fd → ∃ st, r[f]? = some st ∧ DefOk K mg fd st
  | _, _, .nil, f, h => by simp at h
  | _, _, .cons a t, 0, h => by simp at h; subst h; exact ⟨_, rfl, a⟩
  | _, _, .cons a t, f + 1, h => by
    rw [List.getElem?_cons_succ] at h
    obtain ⟨st, h1, h2⟩ := t.get h
    exact ⟨st, by rw [List.getElem?_cons_succ]; exact h1, h2⟩
structure TopOk (K : PySem.W.Frag) (mg : Str → Option Value) (tb : Tb) (sts : List Stmt) : Prop where
  fns : DefsOk K mg tb.fn sts
  tab : tabB tb sts = true
  bi : ∀ x ∈ biNames, mg x = none
  ct : ∀ x v, tb.ct.lookup x = some v → ∃ u, mg x = some u ∧ RelV v u
section
variable {P : Program} {w : World} {K : PySem.W.Frag} {mg : Str → Option Value} {base : Heap} {tb : Tb} {sts : List Stmt}
theorem TopOk.row (T : TopOk K mg tb sts) {f : Nat} {fd : FD} (h : tb.fn[f]? = some fd) : ∃ st, DefOk K mg fd st ∧ defB tb fd st = true := by
  obtain ⟨st, h1, h2⟩ := T.fns.get h
  obtain ⟨_, t2⟩ := an T.tab
  refine ⟨st, h2, ?_⟩
  have m : (fd, st) ∈ tb.fn.zip sts := by
    refine List.mem_of_getElem? (i := f) ?_
    rw [List.getElem?_zip_eq_some]
    exact ⟨h, h1⟩
  exact List.all_eq_true.mp t2 _ m
/-- THE WALK: every def of the table does what the small language computes -/
theorem fn_all (T : TopOk K mg tb sts) : ∀ n f fd, tb.fn[f]? = some fd → ∀ st a d, Fun K fd.name fd.name st a d → defB tb fd st = true → FnOk P w K mg base CX0 n a d fd.ps (spW K (SIc (callI tb.fn n) f)) := by
  intro n
  induction n with
  | zero =>
    intro f fd hf st a d F hd
    refine ⟨fun vs H Q E h => ?_, fun A outer s H args us vs Q E hr he hb hv h => ?_⟩ <;>
    · obtain ⟨F0, as, R, _, _, _, ⟨r, os, e, _⟩, _⟩ := h
      cases e
  | succ n ih =>
    intro f fd hf st a d F hd
    obtain ⟨h1, h2⟩ := an hd
    have sc := fsc_of h1
    refine fn_w F sc (fun as R h => ?_) fun cdv A outer s H E hr as R h => ?_
    · obtain ⟨r, os, e, _⟩ := h
      simp only [callI] at e
      obtain ⟨fd', e1, e⟩ := bnd e
      rw [hf] at e1; cases e1
      exact of_decide_eq_true (gd_some e).1
    · obtain ⟨r, os, e, hr1, hR⟩ := h
      simp only [callI] at e
      obtain ⟨fd', e1, e⟩ := bnd e
      rw [hf] at e1; cases e1
      obtain ⟨g, e⟩ := gd_some e
      obtain ⟨fl, e2, e⟩ := bnd e
      have c : CtxOk (callI tb.fn n) tb n ⟨fd.N, defScope st, true, []⟩ (bx P w K mg base fd.N fd.name (defScope st) a cdv A outer s H E) := {
        N := rfl
        sc := rfl
        fn := fun _ => rfl
        calm := rfl
        nd := sc.nd
        kind := sc.kind
        room := hr
        bi := T.bi
        ct := T.ct
        fns := fun f2 fd2 h => by
          obtain ⟨st2, ⟨a2, d2, F2, m2, b2⟩, B2⟩ := T.row h
          exact cal_w (ih f2 fd2 h st2 a2 d2 F2 B2) m2 F2.kp b2 }
      refine sb_all fd.body _ _ (defBody st) (G0 fd.N as) fl (endsW as R) c PassesOwn.never h2 e2 ?_
      cases fl with
      | nx γ => cases e; exact hR
      | rt d γ =>
        obtain ⟨r', e3, e4⟩ := mpd e
        cases e4
        exact ⟨_, e3, hR⟩
/-- the table's rows, one by one -/
theorem law_ok (T : TopOk K mg tb sts) (n : Nat) {f : Nat} {fd : FD} {st : Stmt} {a : Addr} {d : FuncData} (hf : tb.fn[f]? = some fd) (hs : sts[f]? = some st) (F : Fun K fd.name fd.name st a d) : FnOk P w K mg base CX0 n a d fd.ps (spW K (SIc (callI tb.fn n) f)) := by
  refine fn_all T n f fd hf st a d F ?_
  obtain ⟨_, t2⟩ := an T.tab
  exact List.all_eq_true.mp t2 (fd, st) (List.mem_of_getElem? (i := f) (by rw [List.getElem?_zip_eq_some]; exact ⟨hf, hs⟩))
inductive CtOk (mg : Str → Option Value) : List (Str × V) → Prop
  | nil : CtOk mg []
  | cons {x : Str} {v : V} {r : List (Str × V)} (h : ∃ u, mg x = some u ∧ RelV v u) (t : CtOk mg r) : CtOk mg ((x, v) :: r)
theorem ctOk_get {mg : Str → Option Value} {l : List (Str × V)} (h : CtOk mg l) : ∀ x v, l.lookup x = some v → ∃ u, mg x = some u ∧ RelV v u := by
  induction h with
  | nil => intro x v e; cases e
  | @cons y z r h t ih =>
    intro x v e
    rw [List.lookup_cons] at e
    split at e
    · rename_i q
      cases e
      rw [eq_of_beq q]
      exact h
    · exact ih x v e
end
end RI

/-! RI: how the small language's loops compute. -/
namespace RI
open PySem PySem.Spec PyProof.Rows L2 VY
section
variable {vs js : List Nat} {pt : D → Option (List D)} {fc : List Dsc → Option (Bool × List Dsc)} {fe : List Dsc → Rv} {γ : List Dsc}
/-- a comprehension that only reads -/
theorem lcI_map {g : D → D} (hvs : vs.all (canSet γ) = true) : ∀ {ds acc : List D}, (∀ d ∈ ds, ∃ es r s, pt d = some es ∧ fc (setsG (wipeG γ vs) js es) = some (true, r) ∧ fe r = some s ∧ datOf s.1 = some (g d) ∧ mergeG vs γ s.2 = γ) → lcI vs js pt fc fe ds acc γ = some (acc ++ ds.map g, γ)
  | [], acc, _ => by unfold lcI; rw [List.map_nil, List.append_nil]
  | d :: ds, acc, h => by
    obtain ⟨es, r, s, h1, h2, h3, h4, h5⟩ := h d List.mem_cons_self
    unfold lcI
    rw [hvs, gd, if_pos rfl, h1, Option.bind_some, h2, Option.bind_some, if_pos rfl, h3, Option.bind_some, h4, Option.bind_some, h5, lcI_map (ds := ds) hvs (fun e he => h e (List.mem_cons_of_mem _ he)), List.map_cons, List.append_assoc]
    rfl
/-- the same with a test -/
theorem lcI_filter {g : D → D} {p : D → Bool} (hvs : vs.all (canSet γ) = true) : ∀ {ds acc : List D}, (∀ d ∈ ds, ∃ es r, pt d = some es ∧ fc (setsG (wipeG γ vs) js es) = some (p d, r) ∧ mergeG vs γ r = γ ∧ (p d = true → ∃ s, fe r = some s ∧ datOf s.1 = some (g d) ∧ mergeG vs γ s.2 = γ)) → lcI vs js pt fc fe ds acc γ = some (acc ++ (ds.filter p).map g, γ)
  | [], acc, _ => by unfold lcI; rw [List.filter_nil, List.map_nil, List.append_nil]
  | d :: ds, acc, h => by
    obtain ⟨es, r, h1, h2, h3, h4⟩ := h d List.mem_cons_self
    have ih := fun acc' => lcI_filter (ds := ds) (acc := acc') hvs (fun e he => h e (List.mem_cons_of_mem _ he))
    unfold lcI
    rw [hvs, gd, if_pos rfl, h1, Option.bind_some, h2, Option.bind_some]
    cases hp : p d with
    | true =>
      obtain ⟨s, h5, h6, h7⟩ := h4 hp
      rw [if_pos rfl, h5, Option.bind_some, h6, Option.bind_some, h7, ih, List.filter_cons_of_pos hp, List.map_cons, List.append_assoc]
      rfl
    | false =>
      rw [if_neg Bool.false_ne_true, List.filter_cons_of_neg (by rw [hp]; exact Bool.false_ne_true), h3, ih]
/-- a comprehension with an invariant -/
theorem lcI_inv {I : Nat → List D → List Dsc → Prop} : ∀ {ds : List D} {k : Nat} {acc : List D} {γ : List Dsc}, I k acc γ → (∀ i d acc γ, ds[i]? = some d → I (k + i) acc γ → vs.all (canSet γ) = true ∧ ∃ es r s d', pt d = some es ∧ fc (setsG (wipeG γ vs) js es) = some (true, r) ∧ fe r = some s ∧ datOf s.1 = some d' ∧ I (k + i + 1) (acc ++ [d']) (mergeG vs γ s.2)) → ∃ acc' γ', lcI vs js pt fc fe ds acc γ = some (acc', γ') ∧ I (k + ds.length) acc' γ'
  | [], k, acc, γ, h0, _ => ⟨acc, γ, rfl, h0⟩
  | d :: ds, k, acc, γ, h0, h => by
    obtain ⟨hvs, es, r, s, d', h1, h2, h3, h4, h5⟩ := h 0 d acc γ rfl h0
    obtain ⟨acc', γ', e, h6⟩ := lcI_inv (ds := ds) (k := k + 1) h5 fun i e acc γ he hI => by
      have := h (i + 1) e acc γ (by rw [List.getElem?_cons_succ]; exact he) (by rw [show k + (i + 1) = k + 1 + i by omega]; exact hI)
      rw [show k + (i + 1) + 1 = k + 1 + i + 1 by omega] at this
      exact this
    refine ⟨acc', γ', ?_, by rw [List.length_cons, show k + (ds.length + 1) = k + 1 + ds.length by omega]; exact h6⟩
    unfold lcI
    rw [hvs, gd, if_pos rfl, h1, Option.bind_some, h2, Option.bind_some, if_pos rfl, h3, Option.bind_some, h4, Option.bind_some]
    exact e
end
section
variable {step : D → List Dsc → Option Fl}
theorem forI_cons {d : D} {ds : List D} {γ : List Dsc} : forI step (d :: ds) γ = (step d γ).bind fun | .nx γ' => forI step ds γ' | .rt x γ' => some (.rt x γ') := rfl
/-- a loop that folds -/
theorem forI_fold {σ : Type} {S : σ → List Dsc} {f : σ → D → σ} : ∀ {ds : List D} {s : σ}, (∀ d ∈ ds, ∀ s, step d (S s) = some (.nx (S (f s d)))) → forI step ds (S s) = some (.nx (S (ds.foldl f s)))
  | [], s, _ => rfl
  | d :: ds, s, h => by
    rw [forI_cons, h d List.mem_cons_self s]
    show forI step ds (S (f s d)) = _
    rw [forI_fold fun e he s => h e (List.mem_cons_of_mem _ he) s]
    rfl
/-- a loop with an invariant -/
theorem forI_inv {I : Nat → List Dsc → Prop} : ∀ {ds : List D} {k : Nat} {γ : List Dsc}, I k γ → (∀ i d γ, ds[i]? = some d → I (k + i) γ → ∃ γ', step d γ = some (.nx γ') ∧ I (k + i + 1) γ') → ∃ γ', forI step ds γ = some (.nx γ') ∧ I (k + ds.length) γ'
  | [], k, γ, h0, _ => ⟨γ, rfl, h0⟩
  | d :: ds, k, γ, h0, h => by
    obtain ⟨γ1, e1, h1⟩ := h 0 d γ rfl h0
    obtain ⟨γ2, e2, h2⟩ := forI_inv (ds := ds) (k := k + 1) (γ := γ1) h1 fun i e γ he hI => by
      have := h (i + 1) e γ (by rw [List.getElem?_cons_succ]; exact he) (by rw [show k + (i + 1) = k + 1 + i by omega]; exact hI)
      rw [show k + (i + 1) + 1 = k + 1 + i + 1 by omega] at this
      exact this
    refine ⟨γ2, ?_, by rw [List.length_cons, show k + (ds.length + 1) = k + 1 + ds.length by omega]; exact h2⟩
    rw [forI_cons, e1]
    exact e2
/-- a loop that may end early: it either falls through or returns x -/
theorem forI_inv2 {I : Nat → List Dsc → Prop} {R : Fl → Prop} : ∀ {ds : List D} {k : Nat} {γ : List Dsc}, I k γ → (∀ i d γ, ds[i]? = some d → I (k + i) γ → (∃ γ', step d γ = some (.nx γ') ∧ I (k + i + 1) γ') ∨ ∃ x γ', step d γ = some (.rt x γ') ∧ R (.rt x γ')) → (∀ γ, I (k + ds.length) γ → R (.nx γ)) → ∃ fl, forI step ds γ = some fl ∧ R fl
  | [], k, γ, h0, _, q => ⟨.nx γ, rfl, q γ h0⟩
  | d :: ds, k, γ, h0, h, q => by
    rcases h 0 d γ rfl h0 with ⟨γ1, e1, h1⟩ | ⟨x, γ1, e1, h1⟩
    · obtain ⟨fl, e2, h2⟩ := forI_inv2 (R := R) (ds := ds) (k := k + 1) (γ := γ1) h1 (fun i e γ he hI => by
        have := h (i + 1) e γ (by rw [List.getElem?_cons_succ]; exact he) (by rw [show k + (i + 1) = k + 1 + i by omega]; exact hI)
        rw [show k + (i + 1) + 1 = k + 1 + i + 1 by omega] at this
        exact this) fun γ hI => q γ (by rw [List.length_cons, show k + (ds.length + 1) = k + 1 + ds.length by omega]; exact hI)
      refine ⟨fl, ?_, h2⟩
      rw [forI_cons, e1]
      exact e2
    · refine ⟨_, ?_, h1⟩
      rw [forI_cons, e1]
      rfl
end
/-- what the caller gets of a body's end -/
def endI (as : List Ag) : Fl → Option (Dv × List VY.T)
  | .nx γ => some (.dat .non, outsG γ as)
  | .rt d γ => (retOf γ d).map fun r => (r, outsG γ as)
/-- a def called: its body's end -/
theorem callI_eq {tb : List FD} {n f : Nat} {as : List Ag} {fd : FD} {fl : Fl} (hf : tb[f]? = some fd) (hl : as.length = fd.ps.length) (h : exB (callI tb n) fd.body (G0 fd.N as) = some fl) :
    callI tb (n + 1) f as = endI as fl := by
  have e : callI tb (n + 1) f as = (tb[f]?).bind fun fd => gd (decide (as.length = fd.ps.length)) ((exB (callI tb n) fd.body (G0 fd.N as)).bind (endI as)) := by
    simp only [callI]
    rfl
  rw [e, hf, Option.bind_some, gd, if_pos (decide_eq_true hl), h]
  rfl
section
variable {cal : Nat → List Ag → Option (Dv × List VY.T)} {a b c e o : Ex} {es : List Ex} {γ γ1 γ2 γ3 : List Dsc} {x y z : Dv} {ds : List D} {vs : List Dv} {fl : Fl} {s : RI.St} {ss : List RI.St} {i j : Int} {k : Bool}
theorem ev_b1 {b : B1} (h : ev cal e γ = some (x, γ1)) (h2 : b1I γ1 b x = some y) : ev cal (.b1 b e) γ = some (y, γ1) := by simp only [ev]; rw [h, Option.bind_some, h2]; rfl
theorem ev_bin {op : Bop} (h : ev cal a γ = some (x, γ1)) (h2 : ev cal b γ1 = some (y, γ2)) (h3 : binI γ2 op x y = some z) : ev cal (.bin op a b) γ = some (z, γ2) := by simp only [ev]; rw [h, Option.bind_some, h2, Option.bind_some, h3]; rfl
theorem ev_cmp {op : Cop} (h : ev cal a γ = some (x, γ1)) (h2 : ev cal b γ1 = some (y, γ2)) (h3 : cmpI γ2 op x y = some k) : ev cal (.cmp op a b) γ = some (.dat (.bl k), γ2) := by simp only [ev]; rw [h, Option.bind_some, h2, Option.bind_some, h3]; rfl
theorem ev_idx (h : ev cal a γ = some (x, γ1)) (h2 : ev cal b γ1 = some (y, γ2)) (h3 : idxI γ2 x y = some z) : ev cal (.idx a b) γ = some (z, γ2) := by simp only [ev]; rw [h, Option.bind_some, h2, Option.bind_some, h3]; rfl
theorem ev_not (h : ev cal a γ = some (.dat (.bl k), γ1)) : ev cal (.not a) γ = some (.dat (.bl (!k)), γ1) := by simp only [ev]; rw [h]; rfl
theorem ev_and (h : ev cal a γ = some (.dat (.bl k), γ1)) (ht : k = true → ev cal b γ1 = some (x, γ2)) (hf : k = false → x = .dat (.bl false) ∧ γ2 = γ1) : ev cal (.and a b) γ = some (x, γ2) := by
  simp only [ev]
  rw [h, Option.bind_some]
  cases k with
  | true => exact ht rfl
  | false => obtain ⟨rfl, rfl⟩ := hf rfl; rfl
theorem ev_or (h : ev cal a γ = some (.dat (.bl k), γ1)) (hf : k = false → ev cal b γ1 = some (x, γ2)) (ht : k = true → x = .dat (.bl true) ∧ γ2 = γ1) : ev cal (.or a b) γ = some (x, γ2) := by
  simp only [ev]
  rw [h, Option.bind_some]
  cases k with
  | true => obtain ⟨rfl, rfl⟩ := ht rfl; rfl
  | false => exact hf rfl
theorem ev_ite (h : ev cal c γ = some (.dat (.bl k), γ1)) (ht : k = true → ev cal a γ1 = some (x, γ2)) (hf : k = false → ev cal b γ1 = some (x, γ2)) : ev cal (.ite c a b) γ = some (x, γ2) := by
  simp only [ev]
  rw [h, Option.bind_some]
  cases k with
  | true => exact ht rfl
  | false => exact hf rfl
theorem ev_lc {own : List (Str × Nat)} {sh : Shp} {it : It} {res : List D} (h : evi cal it γ = some (ds, γ1)) (hl : ds.length < 1000000) (h2 : lcI (own.map (·.2)) sh.js sh.parts (fun γ => evcW (noB c) (ev cal c γ) γ) (ev cal e) ds [] γ1 = some (res, γ2)) : ev cal (.lc own sh it c e) γ = some (.new (.l res), γ2) := by
  simp only [ev]
  rw [h, Option.bind_some, gd, if_pos (decide_eq_true hl)]
  exact congrArg (Option.map _) h2
theorem ev_call {f : Nat} {as : List Ag} {os : List VY.T} (h : evs cal es γ = some (vs, γ1)) (h2 : agsOf γ1 vs = some as) (h3 : decide (plOf vs).Nodup = true) (h4 : cal f as = some (x, os)) (h5 : rtB x = true) : ev cal (.call f es) γ = some (x, putP γ1 (plOf vs) os) := by
  simp only [ev]
  rw [h, Option.bind_some, h2, Option.bind_some, gd, if_pos h3, h4, Option.bind_some, gd, if_pos h5]
theorem ev_tup (h : evs cal es γ = some (vs, γ1)) (h2 : datsOf vs = some ds) (h3 : ds.length ≤ 1000000) : ev cal (.tup es) γ = some (.dat (.tup ds), γ1) := by
  simp only [ev]
  rw [h, Option.bind_some, h2, Option.bind_some, gd, if_pos (decide_eq_true h3)]
theorem ev_lst (h : evs cal es γ = some (vs, γ1)) (h2 : datsOf vs = some ds) (h3 : ds.length ≤ 1000000) : ev cal (.lst es) γ = some (.new (.l ds), γ1) := by
  simp only [ev]
  rw [h, Option.bind_some, h2, Option.bind_some, gd, if_pos (decide_eq_true h3)]
theorem evs_cons (hn : nsB e = true) (h : ev cal e γ = some (x, γ1)) (h2 : evs cal es γ1 = some (vs, γ2)) : evs cal (e :: es) γ = some (frzV x :: vs, γ2) := by
  have : evs cal (e :: es) γ = (ev cal e γ).bind fun r => (evs cal es r.2).map fun s => (frzV r.1 :: s.1, s.2) := by
    cases e <;> first | rfl | cases hn
  rw [this, h, Option.bind_some, h2]
  rfl
theorem evi_of (h : ev cal e γ = some (x, γ1)) (h2 : itsI x = some ds) : evi cal (.of e) γ = some (ds, γ1) := by simp only [evi]; rw [h, Option.bind_some, h2]; rfl
theorem evi_enum (h : ev cal e γ = some (x, γ1)) (h2 : itsI x = some ds) : evi cal (.enum e) γ = some (enumD ds, γ1) := by simp only [evi]; rw [h, Option.bind_some, h2]; rfl
theorem exS_set {t : Tg} (h : ev cal e γ = some (x, γ1)) (h2 : tgI cal t x γ1 = some γ2) : exS cal (.set t e) γ = some (.nx γ2) := by simp only [exS]; rw [h, Option.bind_some, h2]; rfl
theorem exS_ex (h : ev cal e γ = some (x, γ1)) : exS cal (.ex e) γ = some (.nx γ1) := by simp only [exS]; rw [h]; rfl
theorem exS_ret (h : ev cal e γ = some (x, γ1)) : exS cal (.ret e) γ = some (.rt x γ1) := by simp only [exS]; rw [h]; rfl
theorem exS_par {is : List Nat} (h : evn cal es γ = some (vs, γ1)) (h2 : putS γ1 is vs = some γ2) : exS cal (.par is es) γ = some (.nx γ2) := by simp only [exS]; rw [h, Option.bind_some, h2]; rfl
theorem evn_cons (h : ev cal e γ = some (x, γ1)) (h2 : evn cal es γ1 = some (vs, γ2)) : evn cal (e :: es) γ = some (x :: vs, γ2) := by
  show (ev cal e γ).bind (fun r => (evn cal es r.2).map fun s => (r.1 :: s.1, s.2)) = _
  rw [h, Option.bind_some, h2]
  rfl
theorem exS_ite {s1 s2 : List RI.St} (h : ev cal c γ = some (.dat (.bl k), γ1)) (ht : k = true → exB cal s1 γ1 = some fl) (hf : k = false → exB cal s2 γ1 = some fl) : exS cal (.ite c s1 s2) γ = some fl := by
  simp only [exS]
  rw [h, Option.bind_some]
  cases k with
  | true => exact ht rfl
  | false => exact hf rfl
theorem exS_for {t : Tg} {it : It} {b : List RI.St} (h : evi cal it γ = some (ds, γ1)) (h2 : forI (fun d γ => (tgI cal t (.dat d) γ).bind fun γ' => exB cal b γ') ds γ1 = some fl) : exS cal (.for_ t it b) γ = some fl := by simp only [exS]; rw [h, Option.bind_some]; exact h2
theorem exB_nx (h : exS cal s γ = some (.nx γ1)) (h2 : exB cal ss γ1 = some fl) : exB cal (s :: ss) γ = some fl := by simp only [exB]; rw [h]; exact h2
theorem exB_rt (h : exS cal s γ = some (.rt x γ1)) : exB cal (s :: ss) γ = some (.rt x γ1) := by simp only [exB]; rw [h]; rfl
theorem turn_ok {t : Tg} {b : List RI.St} {d : D} (h : tgI cal t (.dat d) γ = some γ1) (h2 : exB cal b γ1 = some fl) : (tgI cal t (.dat d) γ).bind (fun γ' => exB cal b γ') = some fl := by rw [h]; exact h2
theorem gd_t {α : Type} {c : Bool} {x : Option α} (h : c = true) : gd c x = x := by unfold gd; rw [if_pos h]
theorem ev_add (h : ev cal a γ = some (.dat (.int i), γ1)) (h2 : ev cal b γ1 = some (.dat (.int j), γ2)) : ev cal (.bin .add a b) γ = some (.dat (.int (i + j)), γ2) := ev_bin h h2 rfl
theorem ev_sub (h : ev cal a γ = some (.dat (.int i), γ1)) (h2 : ev cal b γ1 = some (.dat (.int j), γ2)) : ev cal (.bin .sub a b) γ = some (.dat (.int (i - j)), γ2) := ev_bin h h2 rfl
theorem ev_mod (h : ev cal a γ = some (.dat (.int i), γ1)) (h2 : ev cal b γ1 = some (.dat (.int j), γ2)) (h3 : 0 < j) : ev cal (.bin .mod a b) γ = some (.dat (.int (i % j)), γ2) := ev_bin h h2 (gd_t (decide_eq_true h3))
theorem ev_fdiv (h : ev cal a γ = some (.dat (.int i), γ1)) (h2 : ev cal b γ1 = some (.dat (.int j), γ2)) (h3 : 0 < j) (h4 : j < 1073741824) : ev cal (.bin .fdiv a b) γ = some (.dat (.int (i / j)), γ2) := ev_bin h h2 (gd_t (by rw [decide_eq_true h3, decide_eq_true h4]; rfl))
theorem ev_mulL (h : ev cal a γ = some (.dat (.int i), γ1)) (h2 : ev cal b γ1 = some (.dat (.int j), γ2)) (h3 : -18446744073709551616 < i) (h4 : i < 18446744073709551616) : ev cal (.bin .mul a b) γ = some (.dat (.int (i * j)), γ2) := ev_bin h h2 (gd_t (by rw [decide_eq_true h3, decide_eq_true h4]; rfl))
theorem ev_mulR (h : ev cal a γ = some (.dat (.int i), γ1)) (h2 : ev cal b γ1 = some (.dat (.int j), γ2)) (h3 : -18446744073709551616 < j) (h4 : j < 18446744073709551616) : ev cal (.bin .mul a b) γ = some (.dat (.int (i * j)), γ2) := ev_bin h h2 (gd_t (by rw [decide_eq_true h3, decide_eq_true h4, Bool.and_self, Bool.or_true]))
theorem ev_int (h : ev cal a γ = some (.dat (.int i), γ1)) : ev cal (.b1 .int a) γ = some (.dat (.int i), γ1) := ev_b1 h rfl
theorem ev_lt (h : ev cal a γ = some (.dat (.int i), γ1)) (h2 : ev cal b γ1 = some (.dat (.int j), γ2)) : ev cal (.cmp .lt a b) γ = some (.dat (.bl (decide (i < j))), γ2) := ev_cmp h h2 rfl
theorem ev_gt (h : ev cal a γ = some (.dat (.int i), γ1)) (h2 : ev cal b γ1 = some (.dat (.int j), γ2)) : ev cal (.cmp .gt a b) γ = some (.dat (.bl (decide (j < i))), γ2) := ev_cmp h h2 rfl
theorem ev_eqI (h : ev cal a γ = some (.dat (.int i), γ1)) (h2 : ev cal b γ1 = some (.dat (.int j), γ2)) : ev cal (.cmp .eq a b) γ = some (.dat (.bl (decide (i = j))), γ2) := ev_cmp h h2 (by
  show some (decide (V.int i = V.int j)) = some (decide (i = j))
  congr 1
  exact decide_eq_decide.mpr ⟨fun e => by cases e; rfl, fun e => by rw [e]⟩)
theorem atI_nat {α : Type} {xs : List α} {i : Int} {x : α} (h0 : 0 ≤ i) (h : xs[i.toNat]? = some x) : atI xs i = some x := by
  have hl := (List.getElem?_eq_some_iff.mp h).1
  unfold atI ixN
  rw [if_pos h0, if_pos (by omega)]
  exact h
theorem seqIx {n : Nat} {i : Int} (h0 : 0 ≤ i) (h : i < n) : seqIndex? i n = some i.toNat := by
  unfold seqIndex?
  have h1 : ¬ i < 0 := by omega
  simp [h1, h0, h]
theorem idx_sq {i : Int} {d : D} (h : dctI γ x = none) (hs : sqI γ x = some ds) (h0 : 0 ≤ i) (hd : ds[i.toNat]? = some d) : idxI γ x (.dat (.int i)) = some (.dat d) := by
  unfold idxI
  rw [h]
  show (sqI γ x).bind _ = _
  rw [hs, Option.bind_some]
  show (some i).bind (fun i => (atI ds i).map Dv.dat) = _
  rw [Option.bind_some, atI_nat h0 hd]
  rfl
theorem ev_app {d : D} {us : List D} (h : ev cal o γ = some (x, γ1)) (hl : lstI γ1 x = some us) (h2 : ev cal e γ1 = some (y, γ2)) (h3 : datOf y = some d) (h4 : lstI γ2 x = some ds) (h5 : ds.length < 1000000) (h6 : setsI γ2 x (ds ++ [d]) = some γ3) : ev cal (.app o e) γ = some (.dat .non, γ3) := by
  simp only [ev]
  rw [h, Option.bind_some, hl, Option.bind_some, h2, Option.bind_some, h3, Option.bind_some, h4, Option.bind_some, gd_t (decide_eq_true h5), h6]
  rfl
theorem ev_ext {us es : List D} (h : ev cal o γ = some (x, γ1)) (hl : lstI γ1 x = some us) (h2 : ev cal e γ1 = some (y, γ2)) (h3 : lstI γ2 y = some es) (h4 : lstI γ2 x = some ds) (h5 : ds.length + es.length < 1000000) (h6 : setsI γ2 x (ds ++ es) = some γ3) : ev cal (.ext o e) γ = some (.dat .non, γ3) := by
  simp only [ev]
  rw [h, Option.bind_some, hl, Option.bind_some, h2, Option.bind_some, h3, Option.bind_some, h4, Option.bind_some, gd_t (decide_eq_true h5), h6]
  rfl
theorem ev_pop {d : D} {us : List D} {i : Int} (h : ev cal o γ = some (x, γ1)) (hl : lstI γ1 x = some us) (h2 : ev cal e γ1 = some (.dat (.int i), γ2)) (h4 : lstI γ2 x = some ds) (h5 : ds.length < 1000000) (i0 : 0 ≤ i) (i1 : i < ds.length) (hd : ds[i.toNat]? = some d) (h6 : setsI γ2 x (ds.eraseIdx i.toNat) = some γ3) : ev cal (.pop o e) γ = some (.dat d, γ3) := by
  simp only [ev]
  rw [h, Option.bind_some, hl, Option.bind_some, h2, Option.bind_some]
  show (some i).bind _ = _
  rw [Option.bind_some, h4, Option.bind_some, gd_t (by rw [decide_eq_true (show -9223372036854775808 ≤ i by omega), decide_eq_true (show i < 9223372036854775808 by omega)]; rfl), seqIx i0 i1, Option.bind_some, hd, Option.bind_some, h6]
  rfl
end
end RI

/-! k86: the defs in the small language; they are the program's. -/
namespace V86
open PySem PySem.Spec PyProof.Rows L2 VY RI
def topS (i : Nat) : Stmt := PySem.Challenge.pw_anydlooks_k86_whole_renewals_harm_by_the.main.body.getD i (.Pass ⟨0, 0, 0, 0⟩)
def fd_tupled : FD := ⟨"tupled", ["value"], ["value", "own"],
  [ .ret (.ite (.isin (.slot 0) ["list", "tuple"]) (.b1 .tuple (.lc [("own", 1)] (.one 1) (.of (.slot 0)) .no (.call 0 [(.slot 1)]))) (.slot 0)) ]⟩
def fd_sure_registers : FD := ⟨"sure_registers", ["machine", "registers"], ["machine", "registers", "slot"],
  [ .for_ (.nm 2) (.of (.slot 1)) [.ite (.not (.chn (.cst (.int 0)) (.slot 2) (.b1 .len (.idx (.slot 0) (.cst (.int 1)))))) [.bad] []] ]⟩
def fd_sure_parts : FD := ⟨"sure_parts", ["machine", "registers", "slot"], ["machine", "registers", "slot"],
  [ .ex (.call 1 [(.slot 0), (.tup [(.star (.slot 1)), (.slot 2)])]),
    .ite (.or (.cmp .in_ (.slot 2) (.slot 1)) (.cmp .lt (.b1 .len (.slot 1)) (.glob "FEWEST" (.int 2)))) [.bad] [] ]⟩
def fd_renewal_way : FD := ⟨"renewal_way", ["machine", "registers", "slot"], ["machine", "registers", "slot", "prime", "least", "found", "other"],
  [ .par [3, 4, 5] [(.idx (.slot 0) (.cst (.int 0))), (.idx (.slot 1) (.cst (.int 0))), (.lst [])],
    .for_ (.nm 6) (.of (.slc (.slot 1) (.cst (.int 1)) .no)) [.ex (.app (.slot 5) (.tup [(.glob "DRAW" (.str ⟨#[100, 114, 97, 119]⟩)), (.slot 2)])),
    .ex (.app (.slot 5) (.tup [(.glob "SET" (.str ⟨#[115, 101, 116]⟩)), (.slot 4), (.b1 .tuple (.b1 .sorted (.lst [(.tup [(.slot 4), (.cst (.int 1))]), (.tup [(.slot 2), (.cst (.int 1))])])))])),
    .ex (.app (.slot 5) (.tup [(.glob "SET" (.str ⟨#[115, 101, 116]⟩)), (.slot 6), (.b1 .tuple (.b1 .sorted (.lst [(.tup [(.slot 6), (.cst (.int 1))]), (.tup [(.slot 2), (.bin .sub (.slot 3) (.cst (.int 1)))])])))]))],
    .frz 5,
    .ret (.tup [(.star (.slot 5)), (.tup [(.glob "SET" (.str ⟨#[115, 101, 116]⟩)), (.slot 2), (.tup [])])]) ]⟩
def fd_renewal : FD := ⟨"renewal", ["machine", "registers", "slot"], ["machine", "registers", "slot", "own", "parts"],
  [ .par [3, 4] [(.call 0 [(.slot 0)]), (.call 0 [(.slot 1)])],
    .ex (.call 2 [(.slot 3), (.slot 4), (.slot 2)]),
    .ret (.call 3 [(.slot 3), (.slot 4), (.slot 2)]) ]⟩
def fd_way_spots : FD := ⟨"way_spots", ["way", "path"], ["way", "path", "found", "place", "item", "here", "number", "inner"],
  [ .set (.nm 2) (.lst []),
    .for_ (.tup [(.nm 3), (.nm 4)]) (.enum (.slot 0)) [.set (.nm 5) (.tup [(.star (.slot 1)), (.slot 3)]),
    .ex (.app (.slot 2) (.slot 5)),
    .ite (.cmp .eq (.idx (.slot 4) (.cst (.int 0))) (.glob "ONE" (.str ⟨#[111, 110, 101]⟩))) [.for_ (.tup [(.nm 6), (.nm 7)]) (.enum (.idx (.slot 4) (.cst (.int 1)))) [.ex (.ext (.slot 2) (.call 5 [(.slot 7), (.tup [(.star (.slot 5)), (.slot 6)])]))]] [.ite (.cmp .eq (.idx (.slot 4) (.cst (.int 0))) (.glob "MANY" (.str ⟨#[109, 97, 110, 121]⟩))) [.ex (.ext (.slot 2) (.call 5 [(.idx (.slot 4) (.cst (.int 1))), (.slot 5)]))] []]],
    .ret (.bin .add (.slot 2) (.lst [(.tup [(.star (.slot 1)), (.b1 .len (.slot 0))])])) ]⟩
def fd_spots : FD := ⟨"spots", ["program"], ["program", "found", "block", "way"],
  [ .set (.nm 1) (.lst []),
    .for_ (.tup [(.nm 2), (.nm 3)]) (.enum (.idx (.call 0 [(.slot 0)]) (.cst (.int 2)))) [.ex (.ext (.slot 1) (.call 5 [(.slot 3), (.tup [(.slot 2)])]))],
    .ret (.b1 .tuple (.b1 .sorted (.slot 1))) ]⟩
def fd_way_with : FD := ⟨"way_with", ["way", "path", "items"], ["way", "path", "items", "place", "item", "own", "number", "ways", "inner"],
  [ .set (.nm 3) (.idx (.slot 1) (.cst (.int 0))),
    .ite (.cmp .eq (.b1 .len (.slot 1)) (.cst (.int 1))) [.ret (.bin .add (.bin .add (.slc (.slot 0) .no (.slot 3)) (.slot 2)) (.slc (.slot 0) (.slot 3) .no))] [],
    .set (.nm 4) (.idx (.slot 0) (.slot 3)),
    .ite (.cmp .eq (.idx (.slot 4) (.cst (.int 0))) (.glob "MANY" (.str ⟨#[109, 97, 110, 121]⟩))) [.set (.nm 5) (.tup [(.glob "MANY" (.str ⟨#[109, 97, 110, 121]⟩)), (.call 7 [(.idx (.slot 4) (.cst (.int 1))), (.slc (.slot 1) (.cst (.int 1)) .no), (.slot 2)])])] [.par [6, 7] [(.idx (.slot 1) (.cst (.int 1))), (.idx (.slot 4) (.cst (.int 1)))],
    .set (.nm 8) (.call 7 [(.idx (.slot 7) (.slot 6)), (.slc (.slot 1) (.cst (.int 2)) .no), (.slot 2)]),
    .set (.nm 5) (.tup [(.glob "ONE" (.str ⟨#[111, 110, 101]⟩)), (.bin .add (.bin .add (.slc (.slot 7) .no (.slot 6)) (.tup [(.slot 8)])) (.slc (.slot 7) (.bin .add (.slot 6) (.cst (.int 1))) .no))])],
    .ret (.bin .add (.bin .add (.slc (.slot 0) .no (.slot 3)) (.tup [(.slot 5)])) (.slc (.slot 0) (.bin .add (.slot 3) (.cst (.int 1))) .no)) ]⟩
def fd_put_into : FD := ⟨"put_into", ["program", "path", "way"], ["program", "path", "way", "machine", "dealt", "blocks", "own"],
  [ .set (.tup [(.nm 3), (.nm 4), (.nm 5)]) (.slot 0),
    .set (.nm 6) (.call 7 [(.idx (.slot 5) (.idx (.slot 1) (.cst (.int 0)))), (.slc (.slot 1) (.cst (.int 1)) .no), (.slot 2)]),
    .ret (.tup [(.slot 3), (.slot 4), (.bin .add (.bin .add (.slc (.slot 5) .no (.idx (.slot 1) (.cst (.int 0)))) (.tup [(.slot 6)])) (.slc (.slot 5) (.bin .add (.idx (.slot 1) (.cst (.int 0))) (.cst (.int 1))) .no))]) ]⟩
def fd_sure_spots : FD := ⟨"sure_spots", ["program", "paths"], ["program", "paths", "known", "path"],
  [ .set (.nm 2) (.call 6 [(.slot 0)]),
    .for_ (.nm 3) (.of (.slot 1)) [.ite (.cmp .notin (.slot 3) (.slot 2)) [.bad] []] ]⟩
def fd_put_all : FD := ⟨"put_all", ["program", "paths", "way"], ["program", "paths", "way", "found", "path"],
  [ .set (.nm 3) (.slot 0),
    .for_ (.nm 4) (.of (.sortR (.slot 1))) [.set (.nm 3) (.call 8 [(.slot 3), (.slot 4), (.slot 2)])],
    .ret (.slot 3) ]⟩
def fd_renewed : FD := ⟨"renewed", ["program", "paths", "registers", "slot"], ["program", "paths", "registers", "slot", "own", "places", "parts"],
  [ .par [4, 5, 6] [(.call 0 [(.slot 0)]), (.call 0 [(.slot 1)]), (.call 0 [(.slot 2)])],
    .ex (.call 1 [(.idx (.slot 4) (.cst (.int 0))), (.tup [(.star (.slot 6)), (.slot 3)])]),
    .ex (.call 9 [(.slot 4), (.slot 5)]),
    .ex (.call 2 [(.idx (.slot 4) (.cst (.int 0))), (.slot 6), (.slot 3)]),
    .ret (.call 10 [(.slot 4), (.slot 5), (.call 3 [(.idx (.slot 4) (.cst (.int 0))), (.slot 6), (.slot 3)])]) ]⟩
def fd_law_box : FD := ⟨"_law_box", ["script", "k"], ["script", "k", "cell"],
  [ .set (.nm 2) (.ite (.cmp .lt (.slot 1) (.b1 .len (.slot 0))) (.idx (.slot 0) (.slot 1)) (.cst (.int 0))),
    .ret (.lst [(.bin .mul (.b1 .abs (.slot 2)) (.b1 .int (.cmp .ge (.b1 .abs (.slot 2)) (.bin .pow (.cst (.int 10)) (.cst (.int 18)))))), (.bin .add (.bin .add (.bin .mod (.b1 .int (.slot 2)) (.cst (.int 2305843009213693951))) (.bin .mul (.cst (.int 39373)) (.slot 1))) (.cst (.int 3155086))), (.cst (.int 0))]) ]⟩
def fd_law_take : FD := ⟨"_law_take", ["tin", "below_so"], ["tin", "below_so", "drawn", "once_so", "wide_so", "twice_so"],
  [ .ite (.cmp .gt (.idx (.slot 0) (.cst (.int 0))) (.cst (.int 0))) [.set (.nm 2) (.bin .mod (.b1 .int (.idx (.slot 0) (.cst (.int 0)))) (.slot 1)),
    .set (.sub (.slot 0) (.cst (.int 0))) (.bin .fdiv (.idx (.slot 0) (.cst (.int 0))) (.slot 1)),
    .ret (.slot 2)] [],
    .set (.sub (.slot 0) (.cst (.int 2))) (.bin .add (.idx (.slot 0) (.cst (.int 2))) (.cst (.int 1))),
    .set (.nm 3) (.bin .mod (.b1 .int (.bin .mul (.bin .add (.idx (.slot 0) (.cst (.int 1))) (.bin .mul (.cst (.int 48271)) (.idx (.slot 0) (.cst (.int 2))))) (.bin .add (.cst (.int 39373)) (.idx (.slot 0) (.cst (.int 2)))))) (.cst (.int 2147483647))),
    .set (.nm 4) (.bin .add (.bin .mod (.b1 .int (.slot 3)) (.cst (.int 40009))) (.cst (.int 7))),
    .set (.nm 5) (.bin .mod (.b1 .int (.bin .mul (.bin .add (.bin .add (.slot 3) (.idx (.slot 0) (.cst (.int 2)))) (.bin .fdiv (.idx (.slot 0) (.cst (.int 1))) (.cst (.int 1000003)))) (.slot 4))) (.cst (.int 2147483629))),
    .ret (.bin .mod (.b1 .int (.bin .fdiv (.bin .mod (.b1 .int (.bin .add (.bin .mul (.slot 5) (.cst (.int 48271))) (.slot 3))) (.cst (.int 2147483587))) (.cst (.int 64)))) (.slot 1)) ]⟩
def fd_law_cells : FD := ⟨"_law_cells", ["script", "most_so"], ["script", "most_so", "cells_so", "k", "cell", "at_so"],
  [ .set (.nm 2) (.orl (.b1 .list (.slc (.slot 0) .no (.slot 1))) (.lst [(.cst (.int 0))])),
    .for_ (.tup [(.nm 3), (.nm 4)]) (.enum (.slc (.slot 0) (.slot 1) (.cst (.int 63)))) [.set (.nm 5) (.bin .mod (.b1 .int (.slot 3)) (.slot 1)),
    .set (.sub (.slot 2) (.slot 5)) (.bin .add (.idx (.slot 2) (.slot 5)) (.bin .mul (.slot 4) (.bin .add (.slot 3) (.cst (.int 2)))))],
    .ret (.slot 2) ]⟩
def fd_law_of : FD := ⟨"_law_of", ["tin", "goods_so"], ["tin", "goods_so"],
  [ .ret (.idx (.slot 1) (.call 13 [(.slot 0), (.b1 .len (.slot 1))])) ]⟩
def fd_law_pick : FD := ⟨"_law_pick", ["tin", "goods_so", "count_so"], ["tin", "goods_so", "count_so", "pool_so", "found", "lap"],
  [ .par [3, 4] [(.b1 .list (.slot 1)), (.lst [])],
    .for_ (.nm 5) (.range1 (.min2 (.b1 .int (.slot 2)) (.b1 .len (.slot 3)))) [.ex (.app (.slot 4) (.pop (.slot 3) (.call 13 [(.slot 0), (.b1 .len (.slot 3))])))],
    .ret (.slot 4) ]⟩
def fd_law_same : FD := ⟨"_law_same", ["got", "due"], ["got", "due", "mine", "its"],
  [ .ite (.isin (.slot 1) ["list", "tuple"]) [.ite (.or (.cmp .ne (.isin (.slot 0) ["list"]) (.isin (.slot 1) ["list"])) (.cmp .ne (.isin (.slot 0) ["tuple"]) (.isin (.slot 1) ["tuple"]))) [.ret (.cst (.bl false))] [],
    .ret (.and (.cmp .eq (.b1 .len (.slot 0)) (.b1 .len (.slot 1))) (.b1 .all (.lc [("mine", 2), ("its", 3)] (.two 2 3) (.zip (.slot 0) (.slot 1)) .no (.call 17 [(.slot 2), (.slot 3)]))))] [],
    .ite (.or (.cmp .isN (.slot 1) (.cst .non)) (.isin (.slot 1) ["bool", "str"])) [.ret (.and (.cmp .eq (.slot 0) (.slot 1)) (.and (.cmp .eq (.isin (.slot 0) ["bool"]) (.isin (.slot 1) ["bool"])) (.cmp .eq (.cmp .isN (.slot 0) (.cst .non)) (.cmp .isN (.slot 1) (.cst .non)))))] [],
    .ret (.and (.isin (.slot 0) ["int"]) (.and (.not (.isin (.slot 0) ["bool"])) (.cmp .eq (.slot 0) (.slot 1)))) ]⟩
def fd_law_plain : FD := ⟨"_law_plain", [], [],
  [ .ret (.ptup [(.tup [(.cst (.str ⟨#[112, 97, 115, 115]⟩)), (.cst (.int 1))]), (.tup [(.cst (.str ⟨#[112, 117, 116]⟩)), (.cst (.int 1))]), (.tup [(.cst (.str ⟨#[116, 117, 114, 110]⟩)), (.cst (.int 1))])]) ]⟩
def fd_law_go : FD := ⟨"_law_go", ["hall", "walk"], ["hall", "walk", "found", "left_so", "fine_so"],
  [ .par [2, 3] [(.lst []), (.b1 .list (.slot 1))],
    .frz 3,
    .set (.nm 4) (.call 20 [(.slot 0), (.idx (.idx (.slot 0) (.cst (.int 2))) (.cst (.int 0))), (.slot 3), (.slot 2), (.cst (.int 0))]),
    .ret (.ite (.and (.slot 4) (.cmp .eq (.slot 3) (.lst []))) (.slot 2) (.cst .non)) ]⟩
def fd_law_go_bits : FD := ⟨"_law_go_bits", ["hall", "bits", "left_so", "found", "deep_so"], ["hall", "bits", "left_so", "found", "deep_so", "bit", "start_so", "its"],
  [ .for_ (.nm 5) (.of (.slot 1)) [.ite (.or (.cmp .gt (.b1 .len (.slot 3)) (.cst (.int 60))) (.cmp .gt (.slot 4) (.cst (.int 12)))) [.ret (.cst (.bl false))] [],
    .ite (.cmp .in_ (.idx (.slot 5) (.cst (.int 0))) (.tup [(.cst (.str ⟨#[115, 101, 116]⟩)), (.cst (.str ⟨#[100, 114, 97, 119]⟩))])) [.ex (.app (.slot 3) (.tup [(.idx (.slot 5) (.cst (.int 0))), (.idx (.slot 5) (.cst (.int 1))), (.ite (.cmp .eq (.idx (.slot 5) (.cst (.int 0))) (.cst (.str ⟨#[115, 101, 116]⟩))) (.idx (.slot 5) (.cst (.int 2))) (.tup []))]))] [.ite (.cmp .eq (.idx (.slot 5) (.cst (.int 0))) (.cst (.str ⟨#[99, 97, 108, 108]⟩))) [.set (.nm 6) (.b1 .len (.slot 3)),
    .ite (.not (.call 20 [(.slot 0), (.idx (.idx (.slot 0) (.cst (.int 2))) (.idx (.slot 5) (.cst (.int 1)))), (.slot 2), (.slot 3), (.bin .add (.slot 4) (.cst (.int 1)))])) [.ret (.cst (.bl false))] [],
    .for_ (.nm 7) (.of (.idx (.slot 5) (.cst (.int 2)))) [.ex (.app (.slot 3) (.tup [(.cst (.str ⟨#[98, 97, 99, 107]⟩)), (.slot 7), (.slot 6)]))]] [.ite (.not .bad) [.ret (.cst (.bl false))] []]]],
    .ret (.cst (.bl true)) ]⟩
def fd_law_plus : FD := ⟨"_law_plus", ["p", "one_so", "two_so", "factor_so"], ["p", "one_so", "two_so", "factor_so", "own", "its"],
  [ .ret (.b1 .tuple (.lc [("own", 4), ("its", 5)] (.two 4 5) (.zip (.slot 1) (.slot 2)) .no (.bin .mod (.b1 .int (.bin .add (.slot 4) (.bin .mul (.slot 3) (.slot 5)))) (.slot 0)))) ]⟩
def fd_law_unit : FD := ⟨"_law_unit", ["wide_so", "at_so"], ["wide_so", "at_so", "k"],
  [ .ret (.b1 .tuple (.lc [("k", 2)] (.one 2) (.range1 (.slot 0)) .no (.b1 .int (.cmp .eq (.slot 2) (.slot 1))))) ]⟩
def fd_law_first : FD := ⟨"_law_first", ["hall", "wide_so"], ["hall", "wide_so", "p", "at_so", "found", "n", "its", "last_so", "k"],
  [ .par [2, 3] [(.idx (.idx (.slot 0) (.cst (.int 0))) (.cst (.int 0))), (.b1 .len (.idx (.slot 0) (.cst (.int 1))))],
    .set (.nm 4) (.bin .mul (.lst [(.bin .mul (.tup [(.cst (.int 0))]) (.slot 1))]) (.b1 .len (.idx (.idx (.slot 0) (.cst (.int 0))) (.cst (.int 1))))),
    .for_ (.tup [(.nm 5), (.nm 6)]) (.enum (.idx (.slot 0) (.cst (.int 1)))) [.set (.nm 7) (.call 22 [(.slot 1), (.slot 5)]),
    .for_ (.nm 8) (.of (.slc (.slot 6) .no (.neg (.cst (.int 1))))) [.set (.sub (.slot 4) (.slot 8)) (.call 22 [(.slot 1), (.slot 3)]),
    .set (.nm 7) (.call 21 [(.slot 2), (.slot 7), (.idx (.slot 4) (.slot 8)), (.bin .sub (.slot 2) (.cst (.int 1)))]),
    .set (.nm 3) (.bin .add (.slot 3) (.cst (.int 1)))],
    .set (.sub (.slot 4) (.idx (.slot 6) (.neg (.cst (.int 1))))) (.slot 7)],
    .ret (.slot 4) ]⟩
def fd_law_wide : FD := ⟨"_law_wide", ["hall", "lot"], ["hall", "lot", "its", "own"],
  [ .ret (.bin .add (.b1 .sum (.lc [("its", 2)] (.one 2) (.of (.idx (.slot 0) (.cst (.int 1)))) .no (.b1 .len (.slot 2)))) (.b1 .len (.lc [("own", 3)] (.one 3) (.of (.slot 1)) (.cmp .eq (.idx (.slot 3) (.cst (.int 0))) (.cst (.str ⟨#[100, 114, 97, 119]⟩))) (.slot 3)))) ]⟩
def fd_law_shown : FD := ⟨"_law_shown", ["hall", "lot"], ["hall", "lot", "p", "wide_so", "held_so", "over_so", "story_so", "found", "fresh_so", "deed", "at_so", "more_so", "seen_so", "new_so", "its", "lane_so", "bus_so", "own"],
  [ .par [2, 3] [(.idx (.idx (.slot 0) (.cst (.int 0))) (.cst (.int 0))), (.call 24 [(.slot 0), (.slot 1)])],
    .par [4, 5, 6, 7] [(.call 23 [(.slot 0), (.slot 3)]), .dnew, (.lst []), (.lst [])],
    .set (.nm 8) (.bin .sub (.slot 3) (.b1 .len (.lc [("own", 17)] (.one 17) (.of (.slot 1)) (.cmp .eq (.idx (.slot 17) (.cst (.int 0))) (.cst (.str ⟨#[100, 114, 97, 119]⟩))) (.slot 17)))),
    .for_ (.tup [(.nm 9), (.nm 10), (.nm 11)]) (.of (.slot 1)) [.ex (.app (.slot 6) (.b1 .list (.slot 4))),
    .set (.nm 12) (.lst []),
    .ite (.cmp .eq (.slot 9) (.cst (.str ⟨#[100, 114, 97, 119]⟩))) [.par [13, 8] [(.call 22 [(.slot 3), (.slot 8)]), (.bin .add (.slot 8) (.cst (.int 1)))]] [.ite (.cmp .eq (.slot 9) (.cst (.str ⟨#[98, 97, 99, 107]⟩))) [.set (.nm 13) (.idx (.idx (.slot 6) (.slot 11)) (.slot 10))] [.par [13, 12] [(.bin .mul (.tup [(.cst (.int 0))]) (.slot 3)), (.lc [("its", 14)] (.one 14) (.of (.slot 11)) .no (.idx (.slot 4) (.idx (.slot 14) (.cst (.int 0)))))],
    .for_ (.nm 14) (.of (.slot 11)) [.set (.nm 13) (.call 21 [(.slot 2), (.slot 13), (.idx (.slot 4) (.idx (.slot 14) (.cst (.int 0)))), (.idx (.slot 14) (.cst (.int 1)))])]]],
    .set (.nm 15) (.idx (.idx (.idx (.slot 0) (.cst (.int 0))) (.cst (.int 1))) (.slot 10)),
    .set (.nm 16) (.ite (.cmp .isN (.slot 15) (.cst .non)) (.cst .non) .bad),
    .frz 12,
    .ex (.app (.slot 7) (.tup [(.slot 13), (.idx (.slot 4) (.slot 10)), (.slot 16), (.slot 12)])),
    .set (.sub (.slot 4) (.slot 10)) (.slot 13),
    .ite (.cmp .notN (.slot 15) (.cst .non)) [.set (.sub (.slot 5) (.slot 15)) (.slot 13)] []],
    .ret (.slot 7) ]⟩
def fd_law_tuples : FD := ⟨"_law_tuples", ["p", "count_so"], ["p", "count_so", "found", "lap", "longer_so", "own", "n"],
  [ .set (.nm 2) (.lst [(.tup [])]),
    .for_ (.nm 3) (.range1 (.slot 1)) [.set (.nm 4) (.lst []),
    .frz 2,
    .for_ (.nm 5) (.of (.slot 2)) [.set (.nm 4) (.bin .add (.slot 4) (.lc [("n", 6)] (.one 6) (.range1 (.slot 0)) .no (.bin .add (.slot 5) (.tup [(.slot 6)]))))],
    .frz 4,
    .set (.nm 2) (.slot 4)],
    .ret (.slot 2) ]⟩
def fd_law_mixed : FD := ⟨"_law_mixed", ["p", "vectors_so", "factors_so", "wide_so"], ["p", "vectors_so", "factors_so", "wide_so", "found", "own", "n"],
  [ .set (.nm 4) (.bin .mul (.tup [(.cst (.int 0))]) (.slot 3)),
    .for_ (.tup [(.nm 5), (.nm 6)]) (.zip (.slot 1) (.slot 2)) [.set (.nm 4) (.call 21 [(.slot 0), (.slot 4), (.slot 5), (.slot 6)])],
    .ret (.slot 4) ]⟩
def fd_law_marks_of : FD := ⟨"_law_marks_of", ["hall", "lot"], ["hall", "lot", "p", "price_so", "wide_so", "found", "k", "own", "its"],
  [ .par [2, 3] [(.idx (.idx (.slot 0) (.cst (.int 0))) (.cst (.int 0))), (.b1 .dict (.idx (.idx (.slot 0) (.cst (.int 0))) (.cst (.int 2))))],
    .par [4, 5] [(.call 24 [(.slot 0), (.slot 1)]), (.lst [])],
    .for_ (.tup [(.nm 6), (.nm 7)]) (.enum (.call 25 [(.slot 0), (.slot 1)])) [.ite (.cmp .in_ (.cst (.str ⟨#[112, 117, 116]⟩)) (.slot 3)) [.ex (.app (.slot 5) (.tup [(.tup [(.slot 6), (.cst (.str ⟨#[112, 117, 116]⟩))]), (.idx (.slot 7) (.cst (.int 0))), (.idx (.slot 3) (.cst (.str ⟨#[112, 117, 116]⟩)))]))] [],
    .ite (.cmp .in_ (.cst (.str ⟨#[116, 117, 114, 110]⟩)) (.slot 3)) [.ex (.app (.slot 5) (.tup [(.tup [(.slot 6), (.cst (.str ⟨#[116, 117, 114, 110]⟩))]), (.call 21 [(.slot 2), (.idx (.slot 7) (.cst (.int 0))), (.idx (.slot 7) (.cst (.int 1))), (.bin .sub (.slot 2) (.cst (.int 1)))]), (.idx (.slot 3) (.cst (.str ⟨#[116, 117, 114, 110]⟩)))]))] [],
    .ite (.and (.cmp .in_ (.cst (.str ⟨#[112, 97, 115, 115]⟩)) (.slot 3)) (.cmp .notN (.idx (.slot 7) (.cst (.int 2))) (.cst .non))) [.ex (.app (.slot 5) (.tup [(.tup [(.slot 6), (.cst (.str ⟨#[112, 97, 115, 115]⟩))]), (.call 21 [(.slot 2), (.idx (.slot 7) (.cst (.int 0))), (.idx (.slot 7) (.cst (.int 2))), (.bin .sub (.slot 2) (.cst (.int 1)))]), (.idx (.slot 3) (.cst (.str ⟨#[112, 97, 115, 115]⟩)))]))] [],
    .ite (.and (.cmp .in_ (.cst (.str ⟨#[114, 101, 97, 100]⟩)) (.slot 3)) (.cmp .ne (.idx (.slot 7) (.cst (.int 3))) (.lst []))) [.for_ (.nm 8) (.of (.slc (.call 26 [(.slot 2), (.b1 .len (.idx (.slot 7) (.cst (.int 3))))]) (.cst (.int 1)) .no)) [.ex (.app (.slot 5) (.tup [(.tup [(.slot 6), (.cst (.str ⟨#[114, 101, 97, 100]⟩)), (.slot 8)]), (.call 27 [(.slot 2), (.idx (.slot 7) (.cst (.int 3))), (.slot 8), (.slot 4)]), (.idx (.slot 3) (.cst (.str ⟨#[114, 101, 97, 100]⟩)))]))]] []],
    .ret (.slot 5) ]⟩
def fd_law_rank : FD := ⟨"_law_rank", ["p", "vectors_so"], ["p", "vectors_so", "rows_so", "found", "wide_so", "at_so", "k", "hits_so", "top_so", "turn_so", "own", "n"],
  [ .par [2, 3] [(.lc [("own", 10)] (.one 10) (.of (.slot 1)) .no (.b1 .list (.slot 10))), (.cst (.int 0))],
    .set (.nm 4) (.ite (.cmp .ne (.slot 2) (.lst [])) (.b1 .len (.idx (.slot 2) (.cst (.int 0)))) (.cst (.int 0))),
    .for_ (.nm 5) (.range1 (.slot 4)) [.set (.nm 7) (.lc [("k", 6)] (.one 6) (.range2 (.slot 3) (.b1 .len (.slot 2))) (.cmp .ne (.idx (.idx (.slot 2) (.slot 6)) (.slot 5)) (.cst (.int 0))) (.slot 6)),
    .ite (.cmp .ne (.slot 7) (.lst [])) [.set (.nm 8) (.pop (.slot 2) (.idx (.slot 7) (.cst (.int 0)))),
    .set (.nm 9) (.idx (.lc [("n", 11)] (.one 11) (.range2 (.cst (.int 1)) (.slot 0)) (.cmp .eq (.bin .mod (.b1 .int (.bin .mul (.slot 11) (.idx (.slot 8) (.slot 5)))) (.slot 0)) (.cst (.int 1))) (.slot 11)) (.cst (.int 0))),
    .frz 8,
    .set (.nm 8) (.lc [("n", 11)] (.one 11) (.of (.slot 8)) .no (.bin .mod (.b1 .int (.bin .mul (.slot 11) (.slot 9))) (.slot 0))),
    .for_ (.nm 6) (.range2 (.slot 3) (.b1 .len (.slot 2))) [.frz 8,
    .set (.sub (.slot 2) (.slot 6)) (.b1 .list (.call 21 [(.slot 0), (.idx (.slot 2) (.slot 6)), (.slot 8), (.bin .sub (.slot 0) (.idx (.idx (.slot 2) (.slot 6)) (.slot 5)))]))],
    .frz 8,
    .ex (.ins (.slot 2) (.slot 3) (.slot 8)),
    .set (.nm 3) (.bin .add (.slot 3) (.cst (.int 1)))] []],
    .ret (.slot 3) ]⟩
def fd_law_tells : FD := ⟨"_law_tells", ["hall", "vectors_so"], ["hall", "vectors_so", "count_so", "tails_so", "own"],
  [ .set (.nm 2) (.b1 .len (.idx (.slot 0) (.cst (.int 1)))),
    .set (.nm 3) (.lc [("own", 4)] (.one 4) (.of (.slot 1)) .no (.slc (.slot 4) (.slot 2) .no)),
    .frz 3,
    .ret (.and (.cmp .ne (.slot 1) (.lst [])) (.cmp .gt (.call 29 [(.idx (.idx (.slot 0) (.cst (.int 0))) (.cst (.int 0))), (.slot 1)]) (.call 29 [(.idx (.idx (.slot 0) (.cst (.int 0))) (.cst (.int 0))), (.slot 3)]))) ]⟩
def fd_law_looks_to : FD := ⟨"_law_looks_to", ["goods_so", "most_so"], ["goods_so", "most_so", "found", "own", "more_so", "some_so", "sum_so", "its"],
  [ .set (.nm 2) (.lst [(.tup [(.lst []), (.cst (.int 0))])]),
    .for_ (.nm 3) (.of (.slot 0)) [.set (.nm 4) (.lst []),
    .frz 2,
    .for_ (.tup [(.nm 5), (.nm 6)]) (.of (.slot 2)) [.ite (.and (.cmp .le (.bin .add (.slot 6) (.idx (.slot 3) (.cst (.int 2)))) (.slot 1)) (.cmp .eq (.lc [("its", 7)] (.one 7) (.of (.slot 5)) (.cmp .eq (.slc (.idx (.slot 7) (.cst (.int 0))) .no (.cst (.int 2))) (.slc (.idx (.slot 3) (.cst (.int 0))) .no (.cst (.int 2)))) (.slot 7)) (.lst []))) [.ex (.app (.slot 4) (.tup [(.bin .add (.slot 5) (.lst [(.slot 3)])), (.bin .add (.slot 6) (.idx (.slot 3) (.cst (.int 2))))]))] []],
    .set (.nm 2) (.bin .add (.slot 2) (.slot 4))],
    .ret (.slot 2) ]⟩
def fd_law_cheapest : FD := ⟨"_law_cheapest", ["hall", "lot", "most_so"], ["hall", "lot", "most_so", "found", "some_so", "sum_so", "own"],
  [ .set (.nm 3) (.cst .non),
    .for_ (.tup [(.nm 4), (.nm 5)]) (.of (.call 31 [(.call 28 [(.slot 0), (.slot 1)]), (.slot 2)])) [.ite (.and (.or (.cmp .isN (.slot 3) (.cst .non)) (.cmp .lt (.slot 5) (.slot 3))) (.call 30 [(.slot 0), (.lc [("own", 6)] (.one 6) (.of (.slot 4)) .no (.idx (.slot 6) (.cst (.int 1))))])) [.set (.nm 3) (.slot 5)] []],
    .ret (.slot 3) ]⟩
def fd_law_still_hall : FD := ⟨"_law_still_hall", [], [],
  [ .ret (.tup [(.tup [(.cst (.int 2)), (.bin .mul (.tup [(.cst .non)]) (.cst (.int 3))), (.call 18 [])]), (.tup [(.tup [(.cst (.int 0)), (.cst (.int 1))])]), (.tup [(.tup [(.tup [(.cst (.str ⟨#[115, 101, 116]⟩)), (.cst (.int 2)), (.tup [])])])])]) ]⟩
def fd_law_over_hall : FD := ⟨"_law_over_hall", [], [],
  [ .ret (.tup [(.tup [(.cst (.int 2)), (.bin .mul (.tup [(.cst .non)]) (.cst (.int 3))), (.call 18 [])]), (.tup [(.tup [(.cst (.int 0)), (.cst (.int 1))])]), (.tup [(.tup [(.tup [(.cst (.str ⟨#[115, 101, 116]⟩)), (.cst (.int 2)), (.tup [(.tup [(.cst (.int 0)), (.cst (.int 1))])])]), (.tup [(.cst (.str ⟨#[115, 101, 116]⟩)), (.cst (.int 2)), (.tup [(.tup [(.cst (.int 1)), (.cst (.int 1))])])])])])]) ]⟩
def fd_law_bits_with : FD := ⟨"_law_bits_with", ["bits", "trail_so", "goods_so", "cut_so"], ["bits", "trail_so", "goods_so", "cut_so", "k", "bit", "own", "ways_so", "n"],
  [ .set (.nm 4) (.idx (.slot 1) (.cst (.int 0))),
    .ite (.cmp .eq (.b1 .len (.slot 1)) (.cst (.int 1))) [.ret (.bin .add (.bin .add (.slc (.slot 0) .no (.slot 4)) (.slot 2)) (.slc (.slot 0) (.bin .add (.slot 4) (.slot 3)) .no))] [],
    .set (.nm 5) (.idx (.slot 0) (.slot 4)),
    .ite (.cmp .eq (.idx (.slot 5) (.cst (.int 0))) (.cst (.str ⟨#[109, 97, 110, 121]⟩))) [.set (.nm 6) (.tup [(.cst (.str ⟨#[109, 97, 110, 121]⟩)), (.call 35 [(.idx (.slot 5) (.cst (.int 1))), (.slc (.slot 1) (.cst (.int 1)) .no), (.slot 2), (.slot 3)])])] [.par [7, 8] [(.idx (.slot 5) (.cst (.int 1))), (.idx (.slot 1) (.cst (.int 1)))],
    .set (.nm 6) (.tup [(.cst (.str ⟨#[111, 110, 101]⟩)), (.bin .add (.bin .add (.slc (.slot 7) .no (.slot 8)) (.tup [(.call 35 [(.idx (.slot 7) (.slot 8)), (.slc (.slot 1) (.cst (.int 2)) .no), (.slot 2), (.slot 3)])])) (.slc (.slot 7) (.bin .add (.slot 8) (.cst (.int 1))) .no))])],
    .ret (.bin .add (.bin .add (.slc (.slot 0) .no (.slot 4)) (.tup [(.slot 6)])) (.slc (.slot 0) (.bin .add (.slot 4) (.cst (.int 1))) .no)) ]⟩
def fd_law_with : FD := ⟨"_law_with", ["hall", "trail_so", "goods_so", "cut_so"], ["hall", "trail_so", "goods_so", "cut_so", "blocks_so", "n", "own"],
  [ .par [4, 5] [(.idx (.slot 0) (.cst (.int 2))), (.idx (.slot 1) (.cst (.int 0)))],
    .set (.nm 6) (.call 35 [(.idx (.slot 4) (.slot 5)), (.slc (.slot 1) (.cst (.int 1)) .no), (.slot 2), (.slot 3)]),
    .ret (.tup [(.idx (.slot 0) (.cst (.int 0))), (.idx (.slot 0) (.cst (.int 1))), (.bin .add (.bin .add (.slc (.slot 4) .no (.slot 5)) (.tup [(.slot 6)])) (.slc (.slot 4) (.bin .add (.slot 5) (.cst (.int 1))) .no))]) ]⟩
def fd_law_gaps : FD := ⟨"_law_gaps", ["bits", "ahead_so"], ["bits", "ahead_so", "found", "k", "bit", "n", "own"],
  [ .set (.nm 2) (.lst [(.bin .add (.slot 1) (.tup [(.b1 .len (.slot 0))]))]),
    .for_ (.tup [(.nm 3), (.nm 4)]) (.enum (.slot 0)) [.ex (.app (.slot 2) (.bin .add (.slot 1) (.tup [(.slot 3)]))),
    .ite (.cmp .eq (.idx (.slot 4) (.cst (.int 0))) (.cst (.str ⟨#[109, 97, 110, 121]⟩))) [.set (.nm 2) (.bin .add (.slot 2) (.call 37 [(.idx (.slot 4) (.cst (.int 1))), (.bin .add (.slot 1) (.tup [(.slot 3)]))]))] [],
    .ite (.cmp .eq (.idx (.slot 4) (.cst (.int 0))) (.cst (.str ⟨#[111, 110, 101]⟩))) [.for_ (.tup [(.nm 5), (.nm 6)]) (.enum (.idx (.slot 4) (.cst (.int 1)))) [.set (.nm 2) (.bin .add (.slot 2) (.call 37 [(.slot 6), (.bin .add (.slot 1) (.tup [(.slot 3), (.slot 5)]))]))]] []],
    .ret (.slot 2) ]⟩
def fd_law_all_gaps : FD := ⟨"_law_all_gaps", ["hall"], ["hall", "found", "n", "bits"],
  [ .set (.nm 1) (.lst []),
    .for_ (.tup [(.nm 2), (.nm 3)]) (.enum (.idx (.slot 0) (.cst (.int 2)))) [.set (.nm 1) (.bin .add (.slot 1) (.call 37 [(.slot 3), (.tup [(.slot 2)])]))],
    .ret (.b1 .tuple (.b1 .sorted (.slot 1))) ]⟩
def fd_law_fresh : FD := ⟨"_law_fresh", ["p", "parts_so", "spare_so"], ["p", "parts_so", "spare_so", "found", "low", "its"],
  [ .par [3, 4] [(.tup []), (.idx (.slot 1) (.cst (.int 0)))],
    .for_ (.nm 5) (.of (.slc (.slot 1) (.cst (.int 1)) .no)) [.set (.nm 3) (.bin .add (.slot 3) (.tup [(.tup [(.cst (.str ⟨#[100, 114, 97, 119]⟩)), (.slot 2)]), (.tup [(.cst (.str ⟨#[115, 101, 116]⟩)), (.slot 4), (.b1 .tuple (.b1 .sorted (.lst [(.tup [(.slot 4), (.cst (.int 1))]), (.tup [(.slot 2), (.cst (.int 1))])])))])])),
    .set (.nm 3) (.bin .add (.slot 3) (.tup [(.tup [(.cst (.str ⟨#[115, 101, 116]⟩)), (.slot 5), (.b1 .tuple (.b1 .sorted (.lst [(.tup [(.slot 5), (.cst (.int 1))]), (.tup [(.slot 2), (.bin .sub (.slot 0) (.cst (.int 1)))])])))])]))],
    .ret (.bin .add (.slot 3) (.tup [(.tup [(.cst (.str ⟨#[115, 101, 116]⟩)), (.slot 2), (.tup [])])])) ]⟩
def fd_law_short_bit : FD := ⟨"_law_short_bit", ["tin", "p"], ["tin", "p", "picks_so", "k"],
  [ .set (.nm 2) (.b1 .sorted (.call 16 [(.slot 0), (.lst [(.cst (.int 0)), (.cst (.int 1)), (.cst (.int 2))]), (.bin .add (.cst (.int 1)) (.call 13 [(.slot 0), (.cst (.int 2))]))])),
    .frz 2,
    .ret (.tup [(.cst (.str ⟨#[115, 101, 116]⟩)), (.call 15 [(.slot 0), (.lst [(.cst (.int 2)), (.cst (.int 2)), (.cst (.int 0)), (.cst (.int 1))])]), (.b1 .tuple (.lc [("k", 3)] (.one 3) (.of (.slot 2)) .no (.tup [(.slot 3), (.bin .add (.cst (.int 1)) (.call 13 [(.slot 0), (.bin .sub (.slot 1) (.cst (.int 1)))]))])))]) ]⟩
def fd_law_by_hand_right : FD := ⟨"_law_by_hand_right", [], ["over", "still", "way_so", "told", "got", "due", "halls_so", "own"],
  [ .par [0, 1] [(.call 34 []), (.call 33 [])],
    .set (.nm 2) (.call 39 [(.cst (.int 2)), (.tup [(.cst (.int 0)), (.cst (.int 1))]), (.cst (.int 2))]),
    .set (.nm 3) (.call 11 [(.slot 0), (.tup [(.tup [(.cst (.int 0)), (.cst (.int 0))]), (.tup [(.cst (.int 0)), (.cst (.int 1))])]), (.tup [(.cst (.int 0)), (.cst (.int 1))]), (.cst (.int 2))]),
    .set (.nm 4) (.lst [(.call 4 [(.idx (.slot 0) (.cst (.int 0))), (.tup [(.cst (.int 0)), (.cst (.int 1))]), (.cst (.int 2))]), (.slot 3), (.call 11 [(.slot 1), (.tup [(.tup [(.cst (.int 0)), (.cst (.int 1))])]), (.tup [(.cst (.int 0)), (.cst (.int 1))]), (.cst (.int 2))])]),
    .set (.nm 5) (.lst [(.slot 2), (.tup [(.idx (.slot 0) (.cst (.int 0))), (.idx (.slot 0) (.cst (.int 1))), (.tup [(.bin .add (.bin .add (.bin .add (.slot 2) (.slc (.idx (.idx (.slot 0) (.cst (.int 2))) (.cst (.int 0))) .no (.cst (.int 1)))) (.slot 2)) (.slc (.idx (.idx (.slot 0) (.cst (.int 2))) (.cst (.int 0))) (.cst (.int 1)) .no))])])]),
    .ex (.app (.slot 5) (.tup [(.idx (.slot 1) (.cst (.int 0))), (.idx (.slot 1) (.cst (.int 1))), (.tup [(.bin .add (.idx (.idx (.slot 1) (.cst (.int 2))) (.cst (.int 0))) (.slot 2))])])),
    .set (.nm 6) (.lst [(.slot 0), (.call 36 [(.slot 0), (.tup [(.cst (.int 0)), (.cst (.int 1))]), (.slot 2), (.cst (.int 0))]), (.slot 1), (.idx (.slot 5) (.cst (.int 2)))]),
    .frz 6,
    .ex (.app (.slot 4) (.lc [("own", 7)] (.one 7) (.of (.slot 6)) .no (.call 32 [(.slot 7), (.call 19 [(.slot 7), (.tup [])]), (.cst (.int 2))]))),
    .frz 4,
    .ret (.call 17 [(.slot 4), (.bin .add (.slot 5) (.lst [(.lst [(.cst (.int 1)), (.cst (.int 2)), (.cst .non), (.cst (.int 2))])]))]) ]⟩
def fd_law_wide_hall : FD := ⟨"_law_wide_hall", ["tin", "size_so"], ["tin", "size_so", "bits", "sorts_so", "lap"],
  [ .set (.nm 2) (.lc [("lap", 4)] (.one 4) (.range1 (.slot 1)) .no (.call 40 [(.slot 0), (.cst (.int 2))])),
    .ite (.cmp .eq (.call 13 [(.slot 0), (.cst (.int 2))]) (.cst (.int 0))) [.set (.nm 2) (.bin .add (.slot 2) (.lst [(.tup [(.cst (.str ⟨#[100, 114, 97, 119]⟩)), (.call 13 [(.slot 0), (.cst (.int 3))])])]))] [],
    .set (.nm 3) (.call 15 [(.slot 0), (.lst [(.ptup [(.tup [(.cst (.str ⟨#[112, 117, 116]⟩)), (.cst (.int 1))])]), (.ptup [(.tup [(.cst (.str ⟨#[112, 117, 116]⟩)), (.cst (.int 1))]), (.tup [(.cst (.str ⟨#[116, 117, 114, 110]⟩)), (.cst (.int 1))])]), (.ptup [(.tup [(.cst (.str ⟨#[116, 117, 114, 110]⟩)), (.cst (.int 1))])]), (.ptup [(.tup [(.cst (.str ⟨#[112, 117, 116]⟩)), (.cst (.int 2))]), (.tup [(.cst (.str ⟨#[114, 101, 97, 100]⟩)), (.cst (.int 1))]), (.tup [(.cst (.str ⟨#[116, 117, 114, 110]⟩)), (.cst (.int 1))])])])]),
    .frz 2,
    .ret (.tup [(.tup [(.cst (.int 2)), (.bin .mul (.tup [(.cst .non)]) (.cst (.int 4))), (.slot 3)]), (.tup [(.tup [(.cst (.int 0)), (.cst (.int 1))])]), (.tup [(.b1 .tuple (.call 16 [(.slot 0), (.slot 2), (.cst (.int 9))]))])]) ]⟩
def fd_law : FD := ⟨"law", ["script"], ["script", "tin", "hall", "trails_so", "way_so", "due", "own_so", "own", "n", "lot", "goods_so", "near_so", "some_so", "sum_so", "k", "its"],
  [ .ite (.not (.call 41 [])) [.ret (.cst (.bl false))] [],
    .set (.nm 1) (.call 12 [(.call 14 [(.slot 0), (.cst (.int 1))]), (.cst (.int 0))]),
    .set (.nm 2) (.call 42 [(.slot 1), (.bin .add (.cst (.int 1)) (.call 13 [(.slot 1), (.cst (.int 2))]))]),
    .set (.nm 3) (.b1 .tuple (.b1 .sorted (.call 16 [(.slot 1), (.call 38 [(.slot 2)]), (.bin .add (.cst (.int 1)) (.call 13 [(.slot 1), (.cst (.int 2))]))]))),
    .par [4, 5, 6] [(.call 39 [(.cst (.int 2)), (.tup [(.cst (.int 0)), (.cst (.int 1))]), (.cst (.int 3))]), (.slot 2), (.lst [])],
    .for_ (.nm 7) (.of (.rev (.slot 3))) [.set (.nm 5) (.call 36 [(.slot 5), (.slot 7), (.slot 4), (.cst (.int 0))])],
    .for_ (.tup [(.nm 8), (.nm 7)]) (.enum (.slot 3)) [.set (.nm 6) (.bin .add (.slot 6) (.lc [("k", 14)] (.one 14) (.range1 (.b1 .len (.slot 4))) .no (.bin .add (.bin .add (.idx (.slot 7) (.cst (.int 1))) (.bin .mul (.slot 8) (.b1 .len (.slot 4)))) (.slot 14))))],
    .ite (.not (.call 17 [(.call 11 [(.slot 2), (.slot 3), (.tup [(.cst (.int 0)), (.cst (.int 1))]), (.cst (.int 3))]), (.slot 5)])) [.ret (.cst (.bl false))] [],
    .set (.nm 9) (.call 19 [(.slot 5), (.tup [])]),
    .frz 9,
    .set (.nm 10) (.lc [("its", 15)] (.one 15) (.of (.call 28 [(.slot 5), (.slot 9)])) (.cmp .notin (.idx (.idx (.slot 15) (.cst (.int 0))) (.cst (.int 0))) (.slot 6)) (.slot 15)),
    .set (.nm 11) (.call 32 [(.slot 2), (.call 19 [(.slot 2), (.tup [])]), (.cst (.int 2))]),
    .frz 10,
    .for_ (.tup [(.nm 12), (.nm 13)]) (.of (.call 31 [(.slot 10), (.cst (.int 2))])) [.ite (.and (.call 30 [(.slot 5), (.lc [("its", 15)] (.one 15) (.of (.slot 12)) .no (.idx (.slot 15) (.cst (.int 1))))]) (.or (.cmp .isN (.slot 11) (.cst .non)) (.cmp .gt (.slot 11) (.slot 13)))) [.ret (.cst (.bl false))] []],
    .ret (.cst (.bl true)) ]⟩
def tb : Tb := ⟨[fd_tupled, fd_sure_registers, fd_sure_parts, fd_renewal_way, fd_renewal, fd_way_spots, fd_spots, fd_way_with, fd_put_into, fd_sure_spots, fd_put_all, fd_renewed, fd_law_box, fd_law_take, fd_law_cells, fd_law_of, fd_law_pick, fd_law_same, fd_law_plain, fd_law_go, fd_law_go_bits, fd_law_plus, fd_law_unit, fd_law_first, fd_law_wide, fd_law_shown, fd_law_tuples, fd_law_mixed, fd_law_marks_of, fd_law_rank, fd_law_tells, fd_law_looks_to, fd_law_cheapest, fd_law_still_hall, fd_law_over_hall, fd_law_bits_with, fd_law_with, fd_law_gaps, fd_law_all_gaps, fd_law_fresh, fd_law_short_bit, fd_law_by_hand_right, fd_law_wide_hall, fd_law],
  [("DRAW", (.str ⟨#[100, 114, 97, 119]⟩)), ("SET", (.str ⟨#[115, 101, 116]⟩)), ("ONE", (.str ⟨#[111, 110, 101]⟩)), ("MANY", (.str ⟨#[109, 97, 110, 121]⟩)), ("FEWEST", (.int 2))]⟩
def sts : List Stmt := [topS 5, topS 12, topS 13, topS 14, topS 15, topS 16, topS 17, topS 18, topS 19, topS 20, topS 21, topS 22, topS 24, topS 25, topS 26, topS 27, topS 28, topS 29, topS 30, topS 31, topS 32, topS 34, topS 35, topS 36, topS 37, topS 38, topS 39, topS 40, topS 41, topS 42, topS 43, topS 44, topS 45, topS 46, topS 47, topS 48, topS 49, topS 50, topS 51, topS 52, topS 53, topS 54, topS 55, topS 56]
end V86

namespace V86
open PySem PySem.Spec PyProof.Rows L2 VY RI
theorem tab : tabB tb sts = true := by decide +kernel
theorem all_mk {l : PySem.W.OpenLaw} {w : World} {K : PySem.W.Frag} {h : Heap} {mg : Str → Option Value} {fa : Addr} (X : K.In h) (G : h.Ns mainGlobals mg) (hfa : mg "law" = some (.ref fa))
    {f5 : Addr} {od5 an5 : Option Addr} {sl5 : Array (Option Value)} {oc5 kV5 dc5 pm5 cd5 ct5 : Value} (a5 : PySem.W.nsIn K mainGlobals "tupled" = some (some (.ref f5))) (l5 : K.lookup f5 = some ⟨oc5, od5, .func (PySem.W.fnOf "tupled" "tupled" (defArgs (topS 5)) (defBody (topS 5)) (defScope (topS 5)) .none kV5 dc5 pm5 an5 cd5 ct5), sl5⟩) (c5 : PySem.W.codeIn K cd5 "tupled" = true) (k5 : PySem.W.keepIn K (.ref f5) = true)
    {f12 : Addr} {od12 an12 : Option Addr} {sl12 : Array (Option Value)} {oc12 kV12 dc12 pm12 cd12 ct12 : Value} (a12 : PySem.W.nsIn K mainGlobals "sure_registers" = some (some (.ref f12))) (l12 : K.lookup f12 = some ⟨oc12, od12, .func (PySem.W.fnOf "sure_registers" "sure_registers" (defArgs (topS 12)) (defBody (topS 12)) (defScope (topS 12)) .none kV12 dc12 pm12 an12 cd12 ct12), sl12⟩) (c12 : PySem.W.codeIn K cd12 "sure_registers" = true) (k12 : PySem.W.keepIn K (.ref f12) = true)
    {f13 : Addr} {od13 an13 : Option Addr} {sl13 : Array (Option Value)} {oc13 kV13 dc13 pm13 cd13 ct13 : Value} (a13 : PySem.W.nsIn K mainGlobals "sure_parts" = some (some (.ref f13))) (l13 : K.lookup f13 = some ⟨oc13, od13, .func (PySem.W.fnOf "sure_parts" "sure_parts" (defArgs (topS 13)) (defBody (topS 13)) (defScope (topS 13)) .none kV13 dc13 pm13 an13 cd13 ct13), sl13⟩) (c13 : PySem.W.codeIn K cd13 "sure_parts" = true) (k13 : PySem.W.keepIn K (.ref f13) = true)
    {f14 : Addr} {od14 an14 : Option Addr} {sl14 : Array (Option Value)} {oc14 kV14 dc14 pm14 cd14 ct14 : Value} (a14 : PySem.W.nsIn K mainGlobals "renewal_way" = some (some (.ref f14))) (l14 : K.lookup f14 = some ⟨oc14, od14, .func (PySem.W.fnOf "renewal_way" "renewal_way" (defArgs (topS 14)) (defBody (topS 14)) (defScope (topS 14)) .none kV14 dc14 pm14 an14 cd14 ct14), sl14⟩) (c14 : PySem.W.codeIn K cd14 "renewal_way" = true) (k14 : PySem.W.keepIn K (.ref f14) = true)
    {f15 : Addr} {od15 an15 : Option Addr} {sl15 : Array (Option Value)} {oc15 kV15 dc15 pm15 cd15 ct15 : Value} (a15 : PySem.W.nsIn K mainGlobals "renewal" = some (some (.ref f15))) (l15 : K.lookup f15 = some ⟨oc15, od15, .func (PySem.W.fnOf "renewal" "renewal" (defArgs (topS 15)) (defBody (topS 15)) (defScope (topS 15)) .none kV15 dc15 pm15 an15 cd15 ct15), sl15⟩) (c15 : PySem.W.codeIn K cd15 "renewal" = true) (k15 : PySem.W.keepIn K (.ref f15) = true)
    {f16 : Addr} {od16 an16 : Option Addr} {sl16 : Array (Option Value)} {oc16 kV16 dc16 pm16 cd16 ct16 : Value} (a16 : PySem.W.nsIn K mainGlobals "way_spots" = some (some (.ref f16))) (l16 : K.lookup f16 = some ⟨oc16, od16, .func (PySem.W.fnOf "way_spots" "way_spots" (defArgs (topS 16)) (defBody (topS 16)) (defScope (topS 16)) .none kV16 dc16 pm16 an16 cd16 ct16), sl16⟩) (c16 : PySem.W.codeIn K cd16 "way_spots" = true) (k16 : PySem.W.keepIn K (.ref f16) = true)
    {f17 : Addr} {od17 an17 : Option Addr} {sl17 : Array (Option Value)} {oc17 kV17 dc17 pm17 cd17 ct17 : Value} (a17 : PySem.W.nsIn K mainGlobals "spots" = some (some (.ref f17))) (l17 : K.lookup f17 = some ⟨oc17, od17, .func (PySem.W.fnOf "spots" "spots" (defArgs (topS 17)) (defBody (topS 17)) (defScope (topS 17)) .none kV17 dc17 pm17 an17 cd17 ct17), sl17⟩) (c17 : PySem.W.codeIn K cd17 "spots" = true) (k17 : PySem.W.keepIn K (.ref f17) = true)
    {f18 : Addr} {od18 an18 : Option Addr} {sl18 : Array (Option Value)} {oc18 kV18 dc18 pm18 cd18 ct18 : Value} (a18 : PySem.W.nsIn K mainGlobals "way_with" = some (some (.ref f18))) (l18 : K.lookup f18 = some ⟨oc18, od18, .func (PySem.W.fnOf "way_with" "way_with" (defArgs (topS 18)) (defBody (topS 18)) (defScope (topS 18)) .none kV18 dc18 pm18 an18 cd18 ct18), sl18⟩) (c18 : PySem.W.codeIn K cd18 "way_with" = true) (k18 : PySem.W.keepIn K (.ref f18) = true)
    {f19 : Addr} {od19 an19 : Option Addr} {sl19 : Array (Option Value)} {oc19 kV19 dc19 pm19 cd19 ct19 : Value} (a19 : PySem.W.nsIn K mainGlobals "put_into" = some (some (.ref f19))) (l19 : K.lookup f19 = some ⟨oc19, od19, .func (PySem.W.fnOf "put_into" "put_into" (defArgs (topS 19)) (defBody (topS 19)) (defScope (topS 19)) .none kV19 dc19 pm19 an19 cd19 ct19), sl19⟩) (c19 : PySem.W.codeIn K cd19 "put_into" = true) (k19 : PySem.W.keepIn K (.ref f19) = true)
    {f20 : Addr} {od20 an20 : Option Addr} {sl20 : Array (Option Value)} {oc20 kV20 dc20 pm20 cd20 ct20 : Value} (a20 : PySem.W.nsIn K mainGlobals "sure_spots" = some (some (.ref f20))) (l20 : K.lookup f20 = some ⟨oc20, od20, .func (PySem.W.fnOf "sure_spots" "sure_spots" (defArgs (topS 20)) (defBody (topS 20)) (defScope (topS 20)) .none kV20 dc20 pm20 an20 cd20 ct20), sl20⟩) (c20 : PySem.W.codeIn K cd20 "sure_spots" = true) (k20 : PySem.W.keepIn K (.ref f20) = true)
    {f21 : Addr} {od21 an21 : Option Addr} {sl21 : Array (Option Value)} {oc21 kV21 dc21 pm21 cd21 ct21 : Value} (a21 : PySem.W.nsIn K mainGlobals "put_all" = some (some (.ref f21))) (l21 : K.lookup f21 = some ⟨oc21, od21, .func (PySem.W.fnOf "put_all" "put_all" (defArgs (topS 21)) (defBody (topS 21)) (defScope (topS 21)) .none kV21 dc21 pm21 an21 cd21 ct21), sl21⟩) (c21 : PySem.W.codeIn K cd21 "put_all" = true) (k21 : PySem.W.keepIn K (.ref f21) = true)
    {f22 : Addr} {od22 an22 : Option Addr} {sl22 : Array (Option Value)} {oc22 kV22 dc22 pm22 cd22 ct22 : Value} (a22 : PySem.W.nsIn K mainGlobals "renewed" = some (some (.ref f22))) (l22 : K.lookup f22 = some ⟨oc22, od22, .func (PySem.W.fnOf "renewed" "renewed" (defArgs (topS 22)) (defBody (topS 22)) (defScope (topS 22)) .none kV22 dc22 pm22 an22 cd22 ct22), sl22⟩) (c22 : PySem.W.codeIn K cd22 "renewed" = true) (k22 : PySem.W.keepIn K (.ref f22) = true)
    {f24 : Addr} {od24 an24 : Option Addr} {sl24 : Array (Option Value)} {oc24 kV24 dc24 pm24 cd24 ct24 : Value} (a24 : PySem.W.nsIn K mainGlobals "_law_box" = some (some (.ref f24))) (l24 : K.lookup f24 = some ⟨oc24, od24, .func (PySem.W.fnOf "_law_box" "_law_box" (defArgs (topS 24)) (defBody (topS 24)) (defScope (topS 24)) .none kV24 dc24 pm24 an24 cd24 ct24), sl24⟩) (c24 : PySem.W.codeIn K cd24 "_law_box" = true) (k24 : PySem.W.keepIn K (.ref f24) = true)
    {f25 : Addr} {od25 an25 : Option Addr} {sl25 : Array (Option Value)} {oc25 kV25 dc25 pm25 cd25 ct25 : Value} (a25 : PySem.W.nsIn K mainGlobals "_law_take" = some (some (.ref f25))) (l25 : K.lookup f25 = some ⟨oc25, od25, .func (PySem.W.fnOf "_law_take" "_law_take" (defArgs (topS 25)) (defBody (topS 25)) (defScope (topS 25)) .none kV25 dc25 pm25 an25 cd25 ct25), sl25⟩) (c25 : PySem.W.codeIn K cd25 "_law_take" = true) (k25 : PySem.W.keepIn K (.ref f25) = true)
    {f26 : Addr} {od26 an26 : Option Addr} {sl26 : Array (Option Value)} {oc26 kV26 dc26 pm26 cd26 ct26 : Value} (a26 : PySem.W.nsIn K mainGlobals "_law_cells" = some (some (.ref f26))) (l26 : K.lookup f26 = some ⟨oc26, od26, .func (PySem.W.fnOf "_law_cells" "_law_cells" (defArgs (topS 26)) (defBody (topS 26)) (defScope (topS 26)) .none kV26 dc26 pm26 an26 cd26 ct26), sl26⟩) (c26 : PySem.W.codeIn K cd26 "_law_cells" = true) (k26 : PySem.W.keepIn K (.ref f26) = true)
    {f27 : Addr} {od27 an27 : Option Addr} {sl27 : Array (Option Value)} {oc27 kV27 dc27 pm27 cd27 ct27 : Value} (a27 : PySem.W.nsIn K mainGlobals "_law_of" = some (some (.ref f27))) (l27 : K.lookup f27 = some ⟨oc27, od27, .func (PySem.W.fnOf "_law_of" "_law_of" (defArgs (topS 27)) (defBody (topS 27)) (defScope (topS 27)) .none kV27 dc27 pm27 an27 cd27 ct27), sl27⟩) (c27 : PySem.W.codeIn K cd27 "_law_of" = true) (k27 : PySem.W.keepIn K (.ref f27) = true)
    {f28 : Addr} {od28 an28 : Option Addr} {sl28 : Array (Option Value)} {oc28 kV28 dc28 pm28 cd28 ct28 : Value} (a28 : PySem.W.nsIn K mainGlobals "_law_pick" = some (some (.ref f28))) (l28 : K.lookup f28 = some ⟨oc28, od28, .func (PySem.W.fnOf "_law_pick" "_law_pick" (defArgs (topS 28)) (defBody (topS 28)) (defScope (topS 28)) .none kV28 dc28 pm28 an28 cd28 ct28), sl28⟩) (c28 : PySem.W.codeIn K cd28 "_law_pick" = true) (k28 : PySem.W.keepIn K (.ref f28) = true)
    {f29 : Addr} {od29 an29 : Option Addr} {sl29 : Array (Option Value)} {oc29 kV29 dc29 pm29 cd29 ct29 : Value} (a29 : PySem.W.nsIn K mainGlobals "_law_same" = some (some (.ref f29))) (l29 : K.lookup f29 = some ⟨oc29, od29, .func (PySem.W.fnOf "_law_same" "_law_same" (defArgs (topS 29)) (defBody (topS 29)) (defScope (topS 29)) .none kV29 dc29 pm29 an29 cd29 ct29), sl29⟩) (c29 : PySem.W.codeIn K cd29 "_law_same" = true) (k29 : PySem.W.keepIn K (.ref f29) = true)
    {f30 : Addr} {od30 an30 : Option Addr} {sl30 : Array (Option Value)} {oc30 kV30 dc30 pm30 cd30 ct30 : Value} (a30 : PySem.W.nsIn K mainGlobals "_law_plain" = some (some (.ref f30))) (l30 : K.lookup f30 = some ⟨oc30, od30, .func (PySem.W.fnOf "_law_plain" "_law_plain" (defArgs (topS 30)) (defBody (topS 30)) (defScope (topS 30)) .none kV30 dc30 pm30 an30 cd30 ct30), sl30⟩) (c30 : PySem.W.codeIn K cd30 "_law_plain" = true) (k30 : PySem.W.keepIn K (.ref f30) = true)
    {f31 : Addr} {od31 an31 : Option Addr} {sl31 : Array (Option Value)} {oc31 kV31 dc31 pm31 cd31 ct31 : Value} (a31 : PySem.W.nsIn K mainGlobals "_law_go" = some (some (.ref f31))) (l31 : K.lookup f31 = some ⟨oc31, od31, .func (PySem.W.fnOf "_law_go" "_law_go" (defArgs (topS 31)) (defBody (topS 31)) (defScope (topS 31)) .none kV31 dc31 pm31 an31 cd31 ct31), sl31⟩) (c31 : PySem.W.codeIn K cd31 "_law_go" = true) (k31 : PySem.W.keepIn K (.ref f31) = true)
    {f32 : Addr} {od32 an32 : Option Addr} {sl32 : Array (Option Value)} {oc32 kV32 dc32 pm32 cd32 ct32 : Value} (a32 : PySem.W.nsIn K mainGlobals "_law_go_bits" = some (some (.ref f32))) (l32 : K.lookup f32 = some ⟨oc32, od32, .func (PySem.W.fnOf "_law_go_bits" "_law_go_bits" (defArgs (topS 32)) (defBody (topS 32)) (defScope (topS 32)) .none kV32 dc32 pm32 an32 cd32 ct32), sl32⟩) (c32 : PySem.W.codeIn K cd32 "_law_go_bits" = true) (k32 : PySem.W.keepIn K (.ref f32) = true)
    {f34 : Addr} {od34 an34 : Option Addr} {sl34 : Array (Option Value)} {oc34 kV34 dc34 pm34 cd34 ct34 : Value} (a34 : PySem.W.nsIn K mainGlobals "_law_plus" = some (some (.ref f34))) (l34 : K.lookup f34 = some ⟨oc34, od34, .func (PySem.W.fnOf "_law_plus" "_law_plus" (defArgs (topS 34)) (defBody (topS 34)) (defScope (topS 34)) .none kV34 dc34 pm34 an34 cd34 ct34), sl34⟩) (c34 : PySem.W.codeIn K cd34 "_law_plus" = true) (k34 : PySem.W.keepIn K (.ref f34) = true)
    {f35 : Addr} {od35 an35 : Option Addr} {sl35 : Array (Option Value)} {oc35 kV35 dc35 pm35 cd35 ct35 : Value} (a35 : PySem.W.nsIn K mainGlobals "_law_unit" = some (some (.ref f35))) (l35 : K.lookup f35 = some ⟨oc35, od35, .func (PySem.W.fnOf "_law_unit" "_law_unit" (defArgs (topS 35)) (defBody (topS 35)) (defScope (topS 35)) .none kV35 dc35 pm35 an35 cd35 ct35), sl35⟩) (c35 : PySem.W.codeIn K cd35 "_law_unit" = true) (k35 : PySem.W.keepIn K (.ref f35) = true)
    {f36 : Addr} {od36 an36 : Option Addr} {sl36 : Array (Option Value)} {oc36 kV36 dc36 pm36 cd36 ct36 : Value} (a36 : PySem.W.nsIn K mainGlobals "_law_first" = some (some (.ref f36))) (l36 : K.lookup f36 = some ⟨oc36, od36, .func (PySem.W.fnOf "_law_first" "_law_first" (defArgs (topS 36)) (defBody (topS 36)) (defScope (topS 36)) .none kV36 dc36 pm36 an36 cd36 ct36), sl36⟩) (c36 : PySem.W.codeIn K cd36 "_law_first" = true) (k36 : PySem.W.keepIn K (.ref f36) = true)
    {f37 : Addr} {od37 an37 : Option Addr} {sl37 : Array (Option Value)} {oc37 kV37 dc37 pm37 cd37 ct37 : Value} (a37 : PySem.W.nsIn K mainGlobals "_law_wide" = some (some (.ref f37))) (l37 : K.lookup f37 = some ⟨oc37, od37, .func (PySem.W.fnOf "_law_wide" "_law_wide" (defArgs (topS 37)) (defBody (topS 37)) (defScope (topS 37)) .none kV37 dc37 pm37 an37 cd37 ct37), sl37⟩) (c37 : PySem.W.codeIn K cd37 "_law_wide" = true) (k37 : PySem.W.keepIn K (.ref f37) = true)
    {f38 : Addr} {od38 an38 : Option Addr} {sl38 : Array (Option Value)} {oc38 kV38 dc38 pm38 cd38 ct38 : Value} (a38 : PySem.W.nsIn K mainGlobals "_law_shown" = some (some (.ref f38))) (l38 : K.lookup f38 = some ⟨oc38, od38, .func (PySem.W.fnOf "_law_shown" "_law_shown" (defArgs (topS 38)) (defBody (topS 38)) (defScope (topS 38)) .none kV38 dc38 pm38 an38 cd38 ct38), sl38⟩) (c38 : PySem.W.codeIn K cd38 "_law_shown" = true) (k38 : PySem.W.keepIn K (.ref f38) = true)
    {f39 : Addr} {od39 an39 : Option Addr} {sl39 : Array (Option Value)} {oc39 kV39 dc39 pm39 cd39 ct39 : Value} (a39 : PySem.W.nsIn K mainGlobals "_law_tuples" = some (some (.ref f39))) (l39 : K.lookup f39 = some ⟨oc39, od39, .func (PySem.W.fnOf "_law_tuples" "_law_tuples" (defArgs (topS 39)) (defBody (topS 39)) (defScope (topS 39)) .none kV39 dc39 pm39 an39 cd39 ct39), sl39⟩) (c39 : PySem.W.codeIn K cd39 "_law_tuples" = true) (k39 : PySem.W.keepIn K (.ref f39) = true)
    {f40 : Addr} {od40 an40 : Option Addr} {sl40 : Array (Option Value)} {oc40 kV40 dc40 pm40 cd40 ct40 : Value} (a40 : PySem.W.nsIn K mainGlobals "_law_mixed" = some (some (.ref f40))) (l40 : K.lookup f40 = some ⟨oc40, od40, .func (PySem.W.fnOf "_law_mixed" "_law_mixed" (defArgs (topS 40)) (defBody (topS 40)) (defScope (topS 40)) .none kV40 dc40 pm40 an40 cd40 ct40), sl40⟩) (c40 : PySem.W.codeIn K cd40 "_law_mixed" = true) (k40 : PySem.W.keepIn K (.ref f40) = true)
    {f41 : Addr} {od41 an41 : Option Addr} {sl41 : Array (Option Value)} {oc41 kV41 dc41 pm41 cd41 ct41 : Value} (a41 : PySem.W.nsIn K mainGlobals "_law_marks_of" = some (some (.ref f41))) (l41 : K.lookup f41 = some ⟨oc41, od41, .func (PySem.W.fnOf "_law_marks_of" "_law_marks_of" (defArgs (topS 41)) (defBody (topS 41)) (defScope (topS 41)) .none kV41 dc41 pm41 an41 cd41 ct41), sl41⟩) (c41 : PySem.W.codeIn K cd41 "_law_marks_of" = true) (k41 : PySem.W.keepIn K (.ref f41) = true)
    {f42 : Addr} {od42 an42 : Option Addr} {sl42 : Array (Option Value)} {oc42 kV42 dc42 pm42 cd42 ct42 : Value} (a42 : PySem.W.nsIn K mainGlobals "_law_rank" = some (some (.ref f42))) (l42 : K.lookup f42 = some ⟨oc42, od42, .func (PySem.W.fnOf "_law_rank" "_law_rank" (defArgs (topS 42)) (defBody (topS 42)) (defScope (topS 42)) .none kV42 dc42 pm42 an42 cd42 ct42), sl42⟩) (c42 : PySem.W.codeIn K cd42 "_law_rank" = true) (k42 : PySem.W.keepIn K (.ref f42) = true)
    {f43 : Addr} {od43 an43 : Option Addr} {sl43 : Array (Option Value)} {oc43 kV43 dc43 pm43 cd43 ct43 : Value} (a43 : PySem.W.nsIn K mainGlobals "_law_tells" = some (some (.ref f43))) (l43 : K.lookup f43 = some ⟨oc43, od43, .func (PySem.W.fnOf "_law_tells" "_law_tells" (defArgs (topS 43)) (defBody (topS 43)) (defScope (topS 43)) .none kV43 dc43 pm43 an43 cd43 ct43), sl43⟩) (c43 : PySem.W.codeIn K cd43 "_law_tells" = true) (k43 : PySem.W.keepIn K (.ref f43) = true)
    {f44 : Addr} {od44 an44 : Option Addr} {sl44 : Array (Option Value)} {oc44 kV44 dc44 pm44 cd44 ct44 : Value} (a44 : PySem.W.nsIn K mainGlobals "_law_looks_to" = some (some (.ref f44))) (l44 : K.lookup f44 = some ⟨oc44, od44, .func (PySem.W.fnOf "_law_looks_to" "_law_looks_to" (defArgs (topS 44)) (defBody (topS 44)) (defScope (topS 44)) .none kV44 dc44 pm44 an44 cd44 ct44), sl44⟩) (c44 : PySem.W.codeIn K cd44 "_law_looks_to" = true) (k44 : PySem.W.keepIn K (.ref f44) = true)
    {f45 : Addr} {od45 an45 : Option Addr} {sl45 : Array (Option Value)} {oc45 kV45 dc45 pm45 cd45 ct45 : Value} (a45 : PySem.W.nsIn K mainGlobals "_law_cheapest" = some (some (.ref f45))) (l45 : K.lookup f45 = some ⟨oc45, od45, .func (PySem.W.fnOf "_law_cheapest" "_law_cheapest" (defArgs (topS 45)) (defBody (topS 45)) (defScope (topS 45)) .none kV45 dc45 pm45 an45 cd45 ct45), sl45⟩) (c45 : PySem.W.codeIn K cd45 "_law_cheapest" = true) (k45 : PySem.W.keepIn K (.ref f45) = true)
    {f46 : Addr} {od46 an46 : Option Addr} {sl46 : Array (Option Value)} {oc46 kV46 dc46 pm46 cd46 ct46 : Value} (a46 : PySem.W.nsIn K mainGlobals "_law_still_hall" = some (some (.ref f46))) (l46 : K.lookup f46 = some ⟨oc46, od46, .func (PySem.W.fnOf "_law_still_hall" "_law_still_hall" (defArgs (topS 46)) (defBody (topS 46)) (defScope (topS 46)) .none kV46 dc46 pm46 an46 cd46 ct46), sl46⟩) (c46 : PySem.W.codeIn K cd46 "_law_still_hall" = true) (k46 : PySem.W.keepIn K (.ref f46) = true)
    {f47 : Addr} {od47 an47 : Option Addr} {sl47 : Array (Option Value)} {oc47 kV47 dc47 pm47 cd47 ct47 : Value} (a47 : PySem.W.nsIn K mainGlobals "_law_over_hall" = some (some (.ref f47))) (l47 : K.lookup f47 = some ⟨oc47, od47, .func (PySem.W.fnOf "_law_over_hall" "_law_over_hall" (defArgs (topS 47)) (defBody (topS 47)) (defScope (topS 47)) .none kV47 dc47 pm47 an47 cd47 ct47), sl47⟩) (c47 : PySem.W.codeIn K cd47 "_law_over_hall" = true) (k47 : PySem.W.keepIn K (.ref f47) = true)
    {f48 : Addr} {od48 an48 : Option Addr} {sl48 : Array (Option Value)} {oc48 kV48 dc48 pm48 cd48 ct48 : Value} (a48 : PySem.W.nsIn K mainGlobals "_law_bits_with" = some (some (.ref f48))) (l48 : K.lookup f48 = some ⟨oc48, od48, .func (PySem.W.fnOf "_law_bits_with" "_law_bits_with" (defArgs (topS 48)) (defBody (topS 48)) (defScope (topS 48)) .none kV48 dc48 pm48 an48 cd48 ct48), sl48⟩) (c48 : PySem.W.codeIn K cd48 "_law_bits_with" = true) (k48 : PySem.W.keepIn K (.ref f48) = true)
    {f49 : Addr} {od49 an49 : Option Addr} {sl49 : Array (Option Value)} {oc49 kV49 dc49 pm49 cd49 ct49 : Value} (a49 : PySem.W.nsIn K mainGlobals "_law_with" = some (some (.ref f49))) (l49 : K.lookup f49 = some ⟨oc49, od49, .func (PySem.W.fnOf "_law_with" "_law_with" (defArgs (topS 49)) (defBody (topS 49)) (defScope (topS 49)) .none kV49 dc49 pm49 an49 cd49 ct49), sl49⟩) (c49 : PySem.W.codeIn K cd49 "_law_with" = true) (k49 : PySem.W.keepIn K (.ref f49) = true)
    {f50 : Addr} {od50 an50 : Option Addr} {sl50 : Array (Option Value)} {oc50 kV50 dc50 pm50 cd50 ct50 : Value} (a50 : PySem.W.nsIn K mainGlobals "_law_gaps" = some (some (.ref f50))) (l50 : K.lookup f50 = some ⟨oc50, od50, .func (PySem.W.fnOf "_law_gaps" "_law_gaps" (defArgs (topS 50)) (defBody (topS 50)) (defScope (topS 50)) .none kV50 dc50 pm50 an50 cd50 ct50), sl50⟩) (c50 : PySem.W.codeIn K cd50 "_law_gaps" = true) (k50 : PySem.W.keepIn K (.ref f50) = true)
    {f51 : Addr} {od51 an51 : Option Addr} {sl51 : Array (Option Value)} {oc51 kV51 dc51 pm51 cd51 ct51 : Value} (a51 : PySem.W.nsIn K mainGlobals "_law_all_gaps" = some (some (.ref f51))) (l51 : K.lookup f51 = some ⟨oc51, od51, .func (PySem.W.fnOf "_law_all_gaps" "_law_all_gaps" (defArgs (topS 51)) (defBody (topS 51)) (defScope (topS 51)) .none kV51 dc51 pm51 an51 cd51 ct51), sl51⟩) (c51 : PySem.W.codeIn K cd51 "_law_all_gaps" = true) (k51 : PySem.W.keepIn K (.ref f51) = true)
    {f52 : Addr} {od52 an52 : Option Addr} {sl52 : Array (Option Value)} {oc52 kV52 dc52 pm52 cd52 ct52 : Value} (a52 : PySem.W.nsIn K mainGlobals "_law_fresh" = some (some (.ref f52))) (l52 : K.lookup f52 = some ⟨oc52, od52, .func (PySem.W.fnOf "_law_fresh" "_law_fresh" (defArgs (topS 52)) (defBody (topS 52)) (defScope (topS 52)) .none kV52 dc52 pm52 an52 cd52 ct52), sl52⟩) (c52 : PySem.W.codeIn K cd52 "_law_fresh" = true) (k52 : PySem.W.keepIn K (.ref f52) = true)
    {f53 : Addr} {od53 an53 : Option Addr} {sl53 : Array (Option Value)} {oc53 kV53 dc53 pm53 cd53 ct53 : Value} (a53 : PySem.W.nsIn K mainGlobals "_law_short_bit" = some (some (.ref f53))) (l53 : K.lookup f53 = some ⟨oc53, od53, .func (PySem.W.fnOf "_law_short_bit" "_law_short_bit" (defArgs (topS 53)) (defBody (topS 53)) (defScope (topS 53)) .none kV53 dc53 pm53 an53 cd53 ct53), sl53⟩) (c53 : PySem.W.codeIn K cd53 "_law_short_bit" = true) (k53 : PySem.W.keepIn K (.ref f53) = true)
    {f54 : Addr} {od54 an54 : Option Addr} {sl54 : Array (Option Value)} {oc54 kV54 dc54 pm54 cd54 ct54 : Value} (a54 : PySem.W.nsIn K mainGlobals "_law_by_hand_right" = some (some (.ref f54))) (l54 : K.lookup f54 = some ⟨oc54, od54, .func (PySem.W.fnOf "_law_by_hand_right" "_law_by_hand_right" (defArgs (topS 54)) (defBody (topS 54)) (defScope (topS 54)) .none kV54 dc54 pm54 an54 cd54 ct54), sl54⟩) (c54 : PySem.W.codeIn K cd54 "_law_by_hand_right" = true) (k54 : PySem.W.keepIn K (.ref f54) = true)
    {f55 : Addr} {od55 an55 : Option Addr} {sl55 : Array (Option Value)} {oc55 kV55 dc55 pm55 cd55 ct55 : Value} (a55 : PySem.W.nsIn K mainGlobals "_law_wide_hall" = some (some (.ref f55))) (l55 : K.lookup f55 = some ⟨oc55, od55, .func (PySem.W.fnOf "_law_wide_hall" "_law_wide_hall" (defArgs (topS 55)) (defBody (topS 55)) (defScope (topS 55)) .none kV55 dc55 pm55 an55 cd55 ct55), sl55⟩) (c55 : PySem.W.codeIn K cd55 "_law_wide_hall" = true) (k55 : PySem.W.keepIn K (.ref f55) = true)
    {f56 : Addr} {od56 an56 : Option Addr} {sl56 : Array (Option Value)} {oc56 kV56 dc56 pm56 cd56 ct56 : Value} (a56 : PySem.W.nsIn K mainGlobals "law" = some (some (.ref f56))) (l56 : K.lookup f56 = some ⟨oc56, od56, .func (PySem.W.fnOf "law" "law" (defArgs (topS 56)) (defBody (topS 56)) (defScope (topS 56)) .none kV56 dc56 pm56 an56 cd56 ct56), sl56⟩) (c56 : PySem.W.codeIn K cd56 "law" = true) (k56 : PySem.W.keepIn K (.ref f56) = true)
    (z_len : PySem.W.nsIn K mainGlobals "len" = some none)
    (z_int : PySem.W.nsIn K mainGlobals "int" = some none)
    (z_abs : PySem.W.nsIn K mainGlobals "abs" = some none)
    (z_sum : PySem.W.nsIn K mainGlobals "sum" = some none)
    (z_all : PySem.W.nsIn K mainGlobals "all" = some none)
    (z_any : PySem.W.nsIn K mainGlobals "any" = some none)
    (z_list : PySem.W.nsIn K mainGlobals "list" = some none)
    (z_tuple : PySem.W.nsIn K mainGlobals "tuple" = some none)
    (z_sorted : PySem.W.nsIn K mainGlobals "sorted" = some none)
    (z_range : PySem.W.nsIn K mainGlobals "range" = some none)
    (z_min : PySem.W.nsIn K mainGlobals "min" = some none)
    (z_isinstance : PySem.W.nsIn K mainGlobals "isinstance" = some none)
    (z_bool : PySem.W.nsIn K mainGlobals "bool" = some none)
    (z_str : PySem.W.nsIn K mainGlobals "str" = some none)
    (z_enumerate : PySem.W.nsIn K mainGlobals "enumerate" = some none)
    (z_zip : PySem.W.nsIn K mainGlobals "zip" = some none)
    (z_dict : PySem.W.nsIn K mainGlobals "dict" = some none)
    (z_set : PySem.W.nsIn K mainGlobals "set" = some none)
    {tk0 : Tok} (g_DRAW : PySem.W.nsIn K mainGlobals "DRAW" = some (some (.str "draw" tk0)))
    {tk1 : Tok} (g_SET : PySem.W.nsIn K mainGlobals "SET" = some (some (.str "set" tk1)))
    {tk2 : Tok} (g_ONE : PySem.W.nsIn K mainGlobals "ONE" = some (some (.str "one" tk2)))
    {tk3 : Tok} (g_MANY : PySem.W.nsIn K mainGlobals "MANY" = some (some (.str "many" tk3)))
    {tk4 : Tok} (g_FEWEST : PySem.W.nsIn K mainGlobals "FEWEST" = some (some (.int 2 tk4))) :
    ∃ fd : FuncData, (∀ (s : Shared) (v : Value), BindsTo s fd ⟨[v], []⟩ [("script", v)]) ∧ ∀ base : Heap, K.In base → base.Ns mainGlobals mg → FnOk l.prog w K mg base CX0 20 fa fd ["script"] (spW K (SIc (callI tb.fn 20) 43)) := by
  have e := hfa.symm.trans (PySem.W.mg_of X G a56)
  cases e
  have F5 := fun_mk (st := topS 5) l5 c5 k5
  have b5 := F5.binds (ps := ["value"]) fun _ _ _ _ _ _ us hl => match us, hl with | [_], _ => rfl
  have F12 := fun_mk (st := topS 12) l12 c12 k12
  have b12 := F12.binds (ps := ["machine", "registers"]) fun _ _ _ _ _ _ us hl => match us, hl with | [_, _], _ => rfl
  have F13 := fun_mk (st := topS 13) l13 c13 k13
  have b13 := F13.binds (ps := ["machine", "registers", "slot"]) fun _ _ _ _ _ _ us hl => match us, hl with | [_, _, _], _ => rfl
  have F14 := fun_mk (st := topS 14) l14 c14 k14
  have b14 := F14.binds (ps := ["machine", "registers", "slot"]) fun _ _ _ _ _ _ us hl => match us, hl with | [_, _, _], _ => rfl
  have F15 := fun_mk (st := topS 15) l15 c15 k15
  have b15 := F15.binds (ps := ["machine", "registers", "slot"]) fun _ _ _ _ _ _ us hl => match us, hl with | [_, _, _], _ => rfl
  have F16 := fun_mk (st := topS 16) l16 c16 k16
  have b16 := F16.binds (ps := ["way", "path"]) fun _ _ _ _ _ _ us hl => match us, hl with | [_, _], _ => rfl
  have F17 := fun_mk (st := topS 17) l17 c17 k17
  have b17 := F17.binds (ps := ["program"]) fun _ _ _ _ _ _ us hl => match us, hl with | [_], _ => rfl
  have F18 := fun_mk (st := topS 18) l18 c18 k18
  have b18 := F18.binds (ps := ["way", "path", "items"]) fun _ _ _ _ _ _ us hl => match us, hl with | [_, _, _], _ => rfl
  have F19 := fun_mk (st := topS 19) l19 c19 k19
  have b19 := F19.binds (ps := ["program", "path", "way"]) fun _ _ _ _ _ _ us hl => match us, hl with | [_, _, _], _ => rfl
  have F20 := fun_mk (st := topS 20) l20 c20 k20
  have b20 := F20.binds (ps := ["program", "paths"]) fun _ _ _ _ _ _ us hl => match us, hl with | [_, _], _ => rfl
  have F21 := fun_mk (st := topS 21) l21 c21 k21
  have b21 := F21.binds (ps := ["program", "paths", "way"]) fun _ _ _ _ _ _ us hl => match us, hl with | [_, _, _], _ => rfl
  have F22 := fun_mk (st := topS 22) l22 c22 k22
  have b22 := F22.binds (ps := ["program", "paths", "registers", "slot"]) fun _ _ _ _ _ _ us hl => match us, hl with | [_, _, _, _], _ => rfl
  have F24 := fun_mk (st := topS 24) l24 c24 k24
  have b24 := F24.binds (ps := ["script", "k"]) fun _ _ _ _ _ _ us hl => match us, hl with | [_, _], _ => rfl
  have F25 := fun_mk (st := topS 25) l25 c25 k25
  have b25 := F25.binds (ps := ["tin", "below_so"]) fun _ _ _ _ _ _ us hl => match us, hl with | [_, _], _ => rfl
  have F26 := fun_mk (st := topS 26) l26 c26 k26
  have b26 := F26.binds (ps := ["script", "most_so"]) fun _ _ _ _ _ _ us hl => match us, hl with | [_, _], _ => rfl
  have F27 := fun_mk (st := topS 27) l27 c27 k27
  have b27 := F27.binds (ps := ["tin", "goods_so"]) fun _ _ _ _ _ _ us hl => match us, hl with | [_, _], _ => rfl
  have F28 := fun_mk (st := topS 28) l28 c28 k28
  have b28 := F28.binds (ps := ["tin", "goods_so", "count_so"]) fun _ _ _ _ _ _ us hl => match us, hl with | [_, _, _], _ => rfl
  have F29 := fun_mk (st := topS 29) l29 c29 k29
  have b29 := F29.binds (ps := ["got", "due"]) fun _ _ _ _ _ _ us hl => match us, hl with | [_, _], _ => rfl
  have F30 := fun_mk (st := topS 30) l30 c30 k30
  have b30 := F30.binds (ps := []) fun _ _ _ _ _ _ us hl => match us, hl with | [], _ => rfl
  have F31 := fun_mk (st := topS 31) l31 c31 k31
  have b31 := F31.binds (ps := ["hall", "walk"]) fun _ _ _ _ _ _ us hl => match us, hl with | [_, _], _ => rfl
  have F32 := fun_mk (st := topS 32) l32 c32 k32
  have b32 := F32.binds (ps := ["hall", "bits", "left_so", "found", "deep_so"]) fun _ _ _ _ _ _ us hl => match us, hl with | [_, _, _, _, _], _ => rfl
  have F34 := fun_mk (st := topS 34) l34 c34 k34
  have b34 := F34.binds (ps := ["p", "one_so", "two_so", "factor_so"]) fun _ _ _ _ _ _ us hl => match us, hl with | [_, _, _, _], _ => rfl
  have F35 := fun_mk (st := topS 35) l35 c35 k35
  have b35 := F35.binds (ps := ["wide_so", "at_so"]) fun _ _ _ _ _ _ us hl => match us, hl with | [_, _], _ => rfl
  have F36 := fun_mk (st := topS 36) l36 c36 k36
  have b36 := F36.binds (ps := ["hall", "wide_so"]) fun _ _ _ _ _ _ us hl => match us, hl with | [_, _], _ => rfl
  have F37 := fun_mk (st := topS 37) l37 c37 k37
  have b37 := F37.binds (ps := ["hall", "lot"]) fun _ _ _ _ _ _ us hl => match us, hl with | [_, _], _ => rfl
  have F38 := fun_mk (st := topS 38) l38 c38 k38
  have b38 := F38.binds (ps := ["hall", "lot"]) fun _ _ _ _ _ _ us hl => match us, hl with | [_, _], _ => rfl
  have F39 := fun_mk (st := topS 39) l39 c39 k39
  have b39 := F39.binds (ps := ["p", "count_so"]) fun _ _ _ _ _ _ us hl => match us, hl with | [_, _], _ => rfl
  have F40 := fun_mk (st := topS 40) l40 c40 k40
  have b40 := F40.binds (ps := ["p", "vectors_so", "factors_so", "wide_so"]) fun _ _ _ _ _ _ us hl => match us, hl with | [_, _, _, _], _ => rfl
  have F41 := fun_mk (st := topS 41) l41 c41 k41
  have b41 := F41.binds (ps := ["hall", "lot"]) fun _ _ _ _ _ _ us hl => match us, hl with | [_, _], _ => rfl
  have F42 := fun_mk (st := topS 42) l42 c42 k42
  have b42 := F42.binds (ps := ["p", "vectors_so"]) fun _ _ _ _ _ _ us hl => match us, hl with | [_, _], _ => rfl
  have F43 := fun_mk (st := topS 43) l43 c43 k43
  have b43 := F43.binds (ps := ["hall", "vectors_so"]) fun _ _ _ _ _ _ us hl => match us, hl with | [_, _], _ => rfl
  have F44 := fun_mk (st := topS 44) l44 c44 k44
  have b44 := F44.binds (ps := ["goods_so", "most_so"]) fun _ _ _ _ _ _ us hl => match us, hl with | [_, _], _ => rfl
  have F45 := fun_mk (st := topS 45) l45 c45 k45
  have b45 := F45.binds (ps := ["hall", "lot", "most_so"]) fun _ _ _ _ _ _ us hl => match us, hl with | [_, _, _], _ => rfl
  have F46 := fun_mk (st := topS 46) l46 c46 k46
  have b46 := F46.binds (ps := []) fun _ _ _ _ _ _ us hl => match us, hl with | [], _ => rfl
  have F47 := fun_mk (st := topS 47) l47 c47 k47
  have b47 := F47.binds (ps := []) fun _ _ _ _ _ _ us hl => match us, hl with | [], _ => rfl
  have F48 := fun_mk (st := topS 48) l48 c48 k48
  have b48 := F48.binds (ps := ["bits", "trail_so", "goods_so", "cut_so"]) fun _ _ _ _ _ _ us hl => match us, hl with | [_, _, _, _], _ => rfl
  have F49 := fun_mk (st := topS 49) l49 c49 k49
  have b49 := F49.binds (ps := ["hall", "trail_so", "goods_so", "cut_so"]) fun _ _ _ _ _ _ us hl => match us, hl with | [_, _, _, _], _ => rfl
  have F50 := fun_mk (st := topS 50) l50 c50 k50
  have b50 := F50.binds (ps := ["bits", "ahead_so"]) fun _ _ _ _ _ _ us hl => match us, hl with | [_, _], _ => rfl
  have F51 := fun_mk (st := topS 51) l51 c51 k51
  have b51 := F51.binds (ps := ["hall"]) fun _ _ _ _ _ _ us hl => match us, hl with | [_], _ => rfl
  have F52 := fun_mk (st := topS 52) l52 c52 k52
  have b52 := F52.binds (ps := ["p", "parts_so", "spare_so"]) fun _ _ _ _ _ _ us hl => match us, hl with | [_, _, _], _ => rfl
  have F53 := fun_mk (st := topS 53) l53 c53 k53
  have b53 := F53.binds (ps := ["tin", "p"]) fun _ _ _ _ _ _ us hl => match us, hl with | [_, _], _ => rfl
  have F54 := fun_mk (st := topS 54) l54 c54 k54
  have b54 := F54.binds (ps := []) fun _ _ _ _ _ _ us hl => match us, hl with | [], _ => rfl
  have F55 := fun_mk (st := topS 55) l55 c55 k55
  have b55 := F55.binds (ps := ["tin", "size_so"]) fun _ _ _ _ _ _ us hl => match us, hl with | [_, _], _ => rfl
  have F56 := fun_mk (st := topS 56) l56 c56 k56
  have b56 := F56.binds (ps := ["script"]) fun _ _ _ _ _ _ us hl => match us, hl with | [_], _ => rfl
  have D : DefsOk K mg tb.fn sts := .cons ⟨⟨_, _, F5, PySem.W.mg_of X G a5, b5⟩⟩ (.cons ⟨⟨_, _, F12, PySem.W.mg_of X G a12, b12⟩⟩ (.cons ⟨⟨_, _, F13, PySem.W.mg_of X G a13, b13⟩⟩ (.cons ⟨⟨_, _, F14, PySem.W.mg_of X G a14, b14⟩⟩ (.cons ⟨⟨_, _, F15, PySem.W.mg_of X G a15, b15⟩⟩ (.cons ⟨⟨_, _, F16, PySem.W.mg_of X G a16, b16⟩⟩ (.cons ⟨⟨_, _, F17, PySem.W.mg_of X G a17, b17⟩⟩ (.cons ⟨⟨_, _, F18, PySem.W.mg_of X G a18, b18⟩⟩ (.cons ⟨⟨_, _, F19, PySem.W.mg_of X G a19, b19⟩⟩ (.cons ⟨⟨_, _, F20, PySem.W.mg_of X G a20, b20⟩⟩ (.cons ⟨⟨_, _, F21, PySem.W.mg_of X G a21, b21⟩⟩ (.cons ⟨⟨_, _, F22, PySem.W.mg_of X G a22, b22⟩⟩ (.cons ⟨⟨_, _, F24, PySem.W.mg_of X G a24, b24⟩⟩ (.cons ⟨⟨_, _, F25, PySem.W.mg_of X G a25, b25⟩⟩ (.cons ⟨⟨_, _, F26, PySem.W.mg_of X G a26, b26⟩⟩ (.cons ⟨⟨_, _, F27, PySem.W.mg_of X G a27, b27⟩⟩ (.cons ⟨⟨_, _, F28, PySem.W.mg_of X G a28, b28⟩⟩ (.cons ⟨⟨_, _, F29, PySem.W.mg_of X G a29, b29⟩⟩ (.cons ⟨⟨_, _, F30, PySem.W.mg_of X G a30, b30⟩⟩ (.cons ⟨⟨_, _, F31, PySem.W.mg_of X G a31, b31⟩⟩ (.cons ⟨⟨_, _, F32, PySem.W.mg_of X G a32, b32⟩⟩ (.cons ⟨⟨_, _, F34, PySem.W.mg_of X G a34, b34⟩⟩ (.cons ⟨⟨_, _, F35, PySem.W.mg_of X G a35, b35⟩⟩ (.cons ⟨⟨_, _, F36, PySem.W.mg_of X G a36, b36⟩⟩ (.cons ⟨⟨_, _, F37, PySem.W.mg_of X G a37, b37⟩⟩ (.cons ⟨⟨_, _, F38, PySem.W.mg_of X G a38, b38⟩⟩ (.cons ⟨⟨_, _, F39, PySem.W.mg_of X G a39, b39⟩⟩ (.cons ⟨⟨_, _, F40, PySem.W.mg_of X G a40, b40⟩⟩ (.cons ⟨⟨_, _, F41, PySem.W.mg_of X G a41, b41⟩⟩ (.cons ⟨⟨_, _, F42, PySem.W.mg_of X G a42, b42⟩⟩ (.cons ⟨⟨_, _, F43, PySem.W.mg_of X G a43, b43⟩⟩ (.cons ⟨⟨_, _, F44, PySem.W.mg_of X G a44, b44⟩⟩ (.cons ⟨⟨_, _, F45, PySem.W.mg_of X G a45, b45⟩⟩ (.cons ⟨⟨_, _, F46, PySem.W.mg_of X G a46, b46⟩⟩ (.cons ⟨⟨_, _, F47, PySem.W.mg_of X G a47, b47⟩⟩ (.cons ⟨⟨_, _, F48, PySem.W.mg_of X G a48, b48⟩⟩ (.cons ⟨⟨_, _, F49, PySem.W.mg_of X G a49, b49⟩⟩ (.cons ⟨⟨_, _, F50, PySem.W.mg_of X G a50, b50⟩⟩ (.cons ⟨⟨_, _, F51, PySem.W.mg_of X G a51, b51⟩⟩ (.cons ⟨⟨_, _, F52, PySem.W.mg_of X G a52, b52⟩⟩ (.cons ⟨⟨_, _, F53, PySem.W.mg_of X G a53, b53⟩⟩ (.cons ⟨⟨_, _, F54, PySem.W.mg_of X G a54, b54⟩⟩ (.cons ⟨⟨_, _, F55, PySem.W.mg_of X G a55, b55⟩⟩ (.cons ⟨⟨_, _, F56, PySem.W.mg_of X G a56, b56⟩⟩ .nil)))))))))))))))))))))))))))))))))))))))))))
  have T : TopOk K mg tb sts := { fns := D, tab := tab, bi := (List.forall_mem_cons.mpr ⟨PySem.W.mg_none_of X G z_len, (List.forall_mem_cons.mpr ⟨PySem.W.mg_none_of X G z_int, (List.forall_mem_cons.mpr ⟨PySem.W.mg_none_of X G z_abs, (List.forall_mem_cons.mpr ⟨PySem.W.mg_none_of X G z_sum, (List.forall_mem_cons.mpr ⟨PySem.W.mg_none_of X G z_all, (List.forall_mem_cons.mpr ⟨PySem.W.mg_none_of X G z_any, (List.forall_mem_cons.mpr ⟨PySem.W.mg_none_of X G z_list, (List.forall_mem_cons.mpr ⟨PySem.W.mg_none_of X G z_tuple, (List.forall_mem_cons.mpr ⟨PySem.W.mg_none_of X G z_sorted, (List.forall_mem_cons.mpr ⟨PySem.W.mg_none_of X G z_range, (List.forall_mem_cons.mpr ⟨PySem.W.mg_none_of X G z_min, (List.forall_mem_cons.mpr ⟨PySem.W.mg_none_of X G z_isinstance, (List.forall_mem_cons.mpr ⟨PySem.W.mg_none_of X G z_bool, (List.forall_mem_cons.mpr ⟨PySem.W.mg_none_of X G z_str, (List.forall_mem_cons.mpr ⟨PySem.W.mg_none_of X G z_enumerate, (List.forall_mem_cons.mpr ⟨PySem.W.mg_none_of X G z_zip, (List.forall_mem_cons.mpr ⟨PySem.W.mg_none_of X G z_dict, (List.forall_mem_cons.mpr ⟨PySem.W.mg_none_of X G z_set, nofun⟩)⟩)⟩)⟩)⟩)⟩)⟩)⟩)⟩)⟩)⟩)⟩)⟩)⟩)⟩)⟩)⟩)⟩), ct := ctOk_get (.cons ⟨_, PySem.W.mg_of X G g_DRAW, ⟨_, rfl⟩⟩ (.cons ⟨_, PySem.W.mg_of X G g_SET, ⟨_, rfl⟩⟩ (.cons ⟨_, PySem.W.mg_of X G g_ONE, ⟨_, rfl⟩⟩ (.cons ⟨_, PySem.W.mg_of X G g_MANY, ⟨_, rfl⟩⟩ (.cons ⟨_, PySem.W.mg_of X G g_FEWEST, ⟨_, rfl⟩⟩ (.nil)))))) }
  refine ⟨_, fun s v => .of_eq rfl, fun base _ _ => law_ok T 20 (f := 43) rfl rfl F56⟩
theorem law_sp {K : PySem.W.Frag} {H : Hp} {a : Addr} {ns : List Int} {Q : VK} (hl : ns.length ≤ 63) (hS : SqL K H a (ns.map V.int)) (q : ∀ H', Q (.bl true) H') (E : XK) (plain : callI tb.fn 20 43 [.dat (.scr (ns.map .int))] = some (.dat (.bl true), [])) : spW K (SIc (callI tb.fn 20) 43) [.ref a] H Q E := by
  refine ⟨H, [.dat (.scr (ns.map .int))], fun r _ => r = .dat (.bl true), Ex.refl _, .dat (.scr hS Reps.ints) .nil, (fun m n z u b h => by simp [zsOf, ioK] at h), ⟨_, _, plain, trivial, rfl⟩, fun r outs v F' H' hr po rt => ?_⟩
  subst hr
  have e : v = .bl true := Rep.bl_eq rt
  subst e
  exact q H'
end V86

/-! k86: what is drawn. -/
namespace V86
open PySem PySem.Spec PyProof.Rows L2 VY RI
abbrev tinT (a b c : Int) : T := .l [.int a, .int b, .int c]
theorem er_perm {l : List D} {k : Nat} (h : k < l.length) : (l[k] :: l.eraseIdx k).Perm l := by
  have e : l = l.take k ++ l[k] :: l.drop (k + 1) := by rw [List.getElem_cons_drop, List.take_append_drop]
  rw [List.eraseIdx_eq_take_drop_succ]
  refine (List.perm_middle.symm).trans ?_
  rw [← e]
/-- a draw below m -/
theorem take_ok {n : Nat} (a b c : Int) {m : Int} (hm : 0 < m) (hm2 : m < 1000000) (hc : 0 ≤ c) (hc2 : c ≤ 1000000) :
    ∃ k a' c', callI tb.fn (n + 1) 13 [.io (tinT a b c), .dat (.int m)] = some (.dat (.int k), [tinT a' b c']) ∧ 0 ≤ k ∧ k < m ∧ 0 ≤ c' ∧ c' ≤ c + 1 := by
  by_cases ha : 0 < a
  · refine ⟨a % m, a / m, c, (callI_eq (tb := tb.fn) (f := 13) (fd := fd_law_take) (fl := .rt (.dat (.int (a % m))) [.io (tinT (a / m) b c), .dat (.int m), .dat (.int (a % m)), .un, .un, .un]) rfl rfl ?_).trans rfl, Int.emod_nonneg _ (by omega), Int.emod_lt_of_pos _ hm, hc, by omega⟩
    refine exB_rt (exS_ite (k := true) (γ1 := G0 fd_law_take.N [.io (tinT a b c), .dat (.int m)]) (by rw [ev_gt (i := a) (j := 0) rfl rfl, decide_eq_true ha]) (fun _ => ?_) nofun)
    refine exB_nx (exS_set (ev_mod (i := a) (j := m) rfl rfl hm) rfl) ?_
    refine exB_nx (exS_set (ev_fdiv (i := a) (j := m) rfl rfl hm (by omega)) rfl) ?_
    exact exB_rt (exS_ret rfl)
  · obtain ⟨v, hv⟩ : ∃ v, v = (b + 48271 * (c + 1)) * (39373 + (c + 1)) % 2147483647 := ⟨_, rfl⟩
    obtain ⟨u, hu⟩ : ∃ u, u = v % 40009 + 7 := ⟨_, rfl⟩
    obtain ⟨t, ht⟩ : ∃ t, t = (v + (c + 1) + b / 1000003) * u % 2147483629 := ⟨_, rfl⟩
    have u1 : 0 ≤ v % 40009 := Int.emod_nonneg _ (by omega)
    have u2 : v % 40009 < 40009 := Int.emod_lt_of_pos _ (by omega)
    refine ⟨(t * 48271 + v) % 2147483587 / 64 % m, a, c + 1, (callI_eq (tb := tb.fn) (f := 13) (fd := fd_law_take) (fl := .rt (.dat (.int ((t * 48271 + v) % 2147483587 / 64 % m))) [.io (tinT a b (c + 1)), .dat (.int m), .un, .dat (.int v), .dat (.int u), .dat (.int t)]) rfl rfl ?_).trans rfl, Int.emod_nonneg _ (by omega), Int.emod_lt_of_pos _ hm, by omega, by omega⟩
    refine exB_nx (exS_ite (k := false) (γ1 := G0 fd_law_take.N [.io (tinT a b c), .dat (.int m)]) (by rw [ev_gt (i := a) (j := 0) rfl rfl, decide_eq_false ha]) nofun (fun _ => rfl)) ?_
    refine exB_nx (exS_set (ev_add (i := c) (j := 1) rfl rfl) rfl) ?_
    refine exB_nx (exS_set (ev_mod (ev_int (ev_mulR (ev_add (i := b) rfl (ev_mulL (j := c + 1) rfl rfl (by decide) (by decide))) (ev_add (j := c + 1) rfl rfl) (by omega) (by omega))) rfl (by decide)) rfl) ?_
    rw [← hv]
    refine exB_nx (exS_set (ev_add (ev_mod (ev_int (i := v) rfl) rfl (by decide)) rfl) rfl) ?_
    rw [← hu]
    refine exB_nx (exS_set (ev_mod (ev_int (ev_mulR (ev_add (ev_add (i := v) (j := c + 1) rfl rfl) (ev_fdiv (i := b) rfl rfl (by decide) (by decide))) (j := u) rfl (by omega) (by omega))) rfl (by decide)) rfl) ?_
    rw [← ht]
    exact exB_rt (exS_ret (ev_mod (ev_int (ev_fdiv (ev_mod (ev_int (ev_add (ev_mulR (i := t) rfl rfl (by decide) (by decide)) (j := v) rfl)) rfl (by decide)) rfl (by decide) (by decide))) (j := m) rfl hm))
theorem box_ok {n : Nat} (x : Int) : ∃ a b : Int, callI tb.fn (n + 1) 12 [.dat (.lst [.int x]), .dat (.int 0)] = some (.new (tinT a b 0), []) := by
  have hp : (if decide ((10 : Int) ^ (18 : Int).toNat ≤ (if x < 0 then -x else x)) = true then (1 : Int) else 0) < 18446744073709551616 ∧ -18446744073709551616 < (if decide ((10 : Int) ^ (18 : Int).toNat ≤ (if x < 0 then -x else x)) = true then (1 : Int) else 0) := by
    split <;> omega
  refine ⟨_, _, (callI_eq (tb := tb.fn) (f := 12) (fd := fd_law_box) (fl := .rt (.new (tinT ((if x < 0 then -x else x) * (if decide ((10 : Int) ^ (18 : Int).toNat ≤ (if x < 0 then -x else x)) = true then 1 else 0)) (x % 2305843009213693951 + 39373 * 0 + 3155086) 0)) [.dat (.lst [.int x]), .dat (.int 0), .dat (.int x)]) rfl rfl ?_).trans rfl⟩
  refine exB_nx (exS_set (x := .dat (.int x)) rfl rfl) ?_
  refine exB_rt (exS_ret (ev_lst (evs_cons rfl (x := .dat (.int _)) (γ1 := [.dat (.lst [.int x]), .dat (.int 0), .dat (.int x)]) (ev_mulR rfl ?_ hp.2 hp.1) (evs_cons rfl (x := .dat (.int (x % 2305843009213693951 + 39373 * 0 + 3155086))) rfl (evs_cons rfl (x := .dat (.int 0)) rfl rfl))) rfl (show 3 ≤ 1000000 by decide)))
  exact ev_b1 (x := .dat (.bl (decide ((10 : Int) ^ (18 : Int).toNat ≤ (if x < 0 then -x else x))))) (ev_cmp (x := .dat (.int (if x < 0 then -x else x))) (y := .dat (.int ((10 : Int) ^ (18 : Int).toNat))) rfl rfl rfl) rfl
theorem cells_ok {n : Nat} (ns : List Int) (hl : ns.length ≤ 63) : ∃ x : Int, callI tb.fn (n + 1) 14 [.dat (.scr (ns.map .int)), .dat (.int 1)] = some (.new (.l [.int x]), []) := by
  obtain ⟨c0, h0⟩ : ∃ c0 : Int, ev (callI tb.fn n) (.orl (.b1 .list (.slc (.slot 0) .no (.slot 1))) (.lst [(.cst (.int 0))])) (G0 fd_law_cells.N [.dat (.scr (ns.map .int)), .dat (.int 1)]) = some (.new (.l [.int c0]), G0 fd_law_cells.N [.dat (.scr (ns.map .int)), .dat (.int 1)]) := by
    cases ns with
    | nil => exact ⟨0, rfl⟩
    | cons m r =>
      refine ⟨m, ?_⟩
      have e : VY.cutD ((m :: r).map D.int) none (some 1) = [.int m] := by
        unfold VY.cutD
        rw [HT.sIx_none, show (some (1 : Int)) = some ((1 : Nat) : Int) from rfl, HT.sIx_nat, List.map_cons, List.length_cons, show min 1 ((r.map D.int).length + 1) = 1 by omega]
        rfl
      have h1 : ev (callI tb.fn n) (.b1 .list (.slc (.slot 0) .no (.slot 1))) (G0 fd_law_cells.N [.dat (.scr ((m :: r).map .int)), .dat (.int 1)]) = some (.new (.l (VY.cutD ((m :: r).map D.int) none (some 1))), G0 fd_law_cells.N [.dat (.scr ((m :: r).map .int)), .dat (.int 1)]) := rfl
      rw [e] at h1
      simp only [ev] at h1 ⊢
      rw [h1]
      rfl
  have hcut : ∀ d ∈ VY.cutD (ns.map D.int) (some 1) (some 63), ∃ m : Int, d = .int m := fun d hd => by
    unfold VY.cutD at hd
    obtain ⟨m, _, e⟩ := List.mem_map.mp (List.mem_of_mem_drop (List.mem_of_mem_take hd))
    exact ⟨m, e.symm⟩
  have hcl : (VY.cutD (ns.map D.int) (some 1) (some 63)).length ≤ 63 := by
    unfold VY.cutD
    rw [List.length_take, List.length_drop, List.length_map]
    omega
  obtain ⟨γ', e1, x, k, cell, at_, e2⟩ := forI_inv (step := fun d γ => (tgI (callI tb.fn n) (.tup [(.nm 3), (.nm 4)]) (.dat d) γ).bind fun γ' => exB (callI tb.fn n) [.set (.nm 5) (.bin .mod (.b1 .int (.slot 3)) (.slot 1)), .set (.sub (.slot 2) (.slot 5)) (.bin .add (.idx (.slot 2) (.slot 5)) (.bin .mul (.slot 4) (.bin .add (.slot 3) (.cst (.int 2)))))] γ')
    (I := fun _ γ => ∃ x k cell at_, γ = [.dat (.scr (ns.map .int)), .dat (.int 1), .own (.l [.int x]), k, cell, at_] ∧ canSet γ 3 = true ∧ canSet γ 4 = true ∧ canSet γ 5 = true) (ds := enumD (VY.cutD (ns.map D.int) (some 1) (some 63))) (k := 0) (γ := [.dat (.scr (ns.map .int)), .dat (.int 1), .own (.l [.int c0]), .un, .un, .un]) ⟨c0, _, _, _, rfl, rfl, rfl, rfl⟩ (fun i d γ hd hI => by
      obtain ⟨x, k, cell, at_, rfl, c3, c4, c5⟩ := hI
      have hi : i < (VY.cutD (ns.map D.int) (some 1) (some 63)).length := by
        have := (List.getElem?_eq_some_iff.mp hd).1
        rwa [enumD_len] at this
      obtain ⟨m, hm⟩ := hcut _ (List.getElem_mem hi)
      rw [enumD_get (List.getElem?_eq_getElem hi), hm] at hd
      cases hd
      refine ⟨[.dat (.scr (ns.map .int)), .dat (.int 1), .own (.l [.int (x + m * ((i : Nat) + 2))]), .dat (.int (i : Nat)), .dat (.int m), .dat (.int 0)], turn_ok (γ1 := [.dat (.scr (ns.map .int)), .dat (.int 1), .own (.l [.int x]), .dat (.int (i : Nat)), .dat (.int m), at_]) ?_ ?_, ⟨_, _, _, _, rfl, rfl, rfl, rfl⟩⟩
      · cases k <;> cases cell <;> first | rfl | exact Bool.noConfusion (show false = true from c3) | exact Bool.noConfusion (show false = true from c4)
      · refine exB_nx (γ1 := [.dat (.scr (ns.map .int)), .dat (.int 1), .own (.l [.int x]), .dat (.int (i : Nat)), .dat (.int m), .dat (.int 0)]) (exS_set (ev_mod (ev_int (i := (i : Nat)) rfl) (j := 1) rfl (by decide)) ?_) ?_
        · rw [Int.emod_one]
          cases at_ <;> first | rfl | exact Bool.noConfusion (show false = true from c5)
        · exact exB_nx (exS_set (ev_add (i := x) rfl (ev_mulR (i := m) rfl (ev_add (i := (i : Nat)) (j := 2) rfl rfl) (by omega) (by omega))) rfl) rfl)
  refine ⟨x, (callI_eq (tb := tb.fn) (f := 14) (fd := fd_law_cells) (fl := .rt (.loc 2) γ') rfl rfl (exB_nx (exS_set h0 rfl) (exB_nx (exS_for (ds := enumD (VY.cutD (ns.map D.int) (some 1) (some 63))) rfl e1) (exB_rt (exS_ret ?_))))).trans ?_⟩
  · rw [e2.1]; rfl
  · rw [e2.1]; rfl
theorem of_ok {n : Nat} (a b c : Int) {gs : List D} (hg : gs ≠ []) (hg2 : gs.length < 1000000) (hc : 0 ≤ c) (hc2 : c ≤ 1000000) :
    ∃ d a' c', callI tb.fn (n + 2) 15 [.io (tinT a b c), .dat (.lst gs)] = some (.dat d, [tinT a' b c']) ∧ d ∈ gs ∧ 0 ≤ c' ∧ c' ≤ c + 1 := by
  have hp : 0 < gs.length := List.length_pos_iff.mpr hg
  obtain ⟨k, a', c', e, k0, k1, c0, c1⟩ := take_ok (n := n) a b c (m := (gs.length : Nat)) (by omega) (by omega) hc hc2
  have hk : k.toNat < gs.length := by omega
  refine ⟨gs[k.toNat], a', c', (callI_eq (tb := tb.fn) (f := 15) (fd := fd_law_of) (fl := .rt (.dat gs[k.toNat]) [.io (tinT a' b c'), .dat (.lst gs)]) rfl rfl (exB_rt (exS_ret (ev_idx (x := .dat (.lst gs)) rfl (ev_call (γ1 := [.io (tinT a b c), .dat (.lst gs)]) (vs := [.loc 0, .dat (.int (gs.length : Nat))]) rfl rfl rfl e rfl) (idx_sq rfl rfl k0 (List.getElem?_eq_getElem hk)))))).trans rfl, List.getElem_mem hk, c0, c1⟩
theorem pick_ok {n : Nat} (a b c : Int) (gs : List D) {g : D} (hgd : g = .lst gs ∨ g = .tup gs) (q : Int) (q0 : 0 ≤ q) (hg : gs.length < 1000) (hc : 0 ≤ c) (hc2 : c ≤ 900000) :
    ∃ ps rest a' c', callI tb.fn (n + 2) 16 [.io (tinT a b c), .dat g, .dat (.int q)] = some (.new (.l ps), [tinT a' b c']) ∧ (rest ++ ps).Perm gs ∧ (ps.length : Int) = min q gs.length ∧ 0 ≤ c' ∧ c' ≤ c + 1000 := by
  obtain ⟨m, hm⟩ : ∃ m : Nat, (m : Int) = min q gs.length := ⟨(min q gs.length).toNat, by omega⟩
  have hr : (rangeD 0 m).length = m := rangeD_len
  obtain ⟨γ', e1, a', c', pool, found, lap, e2, hp, hfl, h0, h1, _⟩ := forI_inv (step := fun d γ => (tgI (callI tb.fn (n + 1)) (.nm 5) (.dat d) γ).bind fun γ' => exB (callI tb.fn (n + 1)) [.ex (.app (.slot 4) (.pop (.slot 3) (.call 13 [(.slot 0), (.b1 .len (.slot 3))])))] γ')
    (I := fun i γ => ∃ a c' pool found lap, γ = [.io (tinT a b c'), .dat g, .dat (.int q), .own (.l pool), .own (.l found), lap] ∧ (pool ++ found).Perm gs ∧ found.length = i ∧ 0 ≤ c' ∧ c' ≤ c + i ∧ canSet γ 5 = true) (ds := rangeD 0 m) (k := 0) (γ := [.io (tinT a b c), .dat g, .dat (.int q), .own (.l gs), .own (.l []), .un])
    ⟨a, c, gs, [], .un, rfl, by rw [List.append_nil], rfl, hc, by omega, rfl⟩ (fun i d γ hd hI => by
      obtain ⟨a, c1, pool, found, lap, rfl, hp, hfl, h0, h1, c5⟩ := hI
      have hi : i < m := by
        have := (List.getElem?_eq_some_iff.mp hd).1
        rwa [hr] at this
      have hlen : pool.length + found.length = gs.length := by rw [← List.length_append]; exact hp.length_eq
      obtain ⟨k, a', c', e, k0, k1, c0, c2⟩ := take_ok (n := n) a b c1 (m := (pool.length : Nat)) (by omega) (by omega) h0 (by omega)
      have hk : k.toNat < pool.length := by omega
      refine ⟨[.io (tinT a' b c'), .dat g, .dat (.int q), .own (.l (pool.eraseIdx k.toNat)), .own (.l (found ++ [pool[k.toNat]])), .dat d], turn_ok (γ1 := [.io (tinT a b c1), .dat g, .dat (.int q), .own (.l pool), .own (.l found), .dat d]) ?_ ?_, ⟨a', c', _, _, _, rfl, ?_, by rw [List.length_append, hfl]; rfl, c0, by omega, rfl⟩⟩
      · cases lap <;> first | rfl | exact Bool.noConfusion (show false = true from c5)
      · exact exB_nx (exS_ex (ev_app (x := .loc 4) (us := found) rfl rfl (ev_pop (x := .loc 3) (us := pool) rfl rfl (ev_call (γ1 := [.io (tinT a b c1), .dat g, .dat (.int q), .own (.l pool), .own (.l found), .dat d]) (vs := [.loc 0, .dat (.int (pool.length : Nat))]) rfl rfl rfl e rfl) (ds := pool) rfl (by omega) k0 (by omega) (List.getElem?_eq_getElem hk) rfl) rfl (ds := found) rfl (by omega) rfl)) rfl
      · refine List.Perm.trans ?_ hp
        rw [← List.append_assoc]
        refine (List.perm_append_comm).trans ?_
        show (pool[k.toNat] :: (pool.eraseIdx k.toNat ++ found)).Perm _
        rw [← List.cons_append]
        exact List.Perm.append_right _ (er_perm hk))
  have hfl' : found.length = m := by rw [hfl, hr, Nat.zero_add]
  subst e2
  refine ⟨found, pool, a', c', (callI_eq (tb := tb.fn) (f := 16) (fd := fd_law_pick) (fl := .rt (.loc 4) [.io (tinT a' b c'), .dat g, .dat (.int q), .own (.l pool), .own (.l found), lap]) rfl rfl (exB_nx (γ1 := [.io (tinT a b c), .dat g, .dat (.int q), .own (.l gs), .own (.l []), .un]) (by rcases hgd with rfl | rfl <;> rfl) (exB_nx (exS_for (ds := rangeD 0 m) ?_ e1) (exB_rt (exS_ret rfl))))).trans rfl, hp, by rw [hfl']; exact hm, h0, by rw [hr] at h1; omega⟩
  have e : (if ((gs.length : Nat) : Int) < q then ((gs.length : Nat) : Int) else q) = (m : Int) := by split <;> omega
  show gd (decide (-1000000 ≤ (if ((gs.length : Nat) : Int) < q then ((gs.length : Nat) : Int) else q)) && decide ((if ((gs.length : Nat) : Int) < q then ((gs.length : Nat) : Int) else q) ≤ 1000000)) (some (rangeD 0 (if ((gs.length : Nat) : Int) < q then ((gs.length : Nat) : Int) else q).toNat, _)) = _
  rw [e, gd_t (by rw [decide_eq_true (show (-1000000 : Int) ≤ (m : Int) by omega), decide_eq_true (show (m : Int) ≤ 1000000 by omega)]; rfl), Int.toNat_natCast]
end V86

/-! k86: the halls. -/
namespace V86
open PySem PySem.Spec PyProof.Rows L2 VY RI
inductive Bit where
  | st (r : Int) (ks : List Int) | dr (r : Int)
def sSet : D := .str ⟨#[115, 101, 116]⟩
def sDraw : D := .str ⟨#[100, 114, 97, 119]⟩
def partD (k : Int) : D := .tup [.int k, .int 1]
def bitD : Bit → D
  | .st r ks => .tup [sSet, .int r, .tup (ks.map partD)]
  | .dr r => .tup [sDraw, .int r]
def six : List (List Int) := [[0], [1], [2], [0, 1], [0, 2], [1, 2]]
def BOk : Bit → Prop
  | .st r ks => (r = 0 ∨ r = 1 ∨ r = 2) ∧ ks ∈ six
  | .dr r => r = 0 ∨ r = 1 ∨ r = 2
theorem picks_ok {ps rest : List D} (hp : (rest ++ ps).Perm [.int 0, .int 1, .int 2]) (hl : ps.length = 1 ∨ ps.length = 2) : ∃ ks ∈ six, sortdI ps = some (.new (.l (ks.map .int))) := by
  have hm : ∀ d ∈ ps, d = .int 0 ∨ d = .int 1 ∨ d = .int 2 := fun d hd => by
    have := hp.mem_iff.mp (List.mem_append_right _ hd)
    simpa using this
  have nd : (rest ++ ps).Nodup := hp.nodup_iff.mpr (by simp)
  match ps, hl, hm, nd with
  | [x], _, hm, _ =>
    rcases hm x List.mem_cons_self with rfl | rfl | rfl
    · exact ⟨[0], by simp [six], rfl⟩
    · exact ⟨[1], by simp [six], rfl⟩
    · exact ⟨[2], by simp [six], rfl⟩
  | [x, y], _, hm, nd =>
    have hne : x ≠ y := fun e => by
      have := (List.nodup_append.mp nd).2.1
      simp [e] at this
    rcases hm x List.mem_cons_self with rfl | rfl | rfl <;> rcases hm y (List.mem_cons_of_mem _ List.mem_cons_self) with rfl | rfl | rfl
    · exact absurd rfl hne
    · exact ⟨[0, 1], by simp [six], rfl⟩
    · exact ⟨[0, 2], by simp [six], rfl⟩
    · exact ⟨[0, 1], by simp [six], rfl⟩
    · exact absurd rfl hne
    · exact ⟨[1, 2], by simp [six], rfl⟩
    · exact ⟨[0, 2], by simp [six], rfl⟩
    · exact ⟨[1, 2], by simp [six], rfl⟩
    · exact absurd rfl hne
  | [], hl, _, _ => simp at hl
  | _ :: _ :: _ :: _, hl, _, _ => simp at hl
theorem short_ok {n : Nat} (a b c : Int) (hc : 0 ≤ c) (hc2 : c ≤ 100000) :
    ∃ r ks a' c', callI tb.fn (n + 3) 40 [.io (tinT a b c), .dat (.int 2)] = some (.dat (bitD (.st r ks)), [tinT a' b c']) ∧ BOk (.st r ks) ∧ 0 ≤ c' ∧ c' ≤ c + 2000 := by
  obtain ⟨k1, a1, c1, e1, k10, k11, c10, c11⟩ := take_ok (n := n + 1) a b c (m := 2) (by decide) (by decide) hc (by omega)
  obtain ⟨ps, rest, a2, c2, e2, hp, hl, c20, c21⟩ := pick_ok (n := n) a1 b c1 [.int 0, .int 1, .int 2] (.inl rfl) (1 + k1) (by omega) (by simp) c10 (by omega)
  have hl' : ps.length = 1 ∨ ps.length = 2 := by simp only [List.length_cons, List.length_nil] at hl; omega
  obtain ⟨ks, hk, e3⟩ := picks_ok hp hl'
  have hk3 : ks.length ≤ 2 := by simp [six] at hk; rcases hk with rfl | rfl | rfl | rfl | rfl | rfl <;> simp
  obtain ⟨d, a3, c3, e4, hd, c30, c31⟩ := of_ok (n := n) a2 b c2 (gs := [.int 2, .int 2, .int 0, .int 1]) nofun (by simp) c20 (by omega)
  have hr : ∃ r : Int, d = .int r ∧ (r = 0 ∨ r = 1 ∨ r = 2) := by
    simp at hd
    rcases hd with rfl | rfl | rfl
    · exact ⟨2, rfl, .inr (.inr rfl)⟩
    · exact ⟨0, rfl, .inl rfl⟩
    · exact ⟨1, rfl, .inr (.inl rfl)⟩
  obtain ⟨r, rfl, hr⟩ := hr
  obtain ⟨acc, γ', e5, a4, c4, rfl, rfl, c40, c41⟩ := lcI_inv (vs := [3]) (js := [3]) (pt := (Shp.one 3).parts) (fc := fun γ => some (true, γ)) (fe := ev (callI tb.fn (n + 2)) (.tup [(.slot 3), (.bin .add (.cst (.int 1)) (.call 13 [(.slot 0), (.bin .sub (.slot 1) (.cst (.int 1)))]))]))
    (I := fun i acc γ => ∃ a' c', γ = [.io (tinT a' b c'), .dat (.int 2), .dat (.lst (ks.map .int)), .un] ∧ acc = (ks.take i).map partD ∧ 0 ≤ c' ∧ c' ≤ c3 + i) (ds := ks.map .int) (k := 0) (acc := []) (γ := [.io (tinT a3 b c3), .dat (.int 2), .dat (.lst (ks.map .int)), .un])
    ⟨a3, c3, rfl, rfl, c30, by omega⟩ (fun i d acc γ hd ⟨a', c', hγ, hacc, h0, h1⟩ => by
      subst hγ hacc
      rw [List.getElem?_map] at hd
      obtain ⟨q, hq, rfl⟩ := Option.map_eq_some_iff.mp hd
      have hi : i < ks.length := (List.getElem?_eq_some_iff.mp hq).1
      obtain ⟨k, a5, c5, e, k0, k1, c50, c51⟩ := take_ok (n := n + 1) a' b c' (m := 1) (by decide) (by decide) h0 (by omega)
      obtain rfl : k = 0 := by omega
      refine ⟨rfl, [.int q], [.io (tinT a' b c'), .dat (.int 2), .dat (.lst (ks.map .int)), .dat (.int q)], (.dat (partD q), [.io (tinT a5 b c5), .dat (.int 2), .dat (.lst (ks.map .int)), .dat (.int q)]), partD q, rfl, rfl, ?_, rfl, a5, c5, rfl, ?_, c50, by omega⟩
      · exact ev_tup (evs_cons rfl (x := .dat (.int q)) rfl (evs_cons rfl (x := .dat (.int 1)) (ev_add (i := 1) (j := 0) rfl (ev_call (γ1 := [.io (tinT a' b c'), .dat (.int 2), .dat (.lst (ks.map .int)), .dat (.int q)]) (vs := [.loc 0, .dat (.int 1)]) rfl rfl rfl e rfl)) rfl)) rfl (show 2 ≤ 1000000 by decide)
      · rw [show (0 + i + 1) = i + 1 by omega, show 0 + i = i by omega, List.take_add_one, hq, List.map_append]
        rfl)
  rw [Nat.zero_add, List.length_map, List.take_length] at e5
  rw [List.length_map] at c41
  refine ⟨r, ks, a4, c4, (callI_eq (tb := tb.fn) (f := 40) (fd := fd_law_short_bit) (fl := .rt (.dat (bitD (.st r ks))) [.io (tinT a4 b c4), .dat (.int 2), .dat (.lst (ks.map .int)), .un]) rfl rfl ?_).trans rfl, ⟨hr, hk⟩, c40, by omega⟩
  refine exB_nx (γ1 := [.io (tinT a2 b c2), .dat (.int 2), .own (.l (ks.map .int)), .un]) (exS_set (x := .new (.l (ks.map .int))) (γ1 := [.io (tinT a2 b c2), .dat (.int 2), .un, .un]) (ev_b1 (x := .new (.l ps)) (ev_call (γ1 := [.io (tinT a1 b c1), .dat (.int 2), .un, .un]) (vs := [.loc 0, .dat (.lst [.int 0, .int 1, .int 2]), .dat (.int (1 + k1))])
    (evs_cons rfl (x := .loc 0) rfl (evs_cons rfl (x := .new (.l [.int 0, .int 1, .int 2])) rfl (evs_cons rfl (x := .dat (.int (1 + k1))) (ev_add rfl (ev_call (γ1 := [.io (tinT a b c), .dat (.int 2), .un, .un]) (vs := [.loc 0, .dat (.int 2)]) rfl rfl rfl e1 rfl)) rfl))) rfl rfl e2 rfl) e3) rfl) ?_
  refine exB_nx (γ1 := [.io (tinT a2 b c2), .dat (.int 2), .dat (.lst (ks.map .int)), .un]) rfl ?_
  refine exB_rt (exS_ret (ev_tup (ds := [sSet, .int r, .tup (ks.map partD)]) (evs_cons rfl (x := .dat sSet) rfl (evs_cons rfl (x := .dat (.int r)) (ev_call (γ1 := [.io (tinT a2 b c2), .dat (.int 2), .dat (.lst (ks.map .int)), .un]) (vs := [.loc 0, .dat (.lst [.int 2, .int 2, .int 0, .int 1])]) rfl rfl rfl e4 rfl) (evs_cons rfl (x := .dat (.tup (ks.map partD))) (ev_b1 (x := .new (.l (ks.map partD))) (ev_lc (ds := ks.map .int) rfl (by rw [List.length_map]; omega) e5) rfl) rfl))) rfl (show 3 ≤ 1000000 by decide)))
end V86

/-! k86: the halls drawn. -/
namespace V86
open PySem PySem.Spec PyProof.Rows L2 VY RI
def mkD (w : List Nat) (k : Int) : D := .tup [.str ⟨w.toArray⟩, .int k]
def wPut : List Nat := [112, 117, 116]
def wTurn : List Nat := [116, 117, 114, 110]
def wRead : List Nat := [114, 101, 97, 100]
def sorts4 : List D := [.pt [mkD wPut 1], .pt [mkD wPut 1, mkD wTurn 1], .pt [mkD wTurn 1], .pt [mkD wPut 2, mkD wRead 1, mkD wTurn 1]]
def hallD (s : D) (bs : List Bit) : D := .tup [.tup [.int 2, .tup [.non, .non, .non, .non], s], .tup [.tup [.int 0, .int 1]], .tup [.tup (bs.map bitD)]]
def isDr : Bit → Bool
  | .st _ _ => false
  | .dr _ => true
structure BsOk (bs : List Bit) : Prop where
  lo : 1 ≤ bs.length
  hi : bs.length ≤ 3
  ok : ∀ b ∈ bs, BOk b
  dr : bs.countP isDr ≤ 1
  st : bs.countP (fun b => !isDr b) ≤ 2
theorem perm_inv {ps qs : List D} (h : ps.Perm qs) : ∀ {bs : List Bit}, qs = bs.map bitD → ∃ bs' : List Bit, ps = bs'.map bitD ∧ bs'.Perm bs := by
  induction h with
  | nil => intro bs e; cases bs with
    | nil => exact ⟨[], rfl, List.Perm.refl _⟩
    | cons _ _ => cases e
  | cons x _ ih => intro bs e; cases bs with
    | nil => cases e
    | cons b bs =>
      cases e
      obtain ⟨bs', e1, e2⟩ := ih rfl
      exact ⟨b :: bs', by rw [e1]; rfl, e2.cons b⟩
  | swap x y l => intro bs e; match bs, e with
    | [], e => cases e
    | [_], e => cases e
    | b :: b2 :: bs, e =>
      cases e
      exact ⟨b2 :: b :: bs, rfl, List.Perm.swap _ _ _⟩
  | trans _ _ ih1 ih2 =>
    intro bs e
    obtain ⟨b1, e1, p1⟩ := ih2 e
    obtain ⟨b2, e2, p2⟩ := ih1 e1
    exact ⟨b2, e2, p2.trans p1⟩
theorem BsOk.perm {bs bs' : List Bit} (h : BsOk bs) (p : bs'.Perm bs) : BsOk bs' := ⟨by rw [p.length_eq]; exact h.lo, by rw [p.length_eq]; exact h.hi, fun b hb => h.ok b (p.mem_iff.mp hb), by rw [p.countP_eq]; exact h.dr, by rw [p.countP_eq]; exact h.st⟩
theorem h2_of {sb : List Bit} (h : ∀ b ∈ sb, isDr b = false) {q : Bit} (hq : q ∈ sb) : isDr q = false := h q hq
theorem wide_ok {n : Nat} (a b c : Int) {m : Int} (hm : m = 1 ∨ m = 2) (hc : 0 ≤ c) (hc2 : c ≤ 10000) :
    ∃ (s : D) (bs : List Bit) (a' c' : Int), callI tb.fn (n + 4) 42 [.io (tinT a b c), .dat (.int m)] = some (.dat (hallD s bs), [tinT a' b c']) ∧ s ∈ sorts4 ∧ BsOk bs ∧ 0 ≤ c' ∧ c' ≤ c + 10000 := by
  have hr : (rangeD 0 m.toNat).length = m.toNat := rangeD_len
  obtain ⟨acc, γ', e1, a1, c1, sb, rfl, rfl, hsl, hsb, hsn, c10, c11⟩ := lcI_inv (vs := [4]) (js := [4]) (pt := (Shp.one 4).parts) (fc := fun γ => some (true, γ)) (fe := ev (callI tb.fn (n + 3)) (.call 40 [(.slot 0), (.cst (.int 2))]))
    (I := fun i acc γ => ∃ (a' c' : Int) (sb : List Bit), γ = [.io (tinT a' b c'), .dat (.int m), .un, .un, .un] ∧ acc = sb.map bitD ∧ sb.length = i ∧ (∀ b ∈ sb, BOk b) ∧ (∀ b ∈ sb, isDr b = false) ∧ 0 ≤ c' ∧ c' ≤ c + 2000 * i) (ds := rangeD 0 m.toNat) (k := 0) (acc := []) (γ := [.io (tinT a b c), .dat (.int m), .un, .un, .un])
    ⟨a, c, [], rfl, rfl, rfl, nofun, nofun, hc, by omega⟩ (fun i d acc γ hd ⟨a', c', sb, hγ, hacc, hl, h1, h2, h3, h4⟩ => by
      subst hγ hacc
      have hi : i < m.toNat := by
        have := (List.getElem?_eq_some_iff.mp hd).1
        rwa [hr] at this
      obtain ⟨r, ks, a5, c5, e, hb, c50, c51⟩ := short_ok (n := n) a' b c' h3 (by omega)
      refine ⟨rfl, [d], [.io (tinT a' b c'), .dat (.int m), .un, .un, .dat d], (.dat (bitD (.st r ks)), [.io (tinT a5 b c5), .dat (.int m), .un, .un, .dat d]), bitD (.st r ks), rfl, rfl, ?_, rfl, a5, c5, sb ++ [.st r ks], rfl, by rw [List.map_append]; rfl, by rw [List.length_append, hl]; rfl, fun q hq => ?_, fun q hq => ?_, c50, by omega⟩
      · exact ev_call (γ1 := [.io (tinT a' b c'), .dat (.int m), .un, .un, .dat d]) (vs := [.loc 0, .dat (.int 2)]) rfl rfl rfl e rfl
      · rcases List.mem_append.mp hq with hq | hq
        · exact h1 q hq
        · rw [List.mem_singleton.mp hq]; exact hb
      · rcases List.mem_append.mp hq with hq | hq
        · exact h2 q hq
        · rw [List.mem_singleton.mp hq]; rfl)
  rw [hr, Nat.zero_add] at hsl
  rw [hr] at c11
  obtain ⟨k, a2, c2, e2, k0, k1, c20, c21⟩ := take_ok (n := n + 2) a1 b c1 (m := 2) (by decide) (by decide) c10 (by omega)

  have step : ∃ (bs : List Bit) (a3 c3 : Int), exS (callI tb.fn (n + 3)) (.ite (.cmp .eq (.call 13 [(.slot 0), (.cst (.int 2))]) (.cst (.int 0))) [.set (.nm 2) (.bin .add (.slot 2) (.lst [(.tup [(.cst (.str ⟨#[100, 114, 97, 119]⟩)), (.call 13 [(.slot 0), (.cst (.int 3))])])]))] []) [.io (tinT a1 b c1), .dat (.int m), .own (.l (sb.map bitD)), .un, .un] = some (.nx [.io (tinT a3 b c3), .dat (.int m), .own (.l (bs.map bitD)), .un, .un]) ∧ BsOk bs ∧ 0 ≤ c3 ∧ c3 ≤ c1 + 2 := by
    have cnt : sb.countP isDr = 0 := List.countP_eq_zero.mpr fun q hq => by rw [h2_of hsn hq]; exact Bool.false_ne_true
    have cnt2 : sb.countP (fun b => !isDr b) ≤ sb.length := List.countP_le_length
    have ev1 := ev_eqI (cal := callI tb.fn (n + 3)) (i := k) (j := 0) (ev_call (f := 13) (es := [(.slot 0), (.cst (.int 2))]) (γ := [.io (tinT a1 b c1), .dat (.int m), .own (.l (sb.map bitD)), .un, .un]) (γ1 := [.io (tinT a1 b c1), .dat (.int m), .own (.l (sb.map bitD)), .un, .un]) (vs := [.loc 0, .dat (.int 2)]) rfl rfl rfl e2 rfl) (b := .cst (.int 0)) rfl
    by_cases hk : k = 0
    · obtain ⟨k', a3, c3, e3, k0', k1', c30, c31⟩ := take_ok (n := n + 2) a2 b c2 (m := 3) (by decide) (by decide) c20 (by omega)
      refine ⟨sb ++ [.dr k'], a3, c3, ?_, ⟨by simp, by simp; omega, fun q hq => ?_, by rw [List.countP_append, cnt]; simp [isDr], by rw [List.countP_append, show ([Bit.dr k'].countP fun b => !isDr b) = 0 from rfl]; omega⟩, c30, by omega⟩
      · refine exS_ite (k := true) (by rw [ev1, decide_eq_true hk]) (fun _ => ?_) nofun
        refine exB_nx (exS_set (x := .new (.l ((sb ++ [Bit.dr k']).map bitD))) (γ1 := [.io (tinT a3 b c3), .dat (.int m), .own (.l (sb.map bitD)), .un, .un]) ?_ rfl) rfl
        refine ev_bin (x := .loc 2) (y := .new (.l [bitD (.dr k')])) (γ1 := [.io (tinT a2 b c2), .dat (.int m), .own (.l (sb.map bitD)), .un, .un]) rfl (ev_lst (ds := [bitD (.dr k')]) (vs := [.dat (bitD (.dr k'))]) (evs_cons rfl (x := .dat (bitD (.dr k'))) (ev_tup (ds := [sDraw, .int k']) (evs_cons rfl (x := .dat sDraw) rfl (evs_cons rfl (x := .dat (.int k')) (ev_call (γ1 := [.io (tinT a2 b c2), .dat (.int m), .own (.l (sb.map bitD)), .un, .un]) (vs := [.loc 0, .dat (.int 3)]) rfl rfl rfl e3 rfl) rfl)) rfl (show 2 ≤ 1000000 by decide)) rfl) rfl (show 1 ≤ 1000000 by decide)) ?_
        rw [List.map_append]
        exact gd_t (decide_eq_true (by rw [List.length_map]; simp; omega))
      · rcases List.mem_append.mp hq with hq | hq
        · exact hsb q hq
        · rw [List.mem_singleton.mp hq]
          show k' = 0 ∨ k' = 1 ∨ k' = 2
          omega
    · exact ⟨sb, a2, c2, exS_ite (k := false) (by rw [ev1, decide_eq_false hk]; rfl) nofun (fun _ => rfl), ⟨by omega, by omega, hsb, by omega, by omega⟩, c20, by omega⟩
  obtain ⟨bs, a3, c3, e3, hbs, c30, c31⟩ := step
  obtain ⟨s, a4, c4, e4, hs, c40, c41⟩ := of_ok (n := n + 1) a3 b c3 (gs := sorts4) nofun (by simp [sorts4]) c30 (by omega)
  have hb3 := hbs.hi
  obtain ⟨ps, rest, a5, c5, e5, hp, hpl, c50, c51⟩ := pick_ok (n := n + 1) a4 b c4 (bs.map bitD) (.inl rfl) 9 (by omega) (by rw [List.length_map]; omega) c40 (by omega)
  have hrest : rest = [] := by
    have h1 := hp.length_eq
    rw [List.length_append, List.length_map] at h1
    rw [List.length_map] at hpl
    exact List.length_eq_zero_iff.mp (by omega)
  subst hrest
  obtain ⟨bs', rfl, hp'⟩ := perm_inv hp rfl
  refine ⟨s, bs', a5, c5, (callI_eq (tb := tb.fn) (f := 42) (fd := fd_law_wide_hall) (fl := .rt (.dat (hallD s bs')) [.io (tinT a5 b c5), .dat (.int m), .dat (.lst (bs.map bitD)), .dat s, .un]) rfl rfl ?_).trans rfl, hs, hbs.perm hp', c50, by omega⟩
  refine exB_nx (γ1 := [.io (tinT a1 b c1), .dat (.int m), .own (.l (sb.map bitD)), .un, .un]) (exS_set (x := .new (.l (sb.map bitD))) (γ1 := [.io (tinT a1 b c1), .dat (.int m), .un, .un, .un]) (ev_lc (ds := rangeD 0 m.toNat) (by rcases hm with rfl | rfl <;> rfl) (by rw [hr]; omega) e1) rfl) ?_
  refine exB_nx e3 ?_
  refine exB_nx (γ1 := [.io (tinT a4 b c4), .dat (.int m), .own (.l (bs.map bitD)), .dat s, .un]) (exS_set (x := .dat s) (ev_call (γ1 := [.io (tinT a3 b c3), .dat (.int m), .own (.l (bs.map bitD)), .un, .un]) (vs := [.loc 0, .dat (.lst sorts4)]) rfl rfl rfl e4 rfl) rfl) ?_
  refine exB_nx (γ1 := [.io (tinT a4 b c4), .dat (.int m), .dat (.lst (bs.map bitD)), .dat s, .un]) rfl ?_
  refine exB_rt (exS_ret (ev_tup (ds := [.tup [.int 2, .tup [.non, .non, .non, .non], s], .tup [.tup [.int 0, .int 1]], .tup [.tup (bs'.map bitD)]]) (evs_cons rfl (x := .dat (.tup [.int 2, .tup [.non, .non, .non, .non], s])) rfl (evs_cons rfl (x := .dat (.tup [.tup [.int 0, .int 1]])) rfl (evs_cons rfl (x := .dat (.tup [.tup (bs'.map bitD)])) ?_ rfl))) rfl (show 3 ≤ 1000000 by decide)))
  exact ev_tup (ds := [.tup (bs'.map bitD)]) (evs_cons rfl (x := .dat (.tup (bs'.map bitD))) (ev_b1 (x := .new (.l (bs'.map bitD))) (ev_call (γ1 := [.io (tinT a4 b c4), .dat (.int m), .dat (.lst (bs.map bitD)), .dat s, .un]) (vs := [.loc 0, .dat (.lst (bs.map bitD)), .dat (.int 9)]) rfl rfl rfl e5 rfl) rfl) rfl) rfl (show 1 ≤ 1000000 by decide)
end V86

/-! k86: the gaps, the trails. -/
namespace V86
open PySem PySem.Spec PyProof.Rows L2 VY RI
def gapD (k : Nat) : D := .tup [.int 0, .int (k : Nat)]
def gapsD (L : Nat) : List D := (List.range (L + 1)).map gapD
theorem gaps_ok {n : Nat} (s : D) {bs : List Bit} (h : BsOk bs) : callI tb.fn (n + 2) 38 [.dat (hallD s bs)] = some (.dat (.tup (gapsD bs.length)), []) := by
  match bs, h.lo, h.hi with
  | [b], _, _ => cases b <;> kernel_rfl
  | [b, c], _, _ => cases b <;> cases c <;> kernel_rfl
  | [b, c, d], _, _ => cases b <;> cases c <;> cases d <;> kernel_rfl
/-- one gap or two, rising -/
def TsOk (L : Nat) (ts : List Nat) : Prop := (∃ k, ts = [k] ∧ k ≤ L) ∨ ∃ j k, ts = [j, k] ∧ j < k ∧ k ≤ L
theorem gap_inj {j k : Nat} (h : gapD j = gapD k) : j = k := by
  unfold gapD at h
  injection h with h
  injection h with _ h
  injection h with h _
  injection h with h
  omega
theorem trail_ok {L : Nat} {ps rest : List D} (hp : (rest ++ ps).Perm (gapsD L)) (hl : ps.length = 1 ∨ ps.length = 2) : ∃ ts, TsOk L ts ∧ sortdI ps = some (.new (.l (ts.map gapD))) := by
  have hm : ∀ d ∈ ps, ∃ k, d = gapD k ∧ k ≤ L := fun d hd => by
    have := hp.mem_iff.mp (List.mem_append_right _ hd)
    obtain ⟨k, hk, e⟩ := List.mem_map.mp this
    exact ⟨k, e.symm, by have := List.mem_range.mp hk; omega⟩
  have nd : (rest ++ ps).Nodup := hp.nodup_iff.mpr (by
    refine List.Pairwise.map (R := (· ≠ ·)) gapD (fun a b h e => h (gap_inj e)) List.nodup_range)
  have rows : ∀ k : Nat, rowsI [gapD k] = some [[0, (k : Int)]] := fun k => rfl
  have rows2 : ∀ j k : Nat, rowsI [gapD j, gapD k] = some [[0, (j : Int)], [0, (k : Int)]] := fun j k => rfl
  match ps, hl, hm, nd with
  | [x], _, hm, _ =>
    obtain ⟨k, rfl, hk⟩ := hm x List.mem_cons_self
    exact ⟨[k], .inl ⟨k, rfl, hk⟩, rfl⟩
  | [x, y], _, hm, nd =>
    have hne : x ≠ y := fun e => by
      have := (List.nodup_append.mp nd).2.1
      simp [e] at this
    obtain ⟨j, rfl, hj⟩ := hm x List.mem_cons_self
    obtain ⟨k, rfl, hk⟩ := hm y (List.mem_cons_of_mem _ List.mem_cons_self)
    have e : sortdI [gapD j, gapD k] = some (.new (.l ((if SrtN.lexN [0, (k : Int)] [0, (j : Int)] = true then [[0, (k : Int)], [0, (j : Int)]] else [[0, (j : Int)], [0, (k : Int)]]).map rowD))) := rfl
    have l : SrtN.lexN [0, (k : Int)] [0, (j : Int)] = decide (k < j) := by
      show (if (0 : Int) = 0 then (if (k : Int) = j then SrtN.lexN [] [] else decide ((k : Int) < j)) else _) = _
      rw [if_pos rfl]
      have : k ≠ j := fun e => hne (by rw [e])
      rw [if_neg (by omega)]
      exact decide_eq_decide.mpr (by omega)
    rw [l] at e
    by_cases c : k < j
    · rw [decide_eq_true c] at e
      exact ⟨[k, j], .inr ⟨k, j, rfl, c, hj⟩, e⟩
    · rw [decide_eq_false c] at e
      have : k ≠ j := fun e => hne (by rw [e])
      exact ⟨[j, k], .inr ⟨j, k, rfl, by omega, hk⟩, e⟩
  | [], hl, _, _ => simp at hl
  | _ :: _ :: _ :: _, hl, _, _ => simp at hl
/-! ### parts put in -/
theorem cut_to {xs : List D} {k : Nat} (h : k ≤ xs.length) : VY.cutD xs none (some (k : Int)) = xs.take k := by
  unfold VY.cutD
  rw [HT.sIx_none, HT.sIx_nat, Nat.min_eq_left h, Nat.sub_zero]
  rfl
theorem cut_from {xs : List D} {k : Nat} (h : k ≤ xs.length) : VY.cutD xs (some (k : Int)) none = xs.drop k := by
  unfold VY.cutD
  rw [HT.sIx_none, HT.sIx_nat, Nat.min_eq_left h]
  exact List.take_of_length_le (by rw [List.length_drop]; exact Nat.le_refl _)
def putB (bs : List Bit) (k : Nat) (way : List Bit) : List Bit := bs.take k ++ way ++ bs.drop k
theorem with_ok {n : Nat} (s : D) {bs way : List Bit} {k : Nat} (hk : k ≤ bs.length) (hl : bs.length + way.length ≤ 1000) : callI tb.fn (n + 2) 36 [.dat (hallD s bs), .dat (gapD k), .dat (.tup (way.map bitD)), .dat (.int 0)] = some (.dat (hallD s (putB bs k way)), []) := by
  have hk' : k ≤ (bs.map bitD).length := by rw [List.length_map]; exact hk
  have inner : callI tb.fn (n + 1) 35 [.dat (.tup (bs.map bitD)), .dat (.tup [.int (k : Nat)]), .dat (.tup (way.map bitD)), .dat (.int 0)] = some (.dat (.tup ((putB bs k way).map bitD)), []) := by
    refine (callI_eq (tb := tb.fn) (f := 35) (fd := fd_law_bits_with) (fl := .rt (.dat (.tup ((putB bs k way).map bitD))) [.dat (.tup (bs.map bitD)), .dat (.tup [.int (k : Nat)]), .dat (.tup (way.map bitD)), .dat (.int 0), .dat (.int (k : Nat)), .un, .un, .un, .un]) rfl rfl ?_).trans rfl
    refine exB_nx (γ1 := [.dat (.tup (bs.map bitD)), .dat (.tup [.int (k : Nat)]), .dat (.tup (way.map bitD)), .dat (.int 0), .dat (.int (k : Nat)), .un, .un, .un, .un]) rfl ?_
    refine exB_rt (exS_ite (k := true) rfl (fun _ => exB_rt (exS_ret ?_)) nofun)
    refine ev_bin (x := .dat (.tup ((bs.take k ++ way).map bitD))) (y := .dat (.tup ((bs.drop k).map bitD))) (ev_bin (x := .dat (.tup ((bs.take k).map bitD))) (y := .dat (.tup (way.map bitD))) (γ1 := [.dat (.tup (bs.map bitD)), .dat (.tup [.int (k : Nat)]), .dat (.tup (way.map bitD)), .dat (.int 0), .dat (.int (k : Nat)), .un, .un, .un, .un]) ?_ rfl ?_) ?_ ?_
    · show some (Dv.dat (.tup (VY.cutD (bs.map bitD) none (some (k : Int)))), _) = _
      rw [cut_to hk', List.map_take]
    · rw [List.map_append]
      exact gd_t (decide_eq_true (by rw [List.length_map, List.length_map, List.length_take]; omega))
    · show some (Dv.dat (.tup (VY.cutD (bs.map bitD) (some ((k : Int) + 0)) none)), _) = _
      rw [Int.add_zero, cut_from hk', List.map_drop]
    · show gd _ _ = _
      unfold putB
      rw [List.map_append (l₁ := bs.take k ++ way)]
      exact gd_t (decide_eq_true (by rw [List.length_map, List.length_map, List.length_append, List.length_take, List.length_drop]; omega))
  refine (callI_eq (tb := tb.fn) (f := 36) (fd := fd_law_with) (fl := .rt (.dat (hallD s (putB bs k way))) [.dat (hallD s bs), .dat (gapD k), .dat (.tup (way.map bitD)), .dat (.int 0), .dat (.tup [.tup (bs.map bitD)]), .dat (.int 0), .dat (.tup ((putB bs k way).map bitD))]) rfl rfl ?_).trans rfl
  refine exB_nx (γ1 := [.dat (hallD s bs), .dat (gapD k), .dat (.tup (way.map bitD)), .dat (.int 0), .dat (.tup [.tup (bs.map bitD)]), .dat (.int 0), .un]) rfl ?_
  refine exB_nx (γ1 := [.dat (hallD s bs), .dat (gapD k), .dat (.tup (way.map bitD)), .dat (.int 0), .dat (.tup [.tup (bs.map bitD)]), .dat (.int 0), .dat (.tup ((putB bs k way).map bitD))]) (exS_set (x := .dat (.tup ((putB bs k way).map bitD))) (ev_call (vs := [.dat (.tup (bs.map bitD)), .dat (.tup [.int (k : Nat)]), .dat (.tup (way.map bitD)), .dat (.int 0)]) rfl rfl rfl inner rfl) rfl) ?_
  exact exB_rt (exS_ret rfl)
end V86

/-! k86: tupled, same. -/
namespace V86
open PySem PySem.Spec PyProof.Rows L2 VY RI
def flatN : Nat → D → D
  | m + 1, .tup ts => .tup (ts.map (flatN m))
  | m + 1, .pt ts => .tup (ts.map (flatN m))
  | _, d => d
def Dep : Nat → D → Prop
  | m + 1, .tup ts => ts.length < 1000000 ∧ ∀ t ∈ ts, Dep m t
  | m + 1, .pt ts => ts.length < 1000000 ∧ ∀ t ∈ ts, Dep m t
  | _, .non => True
  | _, .int _ => True
  | _, .str _ => True
  | _, _ => False
theorem tupled_row {m : Nat} (ih : ∀ d, Dep m d → callI tb.fn (m + 1) 0 [.dat d] = some (.dat (flatN m d), [])) {ts : List D} (hl : ts.length < 1000000) (ht : ∀ t ∈ ts, Dep m t) {x : D} (hx : x = .tup ts ∨ x = .pt ts) :
    callI tb.fn (m + 2) 0 [.dat x] = some (.dat (.tup (ts.map (flatN m))), []) := by
  refine (callI_eq (tb := tb.fn) (f := 0) (fd := fd_tupled) (fl := .rt (.dat (.tup (ts.map (flatN m)))) [.dat x, .un]) rfl rfl ?_).trans rfl
  refine exB_rt (exS_ret (ev_ite (k := true) (γ1 := [.dat x, .un]) (by rcases hx with rfl | rfl <;> rfl) (fun _ => ?_) nofun))
  refine ev_b1 (x := .new (.l (ts.map (flatN m)))) (ev_lc (ds := ts) (γ1 := [.dat x, .un]) (by rcases hx with rfl | rfl <;> rfl) hl ?_) rfl
  have h := lcI_map (vs := [1]) (js := [1]) (pt := (Shp.one 1).parts) (fc := fun γ => some (true, γ)) (fe := ev (callI tb.fn (m + 1)) (.call 0 [(.slot 1)])) (γ := [.dat x, .un]) (g := flatN m) rfl (ds := ts) (acc := []) fun d hd => ⟨[d], [.dat x, .dat d], (.dat (flatN m d), [.dat x, .dat d]), rfl, rfl, ev_call (γ1 := [.dat x, .dat d]) (vs := [.dat d]) rfl rfl rfl (ih d (ht d hd)) rfl, rfl, rfl⟩
  exact h
theorem tupled_ok : ∀ (m : Nat) (d : D), Dep m d → callI tb.fn (m + 1) 0 [.dat d] = some (.dat (flatN m d), [])
  | 0, d, h => by cases d <;> first | rfl | exact h.elim
  | m + 1, d, h => by
    cases d with
    | tup ts => exact tupled_row (tupled_ok m) h.1 h.2 (.inl rfl)
    | pt ts => exact tupled_row (tupled_ok m) h.1 h.2 (.inr rfl)
    | non => rfl
    | int i => rfl
    | str s => rfl
    | bl b => exact h.elim
    | lst ts => exact h.elim
    | scr ts => exact h.elim
theorem same_int {n : Nat} (i : Int) : callI tb.fn (n + 1) 17 [.dat (.int i), .dat (.int i)] = some (.dat (.bl true), []) := by
  refine (callI_eq (tb := tb.fn) (f := 17) (fd := fd_law_same) (fl := .rt (.dat (.bl true)) [.dat (.int i), .dat (.int i), .un, .un]) rfl rfl ?_).trans rfl
  refine exB_nx (γ1 := [.dat (.int i), .dat (.int i), .un, .un]) rfl (exB_nx (γ1 := [.dat (.int i), .dat (.int i), .un, .un]) rfl (exB_rt (exS_ret (ev_and (k := true) (γ1 := [.dat (.int i), .dat (.int i), .un, .un]) rfl (fun _ => ev_and (k := true) (γ1 := [.dat (.int i), .dat (.int i), .un, .un]) rfl (fun _ => ?_) nofun) nofun))))
  rw [ev_eqI (i := i) (j := i) rfl rfl, decide_eq_true rfl]
theorem same_str {n : Nat} (x : Str) : callI tb.fn (n + 1) 17 [.dat (.str x), .dat (.str x)] = some (.dat (.bl true), []) := by
  have e : ∀ γ : List Dsc, γ = [.dat (.str x), .dat (.str x), .un, .un] → ev (callI tb.fn n) (.cmp .eq (.slot 0) (.slot 1)) γ = some (.dat (.bl true), γ) := fun γ hγ => by
    subst hγ
    refine ev_cmp (x := .dat (.str x)) (y := .dat (.str x)) rfl rfl ?_
    show some (decide (V.str x = V.str x)) = _
    rw [decide_eq_true rfl]
  refine (callI_eq (tb := tb.fn) (f := 17) (fd := fd_law_same) (fl := .rt (.dat (.bl true)) [.dat (.str x), .dat (.str x), .un, .un]) rfl rfl ?_).trans rfl
  refine exB_nx (γ1 := [.dat (.str x), .dat (.str x), .un, .un]) rfl (exB_rt (exS_ite (k := true) (γ1 := [.dat (.str x), .dat (.str x), .un, .un]) rfl (fun _ => exB_rt (exS_ret (ev_and (k := true) (e _ rfl) (fun _ => rfl) nofun))) nofun))
theorem same_row {m : Nat} (ih : ∀ d, Dep m d → callI tb.fn (m + 1) 17 [.dat (flatN m d), .dat d] = some (.dat (.bl true), [])) {ts : List D} (hl : ts.length < 1000000) (ht : ∀ t ∈ ts, Dep m t) {x : D} (hx : x = .tup ts ∨ x = .pt ts) :
    callI tb.fn (m + 2) 17 [.dat (.tup (ts.map (flatN m))), .dat x] = some (.dat (.bl true), []) := by
  have hz : ∀ d ∈ zipD (ts.map (flatN m)) ts, ∃ t ∈ ts, d = .tup [flatN m t, t] := fun d hd => by
    obtain ⟨i, hi⟩ := List.mem_iff_getElem?.mp hd
    have hlt := (List.getElem?_eq_some_iff.mp hi).1
    rw [zipD_len, List.length_map, Nat.min_self] at hlt
    rw [zipD_get (x := flatN m ts[i]) (y := ts[i]) (by rw [List.getElem?_map, List.getElem?_eq_getElem hlt]; rfl) (List.getElem?_eq_getElem hlt)] at hi
    cases hi
    exact ⟨ts[i], List.getElem_mem hlt, rfl⟩
  have h := lcI_map (vs := [2, 3]) (js := [2, 3]) (pt := (Shp.two 2 3).parts) (fc := fun γ => some (true, γ)) (fe := ev (callI tb.fn (m + 1)) (.call 17 [(.slot 2), (.slot 3)])) (γ := [.dat (.tup (ts.map (flatN m))), .dat x, .un, .un]) (g := fun _ => .bl true) rfl (ds := zipD (ts.map (flatN m)) ts) (acc := []) fun d hd => by
    obtain ⟨t, hm, rfl⟩ := hz d hd
    exact ⟨[flatN m t, t], [.dat (.tup (ts.map (flatN m))), .dat x, .dat (flatN m t), .dat t], (.dat (.bl true), [.dat (.tup (ts.map (flatN m))), .dat x, .dat (flatN m t), .dat t]), rfl, rfl, ev_call (γ1 := [.dat (.tup (ts.map (flatN m))), .dat x, .dat (flatN m t), .dat t]) (vs := [.dat (flatN m t), .dat t]) rfl rfl rfl (ih t (ht t hm)) rfl, rfl, rfl⟩
  have hb : ∀ l : List D, blsI (l.map fun _ => .bl true) = some (l.map fun _ => true) := fun l => by
    induction l with
    | nil => rfl
    | cons a l ih =>
      show (blsI (l.map fun _ => .bl true)).map (true :: ·) = _
      rw [ih]
      rfl
  have hall : ∀ l : List D, (l.map fun _ => true).all id = true := fun l => by simp
  refine (callI_eq (tb := tb.fn) (f := 17) (fd := fd_law_same) (fl := .rt (.dat (.bl true)) [.dat (.tup (ts.map (flatN m))), .dat x, .un, .un]) rfl rfl ?_).trans rfl
  refine exB_rt (exS_ite (k := true) (γ1 := [.dat (.tup (ts.map (flatN m))), .dat x, .un, .un]) (by rcases hx with rfl | rfl <;> rfl) (fun _ => ?_) nofun)
  refine exB_nx (γ1 := [.dat (.tup (ts.map (flatN m))), .dat x, .un, .un]) (by rcases hx with rfl | rfl <;> rfl) (exB_rt (exS_ret (ev_and (k := true) (γ1 := [.dat (.tup (ts.map (flatN m))), .dat x, .un, .un]) ?_ (fun _ => ?_) nofun)))
  · have := ev_eqI (cal := callI tb.fn (m + 1)) (a := .b1 .len (.slot 0)) (b := .b1 .len (.slot 1)) (γ := [.dat (.tup (ts.map (flatN m))), .dat x, .un, .un]) (γ1 := [.dat (.tup (ts.map (flatN m))), .dat x, .un, .un]) (γ2 := [.dat (.tup (ts.map (flatN m))), .dat x, .un, .un]) (i := ((ts.map (flatN m)).length : Nat)) (j := (ts.length : Nat)) rfl (by rcases hx with rfl | rfl <;> rfl)
    rw [this, decide_eq_true (by rw [List.length_map])]
  · refine ev_b1 (x := .new (.l ((zipD (ts.map (flatN m)) ts).map fun _ => .bl true))) (ev_lc (ds := zipD (ts.map (flatN m)) ts) (γ1 := [.dat (.tup (ts.map (flatN m))), .dat x, .un, .un]) (by rcases hx with rfl | rfl <;> rfl) (by rw [zipD_len, List.length_map, Nat.min_self]; exact hl) h) ?_
    show (blsI ((zipD (ts.map (flatN m)) ts).map fun _ => .bl true)).map _ = _
    rw [hb]
    show some (Dv.dat (.bl _)) = _
    rw [hall]
theorem same_ok : ∀ (m : Nat) (d : D), Dep m d → callI tb.fn (m + 1) 17 [.dat (flatN m d), .dat d] = some (.dat (.bl true), [])
  | 0, d, h => by
    cases d with
    | non => rfl
    | int i => exact same_int i
    | str s => exact same_str s
    | _ => exact h.elim
  | m + 1, d, h => by
    cases d with
    | tup ts => exact same_row (same_ok m) h.1 h.2 (.inl rfl)
    | pt ts => exact same_row (same_ok m) h.1 h.2 (.inr rfl)
    | non => rfl
    | int i => exact same_int i
    | str s => exact same_str s
    | bl b => exact h.elim
    | lst ts => exact h.elim
    | scr ts => exact h.elim
end V86

/-! k86: what is put in by the program. -/
namespace V86
open PySem PySem.Spec PyProof.Rows L2 VY RI
theorem put_ok {n : Nat} (s : D) {bs way : List Bit} {k : Nat} (hk : k ≤ bs.length) (hl : bs.length + way.length ≤ 1000) : callI tb.fn (n + 2) 8 [.dat (hallD s bs), .dat (gapD k), .dat (.tup (way.map bitD))] = some (.dat (hallD s (putB bs k way)), []) := by
  have hk' : k ≤ (bs.map bitD).length := by rw [List.length_map]; exact hk
  have inner : callI tb.fn (n + 1) 7 [.dat (.tup (bs.map bitD)), .dat (.tup [.int (k : Nat)]), .dat (.tup (way.map bitD))] = some (.dat (.tup ((putB bs k way).map bitD)), []) := by
    refine (callI_eq (tb := tb.fn) (f := 7) (fd := fd_way_with) (fl := .rt (.dat (.tup ((putB bs k way).map bitD))) [.dat (.tup (bs.map bitD)), .dat (.tup [.int (k : Nat)]), .dat (.tup (way.map bitD)), .dat (.int (k : Nat)), .un, .un, .un, .un, .un]) rfl rfl ?_).trans rfl
    refine exB_nx (γ1 := [.dat (.tup (bs.map bitD)), .dat (.tup [.int (k : Nat)]), .dat (.tup (way.map bitD)), .dat (.int (k : Nat)), .un, .un, .un, .un, .un]) rfl ?_
    refine exB_rt (exS_ite (k := true) rfl (fun _ => exB_rt (exS_ret ?_)) nofun)
    refine ev_bin (x := .dat (.tup ((bs.take k ++ way).map bitD))) (y := .dat (.tup ((bs.drop k).map bitD))) (ev_bin (x := .dat (.tup ((bs.take k).map bitD))) (y := .dat (.tup (way.map bitD))) (γ1 := [.dat (.tup (bs.map bitD)), .dat (.tup [.int (k : Nat)]), .dat (.tup (way.map bitD)), .dat (.int (k : Nat)), .un, .un, .un, .un, .un]) ?_ rfl ?_) ?_ ?_
    · show some (Dv.dat (.tup (VY.cutD (bs.map bitD) none (some (k : Int)))), _) = _
      rw [cut_to hk', List.map_take]
    · rw [List.map_append]
      exact gd_t (decide_eq_true (by rw [List.length_map, List.length_map, List.length_take]; omega))
    · show some (Dv.dat (.tup (VY.cutD (bs.map bitD) (some (k : Int)) none)), _) = _
      rw [cut_from hk', List.map_drop]
    · show gd _ _ = _
      unfold putB
      rw [List.map_append (l₁ := bs.take k ++ way)]
      exact gd_t (decide_eq_true (by rw [List.length_map, List.length_map, List.length_append, List.length_take, List.length_drop]; omega))
  refine (callI_eq (tb := tb.fn) (f := 8) (fd := fd_put_into) (fl := .rt (.dat (hallD s (putB bs k way))) [.dat (hallD s bs), .dat (gapD k), .dat (.tup (way.map bitD)), .dat (.tup [.int 2, .tup [.non, .non, .non, .non], s]), .dat (.tup [.tup [.int 0, .int 1]]), .dat (.tup [.tup (bs.map bitD)]), .dat (.tup ((putB bs k way).map bitD))]) rfl rfl ?_).trans rfl
  refine exB_nx (γ1 := [.dat (hallD s bs), .dat (gapD k), .dat (.tup (way.map bitD)), .dat (.tup [.int 2, .tup [.non, .non, .non, .non], s]), .dat (.tup [.tup [.int 0, .int 1]]), .dat (.tup [.tup (bs.map bitD)]), .un]) rfl ?_
  refine exB_nx (γ1 := [.dat (hallD s bs), .dat (gapD k), .dat (.tup (way.map bitD)), .dat (.tup [.int 2, .tup [.non, .non, .non, .non], s]), .dat (.tup [.tup [.int 0, .int 1]]), .dat (.tup [.tup (bs.map bitD)]), .dat (.tup ((putB bs k way).map bitD))]) (exS_set (x := .dat (.tup ((putB bs k way).map bitD))) (ev_call (vs := [.dat (.tup (bs.map bitD)), .dat (.tup [.int (k : Nat)]), .dat (.tup (way.map bitD))]) rfl rfl rfl inner rfl) rfl) ?_
  exact exB_rt (exS_ret rfl)
/-- the renewal's own lines -/
def way : List Bit := [.dr 3, .st 0 [0, 3], .st 1 [1, 3], .st 3 []]
def dueB (bs : List Bit) (ts : List Nat) : List Bit := ts.reverse.foldl (fun b k => putB b k way) bs
theorem way_ok {n : Nat} : callI tb.fn (n + 1) 39 [.dat (.int 2), .dat (.tup [.int 0, .int 1]), .dat (.int 3)] = some (.dat (.tup (way.map bitD)), []) := by kernel_rfl
theorem rway_ok {n : Nat} (s : D) : callI tb.fn (n + 1) 3 [.dat (.tup [.int 2, .tup [.non, .non, .non, .non], s]), .dat (.tup [.int 0, .int 1]), .dat (.int 3)] = some (.dat (.tup (way.map bitD)), []) := by kernel_rfl
theorem parts_ok {n : Nat} (s : D) : callI tb.fn (n + 2) 2 [.dat (.tup [.int 2, .tup [.non, .non, .non, .non], s]), .dat (.tup [.int 0, .int 1]), .dat (.int 3)] = some (.dat .non, []) := by kernel_rfl
theorem regs_ok {n : Nat} (s : D) : callI tb.fn (n + 1) 1 [.dat (.tup [.int 2, .tup [.non, .non, .non, .non], s]), .dat (.tup [.int 0, .int 1, .int 3])] = some (.dat .non, []) := by kernel_rfl
theorem flat_part (ks : List Int) (m : Nat) : (ks.map partD).map (flatN (m + 2)) = ks.map partD := by
  rw [List.map_map]
  exact List.map_congr_left fun k _ => rfl
theorem flat_bit (b : Bit) (m : Nat) : flatN (m + 4) (bitD b) = bitD b := by
  cases b with
  | dr r => rfl
  | st r ks =>
    show D.tup [sSet, .int r, .tup ((ks.map partD).map (flatN (m + 2)))] = _
    rw [flat_part]
    rfl
theorem flat_bits (bs : List Bit) (m : Nat) : (bs.map bitD).map (flatN (m + 4)) = bs.map bitD := by
  rw [List.map_map]
  exact List.map_congr_left fun b _ => flat_bit b m
theorem flat_hall (s : D) (bs : List Bit) : flatN 7 (hallD s bs) = hallD (flatN 5 s) bs := by
  show D.tup [.tup [.int 2, .tup [.non, .non, .non, .non], flatN 5 s], .tup [.tup [.int 0, .int 1]], .tup [.tup ((bs.map bitD).map (flatN 4))]] = _
  rw [flat_bits bs 0]
  rfl
theorem dep_bit {b : Bit} (h : BOk b) : Dep 4 (bitD b) := by
  cases b with
  | dr r => exact ⟨(show 2 < 1000000 by decide), fun t ht => by simp [sDraw] at ht; rcases ht with rfl | rfl <;> trivial⟩
  | st r ks =>
    have hk : ks.length < 1000000 := by
      have := h.2
      simp [six] at this
      rcases this with rfl | rfl | rfl | rfl | rfl | rfl <;> simp
    refine ⟨(show 3 < 1000000 by decide), fun t ht => ?_⟩
    simp at ht
    rcases ht with rfl | rfl | rfl
    · trivial
    · trivial
    · refine ⟨by rw [List.length_map]; exact hk, fun t ht => ?_⟩
      obtain ⟨k, _, rfl⟩ := List.mem_map.mp ht
      exact ⟨(show 2 < 1000000 by decide), fun t ht => by simp at ht; rcases ht with rfl | rfl <;> trivial⟩
theorem dep_mono : ∀ {m : Nat} {d : D}, Dep m d → Dep (m + 1) d
  | 0, d, h => by cases d <;> first | trivial | exact h.elim
  | m + 1, d, h => by
    cases d with
    | tup ts => exact ⟨h.1, fun t ht => dep_mono (h.2 t ht)⟩
    | pt ts => exact ⟨h.1, fun t ht => dep_mono (h.2 t ht)⟩
    | non => trivial
    | int i => trivial
    | str s => trivial
    | bl b => exact h.elim
    | lst ts => exact h.elim
    | scr ts => exact h.elim
theorem dep_le {m k : Nat} {d : D} (h : Dep m d) (hk : m ≤ k) : Dep k d := by
  obtain ⟨j, rfl⟩ := Nat.exists_eq_add_of_le hk
  induction j with
  | zero => exact h
  | succ j ih => exact dep_mono (ih (by omega))
def SOk (s : D) : Prop := Dep 3 s
theorem sorts_dep {s : D} (h : s ∈ sorts4) : SOk s := by
  have p : ∀ w k, Dep 2 (mkD w k) := fun w k => ⟨(show 2 < 1000000 by decide), fun t ht => by simp at ht; rcases ht with rfl | rfl <;> trivial⟩
  simp [sorts4] at h
  rcases h with rfl | rfl | rfl | rfl
  · exact ⟨(show 1 < 1000000 by decide), fun t ht => by simp at ht; subst ht; exact p _ _⟩
  · exact ⟨(show 2 < 1000000 by decide), fun t ht => by simp at ht; rcases ht with rfl | rfl <;> exact p _ _⟩
  · exact ⟨(show 1 < 1000000 by decide), fun t ht => by simp at ht; subst ht; exact p _ _⟩
  · exact ⟨(show 3 < 1000000 by decide), fun t ht => by simp at ht; rcases ht with rfl | rfl | rfl <;> exact p _ _⟩
theorem dep_hall {s : D} {bs : List Bit} (hs : SOk s) (hb : ∀ b ∈ bs, Dep 4 (bitD b)) (hl : bs.length < 1000000) : Dep 7 (hallD s bs) := by
  refine ⟨(show 3 < 1000000 by decide), fun t ht => ?_⟩
  simp at ht
  rcases ht with rfl | rfl | rfl
  · refine ⟨(show 3 < 1000000 by decide), fun t ht => ?_⟩
    simp at ht
    rcases ht with rfl | rfl | rfl
    · trivial
    · exact ⟨(show 4 < 1000000 by decide), fun t ht => by simp at ht; subst ht; trivial⟩
    · exact dep_le hs (by decide)
  · refine ⟨(show 1 < 1000000 by decide), fun t ht => ?_⟩
    simp at ht
    subst ht
    exact ⟨(show 2 < 1000000 by decide), fun t ht => by simp at ht; rcases ht with rfl | rfl <;> trivial⟩
  · refine ⟨(show 1 < 1000000 by decide), fun t ht => ?_⟩
    simp at ht
    subst ht
    refine ⟨by rw [List.length_map]; exact hl, fun t ht => ?_⟩
    obtain ⟨b, hm, rfl⟩ := List.mem_map.mp ht
    exact hb b hm
theorem dep_bits {bs : List Bit} (h : BsOk bs) : ∀ b ∈ bs, Dep 4 (bitD b) := fun b hb => dep_bit (h.ok b hb)
theorem ways_dep : ∀ b ∈ way, Dep 4 (bitD b) := fun b hb => by
  have q : ∀ k : Int, Dep 2 (partD k) := fun k => ⟨(show 2 < 1000000 by decide), fun t ht => by simp at ht; rcases ht with rfl | rfl <;> trivial⟩
  simp [way] at hb
  rcases hb with rfl | rfl | rfl | rfl
  · exact ⟨(show 2 < 1000000 by decide), fun t ht => by simp [sDraw] at ht; rcases ht with rfl | rfl <;> trivial⟩
  · exact ⟨(show 3 < 1000000 by decide), fun t ht => by
      simp at ht
      rcases ht with rfl | rfl | rfl
      · trivial
      · trivial
      · exact ⟨(show 2 < 1000000 by decide), fun t ht => by simp at ht; rcases ht with rfl | rfl <;> exact q _⟩⟩
  · exact ⟨(show 3 < 1000000 by decide), fun t ht => by
      simp at ht
      rcases ht with rfl | rfl | rfl
      · trivial
      · trivial
      · exact ⟨(show 2 < 1000000 by decide), fun t ht => by simp at ht; rcases ht with rfl | rfl <;> exact q _⟩⟩
  · exact ⟨(show 3 < 1000000 by decide), fun t ht => by
      simp at ht
      rcases ht with rfl | rfl | rfl
      · trivial
      · trivial
      · exact ⟨(show 0 < 1000000 by decide), fun t ht => by simp at ht⟩⟩
end V86

/-! k86: renewed. -/
namespace V86
open PySem PySem.Spec PyProof.Rows L2 VY RI
theorem forI_nx {step : D → List Dsc → Option Fl} {d : D} {ds : List D} {γ γ1 : List Dsc} (h : step d γ = some (.nx γ1)) : forI step (d :: ds) γ = forI step ds γ1 := by rw [forI_cons, h]; rfl
theorem flat_hallM (m : Nat) (s : D) (bs : List Bit) : flatN (m + 7) (hallD s bs) = hallD (flatN (m + 5) s) bs := by
  show D.tup [.tup [.int 2, .tup [.non, .non, .non, .non], flatN (m + 5) s], .tup [.tup [.int 0, .int 1]], .tup [.tup ((bs.map bitD).map (flatN (m + 4)))]] = _
  rw [flat_bits bs m]
  rfl
theorem wspots_ok {n : Nat} {bs : List Bit} (h : BsOk bs) : callI tb.fn (n + 1) 5 [.dat (.tup (bs.map bitD)), .dat (.tup [.int 0])] = some (.new (.l (gapsD bs.length)), []) := by
  match bs, h.lo, h.hi with
  | [b], _, _ => cases b <;> kernel_rfl
  | [b, c], _, _ => cases b <;> cases c <;> kernel_rfl
  | [b, c, d], _, _ => cases b <;> cases c <;> cases d <;> kernel_rfl
theorem sorted_gaps {L : Nat} (h : L ≤ 3) : sortdI (gapsD L) = some (.new (.l (gapsD L))) := by
  match L, h with
  | 0, _ => rfl
  | 1, _ => kernel_rfl
  | 2, _ => kernel_rfl
  | 3, _ => kernel_rfl
theorem gaps_len (L : Nat) : (gapsD L).length = L + 1 := by unfold gapsD; rw [List.length_map, List.length_range]
theorem spots_ok {s : D} (hs : SOk s) {bs : List Bit} (h : BsOk bs) : callI tb.fn 17 6 [.dat (hallD s bs)] = some (.dat (.tup (gapsD bs.length)), []) := by
  have hb := h.hi
  have ht := tupled_ok 15 (hallD s bs) (dep_le (dep_hall hs (dep_bits h) (by omega)) (by decide))
  rw [flat_hallM 8] at ht
  refine (callI_eq (tb := tb.fn) (f := 6) (fd := fd_spots) (fl := .rt (.dat (.tup (gapsD bs.length))) [.dat (hallD s bs), .own (.l (gapsD bs.length)), .dat (.int 0), .dat (.tup (bs.map bitD))]) rfl rfl ?_).trans rfl
  refine exB_nx (γ1 := [.dat (hallD s bs), .own (.l []), .un, .un]) rfl ?_
  refine exB_nx (γ1 := [.dat (hallD s bs), .own (.l (gapsD bs.length)), .dat (.int 0), .dat (.tup (bs.map bitD))]) (exS_for (ds := [.tup [.int 0, .tup (bs.map bitD)]]) (γ1 := [.dat (hallD s bs), .own (.l []), .un, .un]) (evi_enum (x := .dat (.tup [.tup (bs.map bitD)])) (ev_idx (x := .dat (hallD (flatN 13 s) bs)) (γ1 := [.dat (hallD s bs), .own (.l []), .un, .un]) (ev_call (γ1 := [.dat (hallD s bs), .own (.l []), .un, .un]) (vs := [.dat (hallD s bs)]) rfl rfl rfl ht rfl) (y := .dat (.int 2)) rfl rfl) rfl) ?_) ?_
  · rw [forI_cons, turn_ok (γ1 := [.dat (hallD s bs), .own (.l []), .dat (.int 0), .dat (.tup (bs.map bitD))]) (fl := .nx [.dat (hallD s bs), .own (.l (gapsD bs.length)), .dat (.int 0), .dat (.tup (bs.map bitD))]) rfl]
    · rfl
    · exact exB_nx (exS_ex (ev_ext (x := .loc 1) (us := []) (ds := []) (es := gapsD bs.length) rfl rfl (ev_call (γ1 := [.dat (hallD s bs), .own (.l []), .dat (.int 0), .dat (.tup (bs.map bitD))]) (vs := [.dat (.tup (bs.map bitD)), .dat (.tup [.int 0])]) rfl rfl rfl (wspots_ok h) rfl) rfl rfl (by rw [gaps_len]; simp; omega) rfl)) rfl
  · exact exB_rt (exS_ret (ev_b1 (x := .new (.l (gapsD bs.length))) (ev_b1 (x := .loc 1) rfl (sorted_gaps hb)) rfl))
theorem sure_ok {s : D} (hs : SOk s) {bs : List Bit} (h : BsOk bs) {ts : List Nat} (ht : TsOk bs.length ts) : callI tb.fn 18 9 [.dat (hallD s bs), .dat (.tup (ts.map gapD))] = some (.dat .non, []) := by
  have key : ∀ (L : Nat) (k : Nat), L ≤ 3 → k ≤ L → ∀ (γ : List Dsc), cmpI γ .notin (.dat (gapD k)) (.dat (.tup (gapsD L))) = some false := by
    intro L k hL hk γ
    match L, hL, k, hk with
    | 0, _, 0, _ => kernel_rfl
    | 1, _, 0, _ => kernel_rfl
    | 1, _, 1, _ => kernel_rfl
    | 2, _, 0, _ => kernel_rfl
    | 2, _, 1, _ => kernel_rfl
    | 2, _, 2, _ => kernel_rfl
    | 3, _, 0, _ => kernel_rfl
    | 3, _, 1, _ => kernel_rfl
    | 3, _, 2, _ => kernel_rfl
    | 3, _, 3, _ => kernel_rfl
  have hb := h.hi
  have turn : ∀ (k : Nat) (x : Dsc), k ≤ bs.length → canSet [.dat (hallD s bs), .dat (.tup (ts.map gapD)), .dat (.tup (gapsD bs.length)), x] 3 = true → ((tgI (callI tb.fn 17) (.nm 3) (.dat (gapD k)) [.dat (hallD s bs), .dat (.tup (ts.map gapD)), .dat (.tup (gapsD bs.length)), x]).bind fun γ' => exB (callI tb.fn 17) [.ite (.cmp .notin (.slot 3) (.slot 2)) [.bad] []] γ') = some (.nx [.dat (hallD s bs), .dat (.tup (ts.map gapD)), .dat (.tup (gapsD bs.length)), .dat (gapD k)]) := fun k x hk hx => by
    refine turn_ok (γ1 := [.dat (hallD s bs), .dat (.tup (ts.map gapD)), .dat (.tup (gapsD bs.length)), .dat (gapD k)]) ?_ ?_
    · cases x <;> first | rfl | exact Bool.noConfusion (show false = true from hx)
    · exact exB_nx (exS_ite (k := false) (ev_cmp (x := .dat (gapD k)) (y := .dat (.tup (gapsD bs.length))) rfl rfl (key _ _ hb hk _)) nofun (fun _ => rfl)) rfl
  have loop : ∃ γ, forI (fun d γ => (tgI (callI tb.fn 17) (.nm 3) (.dat d) γ).bind fun γ' => exB (callI tb.fn 17) [.ite (.cmp .notin (.slot 3) (.slot 2)) [.bad] []] γ') (ts.map gapD) [.dat (hallD s bs), .dat (.tup (ts.map gapD)), .dat (.tup (gapsD bs.length)), .un] = some (.nx γ) := by
    rcases ht with ⟨k, rfl, hk⟩ | ⟨j, k, rfl, hjk, hk⟩
    · refine ⟨[.dat (hallD s bs), .dat (.tup ([k].map gapD)), .dat (.tup (gapsD bs.length)), .dat (gapD k)], ?_⟩
      exact (forI_nx (ds := []) (turn k .un hk rfl)).trans rfl
    · refine ⟨[.dat (hallD s bs), .dat (.tup ([j, k].map gapD)), .dat (.tup (gapsD bs.length)), .dat (gapD k)], ?_⟩
      exact (forI_nx (ds := [gapD k]) (turn j .un (by omega) rfl)).trans ((forI_nx (ds := []) (turn k (.dat (gapD j)) hk rfl)).trans rfl)
  obtain ⟨γ, e⟩ := loop
  refine (callI_eq (tb := tb.fn) (f := 9) (fd := fd_sure_spots) (fl := .nx γ) rfl rfl ?_).trans rfl
  refine exB_nx (γ1 := [.dat (hallD s bs), .dat (.tup (ts.map gapD)), .dat (.tup (gapsD bs.length)), .un]) (exS_set (x := .dat (.tup (gapsD bs.length))) (ev_call (γ1 := [.dat (hallD s bs), .dat (.tup (ts.map gapD)), .un, .un]) (vs := [.dat (hallD s bs)]) rfl rfl rfl (spots_ok hs h) rfl) rfl) ?_
  exact exB_nx (exS_for (ds := ts.map gapD) rfl e) rfl
end V86

/-! k86: renewed; go. -/
namespace V86
open PySem PySem.Spec PyProof.Rows L2 VY RI
theorem sortR_ok {L : Nat} {ts : List Nat} (h : TsOk L ts) : sortRI (ts.map gapD) = some (.new (.l (ts.reverse.map gapD))) := by
  rcases h with ⟨k, rfl, hk⟩ | ⟨j, k, rfl, hjk, hk⟩
  · rfl
  · have e : sortRI [gapD j, gapD k] = some (.new (.l ((if SrtN.lexN [0, (k : Int)] [0, (j : Int)] = true then [[0, (k : Int)], [0, (j : Int)]] else [[0, (j : Int)], [0, (k : Int)]]).reverse.map rowD))) := rfl
    have l : SrtN.lexN [0, (k : Int)] [0, (j : Int)] = false := by
      show (if (0 : Int) = 0 then (if (k : Int) = j then SrtN.lexN [] [] else decide ((k : Int) < j)) else _) = _
      rw [if_pos rfl, if_neg (by omega)]
      exact decide_eq_false (by omega)
    rw [l] at e
    exact e
theorem putB_len (bs : List Bit) (k : Nat) : (putB bs k way).length = bs.length + 4 := by
  unfold putB
  rw [List.length_append, List.length_append, List.length_take, List.length_drop]
  show min k bs.length + 4 + _ = _
  omega
theorem all_ok (s : D) {bs : List Bit} (hb : bs.length ≤ 3) {ts : List Nat} (ht : TsOk bs.length ts) : callI tb.fn 18 10 [.dat (hallD s bs), .dat (.tup (ts.map gapD)), .dat (.tup (way.map bitD))] = some (.dat (hallD s (dueB bs ts)), []) := by
  have turn : ∀ (b2 : List Bit) (k : Nat) (x : Dsc), k ≤ b2.length → b2.length ≤ 100 → canSet [.dat (hallD s bs), .dat (.tup (ts.map gapD)), .dat (.tup (way.map bitD)), .dat (hallD s b2), x] 4 = true → ((tgI (callI tb.fn 17) (.nm 4) (.dat (gapD k)) [.dat (hallD s bs), .dat (.tup (ts.map gapD)), .dat (.tup (way.map bitD)), .dat (hallD s b2), x]).bind fun γ' => exB (callI tb.fn 17) [.set (.nm 3) (.call 8 [(.slot 3), (.slot 4), (.slot 2)])] γ') = some (.nx [.dat (hallD s bs), .dat (.tup (ts.map gapD)), .dat (.tup (way.map bitD)), .dat (hallD s (putB b2 k way)), .dat (gapD k)]) := fun b2 k x hk hl hx => by
    refine turn_ok (γ1 := [.dat (hallD s bs), .dat (.tup (ts.map gapD)), .dat (.tup (way.map bitD)), .dat (hallD s b2), .dat (gapD k)]) ?_ ?_
    · cases x <;> first | rfl | exact Bool.noConfusion (show false = true from hx)
    · exact exB_nx (exS_set (x := .dat (hallD s (putB b2 k way))) (ev_call (γ1 := [.dat (hallD s bs), .dat (.tup (ts.map gapD)), .dat (.tup (way.map bitD)), .dat (hallD s b2), .dat (gapD k)]) (vs := [.dat (hallD s b2), .dat (gapD k), .dat (.tup (way.map bitD))]) rfl rfl rfl (put_ok (n := 15) s hk (by show b2.length + 4 ≤ 1000; omega)) rfl) rfl) rfl
  have loop : ∃ x, forI (fun d γ => (tgI (callI tb.fn 17) (.nm 4) (.dat d) γ).bind fun γ' => exB (callI tb.fn 17) [.set (.nm 3) (.call 8 [(.slot 3), (.slot 4), (.slot 2)])] γ') (ts.reverse.map gapD) [.dat (hallD s bs), .dat (.tup (ts.map gapD)), .dat (.tup (way.map bitD)), .dat (hallD s bs), .un] = some (.nx [.dat (hallD s bs), .dat (.tup (ts.map gapD)), .dat (.tup (way.map bitD)), .dat (hallD s (dueB bs ts)), x]) := by
    rcases ht with ⟨k, rfl, hk⟩ | ⟨j, k, rfl, hjk, hk⟩
    · exact ⟨.dat (gapD k), (forI_nx (ds := []) (turn bs k .un hk (by omega) rfl)).trans rfl⟩
    · exact ⟨.dat (gapD j), (forI_nx (ds := [gapD j]) (turn bs k .un hk (by omega) rfl)).trans ((forI_nx (ds := []) (turn (putB bs k way) j (.dat (gapD k)) (by rw [putB_len]; omega) (by rw [putB_len]; omega) rfl)).trans rfl)⟩
  obtain ⟨x, e⟩ := loop
  refine (callI_eq (tb := tb.fn) (f := 10) (fd := fd_put_all) (fl := .rt (.dat (hallD s (dueB bs ts))) [.dat (hallD s bs), .dat (.tup (ts.map gapD)), .dat (.tup (way.map bitD)), .dat (hallD s (dueB bs ts)), x]) rfl rfl ?_).trans rfl
  refine exB_nx (γ1 := [.dat (hallD s bs), .dat (.tup (ts.map gapD)), .dat (.tup (way.map bitD)), .dat (hallD s bs), .un]) rfl ?_
  refine exB_nx (exS_for (ds := ts.reverse.map gapD) (γ1 := [.dat (hallD s bs), .dat (.tup (ts.map gapD)), .dat (.tup (way.map bitD)), .dat (hallD s bs), .un]) (evi_of (x := .new (.l (ts.reverse.map gapD))) ?_ rfl) e) (exB_rt (exS_ret rfl))
  show ((sqI _ (.dat (.tup (ts.map gapD)))).bind sortRI).map _ = _
  show (sortRI (ts.map gapD)).map _ = _
  rw [sortR_ok ht]
  rfl
theorem dep_flat : ∀ (k m : Nat) (d : D), Dep m d → Dep m (flatN k d)
  | 0, m, d, h => by cases d <;> exact h
  | k + 1, 0, d, h => by cases d <;> first | exact h | exact h.elim
  | k + 1, m + 1, d, h => by
    cases d with
    | tup ts => exact ⟨by rw [List.length_map]; exact h.1, fun t ht => by obtain ⟨u, hu, rfl⟩ := List.mem_map.mp ht; exact dep_flat k m u (h.2 u hu)⟩
    | pt ts => exact ⟨by rw [List.length_map]; exact h.1, fun t ht => by obtain ⟨u, hu, rfl⟩ := List.mem_map.mp ht; exact dep_flat k m u (h.2 u hu)⟩
    | non => trivial
    | int i => trivial
    | str s => trivial
    | bl b => exact h.elim
    | lst ts => exact h.elim
    | scr ts => exact h.elim
theorem dep_gap (k m : Nat) : Dep (m + 1) (gapD k) := ⟨(show 2 < 1000000 by decide), fun t ht => by simp at ht; rcases ht with rfl | rfl <;> (cases m <;> trivial)⟩
theorem flat_gaps (ts : List Nat) (m : Nat) : flatN (m + 2) (.tup (ts.map gapD)) = .tup (ts.map gapD) := by
  show D.tup ((ts.map gapD).map (flatN (m + 1))) = _
  rw [List.map_map]
  congr 1
  exact List.map_congr_left fun k _ => by cases m <;> rfl
theorem renewed_ok {s : D} (hs : SOk s) {bs : List Bit} (h : BsOk bs) {ts : List Nat} (ht : TsOk bs.length ts) : callI tb.fn 19 11 [.dat (hallD s bs), .dat (.tup (ts.map gapD)), .dat (.tup [.int 0, .int 1]), .dat (.int 3)] = some (.dat (hallD (flatN 15 s) (dueB bs ts)), []) := by
  have hb := h.hi
  have htl : ts.length < 1000000 := by rcases ht with ⟨k, rfl, _⟩ | ⟨j, k, rfl, _, _⟩ <;> simp
  have t1 := tupled_ok 17 (hallD s bs) (dep_le (dep_hall hs (dep_bits h) (by omega)) (by decide))
  rw [flat_hallM 10] at t1
  have t2 := tupled_ok 17 (.tup (ts.map gapD)) ⟨by rw [List.length_map]; exact htl, fun t ht => by obtain ⟨k, _, rfl⟩ := List.mem_map.mp ht; exact dep_gap k 15⟩
  rw [flat_gaps ts 15] at t2
  have hs1 : SOk (flatN 15 s) := dep_flat 15 3 s hs
  obtain ⟨γ0, hγ0⟩ : ∃ γ0 : List Dsc, γ0 = [.dat (hallD s bs), .dat (.tup (ts.map gapD)), .dat (.tup [.int 0, .int 1]), .dat (.int 3), .un, .un, .un] := ⟨_, rfl⟩
  obtain ⟨γ1, hγ1⟩ : ∃ γ1 : List Dsc, γ1 = [.dat (hallD s bs), .dat (.tup (ts.map gapD)), .dat (.tup [.int 0, .int 1]), .dat (.int 3), .dat (hallD (flatN 15 s) bs), .dat (.tup (ts.map gapD)), .dat (.tup [.int 0, .int 1])] := ⟨_, rfl⟩
  refine (callI_eq (tb := tb.fn) (f := 11) (fd := fd_renewed) (fl := .rt (.dat (hallD (flatN 15 s) (dueB bs ts))) γ1) rfl rfl ?_).trans (by subst hγ1; rfl)
  refine exB_nx (γ1 := γ1) (exS_par (vs := [.dat (hallD (flatN 15 s) bs), .dat (.tup (ts.map gapD)), .dat (.tup [.int 0, .int 1])]) (γ1 := γ0) (evn_cons (γ1 := γ0) (x := .dat (hallD (flatN 15 s) bs)) ?_ (evn_cons (γ1 := γ0) (x := .dat (.tup (ts.map gapD))) ?_ (evn_cons (γ1 := γ0) (x := .dat (.tup [.int 0, .int 1])) ?_ rfl))) (by subst hγ0 hγ1; rfl)) ?_
  · subst hγ0
    exact ev_call (vs := [.dat (hallD s bs)]) rfl rfl rfl t1 rfl
  · subst hγ0
    exact ev_call (vs := [.dat (.tup (ts.map gapD))]) rfl rfl rfl t2 rfl
  · subst hγ0
    exact ev_call (vs := [.dat (.tup [.int 0, .int 1])]) rfl rfl rfl (show callI tb.fn 18 0 [.dat (.tup [.int 0, .int 1])] = some (.dat (.tup [.int 0, .int 1]), []) by kernel_rfl) rfl
  subst hγ1
  refine exB_nx (exS_ex (ev_call (vs := [.dat (.tup [.int 2, .tup [.non, .non, .non, .non], flatN 15 s]), .dat (.tup [.int 0, .int 1, .int 3])]) rfl rfl rfl (regs_ok (n := 17) (flatN 15 s)) rfl)) ?_
  refine exB_nx (exS_ex (ev_call (vs := [.dat (hallD (flatN 15 s) bs), .dat (.tup (ts.map gapD))]) rfl rfl rfl (sure_ok hs1 h ht) rfl)) ?_
  refine exB_nx (exS_ex (ev_call (vs := [.dat (.tup [.int 2, .tup [.non, .non, .non, .non], flatN 15 s]), .dat (.tup [.int 0, .int 1]), .dat (.int 3)]) rfl rfl rfl (parts_ok (n := 16) (flatN 15 s)) rfl)) ?_
  exact exB_rt (exS_ret (ev_call (vs := [.dat (hallD (flatN 15 s) bs), .dat (.tup (ts.map gapD)), .dat (.tup (way.map bitD))]) (evs_cons rfl (x := .dat (hallD (flatN 15 s) bs)) rfl (evs_cons rfl (x := .dat (.tup (ts.map gapD))) rfl (evs_cons rfl (x := .dat (.tup (way.map bitD))) (ev_call (vs := [.dat (.tup [.int 2, .tup [.non, .non, .non, .non], flatN 15 s]), .dat (.tup [.int 0, .int 1]), .dat (.int 3)]) rfl rfl rfl (rway_ok (n := 17) (flatN 15 s)) rfl) rfl))) rfl rfl (all_ok (flatN 15 s) hb ht) rfl))
end V86

/-! k86: the renewed hall is the due one; go. -/
namespace V86
open PySem PySem.Spec PyProof.Rows L2 VY RI
theorem flat_st : ∀ {m : Nat} {d : D}, Dep m d → ∀ j : Nat, flatN (m + j) d = flatN m d
  | 0, d, h, 0 => rfl
  | 0, d, h, j + 1 => by cases d <;> first | rfl | exact h.elim | (rw [Nat.zero_add]; rfl)
  | m + 1, d, h, j => by
    rw [show m + 1 + j = m + j + 1 by omega]
    cases d with
    | tup ts =>
      show D.tup (ts.map (flatN (m + j))) = D.tup (ts.map (flatN m))
      congr 1
      exact List.map_congr_left fun t ht => flat_st (h.2 t ht) j
    | pt ts =>
      show D.tup (ts.map (flatN (m + j))) = D.tup (ts.map (flatN m))
      congr 1
      exact List.map_congr_left fun t ht => flat_st (h.2 t ht) j
    | non => rfl
    | int i => rfl
    | str s => rfl
    | bl b => exact h.elim
    | lst ts => exact h.elim
    | scr ts => exact h.elim
theorem due_dep {bs : List Bit} (h : ∀ b ∈ bs, Dep 4 (bitD b)) (ts : List Nat) : ∀ b ∈ dueB bs ts, Dep 4 (bitD b) := by
  unfold dueB
  generalize ts.reverse = us
  induction us generalizing bs with
  | nil => exact h
  | cons k us ih =>
    refine ih (bs := putB bs k way) fun b hb => ?_
    unfold putB at hb
    rcases List.mem_append.mp hb with hb | hb
    · rcases List.mem_append.mp hb with hb | hb
      · exact h b (List.mem_of_mem_take hb)
      · exact ways_dep b hb
    · exact h b (List.mem_of_mem_drop hb)
theorem due_len {bs : List Bit} {L : Nat} {ts : List Nat} (ht : TsOk L ts) : (dueB bs ts).length ≤ bs.length + 8 := by
  rcases ht with ⟨k, rfl, hk⟩ | ⟨j, k, rfl, hjk, hk⟩
  · show (putB bs k way).length ≤ _
    rw [putB_len]; omega
  · show (putB (putB bs k way) j way).length ≤ _
    rw [putB_len, putB_len]; omega
theorem is_due {s : D} (hs : SOk s) {bs : List Bit} (h : BsOk bs) {ts : List Nat} (ht : TsOk bs.length ts) : callI tb.fn 19 17 [.dat (hallD (flatN 15 s) (dueB bs ts)), .dat (hallD s (dueB bs ts))] = some (.dat (.bl true), []) := by
  have hb := h.hi
  have hl := due_len (bs := bs) ht
  have e := same_ok 18 (hallD s (dueB bs ts)) (dep_le (dep_hall hs (due_dep (dep_bits h) ts) (by omega)) (by decide))
  rw [flat_hallM 11, flat_st hs 13, ← flat_st hs 12] at e
  exact e
/-! ### go -/
def lotD : Bit → D
  | .st r ks => .tup [sSet, .int r, .tup (ks.map partD)]
  | .dr r => .tup [sDraw, .int r, .tup []]
theorem bits_go {n : Nat} (hall : D) {bs : List Bit} (hl : bs.length ≤ 50) : callI tb.fn (n + 1) 20 [.dat hall, .dat (.tup (bs.map bitD)), .dat (.lst []), .io (.l []), .dat (.int 0)] = some (.dat (.bl true), [.l (bs.map lotD)]) := by
  obtain ⟨γ', e1, x, rfl, _⟩ := forI_inv (step := fun d γ => (tgI (callI tb.fn n) (.nm 5) (.dat d) γ).bind fun γ' => exB (callI tb.fn n) [.ite (.or (.cmp .gt (.b1 .len (.slot 3)) (.cst (.int 60))) (.cmp .gt (.slot 4) (.cst (.int 12)))) [.ret (.cst (.bl false))] [],
    .ite (.cmp .in_ (.idx (.slot 5) (.cst (.int 0))) (.tup [(.cst (.str ⟨#[115, 101, 116]⟩)), (.cst (.str ⟨#[100, 114, 97, 119]⟩))])) [.ex (.app (.slot 3) (.tup [(.idx (.slot 5) (.cst (.int 0))), (.idx (.slot 5) (.cst (.int 1))), (.ite (.cmp .eq (.idx (.slot 5) (.cst (.int 0))) (.cst (.str ⟨#[115, 101, 116]⟩))) (.idx (.slot 5) (.cst (.int 2))) (.tup []))]))] [.ite (.cmp .eq (.idx (.slot 5) (.cst (.int 0))) (.cst (.str ⟨#[99, 97, 108, 108]⟩))) [.set (.nm 6) (.b1 .len (.slot 3)),
    .ite (.not (.call 20 [(.slot 0), (.idx (.idx (.slot 0) (.cst (.int 2))) (.idx (.slot 5) (.cst (.int 1)))), (.slot 2), (.slot 3), (.bin .add (.slot 4) (.cst (.int 1)))])) [.ret (.cst (.bl false))] [],
    .for_ (.nm 7) (.of (.idx (.slot 5) (.cst (.int 2)))) [.ex (.app (.slot 3) (.tup [(.cst (.str ⟨#[98, 97, 99, 107]⟩)), (.slot 7), (.slot 6)]))]] [.ite (.not .bad) [.ret (.cst (.bl false))] []]]] γ')
    (I := fun i γ => ∃ x, γ = [.dat hall, .dat (.tup (bs.map bitD)), .dat (.lst []), .io (.l ((bs.take i).map lotD)), .dat (.int 0), x, .un, .un] ∧ canSet γ 5 = true) (ds := bs.map bitD) (k := 0) (γ := [.dat hall, .dat (.tup (bs.map bitD)), .dat (.lst []), .io (.l []), .dat (.int 0), .un, .un, .un]) ⟨.un, rfl, rfl⟩ (fun i d γ hd ⟨x, hγ, hx⟩ => by
      subst hγ
      rw [List.getElem?_map] at hd
      obtain ⟨b, hb, rfl⟩ := Option.map_eq_some_iff.mp hd
      have hi : i < bs.length := (List.getElem?_eq_some_iff.mp hb).1
      rw [show 0 + i = i by omega] at hx ⊢
      have ht : (bs.take (i + 1)).map lotD = (bs.take i).map lotD ++ [lotD b] := by rw [List.take_add_one, hb, List.map_append]; rfl
      have hlen : ((bs.take i).map lotD).length = i := by rw [List.length_map, List.length_take]; omega
      refine ⟨[.dat hall, .dat (.tup (bs.map bitD)), .dat (.lst []), .io (.l ((bs.take (i + 1)).map lotD)), .dat (.int 0), .dat (bitD b), .un, .un], turn_ok (γ1 := [.dat hall, .dat (.tup (bs.map bitD)), .dat (.lst []), .io (.l ((bs.take i).map lotD)), .dat (.int 0), .dat (bitD b), .un, .un]) ?_ ?_, ⟨_, rfl, rfl⟩⟩
      · cases x <;> first | rfl | exact Bool.noConfusion (show false = true from hx)
      · refine exB_nx (γ1 := [.dat hall, .dat (.tup (bs.map bitD)), .dat (.lst []), .io (.l ((bs.take i).map lotD)), .dat (.int 0), .dat (bitD b), .un, .un]) (exS_ite (k := false) (γ1 := [.dat hall, .dat (.tup (bs.map bitD)), .dat (.lst []), .io (.l ((bs.take i).map lotD)), .dat (.int 0), .dat (bitD b), .un, .un]) (ev_or (k := false) (γ1 := [.dat hall, .dat (.tup (bs.map bitD)), .dat (.lst []), .io (.l ((bs.take i).map lotD)), .dat (.int 0), .dat (bitD b), .un, .un]) ?_ (fun _ => rfl) nofun) nofun (fun _ => rfl)) ?_
        · rw [ev_gt (i := (((bs.take i).map lotD).length : Nat)) (j := 60) rfl rfl, decide_eq_false (by rw [hlen]; omega)]
        · refine exB_nx (exS_ite (k := true) (γ1 := [.dat hall, .dat (.tup (bs.map bitD)), .dat (.lst []), .io (.l ((bs.take i).map lotD)), .dat (.int 0), .dat (bitD b), .un, .un]) (by cases b <;> rfl) (fun _ => exB_nx (exS_ex (ev_app (x := .loc 3) (us := (bs.take i).map lotD) (d := lotD b) (y := .dat (lotD b)) (γ2 := [.dat hall, .dat (.tup (bs.map bitD)), .dat (.lst []), .io (.l ((bs.take i).map lotD)), .dat (.int 0), .dat (bitD b), .un, .un]) rfl rfl (by cases b <;> rfl) rfl (ds := (bs.take i).map lotD) rfl (by rw [hlen]; omega) rfl)) rfl) nofun) ?_
          rw [ht]
          rfl)
  rw [Nat.zero_add, List.length_map, List.take_length] at e1
  refine (callI_eq (tb := tb.fn) (f := 20) (fd := fd_law_go_bits) (fl := .rt (.dat (.bl true)) [.dat hall, .dat (.tup (bs.map bitD)), .dat (.lst []), .io (.l (bs.map lotD)), .dat (.int 0), x, .un, .un]) rfl rfl ?_).trans rfl
  exact exB_nx (exS_for (ds := bs.map bitD) rfl e1) (exB_rt (exS_ret rfl))
theorem go_ok {n : Nat} (s : D) {bs : List Bit} (hl : bs.length ≤ 50) : callI tb.fn (n + 2) 19 [.dat (hallD s bs), .dat (.tup [])] = some (.new (.l (bs.map lotD)), []) := by
  refine (callI_eq (tb := tb.fn) (f := 19) (fd := fd_law_go) (fl := .rt (.loc 2) [.dat (hallD s bs), .dat (.tup []), .own (.l (bs.map lotD)), .dat (.lst []), .dat (.bl true)]) rfl rfl ?_).trans rfl
  refine exB_nx (γ1 := [.dat (hallD s bs), .dat (.tup []), .own (.l []), .own (.l []), .un]) rfl ?_
  refine exB_nx (γ1 := [.dat (hallD s bs), .dat (.tup []), .own (.l []), .dat (.lst []), .un]) rfl ?_
  refine exB_nx (γ1 := [.dat (hallD s bs), .dat (.tup []), .own (.l (bs.map lotD)), .dat (.lst []), .dat (.bl true)]) (exS_set (x := .dat (.bl true)) (ev_call (γ1 := [.dat (hallD s bs), .dat (.tup []), .own (.l []), .dat (.lst []), .un]) (vs := [.dat (hallD s bs), .dat (.tup (bs.map bitD)), .dat (.lst []), .loc 2, .dat (.int 0)]) rfl rfl rfl (bits_go (n := n) (hallD s bs) hl) rfl) rfl) ?_
  exact exB_rt (exS_ret rfl)
end V86

/-! k86: vectors. -/
namespace V86
open PySem PySem.Spec PyProof.Rows L2 VY RI
def intsD (ns : List Int) : D := .tup (ns.map .int)
def plusV (c : Int) (xs ys : List Int) : List Int := List.zipWith (fun x y => (x + c * y) % 2) xs ys
def gP (c : Int) : D → D
  | .tup [.int x, .int y] => .int ((x + c * y) % 2)
  | d => d
theorem zip_ints (c : Int) : ∀ (xs ys : List Int), (zipD (xs.map .int) (ys.map .int)).map (gP c) = (plusV c xs ys).map .int
  | [], _ => rfl
  | _ :: _, [] => rfl
  | x :: xs, y :: ys => by
    show gP c (.tup [.int x, .int y]) :: (zipD (xs.map .int) (ys.map .int)).map (gP c) = _
    rw [zip_ints c xs ys]
    rfl
theorem zip_mem : ∀ {xs ys : List Int} {d : D}, d ∈ zipD (xs.map .int) (ys.map .int) → ∃ x y : Int, d = .tup [.int x, .int y]
  | [], _, d, h => by cases h
  | _ :: _, [], d, h => by cases h
  | x :: xs, y :: ys, d, h => by
    rcases List.mem_cons.mp (show d ∈ D.tup [.int x, .int y] :: zipD (xs.map .int) (ys.map .int) from h) with rfl | h
    · exact ⟨x, y, rfl⟩
    · exact zip_mem h
theorem plus_ok {n : Nat} {xs ys : List Int} {c : Int} (hc : -18446744073709551616 < c) (hc2 : c < 18446744073709551616) (hl : xs.length < 1000000) :
    callI tb.fn (n + 1) 21 [.dat (.int 2), .dat (intsD xs), .dat (intsD ys), .dat (.int c)] = some (.dat (intsD (plusV c xs ys)), []) := by
  have h := lcI_map (vs := [4, 5]) (js := [4, 5]) (pt := (Shp.two 4 5).parts) (fc := fun γ => some (true, γ)) (fe := ev (callI tb.fn n) (.bin .mod (.b1 .int (.bin .add (.slot 4) (.bin .mul (.slot 3) (.slot 5)))) (.slot 0))) (γ := [.dat (.int 2), .dat (intsD xs), .dat (intsD ys), .dat (.int c), .un, .un]) (g := gP c) rfl (ds := zipD (xs.map .int) (ys.map .int)) (acc := []) fun d hd => by
    obtain ⟨x, y, rfl⟩ := zip_mem hd
    exact ⟨[.int x, .int y], [.dat (.int 2), .dat (intsD xs), .dat (intsD ys), .dat (.int c), .dat (.int x), .dat (.int y)], (.dat (.int ((x + c * y) % 2)), [.dat (.int 2), .dat (intsD xs), .dat (intsD ys), .dat (.int c), .dat (.int x), .dat (.int y)]), rfl, rfl, ev_mod (ev_int (ev_add (i := x) (γ1 := [.dat (.int 2), .dat (intsD xs), .dat (intsD ys), .dat (.int c), .dat (.int x), .dat (.int y)]) rfl (ev_mulL (i := c) (j := y) rfl rfl hc hc2))) rfl (by decide), rfl, rfl⟩
  rw [List.nil_append, zip_ints] at h
  refine (callI_eq (tb := tb.fn) (f := 21) (fd := fd_law_plus) (fl := .rt (.dat (intsD (plusV c xs ys))) [.dat (.int 2), .dat (intsD xs), .dat (intsD ys), .dat (.int c), .un, .un]) rfl rfl ?_).trans rfl
  exact exB_rt (exS_ret (ev_b1 (x := .new (.l ((plusV c xs ys).map .int))) (ev_lc (ds := zipD (xs.map .int) (ys.map .int)) rfl (by rw [zipD_len, List.length_map, List.length_map]; omega) h) rfl))
/-- the unit vectors, the first held, by width -/
def unitV (w i : Nat) : List Int := (List.range w).map fun k => if k = i then 1 else 0
def zeroV (w : Nat) : List Int := List.replicate w 0
def firstV (w : Nat) : List (List Int) := [unitV w 1, plusV 1 (unitV w 0) (unitV w 1), zeroV w, zeroV w]
theorem unit_ok {n : Nat} {w i : Nat} (hw : w ≤ 6) (hi : i ≤ 6) : callI tb.fn (n + 1) 22 [.dat (.int (w : Nat)), .dat (.int (i : Nat))] = some (.dat (intsD (unitV w i)), []) := by
  match w, hw, i, hi with
  | 0, _, 0, _ | 0, _, 1, _ | 0, _, 2, _ | 0, _, 3, _ | 0, _, 4, _ | 0, _, 5, _ | 0, _, 6, _ => kernel_rfl
  | 1, _, 0, _ | 1, _, 1, _ | 1, _, 2, _ | 1, _, 3, _ | 1, _, 4, _ | 1, _, 5, _ | 1, _, 6, _ => kernel_rfl
  | 2, _, 0, _ | 2, _, 1, _ | 2, _, 2, _ | 2, _, 3, _ | 2, _, 4, _ | 2, _, 5, _ | 2, _, 6, _ => kernel_rfl
  | 3, _, 0, _ | 3, _, 1, _ | 3, _, 2, _ | 3, _, 3, _ | 3, _, 4, _ | 3, _, 5, _ | 3, _, 6, _ => kernel_rfl
  | 4, _, 0, _ | 4, _, 1, _ | 4, _, 2, _ | 4, _, 3, _ | 4, _, 4, _ | 4, _, 5, _ | 4, _, 6, _ => kernel_rfl
  | 5, _, 0, _ | 5, _, 1, _ | 5, _, 2, _ | 5, _, 3, _ | 5, _, 4, _ | 5, _, 5, _ | 5, _, 6, _ => kernel_rfl
  | 6, _, 0, _ | 6, _, 1, _ | 6, _, 2, _ | 6, _, 3, _ | 6, _, 4, _ | 6, _, 5, _ | 6, _, 6, _ => kernel_rfl
theorem first_ok {n : Nat} (s : D) (bs : List Bit) {w : Nat} (h2 : 2 ≤ w) (hw : w ≤ 6) : callI tb.fn (n + 2) 23 [.dat (hallD s bs), .dat (.int (w : Nat))] = some (.new (.l ((firstV w).map intsD)), []) := by
  match w, h2, hw with
  | 2, _, _ | 3, _, _ | 4, _, _ | 5, _, _ | 6, _, _ => kernel_rfl
end V86

/-! k86: what is shown. -/
namespace V86
open PySem PySem.Spec PyProof.Rows L2 VY RI
def dwB : D → Bool
  | .tup (.str x :: _) => decide (x = ⟨#[100, 114, 97, 119]⟩)
  | _ => false
theorem dw_lot (b : Bit) : dwB (lotD b) = isDr b := by cases b <;> rfl
theorem dw_filter (bs : List Bit) : ((bs.map lotD).filter dwB).length = bs.countP isDr := by
  rw [List.countP_eq_length_filter]
  induction bs with
  | nil => rfl
  | cons b bs ih =>
    rw [List.map_cons]
    cases h : isDr b with
    | true => rw [List.filter_cons_of_pos (by rw [dw_lot]; exact h), List.filter_cons_of_pos h, List.length_cons, List.length_cons, ih]
    | false => rw [List.filter_cons_of_neg (by rw [dw_lot, h]; exact Bool.false_ne_true), List.filter_cons_of_neg (by rw [h]; exact Bool.false_ne_true), ih]
theorem wideN_ok {n : Nat} (s : D) (bs0 : List Bit) {bs : List Bit} (hl : bs.length ≤ 50) : callI tb.fn (n + 1) 24 [.dat (hallD s bs0), .dat (.lst (bs.map lotD))] = some (.dat (.int (2 + (bs.countP isDr : Nat))), []) := by
  have h := lcI_filter (vs := [3]) (js := [3]) (pt := (Shp.one 3).parts) (fc := fun γ => evcW false (ev (callI tb.fn n) (.cmp .eq (.idx (.slot 3) (.cst (.int 0))) (.cst (.str ⟨#[100, 114, 97, 119]⟩))) γ) γ) (fe := ev (callI tb.fn n) (.slot 3)) (γ := [.dat (hallD s bs0), .dat (.lst (bs.map lotD)), .un, .un]) (g := id) (p := dwB) rfl (ds := bs.map lotD) (acc := []) fun d hd => by
    obtain ⟨b, _, rfl⟩ := List.mem_map.mp hd
    refine ⟨[lotD b], [.dat (hallD s bs0), .dat (.lst (bs.map lotD)), .un, .dat (lotD b)], rfl, by cases b <;> rfl, rfl, fun _ => ⟨(.dat (lotD b), [.dat (hallD s bs0), .dat (.lst (bs.map lotD)), .un, .dat (lotD b)]), rfl, rfl, rfl⟩⟩
  rw [List.nil_append, List.map_id] at h
  refine (callI_eq (tb := tb.fn) (f := 24) (fd := fd_law_wide) (fl := .rt (.dat (.int (2 + (bs.countP isDr : Nat)))) [.dat (hallD s bs0), .dat (.lst (bs.map lotD)), .un, .un]) rfl rfl ?_).trans rfl
  refine exB_rt (exS_ret (ev_add (i := 2) (γ1 := [.dat (hallD s bs0), .dat (.lst (bs.map lotD)), .un, .un]) rfl (ev_b1 (x := .new (.l ((bs.map lotD).filter dwB))) (ev_lc (ds := bs.map lotD) rfl (by rw [List.length_map]; omega) h) ?_)))
  show some (Dv.dat (.int (((bs.map lotD).filter dwB).length : Nat))) = _
  rw [dw_filter]
/-! ### the run -/
def at4 (held : List (List Int)) (k : Int) : List Int := held.getD k.toNat []
def newV (w : Nat) (held : List (List Int)) (ks : List Int) : List Int := ks.foldl (fun v k => plusV 1 v (at4 held k)) (zeroV w)
def entD (new old : List Int) (seen : List (List Int)) : D := .tup [intsD new, intsD old, .non, .lst (seen.map intsD)]
def runS (w : Nat) : List (List Int) → Nat → List Bit → List D
  | _, _, [] => []
  | held, fr, .dr r :: bs => entD (unitV w fr) (at4 held r) [] :: runS w (held.set r.toNat (unitV w fr)) (fr + 1) bs
  | held, fr, .st r ks :: bs => entD (newV w held ks) (at4 held r) (ks.map (at4 held)) :: runS w (held.set r.toNat (newV w held ks)) fr bs
def Reg (r : Int) : Prop := r = 0 ∨ r = 1 ∨ r = 2 ∨ r = 3
def BReg : Bit → Prop
  | .st r ks => Reg r ∧ ∀ k ∈ ks, Reg k
  | .dr r => Reg r
def cs : Dsc → Bool
  | .io _ => false
  | _ => true
theorem tg_nm {cal : Nat → List Ag → Option (Dv × List VY.T)} {γ γ' : List Dsc} {i : Nat} {d : D} (h : canSet γ i = true) (e : γ.set i (.dat d) = γ') : tgI cal (.nm i) (.dat d) γ = some γ' := by
  show gd (canSet γ i) (some (γ.set i (.dat d))) = _
  rw [gd_t h, e]
theorem put2 {γ γ' : List Dsc} {i j : Nat} {x y : Dv} {s t : Dsc} (h : canSet γ i = true) (h1 : dscOf x = some s) (h2 : canSet (γ.set i s) j = true) (h3 : dscOf y = some t) (e : (γ.set i s).set j t = γ') : putS γ [i, j] [x, y] = some γ' := by
  unfold putS
  rw [if_pos h, h1, Option.bind_some]
  unfold putS
  rw [if_pos h2, h3, Option.bind_some]
  unfold putS
  rw [e]
theorem mul0 {cal : Nat → List Ag → Option (Dv × List VY.T)} {w : Nat} (h2 : 2 ≤ w) (hw : w ≤ 6) (γ : List Dsc) : binI γ .mul (.dat (.tup [.int 0])) (.dat (.int (w : Nat))) = some (.dat (intsD (zeroV w))) := by
  match w, h2, hw with
  | 2, _, _ | 3, _, _ | 4, _, _ | 5, _, _ | 6, _, _ => kernel_rfl
end V86

/-! k86: shown, a deed at a time. -/
namespace V86
open PySem PySem.Spec PyProof.Rows L2 VY RI
def GS (H L : D) (w : Nat) (held : List (List Int)) (story found : List D) (fr : Nat) (x9 x10 x11 x12 x13 x14 x15 x16 : Dsc) : List Dsc :=
  [.dat H, .dat L, .dat (.int 2), .dat (.int (w : Nat)), .own (.l (held.map intsD)), .own (.cl (.dct [])), .own (.l story), .own (.l found), .dat (.int (fr : Nat)), x9, x10, x11, x12, x13, x14, x15, x16, .un]
def shTail : List RI.St := [.set (.nm 15) (.idx (.idx (.idx (.slot 0) (.cst (.int 0))) (.cst (.int 1))) (.slot 10)),
    .set (.nm 16) (.ite (.cmp .isN (.slot 15) (.cst .non)) (.cst .non) .bad),
    .frz 12,
    .ex (.app (.slot 7) (.tup [(.slot 13), (.idx (.slot 4) (.slot 10)), (.slot 16), (.slot 12)])),
    .set (.sub (.slot 4) (.slot 10)) (.slot 13),
    .ite (.cmp .notN (.slot 15) (.cst .non)) [.set (.sub (.slot 5) (.slot 15)) (.slot 13)] []]
theorem tail_ok {n : Nat} (s : D) (bs0 : List Bit) (L : D) (w : Nat) {held : List (List Int)} (hh : held.length = 4) {r : Int} (hr : Reg r) (story found : List D) (hf : found.length < 1000) (fr : Nat) (new : List Int) (seen : List (List Int)) {x9 x11 x14 x15 x16 : Dsc} (c15 : cs x15 = true) (c16 : cs x16 = true) :
    exB (callI tb.fn n) shTail (GS (hallD s bs0) L w held story found fr x9 (.dat (.int r)) x11 (.own (.l (seen.map intsD))) (.dat (intsD new)) x14 x15 x16) =
      some (.nx (GS (hallD s bs0) L w (held.set r.toNat new) story (found ++ [entD new (at4 held r) seen]) fr x9 (.dat (.int r)) x11 (.dat (.lst (seen.map intsD))) (.dat (intsD new)) x14 (.dat .non) (.dat .non))) := by
  match held, hh with
  | [h0, h1, h2, h3], _ =>
  have e15 : canSet (GS (hallD s bs0) L w [h0, h1, h2, h3] story found fr x9 (.dat (.int r)) x11 (.own (.l (seen.map intsD))) (.dat (intsD new)) x14 x15 x16) 15 = true := by cases x15 <;> first | rfl | exact Bool.noConfusion (show false = true from c15)
  have e16 : canSet (GS (hallD s bs0) L w [h0, h1, h2, h3] story found fr x9 (.dat (.int r)) x11 (.own (.l (seen.map intsD))) (.dat (intsD new)) x14 (.dat .non) x16) 16 = true := by cases x16 <;> first | rfl | exact Bool.noConfusion (show false = true from c16)
  rcases hr with rfl | rfl | rfl | rfl
  all_goals
    refine exB_nx (exS_set (x := .dat .non) rfl (tg_nm e15 rfl)) ?_
    refine exB_nx (exS_set (x := .dat .non) rfl (tg_nm e16 rfl)) ?_
    refine exB_nx (γ1 := GS (hallD s bs0) L w [h0, h1, h2, h3] story found fr x9 _ x11 (.dat (.lst (seen.map intsD))) (.dat (intsD new)) x14 (.dat .non) (.dat .non)) rfl ?_
    refine exB_nx (γ1 := GS (hallD s bs0) L w [h0, h1, h2, h3] story (found ++ [entD new _ seen]) fr x9 _ x11 (.dat (.lst (seen.map intsD))) (.dat (intsD new)) x14 (.dat .non) (.dat .non)) (exS_ex (ev_app (x := .loc 7) (us := found) (d := entD new _ seen) (y := .dat (entD new _ seen)) rfl rfl rfl rfl (ds := found) rfl (by omega) rfl)) ?_
    exact rfl
end V86

/-! k86: shown, whole. -/
namespace V86
open PySem PySem.Spec PyProof.Rows L2 VY RI
theorem tg3 {cal : Nat → List Ag → Option (Dv × List VY.T)} {γ γ1 γ2 γ3 : List Dsc} {i j k : Nat} {a b c : D} (h1 : canSet γ i = true) (e1 : γ.set i (.dat a) = γ1) (h2 : canSet γ1 j = true) (e2 : γ1.set j (.dat b) = γ2) (h3 : canSet γ2 k = true) (e3 : γ2.set k (.dat c) = γ3) : tgI cal (.tup [.nm i, .nm j, .nm k]) (.dat (.tup [a, b, c])) γ = some γ3 := by
  show (tgI cal (.nm i) (.dat a) γ).bind (fun γ' => (tgI cal (.nm j) (.dat b) γ').bind fun γ'' => (tgI cal (.nm k) (.dat c) γ'').bind fun γ3 => some γ3) = _
  rw [tg_nm h1 e1, Option.bind_some, tg_nm h2 e2, Option.bind_some, tg_nm h3 e3, Option.bind_some]
theorem cs_at {γ : List Dsc} {i : Nat} {x : Dsc} (h : γ[i]? = some x) (c : cs x = true) : canSet γ i = true := by
  unfold canSet
  rw [h]
  cases x <;> first | rfl | exact Bool.noConfusion (show false = true from c)
def foldV (held : List (List Int)) (ks : List Int) (v : List Int) : List Int := ks.foldl (fun v k => plusV 1 v (at4 held k)) v
theorem inner_ok {n : Nat} (H L : D) (w : Nat) {held : List (List Int)} (hh : held.length = 4) (story found : List D) (fr : Nat) (x9 x10 x11 x12 x15 x16 : Dsc) : ∀ (ks : List Int) (v : List Int) (x14 : Dsc), (∀ k ∈ ks, Reg k) → v.length < 1000000 → cs x14 = true → ∃ x14', cs x14' = true ∧
    forI (fun d γ => (tgI (callI tb.fn (n + 1)) (.nm 14) (.dat d) γ).bind fun γ' => exB (callI tb.fn (n + 1)) [.set (.nm 13) (.call 21 [(.slot 2), (.slot 13), (.idx (.slot 4) (.idx (.slot 14) (.cst (.int 0)))), (.idx (.slot 14) (.cst (.int 1)))])] γ') (ks.map partD) (GS H L w held story found fr x9 x10 x11 x12 (.dat (intsD v)) x14 x15 x16) = some (.nx (GS H L w held story found fr x9 x10 x11 x12 (.dat (intsD (foldV held ks v))) x14' x15 x16))
  | [], v, x14, _, _, c => ⟨x14, c, rfl⟩
  | k :: ks, v, x14, hk, hv, c => by
    have hl : (plusV 1 v (at4 held k)).length < 1000000 := by unfold plusV; rw [List.length_zipWith]; omega
    obtain ⟨x', c', e⟩ := inner_ok (n := n) H L w hh story found fr x9 x10 x11 x12 x15 x16 ks (plusV 1 v (at4 held k)) (.dat (partD k)) (fun j hj => hk j (List.mem_cons_of_mem _ hj)) hl rfl
    have s0 : evs (callI tb.fn (n + 1)) [(.slot 2), (.slot 13), (.idx (.slot 4) (.idx (.slot 14) (.cst (.int 0)))), (.idx (.slot 14) (.cst (.int 1)))] (GS H L w held story found fr x9 x10 x11 x12 (.dat (intsD v)) (.dat (partD k)) x15 x16) = some ([.dat (.int 2), .dat (intsD v), .dat (intsD (at4 held k)), .dat (.int 1)], GS H L w held story found fr x9 x10 x11 x12 (.dat (intsD v)) (.dat (partD k)) x15 x16) := by
      match held, hh with
      | [h0, h1, h2, h3], _ => rcases hk k List.mem_cons_self with rfl | rfl | rfl | rfl <;> kernel_rfl
    have s1 : tgI (callI tb.fn (n + 1)) (.nm 14) (.dat (partD k)) (GS H L w held story found fr x9 x10 x11 x12 (.dat (intsD v)) x14 x15 x16) = some (GS H L w held story found fr x9 x10 x11 x12 (.dat (intsD v)) (.dat (partD k)) x15 x16) := tg_nm (cs_at (x := x14) (by kernel_rfl) c) (by kernel_rfl)
    have s2 := ev_call (cal := callI tb.fn (n + 1)) (f := 21) (as := [.dat (.int 2), .dat (intsD v), .dat (intsD (at4 held k)), .dat (.int 1)]) s0 (by kernel_rfl) (by kernel_rfl) (plus_ok (n := n) (xs := v) (ys := at4 held k) (c := 1) (by decide) (by decide) hv) (by kernel_rfl)
    have s3 : tgI (callI tb.fn (n + 1)) (.nm 13) (.dat (intsD (plusV 1 v (at4 held k)))) (putP (GS H L w held story found fr x9 x10 x11 x12 (.dat (intsD v)) (.dat (partD k)) x15 x16) (plOf [.dat (.int 2), .dat (intsD v), .dat (intsD (at4 held k)), .dat (.int 1)]) []) = some (GS H L w held story found fr x9 x10 x11 x12 (.dat (intsD (plusV 1 v (at4 held k)))) (.dat (partD k)) x15 x16) := by kernel_rfl
    have s4 := exB_nx (ss := []) (exS_set s2 s3) (fl := .nx (GS H L w held story found fr x9 x10 x11 x12 (.dat (intsD (plusV 1 v (at4 held k)))) (.dat (partD k)) x15 x16)) (by kernel_rfl)
    exact ⟨x', c', (forI_nx (turn_ok s1 s4)).trans e⟩
def seenG (held : List (List Int)) : D → D
  | .tup (.int k :: _) => intsD (at4 held k)
  | d => d
theorem seen_ok {n : Nat} (H : D) (L : D) (w : Nat) {held : List (List Int)} (hh : held.length = 4) (story found : List D) (fr : Nat) (x9 x10 x12 x13 x14 x15 x16 : Dsc) {ks : List Int} (hk : ∀ k ∈ ks, Reg k) (hkl : ks.length < 1000000) (c : cs x14 = true) :
    ev (callI tb.fn n) (.lc [("its", 14)] (.one 14) (.of (.slot 11)) .no (.idx (.slot 4) (.idx (.slot 14) (.cst (.int 0))))) (GS H L w held story found fr x9 x10 (.dat (.tup (ks.map partD))) x12 x13 x14 x15 x16) = some (.new (.l ((ks.map (at4 held)).map intsD)), GS H L w held story found fr x9 x10 (.dat (.tup (ks.map partD))) x12 x13 x14 x15 x16) := by
  have cc : ([14] : List Nat).all (canSet (GS H L w held story found fr x9 x10 (.dat (.tup (ks.map partD))) x12 x13 x14 x15 x16)) = true := by
    show (canSet _ 14 && true) = true
    rw [cs_at (x := x14) rfl c]
    rfl
  have h := lcI_map (vs := [14]) (js := [14]) (pt := (Shp.one 14).parts) (fc := fun γ => some (true, γ)) (fe := ev (callI tb.fn n) (.idx (.slot 4) (.idx (.slot 14) (.cst (.int 0))))) (γ := GS H L w held story found fr x9 x10 (.dat (.tup (ks.map partD))) x12 x13 x14 x15 x16) (g := seenG held) cc (ds := ks.map partD) (acc := []) fun d hd => by
    obtain ⟨k, hm, rfl⟩ := List.mem_map.mp hd
    refine ⟨[partD k], GS H L w held story found fr x9 x10 (.dat (.tup (ks.map partD))) x12 x13 (.dat (partD k)) x15 x16, (.dat (intsD (at4 held k)), GS H L w held story found fr x9 x10 (.dat (.tup (ks.map partD))) x12 x13 (.dat (partD k)) x15 x16), by kernel_rfl, by kernel_rfl, ?_, by kernel_rfl, by kernel_rfl⟩
    match held, hh with
    | [h0, h1, h2, h3], _ => rcases hk k hm with rfl | rfl | rfl | rfl <;> kernel_rfl
  rw [List.nil_append, List.map_map, show (seenG held ∘ partD) = (fun k => intsD (at4 held k)) from rfl] at h
  rw [List.map_map]
  exact ev_lc (ds := ks.map partD) rfl (by rw [List.length_map]; exact hkl) h
def nextH (w : Nat) (held : List (List Int)) (fr : Nat) : Bit → List (List Int)
  | .dr r => held.set r.toNat (unitV w fr)
  | .st r ks => held.set r.toNat (newV w held ks)
def nextF (fr : Nat) : Bit → Nat
  | .dr _ => fr + 1
  | .st _ _ => fr
def entOf (w : Nat) (held : List (List Int)) (fr : Nat) : Bit → D
  | .dr r => entD (unitV w fr) (at4 held r) []
  | .st r ks => entD (newV w held ks) (at4 held r) (ks.map (at4 held))
theorem run_cons {w : Nat} {held : List (List Int)} {fr : Nat} {b : Bit} {bs : List Bit} : runS w held fr (b :: bs) = entOf w held fr b :: runS w (nextH w held fr b) (nextF fr b) bs := by cases b <;> rfl
end V86

/-! k86: a turn of shown. -/
namespace V86
open PySem PySem.Spec PyProof.Rows L2 VY RI
def shBody : List RI.St := .ex (.app (.slot 6) (.b1 .list (.slot 4))) :: .set (.nm 12) (.lst []) ::
    .ite (.cmp .eq (.slot 9) (.cst (.str ⟨#[100, 114, 97, 119]⟩))) [.par [13, 8] [(.call 22 [(.slot 3), (.slot 8)]), (.bin .add (.slot 8) (.cst (.int 1)))]] [.ite (.cmp .eq (.slot 9) (.cst (.str ⟨#[98, 97, 99, 107]⟩))) [.set (.nm 13) (.idx (.idx (.slot 6) (.slot 11)) (.slot 10))] [.par [13, 12] [(.bin .mul (.tup [(.cst (.int 0))]) (.slot 3)), (.lc [("its", 14)] (.one 14) (.of (.slot 11)) .no (.idx (.slot 4) (.idx (.slot 14) (.cst (.int 0)))))],
    .for_ (.nm 14) (.of (.slot 11)) [.set (.nm 13) (.call 21 [(.slot 2), (.slot 13), (.idx (.slot 4) (.idx (.slot 14) (.cst (.int 0)))), (.idx (.slot 14) (.cst (.int 1)))])]]] :: shTail
/-- what may be set of the eight -/
structure C8 (x9 x10 x11 x12 x13 x14 x15 x16 : Dsc) : Prop where
  c9 : cs x9 = true
  c10 : cs x10 = true
  c11 : cs x11 = true
  c12 : cs x12 = true
  c13 : cs x13 = true
  c14 : cs x14 = true
  c15 : cs x15 = true
  c16 : cs x16 = true
theorem dr_turn {n : Nat} (s : D) (bs0 : List Bit) (L : D) {w : Nat} (hw : w ≤ 6) {held : List (List Int)} (hh : held.length = 4) {r : Int} (hr : Reg r) (story found : List D) (hs : story.length < 1000) (hf : found.length < 1000) {fr : Nat} (hfr : fr ≤ 6) {x9 x10 x11 x12 x13 x14 x15 x16 : Dsc} (c : C8 x9 x10 x11 x12 x13 x14 x15 x16) :
    (tgI (callI tb.fn (n + 1)) (.tup [.nm 9, .nm 10, .nm 11]) (.dat (lotD (.dr r))) (GS (hallD s bs0) L w held story found fr x9 x10 x11 x12 x13 x14 x15 x16)).bind (fun γ' => exB (callI tb.fn (n + 1)) shBody γ') =
      some (.nx (GS (hallD s bs0) L w (nextH w held fr (.dr r)) (story ++ [.lst (held.map intsD)]) (found ++ [entOf w held fr (.dr r)]) (nextF fr (.dr r)) (.dat sDraw) (.dat (.int r)) (.dat (.tup [])) (.dat (.lst [])) (.dat (intsD (unitV w fr))) x14 (.dat .non) (.dat .non))) := by
  have t := tg3 (cal := callI tb.fn (n + 1)) (γ := GS (hallD s bs0) L w held story found fr x9 x10 x11 x12 x13 x14 x15 x16) (a := sDraw) (b := .int r) (c := .tup []) (i := 9) (j := 10) (k := 11) (γ1 := GS (hallD s bs0) L w held story found fr (.dat sDraw) x10 x11 x12 x13 x14 x15 x16) (γ2 := GS (hallD s bs0) L w held story found fr (.dat sDraw) (.dat (.int r)) x11 x12 x13 x14 x15 x16) (γ3 := GS (hallD s bs0) L w held story found fr (.dat sDraw) (.dat (.int r)) (.dat (.tup [])) x12 x13 x14 x15 x16)
    (cs_at (x := x9) (by kernel_rfl) c.c9) (by kernel_rfl) (cs_at (x := x10) (by kernel_rfl) c.c10) (by kernel_rfl) (cs_at (x := x11) (by kernel_rfl) c.c11) (by kernel_rfl)
  refine turn_ok t ?_
  refine exB_nx (γ1 := GS (hallD s bs0) L w held (story ++ [.lst (held.map intsD)]) found fr (.dat sDraw) (.dat (.int r)) (.dat (.tup [])) x12 x13 x14 x15 x16) (exS_ex (ev_app (x := .loc 6) (us := story) (d := .lst (held.map intsD)) (y := .new (.l (held.map intsD))) (γ1 := GS (hallD s bs0) L w held story found fr (.dat sDraw) (.dat (.int r)) (.dat (.tup [])) x12 x13 x14 x15 x16) (γ2 := GS (hallD s bs0) L w held story found fr (.dat sDraw) (.dat (.int r)) (.dat (.tup [])) x12 x13 x14 x15 x16) (by kernel_rfl) (by kernel_rfl) (by kernel_rfl) (by kernel_rfl) (ds := story) (by kernel_rfl) (by omega) (by kernel_rfl))) ?_
  have c12 : canSet (GS (hallD s bs0) L w held (story ++ [.lst (held.map intsD)]) found fr (.dat sDraw) (.dat (.int r)) (.dat (.tup [])) x12 x13 x14 x15 x16) 12 = true := cs_at (x := x12) (by kernel_rfl) c.c12
  refine exB_nx (γ1 := GS (hallD s bs0) L w held (story ++ [.lst (held.map intsD)]) found fr (.dat sDraw) (.dat (.int r)) (.dat (.tup [])) (.own (.l [])) x13 x14 x15 x16) (exS_set (x := .new (.l [])) (γ1 := GS (hallD s bs0) L w held (story ++ [.lst (held.map intsD)]) found fr (.dat sDraw) (.dat (.int r)) (.dat (.tup [])) x12 x13 x14 x15 x16) (by kernel_rfl) ((gd_t c12).trans (by kernel_rfl))) ?_
  have c13 : canSet (GS (hallD s bs0) L w held (story ++ [.lst (held.map intsD)]) found fr (.dat sDraw) (.dat (.int r)) (.dat (.tup [])) (.own (.l [])) x13 x14 x15 x16) 13 = true := cs_at (x := x13) (by kernel_rfl) c.c13
  have u := ev_call (cal := callI tb.fn (n + 1)) (f := 22) (es := [(.slot 3), (.slot 8)]) (γ := GS (hallD s bs0) L w held (story ++ [.lst (held.map intsD)]) found fr (.dat sDraw) (.dat (.int r)) (.dat (.tup [])) (.own (.l [])) x13 x14 x15 x16) (γ1 := GS (hallD s bs0) L w held (story ++ [.lst (held.map intsD)]) found fr (.dat sDraw) (.dat (.int r)) (.dat (.tup [])) (.own (.l [])) x13 x14 x15 x16) (vs := [.dat (.int (w : Nat)), .dat (.int (fr : Nat))]) (as := [.dat (.int (w : Nat)), .dat (.int (fr : Nat))]) (by kernel_rfl) (by kernel_rfl) (by kernel_rfl) (unit_ok (n := n) hw hfr) (by kernel_rfl)
  have p := put2 (γ := GS (hallD s bs0) L w held (story ++ [.lst (held.map intsD)]) found fr (.dat sDraw) (.dat (.int r)) (.dat (.tup [])) (.own (.l [])) x13 x14 x15 x16) (i := 13) (j := 8) (x := .dat (intsD (unitV w fr))) (y := .dat (.int ((fr : Int) + 1))) (s := .dat (intsD (unitV w fr))) (t := .dat (.int ((fr : Int) + 1))) (γ' := GS (hallD s bs0) L w held (story ++ [.lst (held.map intsD)]) found (fr + 1) (.dat sDraw) (.dat (.int r)) (.dat (.tup [])) (.own (.l [])) (.dat (intsD (unitV w fr))) x14 x15 x16) c13 (by kernel_rfl) (by kernel_rfl) (by kernel_rfl) (by kernel_rfl)
  have q : evn (callI tb.fn (n + 1)) [(.call 22 [(.slot 3), (.slot 8)]), (.bin .add (.slot 8) (.cst (.int 1)))] (GS (hallD s bs0) L w held (story ++ [.lst (held.map intsD)]) found fr (.dat sDraw) (.dat (.int r)) (.dat (.tup [])) (.own (.l [])) x13 x14 x15 x16) = some ([.dat (intsD (unitV w fr)), .dat (.int ((fr : Int) + 1))], GS (hallD s bs0) L w held (story ++ [.lst (held.map intsD)]) found fr (.dat sDraw) (.dat (.int r)) (.dat (.tup [])) (.own (.l [])) x13 x14 x15 x16) := evn_cons u (evn_cons (x := .dat (.int ((fr : Int) + 1))) (γ1 := GS (hallD s bs0) L w held (story ++ [.lst (held.map intsD)]) found fr (.dat sDraw) (.dat (.int r)) (.dat (.tup [])) (.own (.l [])) x13 x14 x15 x16) (γ2 := GS (hallD s bs0) L w held (story ++ [.lst (held.map intsD)]) found fr (.dat sDraw) (.dat (.int r)) (.dat (.tup [])) (.own (.l [])) x13 x14 x15 x16) (vs := []) (by kernel_rfl) (by kernel_rfl))
  refine exB_nx (γ1 := GS (hallD s bs0) L w held (story ++ [.lst (held.map intsD)]) found (fr + 1) (.dat sDraw) (.dat (.int r)) (.dat (.tup [])) (.own (.l [])) (.dat (intsD (unitV w fr))) x14 x15 x16) (exS_ite (k := true) (γ1 := GS (hallD s bs0) L w held (story ++ [.lst (held.map intsD)]) found fr (.dat sDraw) (.dat (.int r)) (.dat (.tup [])) (.own (.l [])) x13 x14 x15 x16) (by kernel_rfl) (fun _ => exB_nx (exS_par q p) (by kernel_rfl)) nofun) ?_
  exact tail_ok (n := n + 1) s bs0 L w hh hr (story ++ [.lst (held.map intsD)]) found hf (fr + 1) (unitV w fr) [] c.c15 c.c16
end V86

/-! k86: a turn of shown at a set. -/
namespace V86
open PySem PySem.Spec PyProof.Rows L2 VY RI
theorem st_turn {n : Nat} (s : D) (bs0 : List Bit) (L : D) {w : Nat} (h2 : 2 ≤ w) (hw : w ≤ 6) {held : List (List Int)} (hh : held.length = 4) {r : Int} (hr : Reg r) {ks : List Int} (hk : ∀ k ∈ ks, Reg k) (hkl : ks.length < 1000000) (story found : List D) (hs : story.length < 1000) (hf : found.length < 1000) {fr : Nat} {x9 x10 x11 x12 x13 x14 x15 x16 : Dsc} (c : C8 x9 x10 x11 x12 x13 x14 x15 x16) :
    ∃ y14, cs y14 = true ∧ (tgI (callI tb.fn (n + 1)) (.tup [.nm 9, .nm 10, .nm 11]) (.dat (lotD (.st r ks))) (GS (hallD s bs0) L w held story found fr x9 x10 x11 x12 x13 x14 x15 x16)).bind (fun γ' => exB (callI tb.fn (n + 1)) shBody γ') =
      some (.nx (GS (hallD s bs0) L w (nextH w held fr (.st r ks)) (story ++ [.lst (held.map intsD)]) (found ++ [entOf w held fr (.st r ks)]) (nextF fr (.st r ks)) (.dat sSet) (.dat (.int r)) (.dat (.tup (ks.map partD))) (.dat (.lst ((ks.map (at4 held)).map intsD))) (.dat (intsD (newV w held ks))) y14 (.dat .non) (.dat .non))) := by
  have hz : (zeroV w).length < 1000000 := by unfold zeroV; rw [List.length_replicate]; omega
  obtain ⟨y14, cy, lp⟩ := inner_ok (n := n) (hallD s bs0) L w hh (story ++ [.lst (held.map intsD)]) found fr (.dat sSet) (.dat (.int r)) (.dat (.tup (ks.map partD))) (.own (.l ((ks.map (at4 held)).map intsD))) x15 x16 ks (zeroV w) x14 hk hz c.c14
  refine ⟨y14, cy, ?_⟩
  have t := tg3 (cal := callI tb.fn (n + 1)) (γ := GS (hallD s bs0) L w held story found fr x9 x10 x11 x12 x13 x14 x15 x16) (a := sSet) (b := .int r) (c := .tup (ks.map partD)) (i := 9) (j := 10) (k := 11) (γ1 := GS (hallD s bs0) L w held story found fr (.dat sSet) x10 x11 x12 x13 x14 x15 x16) (γ2 := GS (hallD s bs0) L w held story found fr (.dat sSet) (.dat (.int r)) x11 x12 x13 x14 x15 x16) (γ3 := GS (hallD s bs0) L w held story found fr (.dat sSet) (.dat (.int r)) (.dat (.tup (ks.map partD))) x12 x13 x14 x15 x16)
    (cs_at (x := x9) (by kernel_rfl) c.c9) (by kernel_rfl) (cs_at (x := x10) (by kernel_rfl) c.c10) (by kernel_rfl) (cs_at (x := x11) (by kernel_rfl) c.c11) (by kernel_rfl)
  refine turn_ok t ?_
  refine exB_nx (γ1 := GS (hallD s bs0) L w held (story ++ [.lst (held.map intsD)]) found fr (.dat sSet) (.dat (.int r)) (.dat (.tup (ks.map partD))) x12 x13 x14 x15 x16) (exS_ex (ev_app (x := .loc 6) (us := story) (d := .lst (held.map intsD)) (y := .new (.l (held.map intsD))) (γ1 := GS (hallD s bs0) L w held story found fr (.dat sSet) (.dat (.int r)) (.dat (.tup (ks.map partD))) x12 x13 x14 x15 x16) (γ2 := GS (hallD s bs0) L w held story found fr (.dat sSet) (.dat (.int r)) (.dat (.tup (ks.map partD))) x12 x13 x14 x15 x16) (by kernel_rfl) (by kernel_rfl) (by kernel_rfl) (by kernel_rfl) (ds := story) (by kernel_rfl) (by omega) (by kernel_rfl))) ?_
  have c12 : canSet (GS (hallD s bs0) L w held (story ++ [.lst (held.map intsD)]) found fr (.dat sSet) (.dat (.int r)) (.dat (.tup (ks.map partD))) x12 x13 x14 x15 x16) 12 = true := cs_at (x := x12) (by kernel_rfl) c.c12
  refine exB_nx (γ1 := GS (hallD s bs0) L w held (story ++ [.lst (held.map intsD)]) found fr (.dat sSet) (.dat (.int r)) (.dat (.tup (ks.map partD))) (.own (.l [])) x13 x14 x15 x16) (exS_set (x := .new (.l [])) (γ1 := GS (hallD s bs0) L w held (story ++ [.lst (held.map intsD)]) found fr (.dat sSet) (.dat (.int r)) (.dat (.tup (ks.map partD))) x12 x13 x14 x15 x16) (by kernel_rfl) ((gd_t c12).trans (by kernel_rfl))) ?_
  have c13 : canSet (GS (hallD s bs0) L w held (story ++ [.lst (held.map intsD)]) found fr (.dat sSet) (.dat (.int r)) (.dat (.tup (ks.map partD))) (.own (.l [])) x13 x14 x15 x16) 13 = true := cs_at (x := x13) (by kernel_rfl) c.c13
  have u1 := ev_bin (cal := callI tb.fn (n + 1)) (op := .mul) (a := .tup [(.cst (.int 0))]) (b := .slot 3) (γ := GS (hallD s bs0) L w held (story ++ [.lst (held.map intsD)]) found fr (.dat sSet) (.dat (.int r)) (.dat (.tup (ks.map partD))) (.own (.l [])) x13 x14 x15 x16) (γ1 := GS (hallD s bs0) L w held (story ++ [.lst (held.map intsD)]) found fr (.dat sSet) (.dat (.int r)) (.dat (.tup (ks.map partD))) (.own (.l [])) x13 x14 x15 x16) (γ2 := GS (hallD s bs0) L w held (story ++ [.lst (held.map intsD)]) found fr (.dat sSet) (.dat (.int r)) (.dat (.tup (ks.map partD))) (.own (.l [])) x13 x14 x15 x16) (x := .dat (.tup [.int 0])) (y := .dat (.int (w : Nat))) (by kernel_rfl) (by kernel_rfl) (mul0 (cal := callI tb.fn n) h2 hw _)
  have u2 := seen_ok (n := n + 1) (hallD s bs0) L w hh (story ++ [.lst (held.map intsD)]) found fr (.dat sSet) (.dat (.int r)) (.own (.l [])) x13 x14 x15 x16 hk hkl c.c14
  have q := evn_cons u1 (evn_cons (es := []) (vs := []) (γ2 := GS (hallD s bs0) L w held (story ++ [.lst (held.map intsD)]) found fr (.dat sSet) (.dat (.int r)) (.dat (.tup (ks.map partD))) (.own (.l [])) x13 x14 x15 x16) u2 (by kernel_rfl))
  have p := put2 (γ := GS (hallD s bs0) L w held (story ++ [.lst (held.map intsD)]) found fr (.dat sSet) (.dat (.int r)) (.dat (.tup (ks.map partD))) (.own (.l [])) x13 x14 x15 x16) (i := 13) (j := 12) (x := .dat (intsD (zeroV w))) (y := .new (.l ((ks.map (at4 held)).map intsD))) (s := .dat (intsD (zeroV w))) (t := .own (.l ((ks.map (at4 held)).map intsD))) (γ' := GS (hallD s bs0) L w held (story ++ [.lst (held.map intsD)]) found fr (.dat sSet) (.dat (.int r)) (.dat (.tup (ks.map partD))) (.own (.l ((ks.map (at4 held)).map intsD))) (.dat (intsD (zeroV w))) x14 x15 x16) c13 (by kernel_rfl) (by kernel_rfl) (by kernel_rfl) (by kernel_rfl)
  have f := exS_for (t := .nm 14) (it := .of (.slot 11)) (γ := GS (hallD s bs0) L w held (story ++ [.lst (held.map intsD)]) found fr (.dat sSet) (.dat (.int r)) (.dat (.tup (ks.map partD))) (.own (.l ((ks.map (at4 held)).map intsD))) (.dat (intsD (zeroV w))) x14 x15 x16) (ds := ks.map partD) (by kernel_rfl) lp
  refine exB_nx (γ1 := GS (hallD s bs0) L w held (story ++ [.lst (held.map intsD)]) found fr (.dat sSet) (.dat (.int r)) (.dat (.tup (ks.map partD))) (.own (.l ((ks.map (at4 held)).map intsD))) (.dat (intsD (foldV held ks (zeroV w)))) y14 x15 x16) (exS_ite (k := false) (γ1 := GS (hallD s bs0) L w held (story ++ [.lst (held.map intsD)]) found fr (.dat sSet) (.dat (.int r)) (.dat (.tup (ks.map partD))) (.own (.l [])) x13 x14 x15 x16) (by kernel_rfl) nofun (fun _ => exB_nx (γ1 := GS (hallD s bs0) L w held (story ++ [.lst (held.map intsD)]) found fr (.dat sSet) (.dat (.int r)) (.dat (.tup (ks.map partD))) (.own (.l ((ks.map (at4 held)).map intsD))) (.dat (intsD (foldV held ks (zeroV w)))) y14 x15 x16) (exS_ite (k := false) (γ1 := GS (hallD s bs0) L w held (story ++ [.lst (held.map intsD)]) found fr (.dat sSet) (.dat (.int r)) (.dat (.tup (ks.map partD))) (.own (.l [])) x13 x14 x15 x16) (by kernel_rfl) nofun (fun _ => exB_nx (exS_par q p) (exB_nx (γ1 := GS (hallD s bs0) L w held (story ++ [.lst (held.map intsD)]) found fr (.dat sSet) (.dat (.int r)) (.dat (.tup (ks.map partD))) (.own (.l ((ks.map (at4 held)).map intsD))) (.dat (intsD (foldV held ks (zeroV w)))) y14 x15 x16) f (by kernel_rfl)))) (by kernel_rfl))) ?_
  exact tail_ok (n := n + 1) s bs0 L w hh hr (story ++ [.lst (held.map intsD)]) found hf fr (foldV held ks (zeroV w)) (ks.map (at4 held)) c.c15 c.c16
end V86

/-! k86: the law on bits. -/
namespace V86
/-! ### vectors of bits -/
abbrev BV := List Bool
def xr (a b : BV) : BV := List.zipWith xor a b
def zB (w : Nat) : BV := List.replicate w false
def uB (w i : Nat) : BV := (List.range w).map fun k => decide (k = i)
def atB (held : List BV) (k : Int) : BV := held.getD k.toNat []
def newB (w : Nat) (held : List BV) (ks : List Int) : BV := ks.foldl (fun v k => xr v (atB held k)) (zB w)
structure En where
  new : BV
  old : BV
  seen : List BV
def nxH (w : Nat) (held : List BV) (fr : Nat) : Bit → List BV
  | .dr r => held.set r.toNat (uB w fr)
  | .st r ks => held.set r.toNat (newB w held ks)
def nxF (fr : Nat) : Bit → Nat
  | .dr _ => fr + 1
  | .st _ _ => fr
def enOf (w : Nat) (held : List BV) (fr : Nat) : Bit → En
  | .dr r => ⟨uB w fr, atB held r, []⟩
  | .st r ks => ⟨newB w held ks, atB held r, ks.map (atB held)⟩
def runB (w : Nat) : List BV → Nat → List Bit → List En
  | _, _, [] => []
  | held, fr, b :: bs => enOf w held fr b :: runB w (nxH w held fr b) (nxF fr b) bs
/-! ### what is dropped -/
def pj : List Bool → BV → BV
  | m :: ms, x :: xs => if m = true then x :: pj ms xs else pj ms xs
  | _, _ => []
theorem pj_nil : ∀ ms, pj ms [] = []
  | [] => rfl
  | _ :: _ => rfl
theorem pj_xr : ∀ (ms : List Bool) (a b : BV), pj ms (xr a b) = xr (pj ms a) (pj ms b)
  | [], a, b => rfl
  | m :: ms, [], b => rfl
  | m :: ms, x :: xs, [] => by
    show pj _ [] = xr _ (pj _ [])
    rw [pj_nil]
    unfold xr
    rw [List.zipWith_nil_right]
  | m :: ms, x :: xs, y :: ys => by
    have ih := pj_xr ms xs ys
    show pj (m :: ms) (xor x y :: xr xs ys) = xr (pj (m :: ms) (x :: xs)) (pj (m :: ms) (y :: ys))
    cases m with
    | true => show xor x y :: pj ms (xr xs ys) = xor x y :: xr (pj ms xs) (pj ms ys); rw [ih]
    | false => exact ih
def kept (ms : List Bool) : Nat := ms.countP id
theorem pj_z : ∀ ms : List Bool, pj ms (zB ms.length) = zB (kept ms)
  | [] => rfl
  | true :: ms => by
    show false :: pj ms (zB ms.length) = zB (kept (true :: ms))
    rw [pj_z ms]
    unfold kept
    rw [List.countP_cons]
    rfl
  | false :: ms => by
    show pj ms (zB ms.length) = zB (kept (false :: ms))
    rw [pj_z ms]
    unfold kept
    rw [List.countP_cons]
    rfl
theorem u_zero (w : Nat) : uB (w + 1) 0 = true :: zB w := by
  unfold uB zB
  rw [List.range_succ_eq_map, List.map_cons, List.map_map]
  congr 1
  rw [List.eq_replicate_iff]
  refine ⟨by simp, fun b hb => ?_⟩
  obtain ⟨k, _, rfl⟩ := List.mem_map.mp hb
  simp
theorem u_succ (w i : Nat) : uB (w + 1) (i + 1) = false :: uB w i := by
  unfold uB
  rw [List.range_succ_eq_map, List.map_cons, List.map_map]
  congr 1
  exact List.map_congr_left fun k _ => by simp
/-- a unit kept -/
theorem pj_uT : ∀ (pre post : List Bool), pj (pre ++ true :: post) (uB (pre.length + (post.length + 1)) pre.length) = uB (kept (pre ++ true :: post)) (kept pre)
  | [], post => by
    show pj (true :: post) (uB (0 + (post.length + 1)) 0) = _
    rw [Nat.zero_add, u_zero]
    show true :: pj post (zB post.length) = _
    rw [pj_z]
    unfold kept
    rw [List.nil_append, List.countP_cons]
    exact (u_zero _).symm
  | m :: pre, post => by
    have ih := pj_uT pre post
    have e : (m :: pre).length + (post.length + 1) = (pre.length + (post.length + 1)) + 1 := by rw [List.length_cons]; omega
    rw [e, List.length_cons, u_succ, List.cons_append]
    cases m with
    | true =>
      show false :: pj (pre ++ true :: post) _ = _
      rw [ih]
      unfold kept
      rw [List.countP_cons, List.countP_cons]
      exact (u_succ _ _).symm
    | false =>
      show pj (pre ++ true :: post) _ = _
      rw [ih]
      unfold kept
      rw [List.countP_cons, List.countP_cons]
      rfl
/-- a unit dropped -/
theorem pj_uF : ∀ (pre post : List Bool), pj (pre ++ false :: post) (uB (pre.length + (post.length + 1)) pre.length) = zB (kept (pre ++ false :: post))
  | [], post => by
    show pj (false :: post) (uB (0 + (post.length + 1)) 0) = _
    rw [Nat.zero_add, u_zero]
    show pj post (zB post.length) = _
    rw [pj_z]
    unfold kept
    rw [List.nil_append, List.countP_cons]
    rfl
  | m :: pre, post => by
    have ih := pj_uF pre post
    have e : (m :: pre).length + (post.length + 1) = (pre.length + (post.length + 1)) + 1 := by rw [List.length_cons]; omega
    rw [e, List.length_cons, u_succ, List.cons_append]
    cases m with
    | true =>
      show false :: pj (pre ++ false :: post) _ = _
      rw [ih]
      unfold kept
      rw [List.countP_cons]
      rfl
    | false =>
      show pj (pre ++ false :: post) _ = _
      rw [ih]
      unfold kept
      rw [List.countP_cons]
      rfl
theorem xr_z : ∀ (v : BV), xr (zB v.length) v = v
  | [] => rfl
  | x :: xs => by
    show xor false x :: xr (zB xs.length) xs = _
    rw [xr_z xs, Bool.false_xor]
theorem xr_zr : ∀ (v : BV), xr v (zB v.length) = v
  | [] => rfl
  | x :: xs => by
    show xor x false :: xr xs (zB xs.length) = _
    rw [xr_zr xs, Bool.xor_false]
theorem xr_len {a b : BV} (h : a.length = b.length) : (xr a b).length = b.length := by unfold xr; rw [List.length_zipWith, h, Nat.min_self]
theorem z_len (w : Nat) : (zB w).length = w := by unfold zB; exact List.length_replicate
theorem u_len (w i : Nat) : (uB w i).length = w := by unfold uB; rw [List.length_map, List.length_range]
theorem at_pj (ms : List Bool) (held : List BV) (k : Int) : atB (held.map (pj ms)) k = pj ms (atB held k) := by
  unfold atB
  rw [List.getD_eq_getElem?_getD, List.getD_eq_getElem?_getD, List.getElem?_map]
  cases held[k.toNat]? with
  | none => show [] = pj ms []; rw [pj_nil]
  | some v => rfl
theorem fold_pj (ms : List Bool) (held : List BV) : ∀ (ks : List Int) (v : BV), pj ms (ks.foldl (fun v k => xr v (atB held k)) v) = ks.foldl (fun v k => xr v (atB (held.map (pj ms)) k)) (pj ms v)
  | [], v => rfl
  | k :: ks, v => by
    show pj ms (ks.foldl _ (xr v (atB held k))) = ks.foldl _ (xr (pj ms v) (atB (held.map (pj ms)) k))
    rw [fold_pj ms held ks, pj_xr, at_pj]
theorem new_pj (ms : List Bool) (held : List BV) (ks : List Int) : pj ms (newB ms.length held ks) = newB (kept ms) (held.map (pj ms)) ks := by
  unfold newB
  rw [fold_pj, pj_z]
def En.pj (ms : List Bool) (e : En) : En := ⟨V86.pj ms e.new, V86.pj ms e.old, e.seen.map (V86.pj ms)⟩
/-! ### the due run beside the plain one: a renewal is a none -/
def exp : Option Bit → List Bit
  | none => way
  | some b => [b]
def dms : Option Bit → List Bool
  | none => [false]
  | some (.dr _) => [true]
  | some (.st _ _) => []
def R012 (r : Int) : Prop := r = 0 ∨ r = 1 ∨ r = 2
def B012 : Bit → Prop
  | .dr r => R012 r
  | .st r ks => R012 r ∧ ∀ k ∈ ks, R012 k
structure PI (w : Nat) (p : List BV) : Prop where
  len : p.length = 4
  wid : ∀ v ∈ p, v.length = w
  top : p.getD 3 [] = zB w
theorem nx_pi {w : Nat} {p : List BV} (h : PI w p) {fr : Nat} {b : Bit} (hb : B012 b) : PI w (nxH w p fr b) := by
  have key : ∀ (r : Int) (v : BV), R012 r → v.length = w → PI w (p.set r.toNat v) := fun r v hr hv => by
    refine ⟨by rw [List.length_set]; exact h.len, fun x hx => ?_, ?_⟩
    · rcases List.mem_or_eq_of_mem_set hx with hx | rfl
      · exact h.wid x hx
      · exact hv
    · rw [List.getD_eq_getElem?_getD, List.getElem?_set_ne (by rcases hr with rfl | rfl | rfl <;> decide), ← List.getD_eq_getElem?_getD]
      exact h.top
  cases b with
  | dr r => exact key r _ hb (u_len _ _)
  | st r ks =>
    refine key r _ hb.1 ?_
    have at_len : ∀ k, R012 k → (atB p k).length = w := fun k hk => by
      unfold atB
      rw [List.getD_eq_getElem?_getD, List.getElem?_eq_getElem (show k.toNat < p.length by rw [h.len]; rcases hk with rfl | rfl | rfl <;> decide)]
      exact h.wid _ (List.getElem_mem _)
    have : ∀ (ks : List Int) (v : BV), (∀ k ∈ ks, R012 k) → v.length = w → (ks.foldl (fun v k => xr v (atB p k)) v).length = w := by
      intro ks
      induction ks with
      | nil => intro v _ hv; exact hv
      | cons k ks ih =>
        intro v hk hv
        refine ih _ (fun j hj => hk j (List.mem_cons_of_mem _ hj)) ?_
        rw [xr_len (by rw [hv, at_len k (hk k List.mem_cons_self)]), at_len k (hk k List.mem_cons_self)]
    exact this ks _ hb.2 (z_len w)
/-- one turn of both -/
theorem nx_pj {pre post : List Bool} {held : List BV} {b : Bit} : let ms := pre ++ dms (some b) ++ post
    (nxH ms.length held pre.length b).map (pj ms) = nxH (kept ms) (held.map (pj ms)) (kept pre) b ∧ (enOf ms.length held pre.length b).pj ms = enOf (kept ms) (held.map (pj ms)) (kept pre) b ∧ nxF pre.length b = (pre ++ dms (some b)).length ∧ nxF (kept pre) b = kept (pre ++ dms (some b)) := by
  cases b with
  | dr r =>
    have e : pj (pre ++ [true] ++ post) (uB (pre ++ [true] ++ post).length pre.length) = uB (kept (pre ++ [true] ++ post)) (kept pre) := by
      rw [List.append_assoc, List.singleton_append, List.length_append, List.length_cons]
      exact pj_uT pre post
    refine ⟨?_, ?_, ?_, ?_⟩
    · show (held.set r.toNat _).map _ = (held.map _).set r.toNat _
      rw [List.map_set]
      exact congrArg _ e
    · show En.mk (pj _ (uB _ _)) (pj _ (atB held r)) [] = En.mk _ (atB _ r) []
      rw [at_pj]
      exact congrArg (fun x => En.mk x _ _) e
    · show pre.length + 1 = (pre ++ [true]).length
      rw [List.length_append]; rfl
    · show kept pre + 1 = kept (pre ++ [true])
      unfold kept
      rw [List.countP_append]; rfl
  | st r ks =>
    refine ⟨?_, ?_, ?_, ?_⟩
    · show (held.set r.toNat _).map _ = (held.map _).set r.toNat _
      rw [List.map_set, new_pj]
    · show En.mk (pj _ (newB _ _ _)) (pj _ (atB held r)) ((ks.map (atB held)).map _) = En.mk _ (atB _ r) (ks.map (atB _))
      rw [at_pj, new_pj, List.map_map]
      congr 1
      exact List.map_congr_left fun k _ => (at_pj _ _ _).symm
    · show pre.length = (pre ++ []).length
      rw [List.append_nil]
    · show kept pre = kept (pre ++ [])
      rw [List.append_nil]
/-- a renewal: nothing changes but what is dropped -/
theorem way_pj {pre post : List Bool} {held : List BV} (hp : PI (kept (pre ++ [false] ++ post)) (held.map (pj (pre ++ [false] ++ post)))) : let ms := pre ++ [false] ++ post
    ∃ held', (∀ bs, runB ms.length held pre.length (way ++ bs) = runB ms.length held pre.length way ++ runB ms.length held' (pre ++ [false]).length bs) ∧ held'.map (pj ms) = held.map (pj ms) := by
  intro ms
  match held, hp with
  | [h0, h1, h2, h3], hp =>
    have eu : pj ms (uB ms.length pre.length) = zB (kept ms) := by
      show pj (pre ++ [false] ++ post) (uB (pre ++ [false] ++ post).length pre.length) = zB (kept (pre ++ [false] ++ post))
      rw [List.append_assoc, List.singleton_append, List.length_append, List.length_cons]
      exact pj_uF pre post
    have l0 : (pj ms h0).length = kept ms := hp.wid _ (by simp [ms])
    have l1 : (pj ms h1).length = kept ms := hp.wid _ (by simp [ms])
    have t3 : pj ms h3 = zB (kept ms) := hp.top
    have keep : ∀ x : BV, (pj ms x).length = kept ms → pj ms (xr (xr (zB ms.length) x) (uB ms.length pre.length)) = pj ms x := fun x hx => by
      have hz : (zB (kept ms)).length = (pj ms x).length := by rw [z_len, hx]
      have h1 : xr (zB (kept ms)) (pj ms x) = pj ms x := by rw [← hx]; exact xr_z _
      have h2 : xr (pj ms x) (zB (kept ms)) = pj ms x := by rw [← hx]; exact xr_zr _
      rw [pj_xr, pj_xr, eu, pj_z, h1, h2]
    refine ⟨[xr (xr (zB ms.length) h0) (uB ms.length pre.length), xr (xr (zB ms.length) h1) (uB ms.length pre.length), h2, zB ms.length], fun bs => ?_, ?_⟩
    · rw [show (pre ++ [false]).length = pre.length + 1 from by simp]
      rfl
    · show [pj ms _, pj ms _, pj ms h2, pj ms _] = [pj ms h0, pj ms h1, pj ms h2, pj ms h3]
      rw [keep h0 l0, keep h1 l1, t3, pj_z]
  | [], hp => exact absurd hp.len (by simp)
  | [_], hp => exact absurd hp.len (by simp)
  | [_, _], hp => exact absurd hp.len (by simp)
  | [_, _, _], hp => exact absurd hp.len (by simp)
  | _ :: _ :: _ :: _ :: _ :: _, hp => exact absurd hp.len (by simp)
theorem way_len (w : Nat) (held : List BV) (fr : Nat) : (runB w held fr way).length = 4 := rfl
/-! ### marks -/
inductive Kd where
  | put | turn | read (fs : List Int)
structure Mk where
  line : Nat
  kind : Kd
  vec : BV
  price : Nat
def Kd.num : Kd → Nat
  | .put => 0
  | .turn => 1
  | .read _ => 2
def sameK (a b : Mk) : Bool := decide (a.line = b.line) && decide (a.kind.num = b.kind.num)
/-- the sum of vectors by factors 0 and 1 -/
def mixB (w : Nat) : List BV → List Int → BV → BV
  | v :: vs, f :: fs, acc => mixB w vs fs (if f = 1 then xr acc v else acc)
  | _, _, acc => acc
def tups : Nat → List (List Int)
  | 1 => [[1]]
  | 2 => [[0, 1], [1, 0], [1, 1]]
  | _ => []
/-- the four ways of prices -/
inductive So where
  | p1 | p1t1 | t1 | p2r1t1
def putM (k : Nat) (e : En) (c : Nat) : Mk := ⟨k, .put, e.new, c⟩
def turnM (k : Nat) (e : En) : Mk := ⟨k, .turn, xr e.new e.old, 1⟩
def readM (w k : Nat) (e : En) : List Mk := (tups e.seen.length).map fun fs => ⟨k, .read fs, mixB w e.seen fs (zB w), 1⟩
def marksE (w : Nat) (k : Nat) (e : En) : So → List Mk
  | .p1 => [putM k e 1]
  | .p1t1 => [putM k e 1, turnM k e]
  | .t1 => [turnM k e]
  | .p2r1t1 => [putM k e 2, turnM k e] ++ readM w k e
def marksB (w : Nat) (so : So) : Nat → List En → List Mk
  | _, [] => []
  | k, e :: es => marksE w k e so ++ marksB w so (k + 1) es
theorem marks_app (w : Nat) (so : So) : ∀ (es fs : List En) (k : Nat), marksB w so k (es ++ fs) = marksB w so k es ++ marksB w so (k + es.length) fs
  | [], fs, k => rfl
  | e :: es, fs, k => by
    show marksE w k e so ++ marksB w so (k + 1) (es ++ fs) = _
    rw [marks_app w so es fs, ← List.append_assoc, List.length_cons, show k + 1 + es.length = k + (es.length + 1) by omega]
    rfl
theorem mix_pj (ms : List Bool) (w w' : Nat) : ∀ (vs : List BV) (fs : List Int) (acc : BV), pj ms (mixB w vs fs acc) = mixB w' (vs.map (pj ms)) fs (pj ms acc)
  | [], _, acc => by
    show pj ms (mixB w [] _ acc) = mixB w' [] _ _
    rw [mixB.eq_def, mixB.eq_def]
  | v :: vs, [], acc => rfl
  | v :: vs, f :: fs, acc => by
    show pj ms (mixB w vs fs _) = mixB w' (vs.map (pj ms)) fs _
    rw [mix_pj ms w w' vs fs]
    congr 1
    split
    · exact pj_xr _ _ _
    · rfl
theorem mE_line {w k : Nat} {e : En} {so : So} {m : Mk} (h : m ∈ marksE w k e so) : m.line = k ∧ 1 ≤ m.price := by
  have hr : ∀ m ∈ readM w k e, m.line = k ∧ 1 ≤ m.price := fun m hm => by
    obtain ⟨fs, _, rfl⟩ := List.mem_map.mp hm
    exact ⟨rfl, Nat.le_refl _⟩
  cases so with
  | p1 => simp [marksE] at h; subst h; exact ⟨rfl, Nat.le_refl _⟩
  | p1t1 => simp [marksE] at h; rcases h with rfl | rfl <;> exact ⟨rfl, Nat.le_refl _⟩
  | t1 => simp [marksE] at h; subst h; exact ⟨rfl, Nat.le_refl _⟩
  | p2r1t1 =>
    simp [marksE] at h
    rcases h with rfl | rfl | h
    · exact ⟨rfl, show 1 ≤ 2 by decide⟩
    · exact ⟨rfl, Nat.le_refl _⟩
    · exact hr m h
theorem mB_mem {w : Nat} {so : So} : ∀ {es : List En} {k : Nat} {m : Mk}, m ∈ marksB w so k es → k ≤ m.line ∧ m.line < k + es.length ∧ 1 ≤ m.price
  | e :: es, k, m, h => by
    rcases List.mem_append.mp h with h | h
    · have := mE_line h
      rw [List.length_cons]
      exact ⟨by omega, by omega, this.2⟩
    · have := mB_mem h
      rw [List.length_cons]
      exact ⟨by omega, by omega, this.2.2⟩
/-- a mark of the due run as one of the plain one -/
def toP (φ : Nat → Nat) (ms : List Bool) (m : Mk) : Mk := ⟨φ m.line, m.kind, pj ms m.vec, m.price⟩
theorem mE_pj (φ : Nat → Nat) (ms : List Bool) (k : Nat) (e : En) (so : So) : (marksE ms.length k e so).map (toP φ ms) = marksE (kept ms) (φ k) (e.pj ms) so := by
  have hp : ∀ c, toP φ ms (putM k e c) = putM (φ k) (e.pj ms) c := fun c => rfl
  have ht : toP φ ms (turnM k e) = turnM (φ k) (e.pj ms) := by
    show Mk.mk _ _ (pj ms (xr e.new e.old)) 1 = _
    rw [pj_xr]
    rfl
  have hr : (readM ms.length k e).map (toP φ ms) = readM (kept ms) (φ k) (e.pj ms) := by
    unfold readM
    rw [List.map_map, show (e.pj ms).seen.length = e.seen.length from List.length_map ..]
    exact List.map_congr_left fun fs _ => by
      show Mk.mk _ _ (pj ms (mixB _ _ _ _)) 1 = Mk.mk _ _ (mixB _ (e.seen.map _) _ _) 1
      rw [mix_pj ms _ (kept ms), pj_z]
  cases so with
  | p1 => show [_] = [_]; rw [hp]
  | p1t1 => show [_, _] = [_, _]; rw [hp, ht]
  | t1 => show [_] = [_]; rw [ht]
  | p2r1t1 =>
    show List.map _ ([putM k e 2, turnM k e] ++ readM _ k e) = [_, _] ++ _
    rw [List.map_append, hr]
    show [_, _] ++ _ = _
    rw [hp, ht]
/-! ### which lines are the renewals' -/
def Agree (own : Nat → Bool) : Nat → List (Option Bit) → Prop
  | _, [] => True
  | i, none :: r => own i = true ∧ own (i + 1) = true ∧ own (i + 2) = true ∧ own (i + 3) = true ∧ Agree own (i + 4) r
  | i, some _ :: r => own i = false ∧ Agree own (i + 1) r
def phi (own : Nat → Bool) (l : Nat) : Nat := (List.range l).countP fun k => !own k
theorem phi_s (own : Nat → Bool) (l : Nat) : phi own (l + 1) = phi own l + (if own l = true then 0 else 1) := by
  unfold phi
  rw [List.range_succ, List.countP_append]
  congr 1
  cases h : own l <;> simp [h]
theorem phi_mono {own : Nat → Bool} {l k : Nat} (h : l ≤ k) : phi own l ≤ phi own k := by
  induction k with
  | zero => rw [Nat.le_zero.mp h]; exact Nat.le_refl _
  | succ k ih =>
    rcases Nat.lt_or_ge l (k + 1) with h1 | h1
    · rw [phi_s]
      exact Nat.le_trans (ih (by omega)) (Nat.le_add_right _ _)
    · rw [show l = k + 1 by omega]; exact Nat.le_refl _
theorem phi_inj {own : Nat → Bool} {l k : Nat} (hl : own l = false) (hk : own k = false) (h : phi own l = phi own k) : l = k := by
  have key : ∀ {l k : Nat}, own l = false → l < k → phi own l < phi own k := fun {l k} hl h => by
    have := phi_mono (own := own) (show l + 1 ≤ k by omega)
    rw [phi_s, hl] at this
    simp at this
    omega
  rcases Nat.lt_trichotomy l k with h1 | h1 | h1
  · have := key hl h1; omega
  · exact h1
  · have := key hk h1; omega
theorem filt_own {own : Nat → Bool} {w : Nat} {so : So} {es : List En} {k : Nat} (h : ∀ l, k ≤ l → l < k + es.length → own l = true) : (marksB w so k es).filter (fun m => !own m.line) = [] := by
  rw [List.filter_eq_nil_iff]
  intro m hm
  have := mB_mem hm
  rw [h _ this.1 this.2.1]
  exact Bool.false_ne_true
theorem filt_not {own : Nat → Bool} {w : Nat} {so : So} {e : En} {k : Nat} (h : own k = false) : (marksE w k e so).filter (fun m => !own m.line) = marksE w k e so := by
  rw [List.filter_eq_self]
  intro m hm
  rw [(mE_line hm).1, h]
  rfl
theorem goods_pj (own : Nat → Bool) (so : So) : ∀ (segs : List (Option Bit)) (pre : List Bool) (held : List BV) (i : Nat), (∀ b, some b ∈ segs → B012 b) → Agree own i segs → let ms := pre ++ segs.flatMap dms
    PI (kept ms) (held.map (pj ms)) → ((marksB ms.length so i (runB ms.length held pre.length (segs.flatMap exp))).filter fun m => !own m.line).map (toP (phi own) ms) = marksB (kept ms) so (phi own i) (runB (kept ms) (held.map (pj ms)) (kept pre) (segs.filterMap id))
  | [], pre, held, i, _, _ => fun _ => rfl
  | none :: r, pre, held, i, hb, ha => by
    intro ms hp
    have e : ms = pre ++ [false] ++ r.flatMap dms := by
      show pre ++ ([false] ++ r.flatMap dms) = _
      rw [List.append_assoc]
    rw [e] at hp ⊢
    obtain ⟨held', h1, h2⟩ := way_pj (pre := pre) (post := r.flatMap dms) (held := held) hp
    obtain ⟨a0, a1, a2, a3, a4⟩ := ha
    have ih := goods_pj own so r (pre ++ [false]) held' (i + 4) (fun b h => hb b (List.mem_cons_of_mem _ h)) a4 (by rw [h2]; exact hp)
    have o : ∀ l, i ≤ l → l < i + (runB (pre ++ [false] ++ r.flatMap dms).length held pre.length way).length → own l = true := fun l l1 l2 => by
      rw [way_len] at l2
      rcases (show l = i ∨ l = i + 1 ∨ l = i + 2 ∨ l = i + 3 by omega) with rfl | rfl | rfl | rfl <;> assumption
    have f : phi own (i + 4) = phi own i := by
      rw [show i + 4 = i + 1 + 1 + 1 + 1 by omega, phi_s, phi_s, phi_s, phi_s, a0, show own (i + 1 + 1) = true from a2, show own (i + 1 + 1 + 1) = true from a3, a1]
      rfl
    show (((marksB _ so i (runB _ held pre.length (way ++ r.flatMap exp))).filter _).map _) = marksB _ so (phi own i) (runB _ _ _ (r.filterMap id))
    rw [h1, marks_app, List.filter_append, filt_own o, List.nil_append, way_len, ih, h2, f]
    congr 2
    unfold kept
    rw [List.countP_append]
    rfl
  | some b :: r, pre, held, i, hb, ha => by
    intro ms hp
    have e : ms = pre ++ dms (some b) ++ r.flatMap dms := by
      show pre ++ (dms (some b) ++ r.flatMap dms) = _
      rw [List.append_assoc]
    rw [e] at hp ⊢
    obtain ⟨h1, h2, h3, h4⟩ := nx_pj (pre := pre) (post := r.flatMap dms) (held := held) (b := b)
    have ih := goods_pj own so r (pre ++ dms (some b)) (nxH (pre ++ dms (some b) ++ r.flatMap dms).length held pre.length b) (i + 1) (fun b h => hb b (List.mem_cons_of_mem _ h)) ha.2 (by rw [h1]; exact nx_pi hp (hb b List.mem_cons_self))
    have f : phi own (i + 1) = phi own i + 1 := by rw [phi_s, ha.1]; rfl
    show ((marksE _ i (enOf _ held pre.length b) so ++ marksB _ so (i + 1) (runB _ _ (nxF pre.length b) (r.flatMap exp))).filter _).map _ = marksE _ (phi own i) (enOf _ _ _ b) so ++ marksB _ so (phi own i + 1) (runB _ _ (nxF (kept pre) b) (r.filterMap id))
    rw [List.filter_append, filt_not ha.1, List.map_append, mE_pj, h2, h3, ih, h1, h4, f]
end V86

/-! k86: looks, tells, the law on bits. -/
namespace V86
/-! ### looks -/
abbrev Lk := List Mk × Nat
def okL (own : Mk) (p : Lk) : Bool := decide (p.2 + own.price ≤ 2) && p.1.all fun m => !sameK m own
def moreL (own : Mk) (found : List Lk) : List Lk := (found.filter (okL own)).map fun p => (p.1 ++ [own], p.2 + own.price)
def looksF (goods : List Mk) (found : List Lk) : List Lk := goods.foldl (fun found own => found ++ moreL own found) found
def looksB (goods : List Mk) : List Lk := looksF goods [([], 0)]
def mapL (f : Mk → Mk) (p : Lk) : Lk := (p.1.map f, p.2)
structure Fix (f : Mk → Mk) (S : Mk → Prop) : Prop where
  pr : ∀ m, (f m).price = m.price
  sk : ∀ a b, S a → S b → sameK (f a) (f b) = sameK a b
theorem all_map {f : Mk → Mk} {S : Mk → Prop} (h : Fix f S) {own : Mk} (ho : S own) : ∀ {l : List Mk}, (∀ m ∈ l, S m) → (l.map f).all (fun m => !sameK m (f own)) = l.all fun m => !sameK m own
  | [], _ => rfl
  | a :: l, hl => by
    rw [List.map_cons, List.all_cons, List.all_cons, all_map h ho fun m hm => hl m (List.mem_cons_of_mem _ hm), h.sk _ _ (hl a List.mem_cons_self) ho]
theorem more_map {f : Mk → Mk} {S : Mk → Prop} (h : Fix f S) {own : Mk} (ho : S own) : ∀ {found : List Lk}, (∀ p ∈ found, ∀ m ∈ p.1, S m) → moreL (f own) (found.map (mapL f)) = (moreL own found).map (mapL f)
  | [], _ => rfl
  | p :: found, hf => by
    have ih := more_map h ho (found := found) fun q hq => hf q (List.mem_cons_of_mem _ hq)
    have e : okL (f own) (mapL f p) = okL own p := by
      unfold okL mapL
      rw [h.pr, all_map h ho (hf p List.mem_cons_self)]
    unfold moreL at ih ⊢
    rw [List.map_cons]
    cases c : okL own p with
    | true =>
      rw [List.filter_cons_of_pos (by rw [e]; exact c), List.filter_cons_of_pos c, List.map_cons, ih, List.map_cons, List.map_cons]
      congr 1
      unfold mapL
      rw [List.map_append, h.pr]
      rfl
    | false =>
      rw [List.filter_cons_of_neg (by rw [e, c]; exact Bool.false_ne_true), List.filter_cons_of_neg (by rw [c]; exact Bool.false_ne_true), ih]
theorem more_mem {S : Mk → Prop} {own : Mk} (ho : S own) {found : List Lk} (hf : ∀ p ∈ found, ∀ m ∈ p.1, S m) : ∀ p ∈ moreL own found, ∀ m ∈ p.1, S m := fun p hp m hm => by
  obtain ⟨q, hq, rfl⟩ := List.mem_map.mp hp
  rcases List.mem_append.mp hm with hm | hm
  · exact hf q (List.mem_filter.mp hq).1 m hm
  · rw [List.mem_singleton.mp hm]; exact ho
theorem looks_map {f : Mk → Mk} {S : Mk → Prop} (h : Fix f S) : ∀ {goods : List Mk} {found : List Lk}, (∀ m ∈ goods, S m) → (∀ p ∈ found, ∀ m ∈ p.1, S m) → looksF (goods.map f) (found.map (mapL f)) = (looksF goods found).map (mapL f)
  | [], found, _, _ => rfl
  | own :: goods, found, hg, hf => by
    have ho := hg own List.mem_cons_self
    show looksF (goods.map f) (found.map (mapL f) ++ moreL (f own) (found.map (mapL f))) = (looksF goods (found ++ moreL own found)).map _
    rw [more_map h ho hf, ← List.map_append]
    exact looks_map h (fun m hm => hg m (List.mem_cons_of_mem _ hm)) fun p hp => by
      rcases List.mem_append.mp hp with hp | hp
      · exact hf p hp
      · exact more_mem ho hf p hp
/-- each look's price is two at most, each of its marks costs one or more, and is of the goods -/
def LkOk (S : Mk → Prop) (p : Lk) : Prop := p.1.length ≤ p.2 ∧ p.2 ≤ 2 ∧ ∀ m ∈ p.1, S m
theorem looks_ok {S : Mk → Prop} : ∀ {goods : List Mk} {found : List Lk}, (∀ m ∈ goods, S m ∧ 1 ≤ m.price) → (∀ p ∈ found, LkOk S p) → ∀ p ∈ looksF goods found, LkOk S p
  | [], found, _, hf => hf
  | own :: goods, found, hg, hf => looks_ok (goods := goods) (found := found ++ moreL own found) (fun m hm => hg m (List.mem_cons_of_mem _ hm)) fun p hp => by
    rcases List.mem_append.mp hp with hp | hp
    · exact hf p hp
    · obtain ⟨q, hq, rfl⟩ := List.mem_map.mp hp
      obtain ⟨h1, h2⟩ := List.mem_filter.mp hq
      obtain ⟨a, b, c⟩ := hf q h1
      have h3 := hg own List.mem_cons_self
      unfold okL at h2
      rw [Bool.and_eq_true] at h2
      refine ⟨by show (q.1 ++ [own]).length ≤ q.2 + own.price; rw [List.length_append, List.length_singleton]; omega, of_decide_eq_true h2.1, fun m hm => ?_⟩
      rcases List.mem_append.mp hm with hm | hm
      · exact c m hm
      · rw [List.mem_singleton.mp hm]; exact h3.1
theorem looksB_ok {S : Mk → Prop} {goods : List Mk} (h : ∀ m ∈ goods, S m ∧ 1 ≤ m.price) : ∀ p ∈ looksB goods, LkOk S p := looks_ok h fun p hp => by
  rw [List.mem_singleton.mp hp]
  exact ⟨Nat.le_refl _, by decide, nofun⟩
/-! ### tells -/
def tellsB (w : Nat) : List BV → Bool
  | [u] => decide (u = uB w 0)
  | [u, v] => decide (u = uB w 0) || decide (v = uB w 0) || decide (xr u v = uB w 0)
  | _ => false
theorem tells_pj {w w' : Nat} {ms : List Bool} (h : pj ms (uB w 0) = uB w' 0) : ∀ {vs : List BV}, tellsB w vs = true → tellsB w' (vs.map (pj ms)) = true
  | [u], t => decide_eq_true (by rw [of_decide_eq_true t, h])
  | [u, v], t => by
    show (decide (pj ms u = _) || decide (pj ms v = _) || decide (xr (pj ms u) (pj ms v) = _)) = true
    have t : (decide (u = uB w 0) || decide (v = uB w 0) || decide (xr u v = uB w 0)) = true := t
    rw [Bool.or_eq_true, Bool.or_eq_true, decide_eq_true_iff, decide_eq_true_iff, decide_eq_true_iff] at t ⊢
    rcases t with (t | t) | t
    · exact .inl (.inl (by rw [t, h]))
    · exact .inl (.inr (by rw [t, h]))
    · exact .inr (by rw [← pj_xr, t, h])
def vecs (p : Lk) : List BV := p.1.map Mk.vec
def cheapF (w : Nat) : List Lk → Option Nat → Option Nat
  | [], acc => acc
  | p :: ps, acc => cheapF w ps (if (acc.all fun n => decide (p.2 < n)) = true ∧ tellsB w (vecs p) = true then some p.2 else acc)
theorem cheap_le {w : Nat} : ∀ {ps : List Lk} {acc : Option Nat} {n : Nat}, (acc = some n ∨ ∃ p ∈ ps, tellsB w (vecs p) = true ∧ p.2 = n) → ∃ m, cheapF w ps acc = some m ∧ m ≤ n
  | [], acc, n, h => by
    rcases h with h | ⟨p, hp, _⟩
    · exact ⟨n, h, Nat.le_refl _⟩
    · cases hp
  | q :: ps, acc, n, h => by
    show ∃ m, cheapF w ps (if (acc.all fun n => decide (q.2 < n)) = true ∧ tellsB w (vecs q) = true then some q.2 else acc) = some m ∧ m ≤ n
    have go : ∀ {acc' : Option Nat} {n' : Nat}, acc' = some n' → n' ≤ n → ∃ m, cheapF w ps acc' = some m ∧ m ≤ n := fun {acc' n'} h1 h2 => by
      obtain ⟨m, e, l⟩ := cheap_le (w := w) (ps := ps) (acc := acc') (n := n') (.inl h1)
      exact ⟨m, e, Nat.le_trans l h2⟩
    rcases h with rfl | ⟨p, hp, ht, rfl⟩
    · split
      · rename_i c
        exact go rfl (Nat.le_of_lt (of_decide_eq_true c.1))
      · exact go rfl (Nat.le_refl _)
    · rcases List.mem_cons.mp hp with rfl | hp
      · split
        · exact go rfl (Nat.le_refl _)
        · rename_i c
          match acc, c with
          | none, c => exact absurd ⟨rfl, ht⟩ c
          | some k, c => exact go rfl (by
              rcases Nat.lt_or_ge p.2 k with h | h
              · exact absurd ⟨decide_eq_true h, ht⟩ c
              · exact h)
      · exact cheap_le (.inr ⟨p, hp, ht, rfl⟩)
/-! ### the law on bits -/
def firstB (w : Nat) : List BV := [uB w 1, xr (uB w 0) (uB w 1), zB w, zB w]
def wid (bs : List Bit) : Nat := 2 + bs.countP isDr
def marksOf (so : So) (bs : List Bit) : List Mk := marksB (wid bs) so 0 (runB (wid bs) (firstB (wid bs)) 2 bs)
def ownB (ts : List Nat) (i : Nat) : Bool := match ts with
  | [k] => decide (k ≤ i) && decide (i < k + 4)
  | [j, k] => (decide (j ≤ i) && decide (i < j + 4)) || (decide (k + 4 ≤ i) && decide (i < k + 8))
  | _ => false
def goodsOf (so : So) (bs : List Bit) (ts : List Nat) : List Mk := (marksOf so (dueB bs ts)).filter fun m => !ownB ts m.line
def segs (bs : List Bit) (ts : List Nat) : List (Option Bit) := ts.reverse.foldl (fun s k => s.take k ++ [none] ++ s.drop k) (bs.map some)
theorem shapes {P : List Bit → List Nat → Prop} {bs : List Bit} {ts : List Nat} (lo : 1 ≤ bs.length) (hi : bs.length ≤ 3) (ht : TsOk bs.length ts)
    (h1 : ∀ b, P [b] [0] ∧ P [b] [1] ∧ P [b] [0, 1]) (h2 : ∀ b c, P [b, c] [0] ∧ P [b, c] [1] ∧ P [b, c] [2] ∧ P [b, c] [0, 1] ∧ P [b, c] [0, 2] ∧ P [b, c] [1, 2])
    (h3 : ∀ b c d, P [b, c, d] [0] ∧ P [b, c, d] [1] ∧ P [b, c, d] [2] ∧ P [b, c, d] [3] ∧ P [b, c, d] [0, 1] ∧ P [b, c, d] [0, 2] ∧ P [b, c, d] [0, 3] ∧ P [b, c, d] [1, 2] ∧ P [b, c, d] [1, 3] ∧ P [b, c, d] [2, 3]) : P bs ts := by
  match bs, lo, hi with
  | [b], _, _ =>
    obtain ⟨a1, a2, a3⟩ := h1 b
    rcases ht with ⟨k, rfl, hk⟩ | ⟨j, k, rfl, hj, hk⟩
    · rcases (show k = 0 ∨ k = 1 by simp at hk; omega) with rfl | rfl <;> assumption
    · rcases (show j = 0 ∧ k = 1 by simp at hk; omega) with ⟨rfl, rfl⟩; assumption
  | [b, c], _, _ =>
    obtain ⟨a1, a2, a3, a4, a5, a6⟩ := h2 b c
    rcases ht with ⟨k, rfl, hk⟩ | ⟨j, k, rfl, hj, hk⟩
    · rcases (show k = 0 ∨ k = 1 ∨ k = 2 by simp at hk; omega) with rfl | rfl | rfl <;> assumption
    · rcases (show (j = 0 ∧ k = 1) ∨ (j = 0 ∧ k = 2) ∨ (j = 1 ∧ k = 2) by simp at hk; omega) with ⟨rfl, rfl⟩ | ⟨rfl, rfl⟩ | ⟨rfl, rfl⟩ <;> assumption
  | [b, c, d], _, _ =>
    obtain ⟨a1, a2, a3, a4, a5, a6, a7, a8, a9, a10⟩ := h3 b c d
    rcases ht with ⟨k, rfl, hk⟩ | ⟨j, k, rfl, hj, hk⟩
    · rcases (show k = 0 ∨ k = 1 ∨ k = 2 ∨ k = 3 by simp at hk; omega) with rfl | rfl | rfl | rfl <;> assumption
    · rcases (show (j = 0 ∧ k = 1) ∨ (j = 0 ∧ k = 2) ∨ (j = 0 ∧ k = 3) ∨ (j = 1 ∧ k = 2) ∨ (j = 1 ∧ k = 3) ∨ (j = 2 ∧ k = 3) by simp at hk; omega) with ⟨rfl, rfl⟩ | ⟨rfl, rfl⟩ | ⟨rfl, rfl⟩ | ⟨rfl, rfl⟩ | ⟨rfl, rfl⟩ | ⟨rfl, rfl⟩ <;> assumption
theorem segs_ok {bs : List Bit} {ts : List Nat} (lo : 1 ≤ bs.length) (hi : bs.length ≤ 3) (ht : TsOk bs.length ts) : (segs bs ts).flatMap exp = dueB bs ts ∧ (segs bs ts).filterMap id = bs ∧ Agree (ownB ts) 0 (segs bs ts) :=
  shapes (P := fun bs ts => (segs bs ts).flatMap exp = dueB bs ts ∧ (segs bs ts).filterMap id = bs ∧ Agree (ownB ts) 0 (segs bs ts)) lo hi ht
    (fun b => by repeat' apply And.intro
                 all_goals first | rfl | trivial)
    (fun b c => by repeat' apply And.intro
                   all_goals first | rfl | trivial)
    (fun b c d => by repeat' apply And.intro
                     all_goals first | rfl | trivial)
theorem dms_len : ∀ s : List (Option Bit), (s.flatMap dms).length = (s.flatMap exp).countP isDr
  | [] => rfl
  | none :: r => by
    rw [List.flatMap_cons, List.flatMap_cons, List.length_append, List.countP_append, dms_len r]
    rfl
  | some (.dr x) :: r => by
    rw [List.flatMap_cons, List.flatMap_cons, List.length_append, List.countP_append, dms_len r]
    rfl
  | some (.st x ks) :: r => by
    rw [List.flatMap_cons, List.flatMap_cons, List.length_append, List.countP_append, dms_len r]
    rfl
theorem dms_kept : ∀ s : List (Option Bit), kept (s.flatMap dms) = (s.filterMap id).countP isDr
  | [] => rfl
  | none :: r => by
    show kept ([false] ++ r.flatMap dms) = (r.filterMap id).countP isDr
    unfold kept
    rw [List.countP_append]
    have := dms_kept r
    unfold kept at this
    rw [this]
    exact Nat.zero_add _
  | some (.dr x) :: r => by
    show kept ([true] ++ r.flatMap dms) = (Bit.dr x :: r.filterMap id).countP isDr
    have := dms_kept r
    unfold kept at this ⊢
    rw [List.countP_append, this, Nat.add_comm, List.countP_cons (a := Bit.dr x)]
    rfl
  | some (.st x ks) :: r => by
    show kept (r.flatMap dms) = (Bit.st x ks :: r.filterMap id).countP isDr
    rw [dms_kept r, List.countP_cons]
    rfl
theorem first_pi (w : Nat) : PI w (firstB w) := by
  refine ⟨rfl, fun v hv => ?_, rfl⟩
  simp [firstB] at hv
  rcases hv with rfl | rfl | rfl
  · exact u_len _ _
  · rw [xr_len (by rw [u_len, u_len]), u_len]
  · exact z_len _
theorem goods_map (so : So) {bs : List Bit} {ts : List Nat} (lo : 1 ≤ bs.length) (hi : bs.length ≤ 3) (ht : TsOk bs.length ts) (hb : ∀ b ∈ bs, B012 b) :
    ∃ ms : List Bool, ms.length = wid (dueB bs ts) ∧ kept ms = wid bs ∧ pj ms (uB ms.length 0) = uB (kept ms) 0 ∧ (goodsOf so bs ts).map (toP (phi (ownB ts)) ms) = marksOf so bs := by
  obtain ⟨s1, s2, s3⟩ := segs_ok lo hi ht
  obtain ⟨ms, hms⟩ : ∃ ms, ms = [true, true] ++ (segs bs ts).flatMap dms := ⟨_, rfl⟩
  have l1 : ms.length = wid (dueB bs ts) := by
    rw [hms, List.length_append, dms_len, s1]; rfl
  have l2 : kept ms = wid bs := by
    have := dms_kept (segs bs ts)
    unfold kept at this
    rw [hms]
    unfold kept wid
    rw [List.countP_append, this, s2]; rfl
  have u0 : pj ms (uB ms.length 0) = uB (kept ms) 0 := by
    have := pj_uT [] ([true] ++ (segs bs ts).flatMap dms)
    rw [hms]
    simpa [Nat.add_comm, kept] using this
  have u1 : pj ms (uB ms.length 1) = uB (kept ms) 1 := by
    have := pj_uT [true] ((segs bs ts).flatMap dms)
    rw [hms]
    simpa [Nat.add_comm, kept] using this
  have f0 : (firstB ms.length).map (pj ms) = firstB (kept ms) := by
    show [pj ms _, pj ms _, pj ms _, pj ms _] = _
    rw [pj_xr, u0, u1, pj_z]
    rfl
  have hb' : ∀ b, some b ∈ segs bs ts → B012 b := fun b h => hb b (by rw [← s2]; exact List.mem_filterMap.mpr ⟨some b, h, rfl⟩)
  have main := goods_pj (ownB ts) so (segs bs ts) [true, true] (firstB ms.length) 0 hb' s3
  rw [← hms] at main
  have main := main (by rw [f0]; exact first_pi _)
  rw [s1, s2, f0, l1, l2] at main
  exact ⟨ms, l1, l2, u0, main⟩
theorem law_B (so : So) {bs : List Bit} {ts : List Nat} (lo : 1 ≤ bs.length) (hi : bs.length ≤ 3) (ht : TsOk bs.length ts) (hb : ∀ b ∈ bs, B012 b) :
    ∀ p ∈ looksB (goodsOf so bs ts), tellsB (wid (dueB bs ts)) (vecs p) = true → ∃ n, cheapF (wid bs) (looksB (marksOf so bs)) none = some n ∧ n ≤ p.2 := by
  obtain ⟨ms, l1, l2, u0, e⟩ := goods_map so lo hi ht hb
  have fx : Fix (toP (phi (ownB ts)) ms) (fun m => ownB ts m.line = false) := ⟨fun _ => rfl, fun a b ha hb => by
    unfold sameK toP
    congr 1
    exact decide_eq_decide.mpr ⟨fun h => phi_inj ha hb h, fun h => by rw [h]⟩⟩
  have hg : ∀ m ∈ goodsOf so bs ts, ownB ts m.line = false := fun m hm => by
    have := (List.mem_filter.mp hm).2
    cases h : ownB ts m.line with
    | false => rfl
    | true => rw [h] at this; cases this
  intro p hp tp
  have lm := looks_map fx (goods := goodsOf so bs ts) (found := [([], 0)]) hg (fun p hp m hm => by rw [List.mem_singleton.mp hp] at hm; cases hm)
  rw [e] at lm
  have hp' : mapL (toP (phi (ownB ts)) ms) p ∈ looksB (marksOf so bs) := by
    show _ ∈ looksF _ [([], 0)]
    have : looksF (marksOf so bs) [([], 0)] = (looksF (goodsOf so bs ts) [([], 0)]).map (mapL (toP (phi (ownB ts)) ms)) := lm
    rw [this]
    exact List.mem_map_of_mem hp
  refine cheap_le (.inr ⟨_, hp', ?_, rfl⟩)
  have hv : vecs (mapL (toP (phi (ownB ts)) ms) p) = (vecs p).map (pj ms) := by
    unfold vecs mapL
    rw [List.map_map, List.map_map]
    rfl
  rw [hv]
  refine tells_pj ?_ tp
  rw [← l1, ← l2]
  exact u0
end V86

/-! k86: shown, whole; by bits. -/
namespace V86
open PySem PySem.Spec PyProof.Rows L2 VY RI
def shStep (n : Nat) : D → List Dsc → Option Fl := fun d γ => (tgI (callI tb.fn (n + 1)) (.tup [.nm 9, .nm 10, .nm 11]) (.dat d) γ).bind (fun γ' => exB (callI tb.fn (n + 1)) shBody γ')
def BLen : Bit → Prop
  | .st _ ks => ks.length < 1000000
  | .dr _ => True
theorem nextH_len {w : Nat} {held : List (List Int)} {fr : Nat} {b : Bit} : (nextH w held fr b).length = held.length := by
  cases b <;> exact List.length_set ..
theorem sh_loop {n : Nat} (s : D) (bs0 : List Bit) (L : D) {w : Nat} (h2 : 2 ≤ w) (hw : w ≤ 6) : ∀ (bs : List Bit) (held : List (List Int)) (story found : List D) (fr : Nat) (x9 x10 x11 x12 x13 x14 x15 x16 : Dsc), held.length = 4 → (∀ b ∈ bs, BReg b ∧ BLen b) → story.length + bs.length < 1000 → found.length + bs.length < 1000 → fr + bs.countP isDr ≤ 6 → C8 x9 x10 x11 x12 x13 x14 x15 x16 →
    ∃ held' story' fr' y9 y10 y11 y12 y13 y14 y15 y16, forI (shStep n) (bs.map lotD) (GS (hallD s bs0) L w held story found fr x9 x10 x11 x12 x13 x14 x15 x16) = some (.nx (GS (hallD s bs0) L w held' story' (found ++ runS w held fr bs) fr' y9 y10 y11 y12 y13 y14 y15 y16))
  | [], held, story, found, fr, x9, x10, x11, x12, x13, x14, x15, x16, _, _, _, _, _, _ => ⟨held, story, fr, x9, x10, x11, x12, x13, x14, x15, x16, by rw [runS, List.append_nil]; rfl⟩
  | b :: bs, held, story, found, fr, x9, x10, x11, x12, x13, x14, x15, x16, hh, hb, hs, hf, hfr, c => by
    rw [List.length_cons] at hs hf
    have e1 : (story ++ [D.lst (held.map intsD)]).length + bs.length < 1000 := by rw [List.length_append, List.length_singleton]; omega
    have e2 : (found ++ [entOf w held fr b]).length + bs.length < 1000 := by rw [List.length_append, List.length_singleton]; omega
    have hb' : ∀ q ∈ bs, BReg q ∧ BLen q := fun q hq => hb q (List.mem_cons_of_mem _ hq)
    have hh' : (nextH w held fr b).length = 4 := by rw [nextH_len]; exact hh
    have fin : ∀ {h' st' fr' y9 y10 y11 y12 y13 y14 y15 y16} {γ1 : List Dsc}, shStep n (lotD b) (GS (hallD s bs0) L w held story found fr x9 x10 x11 x12 x13 x14 x15 x16) = some (.nx γ1) → forI (shStep n) (bs.map lotD) γ1 = some (.nx (GS (hallD s bs0) L w h' st' (found ++ [entOf w held fr b] ++ runS w (nextH w held fr b) (nextF fr b) bs) fr' y9 y10 y11 y12 y13 y14 y15 y16)) → ∃ held' story' fr' y9 y10 y11 y12 y13 y14 y15 y16, forI (shStep n) ((b :: bs).map lotD) (GS (hallD s bs0) L w held story found fr x9 x10 x11 x12 x13 x14 x15 x16) = some (.nx (GS (hallD s bs0) L w held' story' (found ++ runS w held fr (b :: bs)) fr' y9 y10 y11 y12 y13 y14 y15 y16)) := fun {h' st' fr' y9 y10 y11 y12 y13 y14 y15 y16 γ1} t e => by
      refine ⟨h', st', fr', y9, y10, y11, y12, y13, y14, y15, y16, ?_⟩
      rw [run_cons, List.append_cons]
      exact (forI_nx t).trans e
    have hb0 := hb b List.mem_cons_self
    cases b with
    | dr r =>
      have cp : (Bit.dr r :: bs).countP isDr = bs.countP isDr + 1 := List.countP_cons_of_pos rfl
      rw [cp] at hfr
      have t := dr_turn (n := n) s bs0 L hw hh hb0.1 story found (by omega) (by omega) (fr := fr) (by omega) c
      obtain ⟨h', st', fr', y9, y10, y11, y12, y13, y14, y15, y16, e⟩ := sh_loop (n := n) s bs0 L h2 hw bs (nextH w held fr (.dr r)) _ _ (nextF fr (.dr r)) (.dat sDraw) (.dat (.int r)) (.dat (.tup [])) (.dat (.lst [])) (.dat (intsD (unitV w fr))) x14 (.dat .non) (.dat .non) hh' hb' e1 e2 (by show fr + 1 + _ ≤ 6; omega) ⟨rfl, rfl, rfl, rfl, rfl, c.c14, rfl, rfl⟩
      exact fin t e
    | st r ks =>
      have cp : (Bit.st r ks :: bs).countP isDr = bs.countP isDr := List.countP_cons_of_neg (by exact Bool.false_ne_true)
      rw [cp] at hfr
      obtain ⟨y14, cy, t⟩ := st_turn (n := n) s bs0 L h2 hw hh hb0.1.1 hb0.1.2 hb0.2 story found (by omega) (by omega) (fr := fr) c
      obtain ⟨h', st', fr', z9, z10, z11, z12, z13, z14, z15, z16, e⟩ := sh_loop (n := n) s bs0 L h2 hw bs (nextH w held fr (.st r ks)) _ _ (nextF fr (.st r ks)) (.dat sSet) (.dat (.int r)) (.dat (.tup (ks.map partD))) (.dat (.lst ((ks.map (at4 held)).map intsD))) (.dat (intsD (newV w held ks))) y14 (.dat .non) (.dat .non) hh' hb' e1 e2 hfr ⟨rfl, rfl, rfl, rfl, rfl, cy, rfl, rfl⟩
      exact fin t e
theorem shown_ok {n : Nat} (s : D) (bs0 : List Bit) {bs : List Bit} (hl : bs.length ≤ 50) (hb : ∀ b ∈ bs, BReg b ∧ BLen b) (hd : bs.countP isDr ≤ 4) :
    callI tb.fn (n + 3) 25 [.dat (hallD s bs0), .dat (.lst (bs.map lotD))] = some (.new (.l (runS (2 + bs.countP isDr) (firstV (2 + bs.countP isDr)) 2 bs)), []) := by
  obtain ⟨w, hw⟩ : ∃ w, w = 2 + bs.countP isDr := ⟨_, rfl⟩
  rw [← hw]
  have wn := wideN_ok (n := n + 1) s bs0 hl
  rw [show (2 + (bs.countP isDr : Nat) : Int) = ((w : Nat) : Int) by rw [hw]; omega] at wn
  have ft := first_ok (n := n) s bs0 (w := w) (by omega) (by omega)
  obtain ⟨h', st', fr', y9, y10, y11, y12, y13, y14, y15, y16, lp⟩ := sh_loop (n := n + 1) s bs0 (.lst (bs.map lotD)) (w := w) (by omega) (by omega) bs (firstV w) [] [] 2 .un .un .un .un .un .un .un .un rfl hb (by simp; omega) (by simp; omega) (by omega) ⟨rfl, rfl, rfl, rfl, rfl, rfl, rfl, rfl⟩
  have cnt := lcI_filter (vs := [17]) (js := [17]) (pt := (Shp.one 17).parts) (fc := fun γ => evcW false (ev (callI tb.fn (n + 2)) (.cmp .eq (.idx (.slot 17) (.cst (.int 0))) (.cst (.str ⟨#[100, 114, 97, 119]⟩))) γ) γ) (fe := ev (callI tb.fn (n + 2)) (.slot 17)) (γ := [.dat (hallD s bs0), .dat (.lst (bs.map lotD)), .dat (.int 2), .dat (.int (w : Nat)), .own (.l ((firstV w).map intsD)), .own (.cl (.dct [])), .own (.l []), .own (.l []), .un, .un, .un, .un, .un, .un, .un, .un, .un, .un]) (g := id) (p := dwB) (by kernel_rfl) (ds := bs.map lotD) (acc := []) fun d hd => by
    obtain ⟨b, _, rfl⟩ := List.mem_map.mp hd
    refine ⟨[lotD b], [.dat (hallD s bs0), .dat (.lst (bs.map lotD)), .dat (.int 2), .dat (.int (w : Nat)), .own (.l ((firstV w).map intsD)), .own (.cl (.dct [])), .own (.l []), .own (.l []), .un, .un, .un, .un, .un, .un, .un, .un, .un, .dat (lotD b)], by kernel_rfl, by cases b <;> kernel_rfl, by kernel_rfl, fun _ => ⟨(.dat (lotD b), [.dat (hallD s bs0), .dat (.lst (bs.map lotD)), .dat (.int 2), .dat (.int (w : Nat)), .own (.l ((firstV w).map intsD)), .own (.cl (.dct [])), .own (.l []), .own (.l []), .un, .un, .un, .un, .un, .un, .un, .un, .un, .dat (lotD b)]), by kernel_rfl, rfl, by kernel_rfl⟩⟩
  rw [List.nil_append, List.map_id] at cnt
  refine (callI_eq (tb := tb.fn) (f := 25) (fd := fd_law_shown) (fl := .rt (.loc 7) (GS (hallD s bs0) (.lst (bs.map lotD)) w h' st' ([] ++ runS w (firstV w) 2 bs) fr' y9 y10 y11 y12 y13 y14 y15 y16)) rfl rfl ?_).trans (by rw [List.nil_append]; rfl)
  refine exB_nx (γ1 := [.dat (hallD s bs0), .dat (.lst (bs.map lotD)), .dat (.int 2), .dat (.int (w : Nat)), .un, .un, .un, .un, .un, .un, .un, .un, .un, .un, .un, .un, .un, .un]) (exS_par (vs := [.dat (.int 2), .dat (.int (w : Nat))]) (γ1 := G0 fd_law_shown.N [.dat (hallD s bs0), .dat (.lst (bs.map lotD))]) (evn_cons (x := .dat (.int 2)) (γ1 := G0 fd_law_shown.N [.dat (hallD s bs0), .dat (.lst (bs.map lotD))]) (by kernel_rfl) (evn_cons (es := []) (vs := []) (γ2 := G0 fd_law_shown.N [.dat (hallD s bs0), .dat (.lst (bs.map lotD))]) (ev_call (γ1 := G0 fd_law_shown.N [.dat (hallD s bs0), .dat (.lst (bs.map lotD))]) (vs := [.dat (hallD s bs0), .dat (.lst (bs.map lotD))]) (by kernel_rfl) (by kernel_rfl) (by kernel_rfl) wn rfl) (by kernel_rfl))) (by kernel_rfl)) ?_
  refine exB_nx (γ1 := [.dat (hallD s bs0), .dat (.lst (bs.map lotD)), .dat (.int 2), .dat (.int (w : Nat)), .own (.l ((firstV w).map intsD)), .own (.cl (.dct [])), .own (.l []), .own (.l []), .un, .un, .un, .un, .un, .un, .un, .un, .un, .un]) (exS_par (vs := [.new (.l ((firstV w).map intsD)), .new (.cl (.dct [])), .new (.l []), .new (.l [])]) (γ1 := [.dat (hallD s bs0), .dat (.lst (bs.map lotD)), .dat (.int 2), .dat (.int (w : Nat)), .un, .un, .un, .un, .un, .un, .un, .un, .un, .un, .un, .un, .un, .un]) (evn_cons (vs := [.new (.cl (.dct [])), .new (.l []), .new (.l [])]) (ev_call (γ1 := [.dat (hallD s bs0), .dat (.lst (bs.map lotD)), .dat (.int 2), .dat (.int (w : Nat)), .un, .un, .un, .un, .un, .un, .un, .un, .un, .un, .un, .un, .un, .un]) (vs := [.dat (hallD s bs0), .dat (.int (w : Nat))]) (by kernel_rfl) (by kernel_rfl) (by kernel_rfl) ft rfl) (by kernel_rfl)) (by kernel_rfl)) ?_
  refine exB_nx (γ1 := GS (hallD s bs0) (.lst (bs.map lotD)) w (firstV w) [] [] 2 .un .un .un .un .un .un .un .un) (exS_set (x := .dat (.int (2 : Nat))) (ev_bin (x := .dat (.int (w : Nat))) (y := .dat (.int (bs.countP isDr : Nat))) (γ1 := [.dat (hallD s bs0), .dat (.lst (bs.map lotD)), .dat (.int 2), .dat (.int (w : Nat)), .own (.l ((firstV w).map intsD)), .own (.cl (.dct [])), .own (.l []), .own (.l []), .un, .un, .un, .un, .un, .un, .un, .un, .un, .un]) (by kernel_rfl) (ev_b1 (x := .new (.l ((bs.map lotD).filter dwB))) (ev_lc (ds := bs.map lotD) (γ1 := [.dat (hallD s bs0), .dat (.lst (bs.map lotD)), .dat (.int 2), .dat (.int (w : Nat)), .own (.l ((firstV w).map intsD)), .own (.cl (.dct [])), .own (.l []), .own (.l []), .un, .un, .un, .un, .un, .un, .un, .un, .un, .un]) (by kernel_rfl) (by rw [List.length_map]; omega) cnt) ?_) ?_) (by kernel_rfl)) ?_
  · show some (Dv.dat (.int (((bs.map lotD).filter dwB).length : Nat))) = _
    rw [dw_filter]
  · show some (Dv.dat (.int ((w : Nat) - (bs.countP isDr : Nat)))) = _
    rw [show ((w : Nat) : Int) - (bs.countP isDr : Nat) = ((2 : Nat) : Int) by rw [hw]; omega]
  refine exB_nx (exS_for (ds := bs.map lotD) (γ1 := GS (hallD s bs0) (.lst (bs.map lotD)) w (firstV w) [] [] 2 .un .un .un .un .un .un .un .un) (by kernel_rfl) lp) (exB_rt (exS_ret (by kernel_rfl)))
/-! ### by bits -/
def b2 (b : Bool) : Int := if b = true then 1 else 0
def vI (v : BV) : List Int := v.map b2
theorem plus1 : ∀ (a b : BV), plusV 1 (vI a) (vI b) = vI (xr a b)
  | [], _ => rfl
  | _ :: _, [] => rfl
  | x :: a, y :: b => by
    show (b2 x + 1 * b2 y) % 2 :: plusV 1 (vI a) (vI b) = b2 (xor x y) :: vI (xr a b)
    rw [plus1 a b]
    cases x <;> cases y <;> rfl
theorem plus0 {c : Int} (hc : c = 0 ∨ c = 2) : ∀ (a b : BV), a.length = b.length → plusV c (vI a) (vI b) = vI a
  | [], _, _ => rfl
  | _ :: _, [], h => by simp at h
  | x :: a, y :: b, h => by
    show (b2 x + c * b2 y) % 2 :: plusV c (vI a) (vI b) = b2 x :: vI a
    rw [plus0 hc a b (by simpa using h)]
    rcases hc with rfl | rfl <;> cases x <;> cases y <;> rfl
theorem unit_b (w i : Nat) : unitV w i = vI (uB w i) := by
  unfold unitV vI uB
  rw [List.map_map]
  exact List.map_congr_left fun k _ => by
    show (if k = i then (1 : Int) else 0) = b2 (decide (k = i))
    unfold b2
    by_cases h : k = i
    · rw [if_pos h, if_pos (decide_eq_true h)]
    · rw [if_neg h, if_neg (by rw [decide_eq_false h]; exact Bool.false_ne_true)]
theorem zero_b (w : Nat) : zeroV w = vI (zB w) := by
  unfold zeroV vI zB
  rw [List.map_replicate]
  rfl
theorem first_b (w : Nat) : firstV w = (firstB w).map vI := by
  show [_, _, _, _] = [_, _, _, _]
  rw [unit_b, unit_b, plus1, zero_b]
theorem at_b (held : List BV) (k : Int) : at4 (held.map vI) k = vI (atB held k) := by
  unfold at4 atB
  rw [List.getD_eq_getElem?_getD, List.getD_eq_getElem?_getD, List.getElem?_map]
  cases held[k.toNat]? <;> rfl
theorem new_b (w : Nat) (held : List BV) (ks : List Int) : newV w (held.map vI) ks = vI (newB w held ks) := by
  unfold newV newB
  have : ∀ (ks : List Int) (v : BV), ks.foldl (fun v k => plusV 1 v (at4 (held.map vI) k)) (vI v) = vI (ks.foldl (fun v k => xr v (atB held k)) v) := by
    intro ks
    induction ks with
    | nil => intro v; rfl
    | cons k ks ih =>
      intro v
      show ks.foldl _ (plusV 1 (vI v) (at4 (held.map vI) k)) = _
      rw [at_b, plus1]
      exact ih _
  rw [zero_b]
  exact this ks _
def enD (e : En) : D := entD (vI e.new) (vI e.old) (e.seen.map vI)
theorem run_b (w : Nat) : ∀ (bs : List Bit) (held : List BV) (fr : Nat), runS w (held.map vI) fr bs = (runB w held fr bs).map enD
  | [], _, _ => by rw [runS]; rfl
  | b :: bs, held, fr => by
    rw [run_cons]
    have e1 : entOf w (held.map vI) fr b = enD (enOf w held fr b) := by
      cases b with
      | dr r =>
        show entD _ _ _ = entD _ _ _
        rw [unit_b, at_b]
        rfl
      | st r ks =>
        show entD _ _ _ = entD _ _ _
        rw [new_b, at_b]
        congr 1
        rw [show (enOf w held fr (.st r ks)).seen = ks.map (atB held) from rfl, List.map_map]
        exact List.map_congr_left fun k _ => at_b _ _
    have e2 : nextH w (held.map vI) fr b = (nxH w held fr b).map vI := by
      cases b with
      | dr r => show (held.map vI).set _ _ = (held.set _ _).map vI; rw [List.map_set, unit_b]
      | st r ks => show (held.map vI).set _ _ = (held.set _ _).map vI; rw [List.map_set, new_b]
    have e3 : nextF fr b = nxF fr b := by cases b <;> rfl
    rw [e1, e2, e3, run_b w bs]
    rfl
/-! ### widths -/
structure HW (w : Nat) (held : List BV) : Prop where
  len : held.length = 4
  wid : ∀ v ∈ held, v.length = w
theorem at_w {w : Nat} {held : List BV} (h : HW w held) {k : Int} (hk : Reg k) : (atB held k).length = w := by
  unfold atB
  rw [List.getD_eq_getElem?_getD, List.getElem?_eq_getElem (show k.toNat < held.length by rw [h.len]; rcases hk with rfl | rfl | rfl | rfl <;> decide)]
  exact h.wid _ (List.getElem_mem _)
theorem new_w {w : Nat} {held : List BV} (h : HW w held) {ks : List Int} (hk : ∀ k ∈ ks, Reg k) : (newB w held ks).length = w := by
  have : ∀ (ks : List Int) (v : BV), (∀ k ∈ ks, Reg k) → v.length = w → (ks.foldl (fun v k => xr v (atB held k)) v).length = w := by
    intro ks
    induction ks with
    | nil => intro v _ hv; exact hv
    | cons k ks ih =>
      intro v hk hv
      have a := at_w h (hk k List.mem_cons_self)
      refine ih _ (fun j hj => hk j (List.mem_cons_of_mem _ hj)) ?_
      rw [xr_len (by rw [hv, a]), a]
  exact this ks _ hk (z_len w)
theorem nx_w {w : Nat} {held : List BV} (h : HW w held) {fr : Nat} {b : Bit} (hb : BReg b) : HW w (nxH w held fr b) := by
  have key : ∀ (r : Int) (v : BV), v.length = w → HW w (held.set r.toNat v) := fun r v hv => by
    refine ⟨by rw [List.length_set]; exact h.len, fun x hx => ?_⟩
    rcases List.mem_or_eq_of_mem_set hx with hx | rfl
    · exact h.wid x hx
    · exact hv
  cases b with
  | dr r => exact key r _ (u_len _ _)
  | st r ks => exact key r _ (new_w h hb.2)
structure EnW (w : Nat) (e : En) : Prop where
  nw : e.new.length = w
  ow : e.old.length = w
  sw : ∀ v ∈ e.seen, v.length = w
  sl : e.seen.length ≤ 2
def BTwo : Bit → Prop
  | .st _ ks => ks.length ≤ 2
  | .dr _ => True
theorem en_w {w : Nat} {held : List BV} (h : HW w held) {fr : Nat} {b : Bit} (hb : BReg b) (h2 : BTwo b) : EnW w (enOf w held fr b) := by
  cases b with
  | dr r => exact ⟨u_len _ _, at_w h hb, nofun, Nat.zero_le 2⟩
  | st r ks =>
    refine ⟨new_w h hb.2, at_w h hb.1, fun v hv => ?_, ?_⟩
    · obtain ⟨k, hk, rfl⟩ := List.mem_map.mp hv
      exact at_w h (hb.2 k hk)
    · show (ks.map _).length ≤ 2
      rw [List.length_map]; exact h2
theorem run_w {w : Nat} : ∀ {bs : List Bit} {held : List BV} {fr : Nat}, HW w held → (∀ b ∈ bs, BReg b ∧ BTwo b) → ∀ e ∈ runB w held fr bs, EnW w e
  | b :: bs, held, fr, h, hb, e, he => by
    have hb0 := hb b List.mem_cons_self
    rcases List.mem_cons.mp (show e ∈ enOf w held fr b :: runB w (nxH w held fr b) (nxF fr b) bs from he) with rfl | he
    · exact en_w h hb0.1 hb0.2
    · exact run_w (nx_w h hb0.1) (fun q hq => hb q (List.mem_cons_of_mem _ hq)) e he
theorem first_w (w : Nat) : HW w (firstB w) := ⟨rfl, (first_pi w).wid⟩
theorem run_len (w : Nat) : ∀ (bs : List Bit) (held : List BV) (fr : Nat), (runB w held fr bs).length = bs.length
  | [], _, _ => rfl
  | b :: bs, held, fr => by
    show (runB w _ _ bs).length + 1 = _
    rw [run_len w bs]
    rfl
end V86

/-! k86: data that can be compared; tuples, mixed. -/
namespace V86
open PySem PySem.Spec PyProof.Rows L2 VY RI
structure Sh (m : Nat) (d : PyData) : Prop where
  c : d.canLay0 = true
  k : d.depth ≤ m
structure ShA (m : Nat) (ds : List PyData) : Prop where
  c : PyData.canLayAll0 ds = true
  k : PyData.depthAll ds ≤ m
theorem shA_nil {m : Nat} : ShA m [] := ⟨by simp only [PyData.canLayAll0], by simp only [PyData.depthAll]; exact Nat.zero_le _⟩
theorem shA_cons {m : Nat} {d : PyData} {ds : List PyData} (a : Sh m d) (b : ShA m ds) : ShA m (d :: ds) := ⟨by simp only [PyData.canLayAll0, a.c, b.c, Bool.and_self], by
  simp only [PyData.depthAll]
  exact Nat.max_le.mpr ⟨a.k, b.k⟩⟩
theorem shA_map {α : Type} {m : Nat} {f : α → D} : ∀ {l : List α}, (∀ a ∈ l, Sh m (py (f a))) → ShA m (pys (l.map f))
  | [], _ => by rw [List.map_nil, pys]; exact shA_nil
  | a :: l, h => by
    rw [List.map_cons, pys]
    exact shA_cons (h a List.mem_cons_self) (shA_map fun b hb => h b (List.mem_cons_of_mem _ hb))
theorem sh_tup {m : Nat} {ts : List D} (h : ShA m (pys ts)) : Sh (m + 1) (py (.tup ts)) := by
  rw [py]
  exact ⟨by simp only [PyData.canLay0]; exact h.c, by simp only [PyData.depth]; exact Nat.succ_le_succ h.k⟩
theorem sh_lst {m : Nat} {ts : List D} (h : ShA m (pys ts)) : Sh (m + 1) (.list (pys ts)) := ⟨by simp only [PyData.canLay0]; exact h.c, by simp only [PyData.depth]; exact Nat.succ_le_succ h.k⟩
theorem sh_int {m : Nat} (i : Int) : Sh m (py (.int i)) := by
  rw [py]
  exact ⟨by simp only [PyData.canLay0], by simp only [PyData.depth]; exact Nat.zero_le _⟩
theorem sh_ints {m : Nat} (ns : List Int) : Sh (m + 1) (py (intsD ns)) := sh_tup (shA_map fun i _ => sh_int i)
theorem sh_le {m k : Nat} {d : PyData} (h : Sh m d) (hk : m ≤ k) : Sh k d := ⟨h.c, Nat.le_trans h.k hk⟩
theorem shaped_of {m : Nat} {d : PyData} (h : Sh m d) (hm : m ≤ 64) : SeqAt.shaped d = true := by
  unfold SeqAt.shaped
  rw [h.c, decide_eq_true (Nat.le_trans h.k hm)]
  rfl
theorem eq_nil {γ : List Dsc} {ds : List D} {x : Dv} (hx : x = .dat (.lst ds) ∨ x = .new (.l ds)) (h : ShA 40 (pys ds)) : eqI γ x (.new (.l [])) = some ds.isEmpty := by
  have e : eqI γ x (.new (.l [])) = gd (SeqAt.shaped (.list (pys ds)) && SeqAt.shaped (.list (pys []))) (some (PyData.eqv (.list (pys ds)) (.list (pys [])))) := by rcases hx with rfl | rfl <;> rfl
  have h0 : Sh 41 (.list (pys [])) := sh_lst (by rw [pys]; exact shA_nil)
  rw [e, gd_t (by rw [shaped_of (sh_lst h) (by decide), shaped_of h0 (by decide)]; rfl)]
  cases ds with
  | nil => simp [pys, PyData.eqv, PyData.eqvAll]
  | cons d ds => simp [pys, PyData.eqv, PyData.eqvAll]
theorem cmp_eqnil {γ : List Dsc} {ds : List D} {x : Dv} (hx : x = .dat (.lst ds) ∨ x = .new (.l ds)) (h : ShA 40 (pys ds)) : cmpI γ .eq x (.new (.l [])) = some ds.isEmpty := eq_nil hx h
theorem cmp_nenil {γ : List Dsc} {ds : List D} {x : Dv} (hx : x = .dat (.lst ds) ∨ x = .new (.l ds)) (h : ShA 40 (pys ds)) : cmpI γ .ne x (.new (.l [])) = some (!ds.isEmpty) := by
  show (eqI γ x (.new (.l []))).map _ = _
  rw [eq_nil hx h]
  rfl
/-! ### tuples, mixed -/
theorem tuples1 {n : Nat} : callI tb.fn (n + 1) 26 [.dat (.int 2), .dat (.int 1)] = some (.dat (.lst [intsD [0], intsD [1]]), []) := by kernel_rfl
theorem tuples2 {n : Nat} : callI tb.fn (n + 1) 26 [.dat (.int 2), .dat (.int 2)] = some (.dat (.lst [intsD [0, 0], intsD [0, 1], intsD [1, 0], intsD [1, 1]]), []) := by kernel_rfl
theorem tg2 {cal : Nat → List Ag → Option (Dv × List VY.T)} {γ γ1 γ2 : List Dsc} {i j : Nat} {a b : D} (h1 : canSet γ i = true) (e1 : γ.set i (.dat a) = γ1) (h2 : canSet γ1 j = true) (e2 : γ1.set j (.dat b) = γ2) : tgI cal (.tup [.nm i, .nm j]) (.dat (.tup [a, b])) γ = some γ2 := by
  show (tgI cal (.nm i) (.dat a) γ).bind (fun γ' => (tgI cal (.nm j) (.dat b) γ').bind fun γ3 => some γ3) = _
  rw [tg_nm h1 e1, Option.bind_some, tg_nm h2 e2, Option.bind_some]
def vecD (v : BV) : D := intsD (vI v)
def MG (V F : D) (w : Nat) (acc : BV) (x5 x6 : Dsc) : List Dsc := [.dat (.int 2), .dat V, .dat F, .dat (.int (w : Nat)), .dat (vecD acc), x5, x6]
theorem vI_len (v : BV) : (vI v).length = v.length := List.length_map ..
theorem mx_loop {n : Nat} (V F : D) {w : Nat} (hw : w ≤ 6) : ∀ (vs : List BV) (fs : List Int) (acc : BV) (x5 x6 : Dsc), (∀ v ∈ vs, v.length = w) → (∀ f ∈ fs, f = 0 ∨ f = 1) → acc.length = w → cs x5 = true → cs x6 = true →
    ∃ y5 y6, forI (fun d γ => (tgI (callI tb.fn (n + 1)) (.tup [(.nm 5), (.nm 6)]) (.dat d) γ).bind fun γ' => exB (callI tb.fn (n + 1)) [.set (.nm 4) (.call 21 [(.slot 0), (.slot 4), (.slot 5), (.slot 6)])] γ') (zipD (vs.map vecD) (fs.map .int)) (MG V F w acc x5 x6) = some (.nx (MG V F w (mixB w vs fs acc) y5 y6))
  | [], fs, acc, x5, x6, _, _, _, _, _ => ⟨x5, x6, by rw [mixB.eq_def]; rfl⟩
  | v :: vs, [], acc, x5, x6, _, _, _, _, _ => ⟨x5, x6, rfl⟩
  | v :: vs, f :: fs, acc, x5, x6, hv, hf, ha, c5, c6 => by
    have lv := hv v List.mem_cons_self
    have e : plusV f (vI acc) (vI v) = vI (if f = 1 then xr acc v else acc) := by
      rcases hf f List.mem_cons_self with rfl | rfl
      · rw [plus0 (.inl rfl) _ _ (by rw [ha, lv]), if_neg (by decide)]
      · rw [plus1, if_pos rfl]
    have la : (if f = 1 then xr acc v else acc).length = w := by
      split
      · rw [xr_len (by rw [ha, lv]), lv]
      · exact ha
    obtain ⟨y5, y6, ih⟩ := mx_loop (n := n) V F hw vs fs (if f = 1 then xr acc v else acc) (.dat (vecD v)) (.dat (.int f)) (fun u hu => hv u (List.mem_cons_of_mem _ hu)) (fun g hg => hf g (List.mem_cons_of_mem _ hg)) la rfl rfl
    refine ⟨y5, y6, ?_⟩
    have t := tg2 (cal := callI tb.fn (n + 1)) (γ := MG V F w acc x5 x6) (i := 5) (j := 6) (a := vecD v) (b := .int f) (γ1 := MG V F w acc (.dat (vecD v)) x6) (γ2 := MG V F w acc (.dat (vecD v)) (.dat (.int f))) (cs_at (x := x5) (by kernel_rfl) c5) (by kernel_rfl) (cs_at (x := x6) (by kernel_rfl) c6) (by kernel_rfl)
    have p := plus_ok (n := n) (xs := vI acc) (ys := vI v) (c := f) (by rcases hf f List.mem_cons_self with rfl | rfl <;> decide) (by rcases hf f List.mem_cons_self with rfl | rfl <;> decide) (by rw [vI_len, ha]; omega)
    rw [e] at p
    have s2 := ev_call (cal := callI tb.fn (n + 1)) (f := 21) (es := [(.slot 0), (.slot 4), (.slot 5), (.slot 6)]) (γ := MG V F w acc (.dat (vecD v)) (.dat (.int f))) (γ1 := MG V F w acc (.dat (vecD v)) (.dat (.int f))) (vs := [.dat (.int 2), .dat (vecD acc), .dat (vecD v), .dat (.int f)]) (by kernel_rfl) (by kernel_rfl) (by kernel_rfl) p (by kernel_rfl)
    have s4 := exB_nx (ss := []) (exS_set (γ2 := MG V F w (if f = 1 then xr acc v else acc) (.dat (vecD v)) (.dat (.int f))) (t := .nm 4) s2 (by kernel_rfl)) (fl := .nx (MG V F w (if f = 1 then xr acc v else acc) (.dat (vecD v)) (.dat (.int f)))) (by kernel_rfl)
    exact (forI_nx (turn_ok t s4)).trans ih
theorem mixed_ok {n : Nat} {w : Nat} (h2 : 2 ≤ w) (hw : w ≤ 6) {vs : List BV} {fs : List Int} (hv : ∀ v ∈ vs, v.length = w) (hf : ∀ f ∈ fs, f = 0 ∨ f = 1) :
    callI tb.fn (n + 2) 27 [.dat (.int 2), .dat (.lst (vs.map vecD)), .dat (intsD fs), .dat (.int (w : Nat))] = some (.dat (vecD (mixB w vs fs (zB w))), []) := by
  obtain ⟨y5, y6, lp⟩ := mx_loop (n := n) (.lst (vs.map vecD)) (intsD fs) hw vs fs (zB w) .un .un hv hf (z_len w) rfl rfl
  refine (callI_eq (tb := tb.fn) (f := 27) (fd := fd_law_mixed) (fl := .rt (.dat (vecD (mixB w vs fs (zB w)))) (MG (.lst (vs.map vecD)) (intsD fs) w (mixB w vs fs (zB w)) y5 y6)) rfl rfl ?_).trans rfl
  refine exB_nx (γ1 := MG (.lst (vs.map vecD)) (intsD fs) w (zB w) .un .un) (exS_set (x := .dat (vecD (zB w))) (γ1 := [.dat (.int 2), .dat (.lst (vs.map vecD)), .dat (intsD fs), .dat (.int (w : Nat)), .un, .un, .un]) (ev_bin (x := .dat (.tup [.int 0])) (y := .dat (.int (w : Nat))) (γ1 := [.dat (.int 2), .dat (.lst (vs.map vecD)), .dat (intsD fs), .dat (.int (w : Nat)), .un, .un, .un]) (by kernel_rfl) (by kernel_rfl) ((mul0 (cal := callI tb.fn n) h2 hw _).trans (by rw [zero_b]; rfl))) (by kernel_rfl)) ?_
  exact exB_nx (exS_for (ds := zipD (vs.map vecD) (fs.map .int)) (γ1 := MG (.lst (vs.map vecD)) (intsD fs) w (zB w) .un .un) (by kernel_rfl) lp) (exB_rt (exS_ret (by kernel_rfl)))
end V86

/-! k86: marks. -/
namespace V86
open PySem PySem.Spec PyProof.Rows L2 VY RI
def putW : D := .str ⟨#[112, 117, 116]⟩
def turnW : D := .str ⟨#[116, 117, 114, 110]⟩
def readW : D := .str ⟨#[114, 101, 97, 100]⟩
def markD (m : Mk) : D := match m.kind with
  | .put => .tup [.int (m.line : Nat), putW]
  | .turn => .tup [.int (m.line : Nat), turnW]
  | .read fs => .tup [.int (m.line : Nat), readW, intsD fs]
def mkM (m : Mk) : D := .tup [markD m, vecD m.vec, .int (m.price : Nat)]
def soL : So → List D
  | .p1 => [mkD wPut 1]
  | .p1t1 => [mkD wPut 1, mkD wTurn 1]
  | .t1 => [mkD wTurn 1]
  | .p2r1t1 => [mkD wPut 2, mkD wRead 1, mkD wTurn 1]
def soD (so : So) : D := .pt (soL so)
theorem sorts_so {s : D} (h : s ∈ sorts4) : ∃ so, s = soD so := by
  simp [sorts4] at h
  rcases h with rfl | rfl | rfl | rfl
  · exact ⟨.p1, rfl⟩
  · exact ⟨.p1t1, rfl⟩
  · exact ⟨.t1, rfl⟩
  · exact ⟨.p2r1t1, rfl⟩
def kvs (so : So) : List (Key × D) := (kvsI (soL so)).getD []
def enV (e : En) : D := .tup [vecD e.new, vecD e.old, .non, .lst (e.seen.map vecD)]
theorem en_eq (e : En) : enD e = enV e := by
  show D.tup [_, _, _, .lst ((e.seen.map vI).map intsD)] = _
  rw [List.map_map]
  rfl
def KG (H L : D) (so : So) (w : Nat) (found : List D) (x6 x7 x8 : Dsc) : List Dsc := [.dat H, .dat L, .dat (.int 2), .own (.cl (.dct (kvs so))), .dat (.int (w : Nat)), .own (.l found), x6, x7, x8]
def stPut : RI.St := .ite (.cmp .in_ (.cst (.str ⟨#[112, 117, 116]⟩)) (.slot 3)) [.ex (.app (.slot 5) (.tup [(.tup [(.slot 6), (.cst (.str ⟨#[112, 117, 116]⟩))]), (.idx (.slot 7) (.cst (.int 0))), (.idx (.slot 3) (.cst (.str ⟨#[112, 117, 116]⟩)))]))] []
def stTurn : RI.St := .ite (.cmp .in_ (.cst (.str ⟨#[116, 117, 114, 110]⟩)) (.slot 3)) [.ex (.app (.slot 5) (.tup [(.tup [(.slot 6), (.cst (.str ⟨#[116, 117, 114, 110]⟩))]), (.call 21 [(.slot 2), (.idx (.slot 7) (.cst (.int 0))), (.idx (.slot 7) (.cst (.int 1))), (.bin .sub (.slot 2) (.cst (.int 1)))]), (.idx (.slot 3) (.cst (.str ⟨#[116, 117, 114, 110]⟩)))]))] []
def stPass : RI.St := .ite (.and (.cmp .in_ (.cst (.str ⟨#[112, 97, 115, 115]⟩)) (.slot 3)) (.cmp .notN (.idx (.slot 7) (.cst (.int 2))) (.cst .non))) [.ex (.app (.slot 5) (.tup [(.tup [(.slot 6), (.cst (.str ⟨#[112, 97, 115, 115]⟩))]), (.call 21 [(.slot 2), (.idx (.slot 7) (.cst (.int 0))), (.idx (.slot 7) (.cst (.int 2))), (.bin .sub (.slot 2) (.cst (.int 1)))]), (.idx (.slot 3) (.cst (.str ⟨#[112, 97, 115, 115]⟩)))]))] []
def rdBody : List RI.St := [.ex (.app (.slot 5) (.tup [(.tup [(.slot 6), (.cst (.str ⟨#[114, 101, 97, 100]⟩)), (.slot 8)]), (.call 27 [(.slot 2), (.idx (.slot 7) (.cst (.int 3))), (.slot 8), (.slot 4)]), (.idx (.slot 3) (.cst (.str ⟨#[114, 101, 97, 100]⟩)))]))]
def stRead : RI.St := .ite (.and (.cmp .in_ (.cst (.str ⟨#[114, 101, 97, 100]⟩)) (.slot 3)) (.cmp .ne (.idx (.slot 7) (.cst (.int 3))) (.lst []))) [.for_ (.nm 8) (.of (.slc (.call 26 [(.slot 2), (.b1 .len (.idx (.slot 7) (.cst (.int 3))))]) (.cst (.int 1)) .no)) rdBody] []
def putP' (so : So) (k : Nat) (e : En) : List Mk := match so with
  | .p1 => [putM k e 1]
  | .p1t1 => [putM k e 1]
  | .t1 => []
  | .p2r1t1 => [putM k e 2]
def turnP' (so : So) (k : Nat) (e : En) : List Mk := match so with
  | .p1 => []
  | .p1t1 => [turnM k e]
  | .t1 => [turnM k e]
  | .p2r1t1 => [turnM k e]
def readP' (w : Nat) (so : So) (k : Nat) (e : En) : List Mk := match so with
  | .p1 => []
  | .p1t1 => []
  | .t1 => []
  | .p2r1t1 => readM w k e
theorem marks_parts (w k : Nat) (e : En) (so : So) : marksE w k e so = putP' so k e ++ turnP' so k e ++ readP' w so k e := by cases so <;> rfl
section
variable {n : Nat} (H L : D) {w : Nat} (k : Nat) (e : En) {found : List D} {x8 : Dsc}
theorem put_one (so : So) (c : Nat) (hin : ev (callI tb.fn n) (.cmp .in_ (.cst (.str ⟨#[112, 117, 116]⟩)) (.slot 3)) (KG H L so w found (.dat (.int (k : Nat))) (.dat (enV e)) x8) = some (.dat (.bl true), (KG H L so w found (.dat (.int (k : Nat))) (.dat (enV e)) x8))) (hv : ev (callI tb.fn n) (.tup [(.tup [(.slot 6), (.cst (.str ⟨#[112, 117, 116]⟩))]), (.idx (.slot 7) (.cst (.int 0))), (.idx (.slot 3) (.cst (.str ⟨#[112, 117, 116]⟩)))]) (KG H L so w found (.dat (.int (k : Nat))) (.dat (enV e)) x8) = some (.dat (mkM (putM k e c)), KG H L so w found (.dat (.int (k : Nat))) (.dat (enV e)) x8)) (hf : found.length < 1000) :
    exS (callI tb.fn n) stPut (KG H L so w found (.dat (.int (k : Nat))) (.dat (enV e)) x8) = some (.nx (KG H L so w (found ++ [mkM (putM k e c)]) (.dat (.int (k : Nat))) (.dat (enV e)) x8)) :=
  exS_ite (k := true) hin (fun _ => exB_nx (γ1 := KG H L so w (found ++ [mkM (putM k e c)]) (.dat (.int (k : Nat))) (.dat (enV e)) x8) (exS_ex (ev_app (x := .loc 5) (us := found) (d := mkM (putM k e c)) (y := .dat (mkM (putM k e c))) (γ1 := KG H L so w found (.dat (.int (k : Nat))) (.dat (enV e)) x8) (γ2 := KG H L so w found (.dat (.int (k : Nat))) (.dat (enV e)) x8) (by kernel_rfl) (by kernel_rfl) hv (by kernel_rfl) (ds := found) (by kernel_rfl) (by omega) (by kernel_rfl))) (by kernel_rfl)) nofun
theorem put_st (so : So) (hf : found.length < 1000) : exS (callI tb.fn n) stPut (KG H L so w found (.dat (.int (k : Nat))) (.dat (enV e)) x8) = some (.nx (KG H L so w (found ++ (putP' so k e).map mkM) (.dat (.int (k : Nat))) (.dat (enV e)) x8)) := by
  cases so with
  | t1 => show _ = some (Fl.nx (KG H L .t1 w (found ++ []) _ _ _)); rw [List.append_nil]; kernel_rfl
  | p1 => exact put_one H L k e .p1 1 (by kernel_rfl) (by kernel_rfl) hf
  | p1t1 => exact put_one H L k e .p1t1 1 (by kernel_rfl) (by kernel_rfl) hf
  | p2r1t1 => exact put_one H L k e .p2r1t1 2 (by kernel_rfl) (by kernel_rfl) hf
theorem turn_one (so : So) (hw : w ≤ 6) (he : EnW w e) (hin : ev (callI tb.fn (n + 1)) (.cmp .in_ (.cst (.str ⟨#[116, 117, 114, 110]⟩)) (.slot 3)) (KG H L so w found (.dat (.int (k : Nat))) (.dat (enV e)) x8) = some (.dat (.bl true), (KG H L so w found (.dat (.int (k : Nat))) (.dat (enV e)) x8))) (hv : ev (callI tb.fn (n + 1)) (.idx (.slot 3) (.cst (.str ⟨#[116, 117, 114, 110]⟩))) (KG H L so w found (.dat (.int (k : Nat))) (.dat (enV e)) x8) = some (.dat (.int (1 : Nat)), KG H L so w found (.dat (.int (k : Nat))) (.dat (enV e)) x8)) (hf : found.length < 1000) :
    exS (callI tb.fn (n + 1)) stTurn (KG H L so w found (.dat (.int (k : Nat))) (.dat (enV e)) x8) = some (.nx (KG H L so w (found ++ [mkM (turnM k e)]) (.dat (.int (k : Nat))) (.dat (enV e)) x8)) := by
  have p := plus_ok (n := n) (xs := vI e.new) (ys := vI e.old) (c := 1) (by decide) (by decide) (by rw [vI_len, he.nw]; omega)
  rw [plus1] at p
  have c := ev_call (cal := callI tb.fn (n + 1)) (f := 21) (es := [(.slot 2), (.idx (.slot 7) (.cst (.int 0))), (.idx (.slot 7) (.cst (.int 1))), (.bin .sub (.slot 2) (.cst (.int 1)))]) (γ := KG H L so w found (.dat (.int (k : Nat))) (.dat (enV e)) x8) (γ1 := KG H L so w found (.dat (.int (k : Nat))) (.dat (enV e)) x8) (vs := [.dat (.int 2), .dat (vecD e.new), .dat (vecD e.old), .dat (.int 1)]) (by kernel_rfl) (by kernel_rfl) (by kernel_rfl) p (by kernel_rfl)
  have v : ev (callI tb.fn (n + 1)) (.tup [(.tup [(.slot 6), (.cst (.str ⟨#[116, 117, 114, 110]⟩))]), (.call 21 [(.slot 2), (.idx (.slot 7) (.cst (.int 0))), (.idx (.slot 7) (.cst (.int 1))), (.bin .sub (.slot 2) (.cst (.int 1)))]), (.idx (.slot 3) (.cst (.str ⟨#[116, 117, 114, 110]⟩)))]) (KG H L so w found (.dat (.int (k : Nat))) (.dat (enV e)) x8) = some (.dat (mkM (turnM k e)), KG H L so w found (.dat (.int (k : Nat))) (.dat (enV e)) x8) :=
    ev_tup (ds := [.tup [.int (k : Nat), turnW], vecD (xr e.new e.old), .int (1 : Nat)]) (vs := [.dat (.tup [.int (k : Nat), turnW]), .dat (vecD (xr e.new e.old)), .dat (.int (1 : Nat))]) (evs_cons rfl (x := .dat (.tup [.int (k : Nat), turnW])) (γ1 := KG H L so w found (.dat (.int (k : Nat))) (.dat (enV e)) x8) (by kernel_rfl) (evs_cons rfl (x := .dat (vecD (xr e.new e.old))) c (evs_cons rfl (x := .dat (.int (1 : Nat))) hv (by kernel_rfl)))) (by kernel_rfl) (show 3 ≤ 1000000 by decide)
  exact exS_ite (k := true) hin (fun _ => exB_nx (γ1 := KG H L so w (found ++ [mkM (turnM k e)]) (.dat (.int (k : Nat))) (.dat (enV e)) x8) (exS_ex (ev_app (x := .loc 5) (us := found) (d := mkM (turnM k e)) (y := .dat (mkM (turnM k e))) (γ1 := KG H L so w found (.dat (.int (k : Nat))) (.dat (enV e)) x8) (γ2 := KG H L so w found (.dat (.int (k : Nat))) (.dat (enV e)) x8) (by kernel_rfl) (by kernel_rfl) v (by kernel_rfl) (ds := found) (by kernel_rfl) (by omega) (by kernel_rfl))) (by kernel_rfl)) nofun
theorem turn_st (so : So) (hw : w ≤ 6) (he : EnW w e) (hf : found.length < 1000) : exS (callI tb.fn (n + 1)) stTurn (KG H L so w found (.dat (.int (k : Nat))) (.dat (enV e)) x8) = some (.nx (KG H L so w (found ++ (turnP' so k e).map mkM) (.dat (.int (k : Nat))) (.dat (enV e)) x8)) := by
  cases so with
  | p1 => show _ = some (Fl.nx (KG H L .p1 w (found ++ []) _ _ _)); rw [List.append_nil]; kernel_rfl
  | t1 => exact turn_one H L k e .t1 hw he (by kernel_rfl) (by kernel_rfl) hf
  | p1t1 => exact turn_one H L k e .p1t1 hw he (by kernel_rfl) (by kernel_rfl) hf
  | p2r1t1 => exact turn_one H L k e .p2r1t1 hw he (by kernel_rfl) (by kernel_rfl) hf
theorem pass_st (so : So) : exS (callI tb.fn n) stPass (KG H L so w found (.dat (.int (k : Nat))) (.dat (enV e)) x8) = some (.nx (KG H L so w found (.dat (.int (k : Nat))) (.dat (enV e)) x8)) := by
  cases so <;> kernel_rfl
def rdM (w k : Nat) (e : En) (fs : List Int) : Mk := ⟨k, .read fs, mixB w e.seen fs (zB w), 1⟩
theorem rd_turn {fs : List Int} (hfs : ∀ f ∈ fs, f = 0 ∨ f = 1) (h2 : 2 ≤ w) (hw : w ≤ 6) (he : EnW w e) (hf : found.length < 1000) (c8 : cs x8 = true) :
    (tgI (callI tb.fn (n + 2)) (.nm 8) (.dat (intsD fs)) (KG H L .p2r1t1 w found (.dat (.int (k : Nat))) (.dat (enV e)) x8)).bind (fun γ' => exB (callI tb.fn (n + 2)) rdBody γ') = some (.nx (KG H L .p2r1t1 w (found ++ [mkM (rdM w k e fs)]) (.dat (.int (k : Nat))) (.dat (enV e)) (.dat (intsD fs)))) := by
  have p := mixed_ok (n := n) h2 hw he.sw hfs
  have c := ev_call (cal := callI tb.fn (n + 2)) (f := 27) (es := [(.slot 2), (.idx (.slot 7) (.cst (.int 3))), (.slot 8), (.slot 4)]) (γ := KG H L .p2r1t1 w found (.dat (.int (k : Nat))) (.dat (enV e)) (.dat (intsD fs))) (γ1 := KG H L .p2r1t1 w found (.dat (.int (k : Nat))) (.dat (enV e)) (.dat (intsD fs))) (vs := [.dat (.int 2), .dat (.lst (e.seen.map vecD)), .dat (intsD fs), .dat (.int (w : Nat))]) (by kernel_rfl) (by kernel_rfl) (by kernel_rfl) p (by kernel_rfl)
  have v : ev (callI tb.fn (n + 2)) (.tup [(.tup [(.slot 6), (.cst (.str ⟨#[114, 101, 97, 100]⟩)), (.slot 8)]), (.call 27 [(.slot 2), (.idx (.slot 7) (.cst (.int 3))), (.slot 8), (.slot 4)]), (.idx (.slot 3) (.cst (.str ⟨#[114, 101, 97, 100]⟩)))]) (KG H L .p2r1t1 w found (.dat (.int (k : Nat))) (.dat (enV e)) (.dat (intsD fs))) = some (.dat (mkM (rdM w k e fs)), KG H L .p2r1t1 w found (.dat (.int (k : Nat))) (.dat (enV e)) (.dat (intsD fs))) :=
    ev_tup (ds := [.tup [.int (k : Nat), readW, intsD fs], vecD (mixB w e.seen fs (zB w)), .int (1 : Nat)]) (vs := [.dat (.tup [.int (k : Nat), readW, intsD fs]), .dat (vecD (mixB w e.seen fs (zB w))), .dat (.int (1 : Nat))]) (evs_cons rfl (x := .dat (.tup [.int (k : Nat), readW, intsD fs])) (γ1 := KG H L .p2r1t1 w found (.dat (.int (k : Nat))) (.dat (enV e)) (.dat (intsD fs))) (by kernel_rfl) (evs_cons rfl (x := .dat (vecD (mixB w e.seen fs (zB w)))) c (evs_cons rfl (x := .dat (.int (1 : Nat))) (γ1 := KG H L .p2r1t1 w found (.dat (.int (k : Nat))) (.dat (enV e)) (.dat (intsD fs))) (by kernel_rfl) (by kernel_rfl)))) (by kernel_rfl) (show 3 ≤ 1000000 by decide)
  refine turn_ok (γ1 := KG H L .p2r1t1 w found (.dat (.int (k : Nat))) (.dat (enV e)) (.dat (intsD fs))) (tg_nm (cs_at (x := x8) (by kernel_rfl) c8) (by kernel_rfl)) ?_
  exact exB_nx (γ1 := KG H L .p2r1t1 w (found ++ [mkM (rdM w k e fs)]) (.dat (.int (k : Nat))) (.dat (enV e)) (.dat (intsD fs))) (exS_ex (ev_app (x := .loc 5) (us := found) (d := mkM (rdM w k e fs)) (y := .dat (mkM (rdM w k e fs))) (γ1 := KG H L .p2r1t1 w found (.dat (.int (k : Nat))) (.dat (enV e)) (.dat (intsD fs))) (γ2 := KG H L .p2r1t1 w found (.dat (.int (k : Nat))) (.dat (enV e)) (.dat (intsD fs))) (by kernel_rfl) (by kernel_rfl) v (by kernel_rfl) (ds := found) (by kernel_rfl) (by omega) (by kernel_rfl))) (by kernel_rfl)
theorem ev_slc1 {cal : Nat → List Ag → Option (Dv × List VY.T)} {a : Ex} {γ γ1 : List Dsc} {x y : Dv} {i : Int} (h : ev cal a γ = some (x, γ1)) (h2 : slcI γ1 x (some i) none = some y) : ev cal (.slc a (.cst (.int i)) .no) γ = some (y, γ1) := by
  have e : ev cal (.slc a (.cst (.int i)) .no) γ = (ev cal a γ).bind fun r => (slcI r.2 r.1 (some i) none).map fun d => (d, r.2) := by
    simp only [ev]
    rfl
  rw [e, h, Option.bind_some, h2]
  rfl
theorem rd_loop (h2 : 2 ≤ w) (hw : w ≤ 6) (he : EnW w e) : ∀ (fss : List (List Int)) (found : List D) (x8 : Dsc), (∀ fs ∈ fss, ∀ f ∈ fs, f = 0 ∨ f = 1) → found.length + fss.length < 1000 → cs x8 = true → ∃ y8, cs y8 = true ∧
    forI (fun d γ => (tgI (callI tb.fn (n + 2)) (.nm 8) (.dat d) γ).bind fun γ' => exB (callI tb.fn (n + 2)) rdBody γ') (fss.map intsD) (KG H L .p2r1t1 w found (.dat (.int (k : Nat))) (.dat (enV e)) x8) = some (.nx (KG H L .p2r1t1 w (found ++ (fss.map (rdM w k e)).map mkM) (.dat (.int (k : Nat))) (.dat (enV e)) y8))
  | [], found, x8, _, _, c8 => ⟨x8, c8, by show _ = some (Fl.nx (KG H L .p2r1t1 w (found ++ []) _ _ _)); rw [List.append_nil]; rfl⟩
  | fs :: fss, found, x8, hfs, hl, c8 => by
    rw [List.length_cons] at hl
    have t := rd_turn (n := n) H L k e (hfs fs List.mem_cons_self) h2 hw he (found := found) (x8 := x8) (by omega) c8
    obtain ⟨y8, cy, lp⟩ := rd_loop h2 hw he fss (found ++ [mkM (rdM w k e fs)]) (.dat (intsD fs)) (fun g hg => hfs g (List.mem_cons_of_mem _ hg)) (by rw [List.length_append, List.length_singleton]; omega) rfl
    refine ⟨y8, cy, ?_⟩
    rw [List.map_cons, List.map_cons, List.map_cons, List.append_cons]
    exact (forI_nx t).trans lp
theorem seen_sh (l : List BV) : ShA 40 (pys (l.map vecD)) := shA_map fun v _ => sh_le (sh_ints (m := 0) _) (by decide)
theorem read_cond {m : Nat} (so : So) (hso : so = .p2r1t1) : ev (callI tb.fn m) (.and (.cmp .in_ (.cst (.str ⟨#[114, 101, 97, 100]⟩)) (.slot 3)) (.cmp .ne (.idx (.slot 7) (.cst (.int 3))) (.lst []))) (KG H L so w found (.dat (.int (k : Nat))) (.dat (enV e)) x8) = some (.dat (.bl (!(e.seen.map vecD).isEmpty)), KG H L so w found (.dat (.int (k : Nat))) (.dat (enV e)) x8) := by
  subst hso
  exact ev_and (k := true) (γ1 := KG H L .p2r1t1 w found (.dat (.int (k : Nat))) (.dat (enV e)) x8) (by kernel_rfl) (fun _ => ev_cmp (x := .dat (.lst (e.seen.map vecD))) (y := .new (.l [])) (γ1 := KG H L .p2r1t1 w found (.dat (.int (k : Nat))) (.dat (enV e)) x8) (by kernel_rfl) (by kernel_rfl) (cmp_nenil (.inl rfl) (seen_sh _))) nofun
theorem read_st (so : So) (h2 : 2 ≤ w) (hw : w ≤ 6) (he : EnW w e) (hf : found.length < 900) (c8 : cs x8 = true) : ∃ y8, cs y8 = true ∧ exS (callI tb.fn (n + 2)) stRead (KG H L so w found (.dat (.int (k : Nat))) (.dat (enV e)) x8) = some (.nx (KG H L so w (found ++ (readP' w so k e).map mkM) (.dat (.int (k : Nat))) (.dat (enV e)) y8)) := by
  cases so with
  | p1 => exact ⟨x8, c8, by show _ = some (Fl.nx (KG H L .p1 w (found ++ []) _ _ _)); rw [List.append_nil]; kernel_rfl⟩
  | p1t1 => exact ⟨x8, c8, by show _ = some (Fl.nx (KG H L .p1t1 w (found ++ []) _ _ _)); rw [List.append_nil]; kernel_rfl⟩
  | t1 => exact ⟨x8, c8, by show _ = some (Fl.nx (KG H L .t1 w (found ++ []) _ _ _)); rw [List.append_nil]; kernel_rfl⟩
  | p2r1t1 =>
    have hc := read_cond (m := n + 2) H L (w := w) k e (found := found) (x8 := x8) .p2r1t1 rfl
    have f01 : ∀ fs ∈ ([[1]] : List (List Int)), ∀ f ∈ fs, f = 0 ∨ f = 1 := by decide
    have f02 : ∀ fs ∈ ([[0, 1], [1, 0], [1, 1]] : List (List Int)), ∀ f ∈ fs, f = 0 ∨ f = 1 := by decide
    match e, he, hc with
    | ⟨new, old, []⟩, he, hc => exact ⟨x8, c8, by
        show _ = some (Fl.nx (KG H L .p2r1t1 w (found ++ []) _ _ _))
        rw [List.append_nil]
        exact exS_ite (k := false) hc nofun fun _ => by kernel_rfl⟩
    | ⟨new, old, [u]⟩, he, hc =>
      obtain ⟨y8, cy, lp⟩ := rd_loop (n := n) H L k ⟨new, old, [u]⟩ h2 hw he [[1]] found x8 f01 (by simp; omega) c8
      refine ⟨y8, cy, exS_ite (k := true) hc (fun _ => exB_nx (exS_for (ds := [intsD [1]]) (γ1 := KG H L .p2r1t1 w found (.dat (.int (k : Nat))) (.dat (enV ⟨new, old, [u]⟩)) x8) (evi_of (x := .new (.l [intsD [1]])) (ev_slc1 (x := .dat (.lst [intsD [0], intsD [1]])) (ev_call (γ1 := KG H L .p2r1t1 w found (.dat (.int (k : Nat))) (.dat (enV ⟨new, old, [u]⟩)) x8) (vs := [.dat (.int 2), .dat (.int 1)]) (as := [.dat (.int 2), .dat (.int 1)]) (by kernel_rfl) (by kernel_rfl) (by kernel_rfl) (tuples1 (n := n + 1)) (by kernel_rfl)) (by kernel_rfl)) (by kernel_rfl)) lp) (by kernel_rfl)) nofun⟩
    | ⟨new, old, [u, v]⟩, he, hc =>
      obtain ⟨y8, cy, lp⟩ := rd_loop (n := n) H L k ⟨new, old, [u, v]⟩ h2 hw he [[0, 1], [1, 0], [1, 1]] found x8 f02 (by simp; omega) c8
      refine ⟨y8, cy, exS_ite (k := true) hc (fun _ => exB_nx (exS_for (ds := [intsD [0, 1], intsD [1, 0], intsD [1, 1]]) (γ1 := KG H L .p2r1t1 w found (.dat (.int (k : Nat))) (.dat (enV ⟨new, old, [u, v]⟩)) x8) (evi_of (x := .new (.l [intsD [0, 1], intsD [1, 0], intsD [1, 1]])) (ev_slc1 (x := .dat (.lst [intsD [0, 0], intsD [0, 1], intsD [1, 0], intsD [1, 1]])) (ev_call (γ1 := KG H L .p2r1t1 w found (.dat (.int (k : Nat))) (.dat (enV ⟨new, old, [u, v]⟩)) x8) (vs := [.dat (.int 2), .dat (.int 2)]) (as := [.dat (.int 2), .dat (.int 2)]) (by kernel_rfl) (by kernel_rfl) (by kernel_rfl) (tuples2 (n := n + 1)) (by kernel_rfl)) (by kernel_rfl)) (by kernel_rfl)) lp) (by kernel_rfl)) nofun⟩
    | ⟨new, old, _ :: _ :: _ :: _⟩, he, hc => exact absurd he.sl (by simp)
end
def mkBody : List RI.St := [stPut, stTurn, stPass, stRead]
theorem mE_len (w k : Nat) (e : En) (so : So) : (marksE w k e so).length ≤ 5 := by
  have : (readM w k e).length ≤ 3 := by
    unfold readM
    rw [List.length_map]
    unfold tups
    split <;> simp
  cases so <;> simp [marksE] <;> omega
theorem mB_len (w : Nat) (so : So) : ∀ (es : List En) (k : Nat), (marksB w so k es).length ≤ 5 * es.length
  | [], _ => Nat.le_refl _
  | e :: es, k => by
    have := mB_len w so es (k + 1)
    have := mE_len w k e so
    show (marksE w k e so ++ marksB w so (k + 1) es).length ≤ _
    rw [List.length_append, List.length_cons]
    omega
theorem mk_turn {n : Nat} (H L : D) (so : So) {w : Nat} (h2 : 2 ≤ w) (hw : w ≤ 6) (k : Nat) (e : En) (he : EnW w e) {found : List D} (hf : found.length < 800) {x6 x7 x8 : Dsc} (c6 : cs x6 = true) (c7 : cs x7 = true) (c8 : cs x8 = true) :
    ∃ y8, cs y8 = true ∧ (tgI (callI tb.fn (n + 2)) (.tup [.nm 6, .nm 7]) (.dat (.tup [.int (k : Nat), enV e])) (KG H L so w found x6 x7 x8)).bind (fun γ' => exB (callI tb.fn (n + 2)) mkBody γ') = some (.nx (KG H L so w (found ++ (marksE w k e so).map mkM) (.dat (.int (k : Nat))) (.dat (enV e)) y8)) := by
  have t := tg2 (cal := callI tb.fn (n + 2)) (γ := KG H L so w found x6 x7 x8) (i := 6) (j := 7) (a := .int (k : Nat)) (b := enV e) (γ1 := KG H L so w found (.dat (.int (k : Nat))) x7 x8) (γ2 := KG H L so w found (.dat (.int (k : Nat))) (.dat (enV e)) x8) (cs_at (x := x6) (by kernel_rfl) c6) (by kernel_rfl) (cs_at (x := x7) (by kernel_rfl) c7) (by kernel_rfl)
  have l1 : (putP' so k e).length ≤ 1 := by cases so <;> simp [putP']
  have l2 : (turnP' so k e).length ≤ 1 := by cases so <;> simp [turnP']
  have s1 := put_st (n := n + 2) H L (w := w) k e (x8 := x8) so (found := found) (by omega)
  have s2 := turn_st (n := n + 1) H L k e (x8 := x8) so hw he (found := found ++ (putP' so k e).map mkM) (by rw [List.length_append, List.length_map]; omega)
  have s3 := pass_st (n := n + 2) H L (w := w) k e (found := found ++ (putP' so k e).map mkM ++ (turnP' so k e).map mkM) (x8 := x8) so
  obtain ⟨y8, cy, s4⟩ := read_st (n := n) H L k e so h2 hw he (found := found ++ (putP' so k e).map mkM ++ (turnP' so k e).map mkM) (x8 := x8) (by rw [List.length_append, List.length_append, List.length_map, List.length_map]; omega) c8
  refine ⟨y8, cy, turn_ok t (exB_nx s1 (exB_nx s2 (exB_nx s3 (exB_nx s4 ?_))))⟩
  rw [marks_parts, List.map_append, List.map_append, ← List.append_assoc, ← List.append_assoc]
  rfl
theorem marks_ok {n : Nat} (so : So) {bs : List Bit} (hl : bs.length ≤ 50) (hb : ∀ b ∈ bs, BReg b ∧ BTwo b) (hd : bs.countP isDr ≤ 4) :
    callI tb.fn (n + 4) 28 [.dat (hallD (soD so) bs), .dat (.lst (bs.map lotD))] = some (.new (.l ((marksOf so bs).map mkM)), []) := by
  obtain ⟨w, hw⟩ : ∃ w, w = wid bs := ⟨_, rfl⟩
  have hwv : w = 2 + bs.countP isDr := hw
  obtain ⟨es, hes⟩ : ∃ es, es = runB w (firstB w) 2 bs := ⟨_, rfl⟩
  have hbl : ∀ b ∈ bs, BReg b ∧ BLen b := fun b h => ⟨(hb b h).1, by
    have := (hb b h).2
    cases b with
    | dr r => trivial
    | st r ks => exact Nat.lt_of_le_of_lt this (by decide)⟩
  have sh := shown_ok (n := n) (soD so) bs hl hbl hd
  rw [← hwv, first_b, run_b, ← hes, List.map_congr_left (fun e _ => en_eq e)] at sh
  have wn := wideN_ok (n := n + 2) (soD so) bs hl
  rw [show (2 + (bs.countP isDr : Nat) : Int) = ((w : Nat) : Int) by rw [hwv]; omega] at wn
  have ew : ∀ e ∈ es, EnW w e := by rw [hes]; exact run_w (first_w w) hb
  have el : es.length ≤ 50 := by rw [hes, run_len]; exact hl
  have eM : marksOf so bs = marksB w so 0 es := by unfold marksOf; rw [← hw, ← hes]
  rw [eM]
  obtain ⟨γ', e1, x6, x7, x8, e2, _⟩ := forI_inv (step := fun d γ => (tgI (callI tb.fn (n + 3)) (.tup [.nm 6, .nm 7]) (.dat d) γ).bind fun γ' => exB (callI tb.fn (n + 3)) mkBody γ')
    (I := fun i γ => ∃ x6 x7 x8, γ = KG (hallD (soD so) bs) (.lst (bs.map lotD)) so w ((marksB w so 0 (es.take i)).map mkM) x6 x7 x8 ∧ cs x6 = true ∧ cs x7 = true ∧ cs x8 = true) (ds := enumD (es.map enV)) (k := 0) (γ := KG (hallD (soD so) bs) (.lst (bs.map lotD)) so w [] .un .un .un) ⟨.un, .un, .un, rfl, rfl, rfl, rfl⟩ (fun i d γ hd ⟨x6, x7, x8, hγ, c6, c7, c8⟩ => by
      subst hγ
      have hi : i < (es.map enV).length := by
        have := (List.getElem?_eq_some_iff.mp hd).1
        rwa [enumD_len] at this
      rw [enumD_get (List.getElem?_eq_getElem hi), List.getElem_map] at hd
      cases hd
      rw [List.length_map] at hi
      have lb := mB_len w so (es.take (0 + i)) 0
      have lt : (es.take (0 + i)).length = i := by rw [List.length_take]; omega
      obtain ⟨y8, cy, t⟩ := mk_turn (n := n + 1) (hallD (soD so) bs) (.lst (bs.map lotD)) so (w := w) (by omega) (by omega) i es[i] (ew _ (List.getElem_mem hi)) (found := (marksB w so 0 (es.take (0 + i))).map mkM) (x6 := x6) (x7 := x7) (x8 := x8) (by rw [List.length_map]; omega) c6 c7 c8
      refine ⟨_, t, .dat (.int (i : Nat)), .dat (enV es[i]), y8, ?_, rfl, rfl, cy⟩
      rw [show 0 + i + 1 = 0 + i + 1 from rfl, List.take_add_one, show 0 + i = i by omega, List.getElem?_eq_getElem hi, marks_app, List.map_append]
      rw [show 0 + i = i by omega] at lt
      rw [lt, show 0 + i = i by omega]
      show _ = KG _ _ _ _ (_ ++ (marksE w i es[i] so ++ []).map mkM) _ _ _
      rw [List.append_nil])
  rw [Nat.zero_add, enumD_len, List.length_map, List.take_length] at e2
  subst e2
  refine (callI_eq (tb := tb.fn) (f := 28) (fd := fd_law_marks_of) (fl := .rt (.loc 5) (KG (hallD (soD so) bs) (.lst (bs.map lotD)) so w ((marksB w so 0 es).map mkM) x6 x7 x8)) rfl rfl ?_).trans (by kernel_rfl)
  refine exB_nx (γ1 := [.dat (hallD (soD so) bs), .dat (.lst (bs.map lotD)), .dat (.int 2), .own (.cl (.dct (kvs so))), .un, .un, .un, .un, .un]) (by cases so <;> kernel_rfl) ?_
  refine exB_nx (γ1 := KG (hallD (soD so) bs) (.lst (bs.map lotD)) so w [] .un .un .un) (exS_par (vs := [.dat (.int (w : Nat)), .new (.l [])]) (γ1 := [.dat (hallD (soD so) bs), .dat (.lst (bs.map lotD)), .dat (.int 2), .own (.cl (.dct (kvs so))), .un, .un, .un, .un, .un]) (evn_cons (vs := [.new (.l [])]) (ev_call (γ1 := [.dat (hallD (soD so) bs), .dat (.lst (bs.map lotD)), .dat (.int 2), .own (.cl (.dct (kvs so))), .un, .un, .un, .un, .un]) (vs := [.dat (hallD (soD so) bs), .dat (.lst (bs.map lotD))]) (by kernel_rfl) (by kernel_rfl) (by kernel_rfl) wn rfl) (by kernel_rfl)) (by kernel_rfl)) ?_
  exact exB_nx (exS_for (ds := enumD (es.map enV)) (γ1 := KG (hallD (soD so) bs) (.lst (bs.map lotD)) so w [] .un .un .un) (evi_enum (x := .new (.l (es.map enV))) (ev_call (γ1 := KG (hallD (soD so) bs) (.lst (bs.map lotD)) so w [] .un .un .un) (vs := [.dat (hallD (soD so) bs), .dat (.lst (bs.map lotD))]) (by kernel_rfl) (by kernel_rfl) (by kernel_rfl) sh rfl) (by kernel_rfl)) e1) (exB_rt (exS_ret (by kernel_rfl)))
end V86

/-! k86: looks. -/
namespace V86
open PySem PySem.Spec PyProof.Rows L2 VY RI
def kwD : Kd → D
  | .put => putW
  | .turn => turnW
  | .read _ => readW
theorem sh_w {m : Nat} (k : Kd) : Sh m (py (kwD k)) := by
  cases k <;> (rw [kwD]; first | rw [putW] | rw [turnW] | rw [readW]) <;> rw [py] <;> exact ⟨by simp only [PyData.canLay0]; decide +kernel, by simp only [PyData.depth]; exact Nat.zero_le _⟩
theorem shA_two {m : Nat} {a b : D} (ha : Sh m (py a)) (hb : Sh m (py b)) : ShA m (pys [a, b]) := by
  rw [pys, pys, pys]
  exact shA_cons ha (shA_cons hb shA_nil)
theorem shA_three {m : Nat} {a b c : D} (ha : Sh m (py a)) (hb : Sh m (py b)) (hc : Sh m (py c)) : ShA m (pys [a, b, c]) := by
  rw [pys, pys, pys, pys]
  exact shA_cons ha (shA_cons hb (shA_cons hc shA_nil))
theorem sh_mark (m : Mk) : Sh 2 (py (markD m)) := by
  match m with
  | ⟨l, .put, v, c⟩ => exact sh_tup (shA_two (sh_int _) (sh_w .put))
  | ⟨l, .turn, v, c⟩ => exact sh_tup (shA_two (sh_int _) (sh_w .turn))
  | ⟨l, .read fs, v, c⟩ => exact sh_tup (shA_three (sh_int _) (sh_w (.read fs)) (sh_ints fs))
theorem sh_mkM (m : Mk) : Sh 3 (py (mkM m)) := sh_tup (shA_three (sh_mark m) (sh_le (sh_ints (m := 0) _) (by decide)) (sh_int _))
theorem same_cmp {γ : List Dsc} (a b : Int) (j k : Kd) : cmpI γ .eq (.dat (.tup [.int a, kwD j])) (.dat (.tup [.int b, kwD k])) = some (decide (a = b) && decide (j.num = k.num)) := by
  show gd (SeqAt.shaped (py (.tup [.int a, kwD j])) && SeqAt.shaped (py (.tup [.int b, kwD k]))) (some (PyData.eqv (py (.tup [.int a, kwD j])) (py (.tup [.int b, kwD k])))) = _
  rw [gd_t (by rw [shaped_of (sh_tup (shA_two (sh_int (m := 0) a) (sh_w j))) (by decide), shaped_of (sh_tup (shA_two (sh_int (m := 0) b) (sh_w k))) (by decide)]; rfl)]
  have e : ∀ x y : Str, PyData.eqv (py (.tup [.int a, .str x])) (py (.tup [.int b, .str y])) = (decide (a = b) && (x == y)) := fun x y => by
    simp only [py, pys, PyData.eqv, PyData.eqvAll, Bool.and_true]
    rfl
  congr 1
  cases j <;> cases k <;> (first | rw [show kwD .put = .str ⟨#[112, 117, 116]⟩ from rfl] | skip) <;> (first | rw [show kwD .turn = .str ⟨#[116, 117, 114, 110]⟩ from rfl] | skip) <;> exact (e _ _).trans (congrArg _ (by kernel_rfl))
/-! ### which marks stand for the same -/
def lineOf : D → Int
  | .tup (.tup (.int l :: _) :: _) => l
  | _ => -1
def numOf : D → Nat
  | .tup (.tup (_ :: .str x :: _) :: _) => if x = ⟨#[112, 117, 116]⟩ then 0 else if x = ⟨#[116, 117, 114, 110]⟩ then 1 else 2
  | _ => 3
def sameD (own : Mk) (d : D) : Bool := decide (lineOf d = (own.line : Nat)) && decide (numOf d = own.kind.num)
theorem same_d (own m : Mk) : sameD own (mkM m) = sameK m own := by
  have hn : numOf (mkM m) = m.kind.num := by
    match m with
    | ⟨l, .put, v, c⟩ => rfl
    | ⟨l, .turn, v, c⟩ => rfl
    | ⟨l, .read fs, v, c⟩ => rfl
  have hl : lineOf (mkM m) = (m.line : Nat) := by
    match m with
    | ⟨l, .put, v, c⟩ => rfl
    | ⟨l, .turn, v, c⟩ => rfl
    | ⟨l, .read fs, v, c⟩ => rfl
  unfold sameD sameK
  rw [hn, hl]
  congr 1
  exact decide_eq_decide.mpr ⟨fun h => by omega, fun h => by omega⟩
theorem same_all (own : Mk) : ∀ l : List Mk, ((l.map mkM).filter (sameD own)).isEmpty = l.all fun m => !sameK m own
  | [] => rfl
  | m :: l => by
    rw [List.map_cons, List.all_cons, ← same_d]
    cases h : sameD own (mkM m) with
    | true => rw [List.filter_cons_of_pos h]; rfl
    | false => rw [List.filter_cons_of_neg (by rw [h]; exact Bool.false_ne_true), same_all own l]; rfl
def lkD (p : Lk) : D := .tup [.lst (p.1.map mkM), .int (p.2 : Nat)]
def LG (G : D) (x2 : Dsc) (own : Mk) (more : List D) (x5 x6 : Dsc) : List Dsc := [.dat G, .dat (.int 2), x2, .dat (mkM own), .own (.l more), x5, x6, .un]
def lcLk : Ex := .lc [("its", 7)] (.one 7) (.of (.slot 5)) (.cmp .eq (.slc (.idx (.slot 7) (.cst (.int 0))) .no (.cst (.int 2))) (.slc (.idx (.slot 3) (.cst (.int 0))) .no (.cst (.int 2)))) (.slot 7)
def inLk : List RI.St := [.ite (.and (.cmp .le (.bin .add (.slot 6) (.idx (.slot 3) (.cst (.int 2)))) (.slot 1)) (.cmp .eq lcLk (.lst []))) [.ex (.app (.slot 4) (.tup [(.bin .add (.slot 5) (.lst [(.slot 3)])), (.bin .add (.slot 6) (.idx (.slot 3) (.cst (.int 2))))]))] []]
def oneL (own : Mk) (p : Lk) : List Lk := if okL own p = true then [(p.1 ++ [own], p.2 + own.price)] else []
theorem more_cons (own : Mk) (p : Lk) (l : List Lk) : moreL own (p :: l) = oneL own p ++ moreL own l := by
  unfold moreL oneL
  cases h : okL own p with
  | true => rw [List.filter_cons_of_pos h, if_pos rfl]; rfl
  | false => rw [List.filter_cons_of_neg (by rw [h]; exact Bool.false_ne_true), if_neg Bool.false_ne_true]; rfl
theorem lc_lk {n : Nat} (G : D) (x2 : Dsc) (own : Mk) (more : List D) (p : Lk) (hp : p.1.length < 1000) :
    ev (callI tb.fn n) lcLk (LG G x2 own more (.dat (.lst (p.1.map mkM))) (.dat (.int (p.2 : Nat)))) = some (.new (.l ((p.1.map mkM).filter (sameD own))), LG G x2 own more (.dat (.lst (p.1.map mkM))) (.dat (.int (p.2 : Nat)))) := by
  have h := lcI_filter (vs := [7]) (js := [7]) (pt := (Shp.one 7).parts) (fc := fun γ => evcW false (ev (callI tb.fn n) (.cmp .eq (.slc (.idx (.slot 7) (.cst (.int 0))) .no (.cst (.int 2))) (.slc (.idx (.slot 3) (.cst (.int 0))) .no (.cst (.int 2)))) γ) γ) (fe := ev (callI tb.fn n) (.slot 7)) (γ := LG G x2 own more (.dat (.lst (p.1.map mkM))) (.dat (.int (p.2 : Nat)))) (g := id) (p := sameD own) (by kernel_rfl) (ds := p.1.map mkM) (acc := []) fun d hd => by
    obtain ⟨m, _, rfl⟩ := List.mem_map.mp hd
    refine ⟨[mkM m], [.dat G, .dat (.int 2), x2, .dat (mkM own), .own (.l more), .dat (.lst (p.1.map mkM)), .dat (.int (p.2 : Nat)), .dat (mkM m)], by kernel_rfl, ?_, by kernel_rfl, fun _ => ⟨(.dat (mkM m), [.dat G, .dat (.int 2), x2, .dat (mkM own), .own (.l more), .dat (.lst (p.1.map mkM)), .dat (.int (p.2 : Nat)), .dat (mkM m)]), by kernel_rfl, by kernel_rfl, by kernel_rfl⟩⟩
    have c := ev_cmp (cal := callI tb.fn n) (op := .eq) (a := .slc (.idx (.slot 7) (.cst (.int 0))) .no (.cst (.int 2))) (b := .slc (.idx (.slot 3) (.cst (.int 0))) .no (.cst (.int 2))) (γ := [.dat G, .dat (.int 2), x2, .dat (mkM own), .own (.l more), .dat (.lst (p.1.map mkM)), .dat (.int (p.2 : Nat)), .dat (mkM m)]) (γ1 := [.dat G, .dat (.int 2), x2, .dat (mkM own), .own (.l more), .dat (.lst (p.1.map mkM)), .dat (.int (p.2 : Nat)), .dat (mkM m)]) (γ2 := [.dat G, .dat (.int 2), x2, .dat (mkM own), .own (.l more), .dat (.lst (p.1.map mkM)), .dat (.int (p.2 : Nat)), .dat (mkM m)]) (x := .dat (.tup [.int (m.line : Nat), kwD m.kind])) (y := .dat (.tup [.int (own.line : Nat), kwD own.kind]))
      (by match m with
          | ⟨l, .put, v, c⟩ => kernel_rfl
          | ⟨l, .turn, v, c⟩ => kernel_rfl
          | ⟨l, .read fs, v, c⟩ => kernel_rfl)
      (by match own with
          | ⟨l, .put, v, c⟩ => kernel_rfl
          | ⟨l, .turn, v, c⟩ => kernel_rfl
          | ⟨l, .read fs, v, c⟩ => kernel_rfl) (same_cmp _ _ _ _)
    have e : (decide (((m.line : Nat) : Int) = (own.line : Nat)) && decide (m.kind.num = own.kind.num)) = sameD own (mkM m) := by
      rw [same_d]
      unfold sameK
      congr 1
      exact decide_eq_decide.mpr ⟨fun h => by omega, fun h => by omega⟩
    rw [e] at c
    show evcW false (ev (callI tb.fn n) _ [.dat G, .dat (.int 2), x2, .dat (mkM own), .own (.l more), .dat (.lst (p.1.map mkM)), .dat (.int (p.2 : Nat)), .dat (mkM m)]) _ = _
    rw [c]
    rfl
  rw [List.nil_append, List.map_id] at h
  exact ev_lc (ds := p.1.map mkM) (γ1 := LG G x2 own more (.dat (.lst (p.1.map mkM))) (.dat (.int (p.2 : Nat)))) (by kernel_rfl) (by rw [List.length_map]; omega) h
theorem in_turn {n : Nat} (G : D) (x2 : Dsc) (own : Mk) (more : List D) (hm : more.length < 900000) (p : Lk) (hp : p.1.length < 1000) {x5 x6 : Dsc} (c5 : cs x5 = true) (c6 : cs x6 = true) :
    (tgI (callI tb.fn n) (.tup [.nm 5, .nm 6]) (.dat (lkD p)) (LG G x2 own more x5 x6)).bind (fun γ' => exB (callI tb.fn n) inLk γ') = some (.nx (LG G x2 own (more ++ (oneL own p).map lkD) (.dat (.lst (p.1.map mkM))) (.dat (.int (p.2 : Nat))))) := by
  have t := tg2 (cal := callI tb.fn n) (γ := LG G x2 own more x5 x6) (i := 5) (j := 6) (a := .lst (p.1.map mkM)) (b := .int (p.2 : Nat)) (γ1 := LG G x2 own more (.dat (.lst (p.1.map mkM))) x6) (γ2 := LG G x2 own more (.dat (.lst (p.1.map mkM))) (.dat (.int (p.2 : Nat)))) (cs_at (x := x5) (by kernel_rfl) c5) (by kernel_rfl) (cs_at (x := x6) (by kernel_rfl) c6) (by kernel_rfl)
  refine turn_ok t ?_
  have add : ev (callI tb.fn n) (.bin .add (.slot 6) (.idx (.slot 3) (.cst (.int 2)))) (LG G x2 own more (.dat (.lst (p.1.map mkM))) (.dat (.int (p.2 : Nat)))) = some (.dat (.int ((p.2 : Nat) + (own.price : Nat))), LG G x2 own more (.dat (.lst (p.1.map mkM))) (.dat (.int (p.2 : Nat)))) := by kernel_rfl
  have le : ev (callI tb.fn n) (.cmp .le (.bin .add (.slot 6) (.idx (.slot 3) (.cst (.int 2)))) (.slot 1)) (LG G x2 own more (.dat (.lst (p.1.map mkM))) (.dat (.int (p.2 : Nat)))) = some (.dat (.bl (decide (p.2 + own.price ≤ 2))), LG G x2 own more (.dat (.lst (p.1.map mkM))) (.dat (.int (p.2 : Nat)))) := by
    refine ev_cmp (y := .dat (.int 2)) add (by kernel_rfl) ?_
    show some (decide (((p.2 : Nat) : Int) + (own.price : Nat) ≤ 2)) = _
    congr 1
    exact decide_eq_decide.mpr ⟨fun h => by omega, fun h => by omega⟩
  have eq := ev_cmp (op := .eq) (y := .new (.l [])) (lc_lk (n := n) G x2 own more p hp) (b := .lst []) (γ2 := LG G x2 own more (.dat (.lst (p.1.map mkM))) (.dat (.int (p.2 : Nat)))) (by kernel_rfl) (cmp_eqnil (.inr rfl) (by
    have : ∀ l : List D, (∀ d ∈ l, Sh 40 (py d)) → ShA 40 (pys l) := fun l h => by
      have := shA_map (f := id) (l := l) h
      rwa [List.map_id] at this
    exact this _ fun d hd => by
      obtain ⟨m, _, rfl⟩ := List.mem_map.mp (List.mem_filter.mp hd).1
      exact sh_le (sh_mkM m) (by decide)))
  rw [same_all] at eq
  have cond : ev (callI tb.fn n) (.and (.cmp .le (.bin .add (.slot 6) (.idx (.slot 3) (.cst (.int 2)))) (.slot 1)) (.cmp .eq lcLk (.lst []))) (LG G x2 own more (.dat (.lst (p.1.map mkM))) (.dat (.int (p.2 : Nat)))) = some (.dat (.bl (okL own p)), LG G x2 own more (.dat (.lst (p.1.map mkM))) (.dat (.int (p.2 : Nat)))) := by
    refine ev_and le (fun h => ?_) (fun h => ?_)
    · rw [eq]
      unfold okL
      rw [h]
      rfl
    · unfold okL
      rw [h]
      exact ⟨rfl, rfl⟩
  refine exB_nx (γ1 := LG G x2 own (more ++ (oneL own p).map lkD) (.dat (.lst (p.1.map mkM))) (.dat (.int (p.2 : Nat)))) (exS_ite cond (fun h => ?_) (fun h => ?_)) (by kernel_rfl)
  · unfold oneL
    rw [if_pos h]
    have v : ev (callI tb.fn n) (.tup [(.bin .add (.slot 5) (.lst [(.slot 3)])), (.bin .add (.slot 6) (.idx (.slot 3) (.cst (.int 2))))]) (LG G x2 own more (.dat (.lst (p.1.map mkM))) (.dat (.int (p.2 : Nat)))) = some (.dat (lkD (p.1 ++ [own], p.2 + own.price)), LG G x2 own more (.dat (.lst (p.1.map mkM))) (.dat (.int (p.2 : Nat)))) := by
      have a1 : ev (callI tb.fn n) (.bin .add (.slot 5) (.lst [(.slot 3)])) (LG G x2 own more (.dat (.lst (p.1.map mkM))) (.dat (.int (p.2 : Nat)))) = some (.new (.l ((p.1 ++ [own]).map mkM)), LG G x2 own more (.dat (.lst (p.1.map mkM))) (.dat (.int (p.2 : Nat)))) := by
        refine ev_bin (x := .dat (.lst (p.1.map mkM))) (y := .new (.l [mkM own])) (γ1 := LG G x2 own more (.dat (.lst (p.1.map mkM))) (.dat (.int (p.2 : Nat)))) (by kernel_rfl) (by kernel_rfl) ?_
        rw [List.map_append]
        exact gd_t (decide_eq_true (by rw [List.length_map]; simp; omega))
      have e : ((p.2 + own.price : Nat) : Int) = (p.2 : Nat) + (own.price : Nat) := by omega
      refine ev_tup (ds := [.lst ((p.1 ++ [own]).map mkM), .int ((p.2 + own.price : Nat))]) (vs := [.dat (.lst ((p.1 ++ [own]).map mkM)), .dat (.int ((p.2 + own.price : Nat)))]) ?_ (by kernel_rfl) (show 2 ≤ 1000000 by decide)
      exact evs_cons rfl (x := .new (.l ((p.1 ++ [own]).map mkM))) a1 (evs_cons rfl (x := .dat (.int ((p.2 + own.price : Nat)))) (by rw [e]; exact add) (by kernel_rfl))
    exact exB_nx (γ1 := LG G x2 own (more ++ [lkD (p.1 ++ [own], p.2 + own.price)]) (.dat (.lst (p.1.map mkM))) (.dat (.int (p.2 : Nat)))) (exS_ex (ev_app (x := .loc 4) (us := more) (d := lkD (p.1 ++ [own], p.2 + own.price)) (y := .dat (lkD (p.1 ++ [own], p.2 + own.price))) (γ1 := LG G x2 own more (.dat (.lst (p.1.map mkM))) (.dat (.int (p.2 : Nat)))) (γ2 := LG G x2 own more (.dat (.lst (p.1.map mkM))) (.dat (.int (p.2 : Nat)))) (by kernel_rfl) (by kernel_rfl) v (by kernel_rfl) (ds := more) (by kernel_rfl) (by omega) (by kernel_rfl))) (by kernel_rfl)
  · unfold oneL
    rw [if_neg (by rw [h]; exact Bool.false_ne_true)]
    show _ = some (Fl.nx (LG G x2 own (more ++ []) _ _))
    rw [List.append_nil]
    rfl
theorem one_len (own : Mk) (p : Lk) : (oneL own p).length ≤ 1 := by
  unfold oneL
  split <;> simp
theorem in_loop {n : Nat} (G : D) (x2 : Dsc) (own : Mk) : ∀ (l : List Lk) (more : List D) (x5 x6 : Dsc), more.length + l.length < 900000 → (∀ p ∈ l, p.1.length < 1000) → cs x5 = true → cs x6 = true →
    ∃ y5 y6, cs y5 = true ∧ cs y6 = true ∧ forI (fun d γ => (tgI (callI tb.fn n) (.tup [.nm 5, .nm 6]) (.dat d) γ).bind fun γ' => exB (callI tb.fn n) inLk γ') (l.map lkD) (LG G x2 own more x5 x6) = some (.nx (LG G x2 own (more ++ (moreL own l).map lkD) y5 y6))
  | [], more, x5, x6, _, _, c5, c6 => ⟨x5, x6, c5, c6, by show _ = some (Fl.nx (LG G x2 own (more ++ []) _ _)); rw [List.append_nil]; rfl⟩
  | p :: l, more, x5, x6, hl, hp, c5, c6 => by
    rw [List.length_cons] at hl
    have t := in_turn (n := n) G x2 own more (by omega) p (hp p List.mem_cons_self) c5 c6
    have o := one_len own p
    obtain ⟨y5, y6, d5, d6, lp⟩ := in_loop (n := n) G x2 own l (more ++ (oneL own p).map lkD) (.dat (.lst (p.1.map mkM))) (.dat (.int (p.2 : Nat))) (by rw [List.length_append, List.length_map]; omega) (fun q hq => hp q (List.mem_cons_of_mem _ hq)) rfl rfl
    refine ⟨y5, y6, d5, d6, ?_⟩
    rw [more_cons, List.map_append, ← List.append_assoc]
    exact (forI_nx t).trans lp
def outLk : List RI.St := [.set (.nm 4) (.lst []), .frz 2, .for_ (.tup [(.nm 5), (.nm 6)]) (.of (.slot 2)) inLk, .set (.nm 2) (.bin .add (.slot 2) (.slot 4))]
def LF (G : D) (found : List D) (x3 x4 x5 x6 : Dsc) : List Dsc := [.dat G, .dat (.int 2), .own (.l found), x3, x4, x5, x6, .un]
theorem more_len (own : Mk) (l : List Lk) : (moreL own l).length ≤ l.length := by
  unfold moreL
  rw [List.length_map]
  exact List.length_filter_le _ _
theorem out_turn {n : Nat} (G : D) (found : List Lk) (hf : found.length < 400000) (hp : ∀ p ∈ found, p.1.length < 1000) (own : Mk) {x3 x4 x5 x6 : Dsc} (c3 : cs x3 = true) (c4 : cs x4 = true) (c5 : cs x5 = true) (c6 : cs x6 = true) :
    ∃ y3 y4 y5 y6, cs y3 = true ∧ cs y4 = true ∧ cs y5 = true ∧ cs y6 = true ∧ (tgI (callI tb.fn n) (.nm 3) (.dat (mkM own)) (LF G (found.map lkD) x3 x4 x5 x6)).bind (fun γ' => exB (callI tb.fn n) outLk γ') = some (.nx (LF G ((found ++ moreL own found).map lkD) y3 y4 y5 y6)) := by
  obtain ⟨y5, y6, d5, d6, lp⟩ := in_loop (n := n) G (.dat (.lst (found.map lkD))) own found [] x5 x6 (by simp; omega) hp c5 c6
  refine ⟨.dat (mkM own), .own (.l ((moreL own found).map lkD)), y5, y6, rfl, rfl, d5, d6, ?_⟩
  refine turn_ok (γ1 := LF G (found.map lkD) (.dat (mkM own)) x4 x5 x6) (tg_nm (cs_at (x := x3) (by kernel_rfl) c3) (by kernel_rfl)) ?_
  have c4' : canSet (LF G (found.map lkD) (.dat (mkM own)) x4 x5 x6) 4 = true := cs_at (x := x4) (by kernel_rfl) c4
  refine exB_nx (γ1 := LF G (found.map lkD) (.dat (mkM own)) (.own (.l [])) x5 x6) (exS_set (x := .new (.l [])) (γ1 := LF G (found.map lkD) (.dat (mkM own)) x4 x5 x6) (by kernel_rfl) ((gd_t c4').trans (by kernel_rfl))) ?_
  refine exB_nx (γ1 := LG G (.dat (.lst (found.map lkD))) own [] x5 x6) (by kernel_rfl) ?_
  refine exB_nx (γ1 := LG G (.dat (.lst (found.map lkD))) own ([] ++ (moreL own found).map lkD) y5 y6) (exS_for (ds := found.map lkD) (γ1 := LG G (.dat (.lst (found.map lkD))) own [] x5 x6) (by kernel_rfl) lp) ?_
  rw [List.nil_append]
  have ml := more_len own found
  refine exB_nx (γ1 := LF G ((found ++ moreL own found).map lkD) (.dat (mkM own)) (.own (.l ((moreL own found).map lkD))) y5 y6) (exS_set (x := .new (.l ((found ++ moreL own found).map lkD))) (γ1 := LG G (.dat (.lst (found.map lkD))) own ((moreL own found).map lkD) y5 y6) (ev_bin (x := .dat (.lst (found.map lkD))) (y := .loc 4) (γ1 := LG G (.dat (.lst (found.map lkD))) own ((moreL own found).map lkD) y5 y6) (by kernel_rfl) (by kernel_rfl) ?_) (by kernel_rfl)) (by kernel_rfl)
  rw [List.map_append]
  exact gd_t (decide_eq_true (by rw [List.length_map, List.length_map]; omega))
theorem looks_len : ∀ (goods : List Mk) (found : List Lk), (looksF goods found).length ≤ found.length * 2 ^ goods.length
  | [], found => by show found.length ≤ found.length * 1; omega
  | own :: goods, found => by
    have := looks_len goods (found ++ moreL own found)
    have m := more_len own found
    rw [List.length_append] at this
    rw [List.length_cons, Nat.pow_succ]
    refine Nat.le_trans this ?_
    rw [show found.length * (2 ^ goods.length * 2) = (found.length + found.length) * 2 ^ goods.length by rw [← Nat.two_mul, Nat.mul_comm 2 found.length, Nat.mul_assoc, Nat.mul_comm 2]]
    exact Nat.mul_le_mul_right _ (by omega)
theorem out_loop {n : Nat} (G : D) : ∀ (goods : List Mk) (found : List Lk) (x3 x4 x5 x6 : Dsc), found.length * 2 ^ goods.length < 400000 → (∀ m ∈ goods, 1 ≤ m.price) → (∀ p ∈ found, LkOk (fun _ => True) p) → cs x3 = true → cs x4 = true → cs x5 = true → cs x6 = true →
    ∃ y3 y4 y5 y6, forI (fun d γ => (tgI (callI tb.fn n) (.nm 3) (.dat d) γ).bind fun γ' => exB (callI tb.fn n) outLk γ') (goods.map mkM) (LF G (found.map lkD) x3 x4 x5 x6) = some (.nx (LF G ((looksF goods found).map lkD) y3 y4 y5 y6))
  | [], found, x3, x4, x5, x6, _, _, _, _, _, _, _ => ⟨x3, x4, x5, x6, rfl⟩
  | own :: goods, found, x3, x4, x5, x6, hl, hg, hf, c3, c4, c5, c6 => by
    have h1 : found.length ≤ found.length * 2 ^ (own :: goods).length := Nat.le_mul_of_pos_right _ (Nat.pow_pos (by decide))
    obtain ⟨y3, y4, y5, y6, d3, d4, d5, d6, t⟩ := out_turn (n := n) G found (by omega) (fun p hp => by have := hf p hp; have h2 := this.1; have h3 := this.2.1; omega) own c3 c4 c5 c6
    have m := more_len own found
    obtain ⟨z3, z4, z5, z6, lp⟩ := out_loop (n := n) G goods (found ++ moreL own found) y3 y4 y5 y6 (by
      rw [List.length_append]
      refine Nat.lt_of_le_of_lt ?_ hl
      rw [List.length_cons, Nat.pow_succ, show found.length * (2 ^ goods.length * 2) = (found.length + found.length) * 2 ^ goods.length by rw [← Nat.two_mul, Nat.mul_comm 2 found.length, Nat.mul_assoc, Nat.mul_comm 2]]
      exact Nat.mul_le_mul_right _ (by omega)) (fun q hq => hg q (List.mem_cons_of_mem _ hq)) (looks_ok (goods := [own]) (fun q hq => ⟨trivial, hg q (by rw [List.mem_singleton.mp hq]; exact List.mem_cons_self)⟩) hf) d3 d4 d5 d6
    exact ⟨z3, z4, z5, z6, (forI_nx t).trans lp⟩
theorem lk_ok {n : Nat} {goods : List Mk} (hl : goods.length ≤ 18) (hg : ∀ m ∈ goods, 1 ≤ m.price) : callI tb.fn (n + 1) 31 [.dat (.lst (goods.map mkM)), .dat (.int 2)] = some (.new (.l ((looksB goods).map lkD)), []) := by
  obtain ⟨y3, y4, y5, y6, lp⟩ := out_loop (n := n) (.lst (goods.map mkM)) goods [([], 0)] .un .un .un .un (by
    show 1 * 2 ^ goods.length < 400000
    rw [Nat.one_mul]
    exact Nat.lt_of_le_of_lt (Nat.pow_le_pow_right (by decide) hl) (by decide)) hg (fun p hp => by rw [List.mem_singleton.mp hp]; exact ⟨Nat.le_refl _, by decide, nofun⟩) rfl rfl rfl rfl
  refine (callI_eq (tb := tb.fn) (f := 31) (fd := fd_law_looks_to) (fl := .rt (.loc 2) (LF (.lst (goods.map mkM)) ((looksF goods [([], 0)]).map lkD) y3 y4 y5 y6)) rfl rfl ?_).trans (by kernel_rfl)
  refine exB_nx (γ1 := LF (.lst (goods.map mkM)) ([([], 0)].map lkD) .un .un .un .un) (by kernel_rfl) ?_
  exact exB_nx (exS_for (ds := goods.map mkM) (γ1 := LF (.lst (goods.map mkM)) ([([], 0)].map lkD) .un .un .un .un) (by kernel_rfl) lp) (exB_rt (exS_ret (by kernel_rfl)))
end V86

/-! k86: the rank of one vector or two. -/
namespace V86
open PySem PySem.Spec PyProof.Rows L2 VY RI
def rowL (v : BV) : D := .lst ((vI v).map .int)
theorem plusL_ok {n : Nat} {xs ys : List Int} {c : Int} (hc : -18446744073709551616 < c) (hc2 : c < 18446744073709551616) (hl : xs.length < 1000000) :
    callI tb.fn (n + 1) 21 [.dat (.int 2), .dat (.lst (xs.map .int)), .dat (.lst (ys.map .int)), .dat (.int c)] = some (.dat (intsD (plusV c xs ys)), []) := by
  have h := lcI_map (vs := [4, 5]) (js := [4, 5]) (pt := (Shp.two 4 5).parts) (fc := fun γ => some (true, γ)) (fe := ev (callI tb.fn n) (.bin .mod (.b1 .int (.bin .add (.slot 4) (.bin .mul (.slot 3) (.slot 5)))) (.slot 0))) (γ := [.dat (.int 2), .dat (.lst (xs.map .int)), .dat (.lst (ys.map .int)), .dat (.int c), .un, .un]) (g := gP c) rfl (ds := zipD (xs.map .int) (ys.map .int)) (acc := []) fun d hd => by
    obtain ⟨x, y, rfl⟩ := zip_mem hd
    exact ⟨[.int x, .int y], [.dat (.int 2), .dat (.lst (xs.map .int)), .dat (.lst (ys.map .int)), .dat (.int c), .dat (.int x), .dat (.int y)], (.dat (.int ((x + c * y) % 2)), [.dat (.int 2), .dat (.lst (xs.map .int)), .dat (.lst (ys.map .int)), .dat (.int c), .dat (.int x), .dat (.int y)]), rfl, rfl, ev_mod (ev_int (ev_add (i := x) (γ1 := [.dat (.int 2), .dat (.lst (xs.map .int)), .dat (.lst (ys.map .int)), .dat (.int c), .dat (.int x), .dat (.int y)]) rfl (ev_mulL (i := c) (j := y) rfl rfl hc hc2))) rfl (by decide), rfl, rfl⟩
  rw [List.nil_append, zip_ints] at h
  refine (callI_eq (tb := tb.fn) (f := 21) (fd := fd_law_plus) (fl := .rt (.dat (intsD (plusV c xs ys))) [.dat (.int 2), .dat (.lst (xs.map .int)), .dat (.lst (ys.map .int)), .dat (.int c), .un, .un]) rfl rfl ?_).trans rfl
  exact exB_rt (exS_ret (ev_b1 (x := .new (.l ((plusV c xs ys).map .int))) (ev_lc (ds := zipD (xs.map .int) (ys.map .int)) rfl (by rw [zipD_len, List.length_map, List.length_map]; omega) h) rfl))
theorem eq_nilG {γ : List Dsc} {ds : List D} {x : Dv} (h1 : scD x = none) (h2 : pyI γ x = some (.list (pys ds))) (h : ShA 40 (pys ds)) : cmpI γ .ne x (.new (.l [])) = some (!ds.isEmpty) := by
  show (eqI γ x (.new (.l []))).map _ = _
  have e : eqI γ x (.new (.l [])) = gd (SeqAt.shaped (.list (pys ds)) && SeqAt.shaped (.list (pys []))) (some (PyData.eqv (.list (pys ds)) (.list (pys [])))) := by
    unfold eqI
    rw [h1, h2]
    rfl
  rw [e, ← show eqI γ (.new (.l ds)) (.new (.l [])) = gd (SeqAt.shaped (.list (pys ds)) && SeqAt.shaped (.list (pys []))) (some (PyData.eqv (.list (pys ds)) (.list (pys [])))) from rfl, eq_nil (.inr rfl) h]
  rfl
theorem sh_row (v : BV) : Sh 2 (py (rowL v)) := by
  show Sh 2 (py (.lst _))
  rw [py]
  exact sh_lst (shA_map fun i _ => sh_int i)
def RG (V : D) (w f : Nat) (rows : List BV) (x5 x6 x7 x8 x9 : Dsc) : List Dsc := [.dat (.int 2), .dat V, .own (.l (rows.map rowL)), .dat (.int (f : Nat)), .dat (.int (w : Nat)), x5, x6, x7, x8, x9, .un, .un]
def bitc (c : Nat) (v : BV) : Bool := v.getD c false
/-- a number of a row -/
theorem row_at {γ : List Dsc} {v : BV} {c : Nat} (h : c < v.length) : idxI γ (.dat (rowL v)) (.dat (.int (c : Nat))) = some (.dat (.int (b2 (bitc c v)))) := by
  refine idx_sq (ds := (vI v).map .int) rfl rfl (by omega) ?_
  rw [Int.toNat_natCast, List.getElem?_map]
  unfold vI bitc
  rw [List.getElem?_map, List.getElem?_eq_getElem h, List.getD_eq_getElem?_getD, List.getElem?_eq_getElem h]
  rfl
def pH (rows : List BV) (c : Nat) : D → Bool
  | .int k => bitc c (rows.getD k.toNat [])
  | _ => false
def hits (rows : List BV) (f c : Nat) : List D := (rangeD (f : Nat) (rows.length - f)).filter (pH rows c)
def hitS : RI.St := .set (.nm 7) (.lc [("k", 6)] (.one 6) (.range2 (.slot 3) (.b1 .len (.slot 2))) (.cmp .ne (.idx (.idx (.slot 2) (.slot 6)) (.slot 5)) (.cst (.int 0))) (.slot 6))
theorem ne0 {γ : List Dsc} (b : Bool) : cmpI γ .ne (.dat (.int (b2 b))) (.dat (.int 0)) = some b := by cases b <;> rfl
/-- which rows -/
theorem hit_st {n : Nat} (V : D) {w f c : Nat} {rows : List BV} (hr : rows.length ≤ 2) (hf : f ≤ rows.length) (hw : ∀ v ∈ rows, c < v.length) {x6 x7 x8 x9 : Dsc} (c6 : cs x6 = true) (c7 : cs x7 = true) :
    exS (callI tb.fn n) hitS (RG V w f rows (.dat (.int (c : Nat))) x6 x7 x8 x9) = some (.nx (RG V w f rows (.dat (.int (c : Nat))) x6 (.own (.l (hits rows f c))) x8 x9)) := by
  have c7' : canSet (RG V w f rows (.dat (.int (c : Nat))) x6 x7 x8 x9) 7 = true := cs_at (x := x7) (by kernel_rfl) c7
  have c6' : ([6] : List Nat).all (canSet (RG V w f rows (.dat (.int (c : Nat))) x6 x7 x8 x9)) = true := by
    show (canSet _ 6 && true) = true
    rw [cs_at (x := x6) (by kernel_rfl) c6]
    rfl
  have h := lcI_filter (vs := [6]) (js := [6]) (pt := (Shp.one 6).parts) (fc := fun γ => evcW false (ev (callI tb.fn n) (.cmp .ne (.idx (.idx (.slot 2) (.slot 6)) (.slot 5)) (.cst (.int 0))) γ) γ) (fe := ev (callI tb.fn n) (.slot 6)) (γ := RG V w f rows (.dat (.int (c : Nat))) x6 x7 x8 x9) (g := id) (p := pH rows c) c6' (ds := rangeD (f : Nat) (rows.length - f)) (acc := []) fun d hd => by
    obtain ⟨j, hj⟩ := List.mem_iff_getElem?.mp hd
    have hjl := (List.getElem?_eq_some_iff.mp hj).1
    rw [rangeD_len] at hjl
    rw [rangeD_get hjl] at hj
    cases hj
    have hk : f + j < rows.length := by omega
    refine ⟨[.int ((f : Nat) + (j : Nat))], RG V w f rows (.dat (.int (c : Nat))) (.dat (.int ((f : Nat) + (j : Nat)))) x7 x8 x9, by kernel_rfl, ?_, by kernel_rfl, fun _ => ⟨(.dat (.int ((f : Nat) + (j : Nat))), RG V w f rows (.dat (.int (c : Nat))) (.dat (.int ((f : Nat) + (j : Nat)))) x7 x8 x9), by kernel_rfl, by kernel_rfl, by kernel_rfl⟩⟩
    have e1 : ev (callI tb.fn n) (.idx (.slot 2) (.slot 6)) (RG V w f rows (.dat (.int (c : Nat))) (.dat (.int ((f : Nat) + (j : Nat)))) x7 x8 x9) = some (.dat (rowL rows[f + j]), RG V w f rows (.dat (.int (c : Nat))) (.dat (.int ((f : Nat) + (j : Nat)))) x7 x8 x9) := by
      refine ev_idx (x := .loc 2) (y := .dat (.int ((f : Nat) + (j : Nat)))) (γ1 := RG V w f rows (.dat (.int (c : Nat))) (.dat (.int ((f : Nat) + (j : Nat)))) x7 x8 x9) (by kernel_rfl) (by kernel_rfl) (idx_sq (ds := rows.map rowL) rfl rfl (by omega) ?_)
      rw [show ((f : Int) + (j : Nat)).toNat = f + j by omega, List.getElem?_map, List.getElem?_eq_getElem hk]
      rfl
    have e2 := ev_cmp (op := .ne) (γ1 := RG V w f rows (.dat (.int (c : Nat))) (.dat (.int ((f : Nat) + (j : Nat)))) x7 x8 x9) (ev_idx (b := .slot 5) (y := .dat (.int (c : Nat))) e1 (by kernel_rfl) (row_at (hw _ (List.getElem_mem hk)))) (b := .cst (.int 0)) (y := .dat (.int 0)) (γ2 := RG V w f rows (.dat (.int (c : Nat))) (.dat (.int ((f : Nat) + (j : Nat)))) x7 x8 x9) (by kernel_rfl) (ne0 _)
    show evcW false (ev (callI tb.fn n) _ (RG V w f rows (.dat (.int (c : Nat))) (.dat (.int ((f : Nat) + (j : Nat)))) x7 x8 x9)) _ = _
    rw [e2]
    show some (bitc c rows[f + j], _) = some (bitc c (rows.getD ((f : Int) + (j : Nat)).toNat []), _)
    rw [show ((f : Int) + (j : Nat)).toNat = f + j by omega, List.getD_eq_getElem?_getD, List.getElem?_eq_getElem hk]
    rfl
  rw [List.nil_append, List.map_id] at h
  refine exS_set (x := .new (.l (hits rows f c))) (γ1 := RG V w f rows (.dat (.int (c : Nat))) x6 x7 x8 x9) (ev_lc (ds := rangeD (f : Nat) (rows.length - f)) (γ1 := RG V w f rows (.dat (.int (c : Nat))) x6 x7 x8 x9) ?_ (by rw [rangeD_len]; omega) h) ((gd_t c7').trans (by kernel_rfl))
  have e : evi (callI tb.fn n) (.range2 (.slot 3) (.b1 .len (.slot 2))) (RG V w f rows (.dat (.int (c : Nat))) x6 x7 x8 x9) = gd (decide (-1000000 ≤ ((f : Nat) : Int)) && decide (((f : Nat) : Int) ≤ 1000000) && decide (-1000000 ≤ (((rows.map rowL).length : Nat) : Int)) && decide ((((rows.map rowL).length : Nat) : Int) ≤ 1000000)) (some (rangeD (f : Nat) ((((rows.map rowL).length : Nat) : Int) - (f : Nat)).toNat, RG V w f rows (.dat (.int (c : Nat))) x6 x7 x8 x9)) := by kernel_rfl
  rw [e, List.length_map, gd_t (by rw [decide_eq_true (show (-1000000 : Int) ≤ (f : Nat) by omega), decide_eq_true (show ((f : Nat) : Int) ≤ 1000000 by omega), decide_eq_true (show (-1000000 : Int) ≤ (rows.length : Nat) by omega), decide_eq_true (show ((rows.length : Nat) : Int) ≤ 1000000 by omega)]; rfl), show (((rows.length : Nat) : Int) - (f : Nat)).toNat = rows.length - f by omega]
def addS : List RI.St := [.frz 8, .set (.sub (.slot 2) (.slot 6)) (.b1 .list (.call 21 [(.slot 0), (.idx (.slot 2) (.slot 6)), (.slot 8), (.bin .sub (.slot 0) (.idx (.idx (.slot 2) (.slot 6)) (.slot 5)))]))]
def hitB : List RI.St := [.set (.nm 8) (.pop (.slot 2) (.idx (.slot 7) (.cst (.int 0)))),
    .set (.nm 9) (.idx (.lc [("n", 11)] (.one 11) (.range2 (.cst (.int 1)) (.slot 0)) (.cmp .eq (.bin .mod (.b1 .int (.bin .mul (.slot 11) (.idx (.slot 8) (.slot 5)))) (.slot 0)) (.cst (.int 1))) (.slot 11)) (.cst (.int 0))),
    .frz 8,
    .set (.nm 8) (.lc [("n", 11)] (.one 11) (.of (.slot 8)) .no (.bin .mod (.b1 .int (.bin .mul (.slot 11) (.slot 9))) (.slot 0))),
    .for_ (.nm 6) (.range2 (.slot 3) (.b1 .len (.slot 2))) addS,
    .frz 8,
    .ex (.ins (.slot 2) (.slot 3) (.slot 8)),
    .set (.nm 3) (.bin .add (.slot 3) (.cst (.int 1)))]
theorem ev_ins {cal : Nat → List Ag → Option (Dv × List VY.T)} {o e f : Ex} {γ γ1 γ2 γ3 γ4 : List Dsc} {x y : Dv} {us ds : List D} {d : D} {k : Nat} (h : ev cal o γ = some (x, γ1)) (hl : lstI γ1 x = some us) (h2 : ev cal e γ1 = some (.dat (.int (k : Nat)), γ2)) (h3 : ev cal f γ2 = some (y, γ3)) (h4 : datOf y = some d) (h5 : lstI γ3 x = some ds) (h6 : ds.length < 1000000) (hk : k < 1000000) (h7 : setsI γ3 x (ds.take k ++ [d] ++ ds.drop k) = some γ4) : ev cal (.ins o e f) γ = some (.dat .non, γ4) := by
  simp only [ev]
  rw [h, Option.bind_some, hl, Option.bind_some, h2, Option.bind_some]
  show (some (k : Int)).bind _ = _
  rw [Option.bind_some, h3, Option.bind_some, h4, Option.bind_some, h5, Option.bind_some, gd_t (by rw [decide_eq_true (show (0 : Int) ≤ (k : Nat) by omega), decide_eq_true (show ((k : Nat) : Int) < 9223372036854775808 by omega), decide_eq_true h6]; rfl), Int.toNat_natCast, h7]
  rfl
theorem top_lc {n : Nat} (V : D) {w f c : Nat} {rows : List BV} {x6 x7 : Dsc} (v : BV) (hv : v.length < 1000000) :
    ev (callI tb.fn n) (.lc [("n", 11)] (.one 11) (.of (.slot 8)) .no (.bin .mod (.b1 .int (.bin .mul (.slot 11) (.slot 9))) (.slot 0))) (RG V w f rows (.dat (.int (c : Nat))) x6 x7 (.dat (rowL v)) (.dat (.int 1))) = some (.new (.l ((vI v).map .int)), RG V w f rows (.dat (.int (c : Nat))) x6 x7 (.dat (rowL v)) (.dat (.int 1))) := by
  have h := lcI_map (vs := [11]) (js := [11]) (pt := (Shp.one 11).parts) (fc := fun γ => some (true, γ)) (fe := ev (callI tb.fn n) (.bin .mod (.b1 .int (.bin .mul (.slot 11) (.slot 9))) (.slot 0))) (γ := RG V w f rows (.dat (.int (c : Nat))) x6 x7 (.dat (rowL v)) (.dat (.int 1))) (g := id) (by kernel_rfl) (ds := (vI v).map .int) (acc := []) fun d hd => by
    obtain ⟨i, hi, rfl⟩ := List.mem_map.mp hd
    obtain ⟨b, _, rfl⟩ := List.mem_map.mp hi
    refine ⟨[.int (b2 b)], [.dat (.int 2), .dat V, .own (.l (rows.map rowL)), .dat (.int (f : Nat)), .dat (.int (w : Nat)), .dat (.int (c : Nat)), x6, x7, .dat (rowL v), .dat (.int 1), .un, .dat (.int (b2 b))], (.dat (.int (b2 b)), [.dat (.int 2), .dat V, .own (.l (rows.map rowL)), .dat (.int (f : Nat)), .dat (.int (w : Nat)), .dat (.int (c : Nat)), x6, x7, .dat (rowL v), .dat (.int 1), .un, .dat (.int (b2 b))]), by kernel_rfl, by kernel_rfl, by cases b <;> kernel_rfl, by kernel_rfl, by kernel_rfl⟩
  rw [List.nil_append, List.map_id] at h
  exact ev_lc (ds := (vI v).map .int) (γ1 := RG V w f rows (.dat (.int (c : Nat))) x6 x7 (.dat (rowL v)) (.dat (.int 1))) (by kernel_rfl) (by rw [List.length_map, vI_len]; exact hv) h
/-- the number that turns the first to 1 -/
theorem turn_set {n : Nat} (V : D) {w f c : Nat} {rows : List BV} {x6 x7 x9 : Dsc} (c9 : cs x9 = true) {v : BV} (hv : c < v.length) (hb : bitc c v = true) :
    exS (callI tb.fn n) (.set (.nm 9) (.idx (.lc [("n", 11)] (.one 11) (.range2 (.cst (.int 1)) (.slot 0)) (.cmp .eq (.bin .mod (.b1 .int (.bin .mul (.slot 11) (.idx (.slot 8) (.slot 5)))) (.slot 0)) (.cst (.int 1))) (.slot 11)) (.cst (.int 0)))) (RG V w f rows (.dat (.int (c : Nat))) x6 x7 (.dat (rowL v)) x9) = some (.nx (RG V w f rows (.dat (.int (c : Nat))) x6 x7 (.dat (rowL v)) (.dat (.int 1)))) := by
  have c9' : canSet (RG V w f rows (.dat (.int (c : Nat))) x6 x7 (.dat (rowL v)) x9) 9 = true := cs_at (x := x9) (by kernel_rfl) c9
  have ix : ∀ γ : List Dsc, idxI γ (.dat (rowL v)) (.dat (.int (c : Nat))) = some (.dat (.int 1)) := fun γ => by rw [row_at hv, hb]; rfl
  have h := lcI_filter (vs := [11]) (js := [11]) (pt := (Shp.one 11).parts) (fc := fun γ => evcW false (ev (callI tb.fn n) (.cmp .eq (.bin .mod (.b1 .int (.bin .mul (.slot 11) (.idx (.slot 8) (.slot 5)))) (.slot 0)) (.cst (.int 1))) γ) γ) (fe := ev (callI tb.fn n) (.slot 11)) (γ := RG V w f rows (.dat (.int (c : Nat))) x6 x7 (.dat (rowL v)) x9) (g := id) (p := fun _ => true) (by kernel_rfl) (ds := [.int 1]) (acc := []) fun d hd => by
    obtain rfl := List.mem_singleton.mp hd
    refine ⟨[.int 1], [.dat (.int 2), .dat V, .own (.l (rows.map rowL)), .dat (.int (f : Nat)), .dat (.int (w : Nat)), .dat (.int (c : Nat)), x6, x7, .dat (rowL v), x9, .un, .dat (.int 1)], by kernel_rfl, ?_, by kernel_rfl, fun _ => ⟨(.dat (.int 1), [.dat (.int 2), .dat V, .own (.l (rows.map rowL)), .dat (.int (f : Nat)), .dat (.int (w : Nat)), .dat (.int (c : Nat)), x6, x7, .dat (rowL v), x9, .un, .dat (.int 1)]), by kernel_rfl, by kernel_rfl, by kernel_rfl⟩⟩
    have e := ev_cmp (cal := callI tb.fn n) (op := .eq) (γ := [.dat (.int 2), .dat V, .own (.l (rows.map rowL)), .dat (.int (f : Nat)), .dat (.int (w : Nat)), .dat (.int (c : Nat)), x6, x7, .dat (rowL v), x9, .un, .dat (.int 1)]) (ev_mod (ev_int (ev_mulL (a := .slot 11) (b := .idx (.slot 8) (.slot 5)) (i := 1) (j := 1) (γ1 := [.dat (.int 2), .dat V, .own (.l (rows.map rowL)), .dat (.int (f : Nat)), .dat (.int (w : Nat)), .dat (.int (c : Nat)), x6, x7, .dat (rowL v), x9, .un, .dat (.int 1)]) (by kernel_rfl) (ev_idx (x := .dat (rowL v)) (y := .dat (.int (c : Nat))) (γ1 := [.dat (.int 2), .dat V, .own (.l (rows.map rowL)), .dat (.int (f : Nat)), .dat (.int (w : Nat)), .dat (.int (c : Nat)), x6, x7, .dat (rowL v), x9, .un, .dat (.int 1)]) (γ2 := [.dat (.int 2), .dat V, .own (.l (rows.map rowL)), .dat (.int (f : Nat)), .dat (.int (w : Nat)), .dat (.int (c : Nat)), x6, x7, .dat (rowL v), x9, .un, .dat (.int 1)]) (by kernel_rfl) (by kernel_rfl) (ix _)) (by decide) (by decide))) (b := .slot 0) (j := 2) (γ2 := [.dat (.int 2), .dat V, .own (.l (rows.map rowL)), .dat (.int (f : Nat)), .dat (.int (w : Nat)), .dat (.int (c : Nat)), x6, x7, .dat (rowL v), x9, .un, .dat (.int 1)]) (by kernel_rfl) (by decide)) (b := .cst (.int 1)) (y := .dat (.int 1)) (γ2 := [.dat (.int 2), .dat V, .own (.l (rows.map rowL)), .dat (.int (f : Nat)), .dat (.int (w : Nat)), .dat (.int (c : Nat)), x6, x7, .dat (rowL v), x9, .un, .dat (.int 1)]) (k := true) (by kernel_rfl) (by kernel_rfl)
    show evcW false (ev (callI tb.fn n) _ [.dat (.int 2), .dat V, .own (.l (rows.map rowL)), .dat (.int (f : Nat)), .dat (.int (w : Nat)), .dat (.int (c : Nat)), x6, x7, .dat (rowL v), x9, .un, .dat (.int 1)]) _ = _
    rw [e]
    rfl
  refine exS_set (x := .dat (.int 1)) (γ1 := RG V w f rows (.dat (.int (c : Nat))) x6 x7 (.dat (rowL v)) x9) (ev_idx (x := .new (.l [.int 1])) (y := .dat (.int 0)) (γ1 := RG V w f rows (.dat (.int (c : Nat))) x6 x7 (.dat (rowL v)) x9) (ev_lc (ds := [.int 1]) (γ1 := RG V w f rows (.dat (.int (c : Nat))) x6 x7 (.dat (rowL v)) x9) (by kernel_rfl) (show 1 < 1000000 by decide) (h.trans (by kernel_rfl))) (by kernel_rfl) (by kernel_rfl)) ((gd_t c9').trans (by kernel_rfl))
end V86

/-! k86: the rank, a column at a time. -/
namespace V86
open PySem PySem.Spec PyProof.Rows L2 VY RI
def colB : List RI.St := [hitS, .ite (.cmp .ne (.slot 7) (.lst [])) hitB []]
def Col (n : Nat) (V : D) (w c : Nat) (rows : List BV) (f : Nat) (rows' : List BV) (f' : Nat) : Prop :=
  ∀ x5 x6 x7 x8 x9 : Dsc, cs x5 = true → cs x6 = true → cs x7 = true → cs x8 = true → cs x9 = true → ∃ y6 y7 y8 y9, cs y6 = true ∧ cs y7 = true ∧ cs y8 = true ∧ cs y9 = true ∧
    (tgI (callI tb.fn (n + 1)) (.nm 5) (.dat (.int (c : Nat))) (RG V w f rows x5 x6 x7 x8 x9)).bind (fun γ' => exB (callI tb.fn (n + 1)) colB γ') = some (.nx (RG V w f' rows' (.dat (.int (c : Nat))) y6 y7 y8 y9))
theorem shA_all {ds : List D} (h : ∀ d ∈ ds, ∃ i : Int, d = .int i) : ShA 40 (pys ds) := by
  have := shA_map (m := 40) (f := id) (l := ds) fun d hd => by
    obtain ⟨i, rfl⟩ := h d hd
    exact sh_int i
  rwa [List.map_id] at this
theorem hits_int {rows : List BV} {f c : Nat} : ∀ d ∈ hits rows f c, ∃ i : Int, d = .int i := fun d hd => by
  obtain ⟨i, _, rfl⟩ := List.mem_map.mp (List.mem_filter.mp hd).1
  exact ⟨_, rfl⟩
theorem cond_hit {n : Nat} (V : D) {w f c : Nat} {rows : List BV} {hs : List D} (hh : ∀ d ∈ hs, ∃ i : Int, d = .int i) {x6 x8 x9 : Dsc} :
    ev (callI tb.fn n) (.cmp .ne (.slot 7) (.lst [])) (RG V w f rows (.dat (.int (c : Nat))) x6 (.own (.l hs)) x8 x9) = some (.dat (.bl (!hs.isEmpty)), RG V w f rows (.dat (.int (c : Nat))) x6 (.own (.l hs)) x8 x9) :=
  ev_cmp (x := .loc 7) (y := .new (.l [])) (γ1 := RG V w f rows (.dat (.int (c : Nat))) x6 (.own (.l hs)) x8 x9) (by kernel_rfl) (by kernel_rfl) (eq_nilG (by kernel_rfl) (by kernel_rfl) (shA_all hh))
theorem no_hit {n : Nat} (V : D) {w c f : Nat} {rows : List BV} (hr : rows.length ≤ 2) (hf : f ≤ rows.length) (hw : ∀ v ∈ rows, c < v.length) (h0 : hits rows f c = []) : Col n V w c rows f rows f := fun x5 x6 x7 x8 x9 c5 c6 c7 c8 c9 => by
  refine ⟨x6, .own (.l []), x8, x9, c6, rfl, c8, c9, ?_⟩
  have s := hit_st (n := n + 1) V (w := w) hr hf hw (x6 := x6) (x7 := x7) (x8 := x8) (x9 := x9) c6 c7
  rw [h0] at s
  refine turn_ok (γ1 := RG V w f rows (.dat (.int (c : Nat))) x6 x7 x8 x9) (tg_nm (cs_at (x := x5) (by kernel_rfl) c5) (by kernel_rfl)) (exB_nx s (exB_nx (γ1 := RG V w f rows (.dat (.int (c : Nat))) x6 (.own (.l [])) x8 x9) (exS_ite (k := false) (cond_hit (n := n + 1) V (hs := []) nofun) nofun (fun _ => by kernel_rfl)) (by kernel_rfl)))
def LoopOk (n : Nat) (V : D) (w c f : Nat) (rest rest' : List BV) (v : BV) : Prop := ∀ x6 x7 : Dsc, cs x6 = true → ∃ y6 y8, cs y6 = true ∧ (y8 = .dat (rowL v) ∨ y8 = .own (.l ((vI v).map .int))) ∧
    exS (callI tb.fn (n + 1)) (.for_ (.nm 6) (.range2 (.slot 3) (.b1 .len (.slot 2))) addS) (RG V w f rest (.dat (.int (c : Nat))) x6 x7 (.own (.l ((vI v).map .int))) (.dat (.int 1))) = some (.nx (RG V w f rest' (.dat (.int (c : Nat))) y6 x7 y8 (.dat (.int 1))))
theorem hit_col {n : Nat} (V : D) {w c f : Nat} {rows rest rest' rows' : List BV} {v : BV} {h : Nat} {t : List D} (hr : rows.length ≤ 2) (hf : f ≤ rows.length) (hw : ∀ v ∈ rows, c < v.length) (hv : v ∈ rows) (hwl : v.length < 1000000) (hb : bitc c v = true)
    (hh : hits rows f c = .int (h : Nat) :: t) (hg : (rows.map rowL)[h]? = some (rowL v)) (he : (rows.map rowL).eraseIdx h = rest.map rowL) (hl : LoopOk n V w c f rest rest' v) (hrl : rest'.length ≤ 2) (hi : (rest'.map rowL).take f ++ [rowL v] ++ (rest'.map rowL).drop f = rows'.map rowL) : Col n V w c rows f rows' (f + 1) := fun x5 x6 x7 x8 x9 c5 c6 c7 c8 c9 => by
  have s := hit_st (n := n + 1) V (w := w) hr hf hw (x6 := x6) (x7 := x7) (x8 := x8) (x9 := x9) c6 c7
  rw [hh] at s
  have hin : ∀ d ∈ D.int (h : Nat) :: t, ∃ i : Int, d = .int i := by rw [← hh]; exact hits_int
  have hhl : h < rows.length := by
    have := (List.getElem?_eq_some_iff.mp hg).1
    rwa [List.length_map] at this
  obtain ⟨y6, y8, d6, e8, lp⟩ := hl x6 (.own (.l (.int (h : Nat) :: t))) c6
  refine ⟨y6, .own (.l (.int (h : Nat) :: t)), .dat (rowL v), .dat (.int 1), d6, rfl, rfl, rfl, ?_⟩
  refine turn_ok (γ1 := RG V w f rows (.dat (.int (c : Nat))) x6 x7 x8 x9) (tg_nm (cs_at (x := x5) (by kernel_rfl) c5) (by kernel_rfl)) (exB_nx s (exB_nx (γ1 := RG V w (f + 1) rows' (.dat (.int (c : Nat))) y6 (.own (.l (.int (h : Nat) :: t))) (.dat (rowL v)) (.dat (.int 1))) (exS_ite (k := true) (cond_hit (n := n + 1) V hin) (fun _ => ?_) nofun) (by kernel_rfl)))
  have c8' : canSet (RG V w f rest (.dat (.int (c : Nat))) x6 (.own (.l (.int (h : Nat) :: t))) x8 x9) 8 = true := cs_at (x := x8) (by kernel_rfl) c8
  have p := ev_pop (cal := callI tb.fn (n + 1)) (o := .slot 2) (e := .idx (.slot 7) (.cst (.int 0))) (γ := RG V w f rows (.dat (.int (c : Nat))) x6 (.own (.l (.int (h : Nat) :: t))) x8 x9) (γ1 := RG V w f rows (.dat (.int (c : Nat))) x6 (.own (.l (.int (h : Nat) :: t))) x8 x9) (γ2 := RG V w f rows (.dat (.int (c : Nat))) x6 (.own (.l (.int (h : Nat) :: t))) x8 x9) (γ3 := RG V w f rest (.dat (.int (c : Nat))) x6 (.own (.l (.int (h : Nat) :: t))) x8 x9) (x := .loc 2) (us := rows.map rowL) (ds := rows.map rowL) (d := rowL v) (i := (h : Nat)) (by kernel_rfl) (by kernel_rfl) (ev_idx (x := .loc 7) (y := .dat (.int 0)) (γ1 := RG V w f rows (.dat (.int (c : Nat))) x6 (.own (.l (.int (h : Nat) :: t))) x8 x9) (by kernel_rfl) (by kernel_rfl) (idx_sq (ds := .int (h : Nat) :: t) (by kernel_rfl) (by kernel_rfl) (by decide) rfl)) (by kernel_rfl) (by rw [List.length_map]; omega) (by omega) (by rw [List.length_map]; omega) (by rw [Int.toNat_natCast]; exact hg) (by rw [Int.toNat_natCast, he]; kernel_rfl)
  refine exB_nx (γ1 := RG V w f rest (.dat (.int (c : Nat))) x6 (.own (.l (.int (h : Nat) :: t))) (.dat (rowL v)) x9) (exS_set (t := .nm 8) p (tg_nm c8' (by kernel_rfl))) ?_
  refine exB_nx (turn_set (n := n + 1) V c9 (hw v hv) hb) ?_
  refine exB_nx (γ1 := RG V w f rest (.dat (.int (c : Nat))) x6 (.own (.l (.int (h : Nat) :: t))) (.dat (rowL v)) (.dat (.int 1))) (by kernel_rfl) ?_
  refine exB_nx (γ1 := RG V w f rest (.dat (.int (c : Nat))) x6 (.own (.l (.int (h : Nat) :: t))) (.own (.l ((vI v).map .int))) (.dat (.int 1))) (exS_set (t := .nm 8) (top_lc (n := n + 1) V v hwl) (by kernel_rfl)) ?_
  refine exB_nx lp ?_
  refine exB_nx (γ1 := RG V w f rest' (.dat (.int (c : Nat))) y6 (.own (.l (.int (h : Nat) :: t))) (.dat (rowL v)) (.dat (.int 1))) (by rcases e8 with rfl | rfl <;> kernel_rfl) ?_
  refine exB_nx (γ1 := RG V w f rows' (.dat (.int (c : Nat))) y6 (.own (.l (.int (h : Nat) :: t))) (.dat (rowL v)) (.dat (.int 1))) (exS_ex (ev_ins (x := .loc 2) (y := .dat (rowL v)) (us := rest'.map rowL) (ds := rest'.map rowL) (d := rowL v) (k := f) (γ1 := RG V w f rest' (.dat (.int (c : Nat))) y6 (.own (.l (.int (h : Nat) :: t))) (.dat (rowL v)) (.dat (.int 1))) (γ2 := RG V w f rest' (.dat (.int (c : Nat))) y6 (.own (.l (.int (h : Nat) :: t))) (.dat (rowL v)) (.dat (.int 1))) (γ3 := RG V w f rest' (.dat (.int (c : Nat))) y6 (.own (.l (.int (h : Nat) :: t))) (.dat (rowL v)) (.dat (.int 1))) (by kernel_rfl) (by kernel_rfl) (by kernel_rfl) (by kernel_rfl) (by kernel_rfl) (by kernel_rfl) (by rw [List.length_map]; omega) (by omega) (by rw [hi]; kernel_rfl))) ?_
  exact exB_nx (γ1 := RG V w (f + 1) rows' (.dat (.int (c : Nat))) y6 (.own (.l (.int (h : Nat) :: t))) (.dat (rowL v)) (.dat (.int 1))) (by kernel_rfl) (by kernel_rfl)
theorem loop0 {n : Nat} (V : D) {w c f : Nat} {rest : List BV} {v : BV} (hf : f = rest.length) (hl : rest.length ≤ 2) : LoopOk n V w c f rest rest v := fun x6 x7 c6 => by
  refine ⟨x6, _, c6, .inr rfl, ?_⟩
  subst hf
  match rest, hl with
  | [], _ => kernel_rfl
  | [_], _ => kernel_rfl
  | [_, _], _ => kernel_rfl
theorem loop1 {n : Nat} (V : D) {w c : Nat} {r v : BV} (hr : c < r.length) (hv : r.length = v.length) (hw : r.length < 1000000) : LoopOk n V w c 0 [r] [if bitc c r = true then xr r v else r] v := fun x6 x7 c6 => by
  refine ⟨.dat (.int (0 : Nat)), .dat (rowL v), rfl, .inl rfl, ?_⟩
  obtain ⟨k, hk⟩ : ∃ k : Int, k = 2 - b2 (bitc c r) := ⟨_, rfl⟩
  have e : plusV k (vI r) (vI v) = vI (if bitc c r = true then xr r v else r) := by
    cases h : bitc c r with
    | true =>
      rw [h] at hk
      rw [hk, if_pos rfl]
      exact plus1 r v
    | false =>
      rw [h] at hk
      rw [hk, if_neg Bool.false_ne_true]
      exact plus0 (.inr rfl) r v hv
  have kb : -18446744073709551616 < k ∧ k < 18446744073709551616 := by rw [hk]; cases bitc c r <;> exact ⟨by decide, by decide⟩
  have p := plusL_ok (n := n) (xs := vI r) (ys := vI v) kb.1 kb.2 (by rw [vI_len]; exact hw)
  rw [e] at p
  have c6' : canSet (RG V w 0 [r] (.dat (.int (c : Nat))) x6 x7 (.own (.l ((vI v).map .int))) (.dat (.int 1))) 6 = true := cs_at (x := x6) (by kernel_rfl) c6
  have sb : ev (callI tb.fn (n + 1)) (.bin .sub (.slot 0) (.idx (.idx (.slot 2) (.slot 6)) (.slot 5))) (RG V w 0 [r] (.dat (.int (c : Nat))) (.dat (.int (0 : Nat))) x7 (.dat (rowL v)) (.dat (.int 1))) = some (.dat (.int k), RG V w 0 [r] (.dat (.int (c : Nat))) (.dat (.int (0 : Nat))) x7 (.dat (rowL v)) (.dat (.int 1))) := by
    rw [hk]
    exact ev_sub (i := 2) (γ1 := RG V w 0 [r] (.dat (.int (c : Nat))) (.dat (.int (0 : Nat))) x7 (.dat (rowL v)) (.dat (.int 1))) (by kernel_rfl) (ev_idx (x := .dat (rowL r)) (y := .dat (.int (c : Nat))) (γ1 := RG V w 0 [r] (.dat (.int (c : Nat))) (.dat (.int (0 : Nat))) x7 (.dat (rowL v)) (.dat (.int 1))) (by kernel_rfl) (by kernel_rfl) (row_at hr))
  have cl := ev_call (cal := callI tb.fn (n + 1)) (f := 21) (es := [(.slot 0), (.idx (.slot 2) (.slot 6)), (.slot 8), (.bin .sub (.slot 0) (.idx (.idx (.slot 2) (.slot 6)) (.slot 5)))]) (γ := RG V w 0 [r] (.dat (.int (c : Nat))) (.dat (.int (0 : Nat))) x7 (.dat (rowL v)) (.dat (.int 1))) (γ1 := RG V w 0 [r] (.dat (.int (c : Nat))) (.dat (.int (0 : Nat))) x7 (.dat (rowL v)) (.dat (.int 1))) (vs := [.dat (.int 2), .dat (rowL r), .dat (rowL v), .dat (.int k)])
    (evs_cons rfl (x := .dat (.int 2)) (γ1 := RG V w 0 [r] (.dat (.int (c : Nat))) (.dat (.int (0 : Nat))) x7 (.dat (rowL v)) (.dat (.int 1))) (by kernel_rfl) (evs_cons rfl (x := .dat (rowL r)) (γ1 := RG V w 0 [r] (.dat (.int (c : Nat))) (.dat (.int (0 : Nat))) x7 (.dat (rowL v)) (.dat (.int 1))) (by kernel_rfl) (evs_cons rfl (x := .dat (rowL v)) (γ1 := RG V w 0 [r] (.dat (.int (c : Nat))) (.dat (.int (0 : Nat))) x7 (.dat (rowL v)) (.dat (.int 1))) (by kernel_rfl) (evs_cons rfl (x := .dat (.int k)) sb (by kernel_rfl))))) (by kernel_rfl) (by kernel_rfl) p (by kernel_rfl)
  refine exS_for (ds := [.int (0 : Nat)]) (γ1 := RG V w 0 [r] (.dat (.int (c : Nat))) x6 x7 (.own (.l ((vI v).map .int))) (.dat (.int 1))) (by kernel_rfl) ?_
  refine (forI_nx (ds := []) (γ1 := RG V w 0 [if bitc c r = true then xr r v else r] (.dat (.int (c : Nat))) (.dat (.int (0 : Nat))) x7 (.dat (rowL v)) (.dat (.int 1))) (turn_ok (γ1 := RG V w 0 [r] (.dat (.int (c : Nat))) (.dat (.int (0 : Nat))) x7 (.own (.l ((vI v).map .int))) (.dat (.int 1))) (tg_nm c6' (by kernel_rfl)) (exB_nx (γ1 := RG V w 0 [r] (.dat (.int (c : Nat))) (.dat (.int (0 : Nat))) x7 (.dat (rowL v)) (.dat (.int 1))) (by kernel_rfl) (exB_nx (γ1 := RG V w 0 [if bitc c r = true then xr r v else r] (.dat (.int (c : Nat))) (.dat (.int (0 : Nat))) x7 (.dat (rowL v)) (.dat (.int 1))) (exS_set (ev_b1 (y := .new (.l ((vI (if bitc c r = true then xr r v else r)).map .int))) cl (by kernel_rfl)) (by kernel_rfl)) (by kernel_rfl))))).trans (by kernel_rfl)
/-! ### two rows -/
def stp2 (c : Nat) : BV × BV × Nat → BV × BV × Nat
  | (a, b, 0) => if bitc c a = true then (a, (if bitc c b = true then xr b a else b), 1) else if bitc c b = true then (b, a, 1) else (a, b, 0)
  | (a, b, 1) => if bitc c b = true then (a, b, 2) else (a, b, 1)
  | s => s
theorem hits2 (a b : BV) (c : Nat) : hits [a, b] 0 c = (if bitc c a = true then [.int (0 : Nat)] else []) ++ (if bitc c b = true then [.int (1 : Nat)] else []) := by
  show List.filter (pH [a, b] c) [.int 0, .int 1] = _
  have e0 : pH [a, b] c (.int 0) = bitc c a := rfl
  have e1 : pH [a, b] c (.int 1) = bitc c b := rfl
  rw [List.filter_cons, List.filter_cons, List.filter_nil, e0, e1]
  cases bitc c a <;> cases bitc c b <;> rfl
theorem hits2b (a b : BV) (c : Nat) : hits [a, b] 1 c = if bitc c b = true then [.int (1 : Nat)] else [] := by
  show List.filter (pH [a, b] c) [.int (((1 : Nat) : Int) + ((0 : Nat) : Int))] = _
  have e1 : pH [a, b] c (.int (((1 : Nat) : Int) + ((0 : Nat) : Int))) = bitc c b := rfl
  rw [List.filter_cons, List.filter_nil, e1]
  cases bitc c b <;> rfl
theorem hits1 (a : BV) (c : Nat) : hits [a] 0 c = if bitc c a = true then [.int (0 : Nat)] else [] := by
  show List.filter (pH [a] c) [.int 0] = _
  have e1 : pH [a] c (.int 0) = bitc c a := rfl
  rw [List.filter_cons, List.filter_nil, e1]
  cases bitc c a <;> rfl
theorem stp2_a {c : Nat} {a b : BV} (h : bitc c a = true) : stp2 c (a, b, 0) = (a, (if bitc c b = true then xr b a else b), 1) := by
  show (if bitc c a = true then _ else _) = _
  rw [h, if_pos rfl]
theorem stp2_b {c : Nat} {a b : BV} (h : bitc c a = false) (h2 : bitc c b = true) : stp2 c (a, b, 0) = (b, a, 1) := by
  show (if bitc c a = true then _ else if bitc c b = true then _ else _) = _
  rw [h, h2, if_neg Bool.false_ne_true, if_pos rfl]
theorem stp2_c {c : Nat} {a b : BV} (h : bitc c a = false) (h2 : bitc c b = false) : stp2 c (a, b, 0) = (a, b, 0) := by
  show (if bitc c a = true then _ else if bitc c b = true then _ else _) = _
  rw [h, h2, if_neg Bool.false_ne_true, if_neg Bool.false_ne_true]
theorem stp2_d {c : Nat} {a b : BV} (h2 : bitc c b = true) : stp2 c (a, b, 1) = (a, b, 2) := by
  show (if bitc c b = true then _ else _) = _
  rw [h2, if_pos rfl]
theorem stp2_e {c : Nat} {a b : BV} (h2 : bitc c b = false) : stp2 c (a, b, 1) = (a, b, 1) := by
  show (if bitc c b = true then _ else _) = _
  rw [h2, if_neg Bool.false_ne_true]
theorem col2 {n : Nat} (V : D) {w c : Nat} {a b : BV} (ha : c < a.length) (hab : a.length = b.length) (hl : a.length < 1000000) {f : Nat} (hf : f ≤ 2) : Col n V w c [a, b] f [(stp2 c (a, b, f)).1, (stp2 c (a, b, f)).2.1] (stp2 c (a, b, f)).2.2 := by
  have hw : ∀ v ∈ [a, b], c < v.length := fun v hv => by
    simp at hv
    rcases hv with rfl | rfl <;> omega
  have l2 : [a, b].length ≤ 2 := Nat.le_refl 2
  match f, hf with
  | 0, _ =>
    have hh := hits2 a b c
    cases h1 : bitc c a with
    | true =>
      rw [h1, if_pos rfl] at hh
      rw [stp2_a h1]
      have l1 := loop1 (n := n) V (w := w) (c := c) (r := b) (v := a) (by omega) (by omega) (by omega)
      exact hit_col (n := n) V (h := 0) l2 (Nat.zero_le _) hw (by simp) hl h1 hh rfl (he := rfl) l1 (show 1 ≤ 2 by decide) rfl
    | false =>
      rw [h1, if_neg Bool.false_ne_true, List.nil_append] at hh
      cases h2 : bitc c b with
      | true =>
        rw [h2, if_pos rfl] at hh
        rw [stp2_b h1 h2]
        have l1 := loop1 (n := n) V (w := w) (c := c) (r := a) (v := b) (by omega) (by omega) (by omega)
        rw [h1, if_neg Bool.false_ne_true] at l1
        exact hit_col (n := n) V (h := 1) l2 (Nat.zero_le _) hw (by simp) (by omega) h2 hh rfl (he := rfl) l1 (show 1 ≤ 2 by decide) rfl
      | false =>
        rw [h2, if_neg Bool.false_ne_true] at hh
        rw [stp2_c h1 h2]
        exact no_hit (n := n) V l2 (Nat.zero_le _) hw hh
  | 1, _ =>
    have hh := hits2b a b c
    cases h2 : bitc c b with
    | true =>
      rw [h2, if_pos rfl] at hh
      rw [stp2_d h2]
      exact hit_col (n := n) V (h := 1) (rest := [a]) (rest' := [a]) l2 (show 1 ≤ 2 by decide) hw (by simp) (by omega) h2 hh rfl rfl (loop0 (n := n) V rfl (show 1 ≤ 2 by decide)) (show 1 ≤ 2 by decide) rfl
    | false =>
      rw [h2, if_neg Bool.false_ne_true] at hh
      rw [stp2_e h2]
      exact no_hit (n := n) V l2 (show 1 ≤ 2 by decide) hw hh
  | 2, _ => exact no_hit (n := n) V l2 (Nat.le_refl 2) hw rfl
def stp1 (c : Nat) (a : BV) : Nat → Nat
  | 0 => if bitc c a = true then 1 else 0
  | s => s
theorem col1 {n : Nat} (V : D) {w c : Nat} {a : BV} (ha : c < a.length) (hl : a.length < 1000000) {f : Nat} (hf : f ≤ 1) : Col n V w c [a] f [a] (stp1 c a f) := by
  have hw : ∀ v ∈ [a], c < v.length := fun v hv => by
    simp at hv
    subst hv
    exact ha
  have l2 : [a].length ≤ 2 := show 1 ≤ 2 by decide
  match f, hf with
  | 0, _ =>
    have hh := hits1 a c
    cases h1 : bitc c a with
    | true =>
      rw [h1, if_pos rfl] at hh
      rw [show stp1 c a 0 = 1 from by show (if bitc c a = true then _ else _) = _; rw [h1, if_pos rfl]]
      exact hit_col (n := n) V (h := 0) (rest := []) (rest' := []) l2 (Nat.zero_le _) hw (by simp) hl h1 hh rfl rfl (loop0 (n := n) V rfl (Nat.zero_le _)) (Nat.zero_le _) rfl
    | false =>
      rw [h1, if_neg Bool.false_ne_true] at hh
      rw [show stp1 c a 0 = 0 from by show (if bitc c a = true then _ else _) = _; rw [h1, if_neg Bool.false_ne_true]]
      exact no_hit (n := n) V l2 (Nat.zero_le _) hw hh
  | 1, _ => exact no_hit (n := n) V l2 (Nat.le_refl 1) hw rfl
end V86

/-! k86: the rank, tells. -/
namespace V86
open PySem PySem.Spec PyProof.Rows L2 VY RI
def rkS (u v : BV) : Nat → BV × BV × Nat
  | 0 => (u, v, 0)
  | c + 1 => stp2 c (rkS u v c)
def rk2 (w : Nat) (u v : BV) : Nat := (rkS u v w).2.2
def rk1 (u : BV) : Nat → Nat
  | 0 => 0
  | c + 1 => stp1 c u (rk1 u c)
theorem stp2_len {c w : Nat} {a b : BV} (ha : a.length = w) (hb : b.length = w) : ∀ {f : Nat}, f ≤ 2 → (stp2 c (a, b, f)).1.length = w ∧ (stp2 c (a, b, f)).2.1.length = w ∧ (stp2 c (a, b, f)).2.2 ≤ 2
  | 0, _ => by
    cases h1 : bitc c a with
    | true =>
      rw [stp2_a h1]
      refine ⟨ha, ?_, show 1 ≤ 2 by decide⟩
      show (if bitc c b = true then xr b a else b).length = w
      split
      · rw [xr_len (by rw [ha, hb]), ha]
      · exact hb
    | false =>
      cases h2 : bitc c b with
      | true => rw [stp2_b h1 h2]; exact ⟨hb, ha, show 1 ≤ 2 by decide⟩
      | false => rw [stp2_c h1 h2]; exact ⟨ha, hb, Nat.zero_le 2⟩
  | 1, _ => by
    cases h2 : bitc c b with
    | true => rw [stp2_d h2]; exact ⟨ha, hb, Nat.le_refl 2⟩
    | false => rw [stp2_e h2]; exact ⟨ha, hb, show 1 ≤ 2 by decide⟩
  | 2, _ => ⟨ha, hb, Nat.le_refl 2⟩
theorem rkS_len {w : Nat} {u v : BV} (hu : u.length = w) (hv : v.length = w) : ∀ c, (rkS u v c).1.length = w ∧ (rkS u v c).2.1.length = w ∧ (rkS u v c).2.2 ≤ 2
  | 0 => ⟨hu, hv, Nat.zero_le 2⟩
  | c + 1 => by
    obtain ⟨h1, h2, h3⟩ := rkS_len hu hv c
    exact stp2_len h1 h2 h3
theorem rk1_le (u : BV) : ∀ c, rk1 u c ≤ 1
  | 0 => Nat.zero_le 1
  | c + 1 => by
    have := rk1_le u c
    show stp1 c u (rk1 u c) ≤ 1
    match rk1 u c, this with
    | 0, _ => show (if _ then 1 else 0) ≤ 1; split <;> decide
    | 1, _ => exact Nat.le_refl 1
def vecG : D → D
  | .tup ts => .lst ts
  | d => d
theorem rank_pre {n : Nat} (vs : List BV) (hvs : vs.length < 1000) : ev (callI tb.fn n) (.lc [("own", 10)] (.one 10) (.of (.slot 1)) .no (.b1 .list (.slot 10))) (G0 fd_law_rank.N [.dat (.int 2), .dat (.lst (vs.map vecD))]) = some (.new (.l (vs.map rowL)), G0 fd_law_rank.N [.dat (.int 2), .dat (.lst (vs.map vecD))]) := by
  have h := lcI_map (vs := [10]) (js := [10]) (pt := (Shp.one 10).parts) (fc := fun γ => some (true, γ)) (fe := ev (callI tb.fn n) (.b1 .list (.slot 10))) (γ := G0 fd_law_rank.N [.dat (.int 2), .dat (.lst (vs.map vecD))]) (g := vecG) (by kernel_rfl) (ds := vs.map vecD) (acc := []) fun d hd => by
    obtain ⟨v, _, rfl⟩ := List.mem_map.mp hd
    exact ⟨[vecD v], [.dat (.int 2), .dat (.lst (vs.map vecD)), .un, .un, .un, .un, .un, .un, .un, .un, .dat (vecD v), .un], (.new (.l ((vI v).map .int)), [.dat (.int 2), .dat (.lst (vs.map vecD)), .un, .un, .un, .un, .un, .un, .un, .un, .dat (vecD v), .un]), by kernel_rfl, by kernel_rfl, by kernel_rfl, by kernel_rfl, by kernel_rfl⟩
  rw [List.nil_append, List.map_map, show vecG ∘ vecD = rowL from rfl] at h
  exact ev_lc (ds := vs.map vecD) (γ1 := G0 fd_law_rank.N [.dat (.int 2), .dat (.lst (vs.map vecD))]) (by kernel_rfl) (by rw [List.length_map]; omega) h
theorem rank_all {n : Nat} {w : Nat} (hw : w ≤ 6) {a : BV} {vs : List BV} (ha : a.length = w) (hvs : vs.length < 100) {r : Nat}
    (lp : ∃ γ' r5 rows x5 x6 x7 x8 x9, r5 = r ∧ γ' = RG (.lst ((a :: vs).map vecD)) w r5 rows x5 x6 x7 x8 x9 ∧ forI (fun d γ => (tgI (callI tb.fn (n + 1)) (.nm 5) (.dat d) γ).bind fun γ' => exB (callI tb.fn (n + 1)) colB γ') (rangeD 0 w) (RG (.lst ((a :: vs).map vecD)) w 0 (a :: vs) .un .un .un .un .un) = some (.nx γ')) :
    callI tb.fn (n + 2) 29 [.dat (.int 2), .dat (.lst ((a :: vs).map vecD))] = some (.dat (.int (r : Nat)), []) := by
  obtain ⟨γ', r5, rows, x5, x6, x7, x8, x9, hr5, hγ, lp⟩ := lp
  subst hr5 hγ
  obtain ⟨V, hV⟩ : ∃ V, V = D.lst ((a :: vs).map vecD) := ⟨_, rfl⟩
  have pre := rank_pre (n := n + 1) (a :: vs) (by rw [List.length_cons]; omega)
  rw [← hV] at lp pre ⊢
  refine (callI_eq (tb := tb.fn) (f := 29) (fd := fd_law_rank) (fl := .rt (.dat (.int (r5 : Nat))) (RG V w r5 rows x5 x6 x7 x8 x9)) rfl rfl ?_).trans (by kernel_rfl)
  obtain ⟨γa, hγa⟩ : ∃ γa : List Dsc, γa = [.dat (.int 2), .dat V, .own (.l ((a :: vs).map rowL)), .dat (.int 0), .un, .un, .un, .un, .un, .un, .un, .un] := ⟨_, rfl⟩
  refine exB_nx (γ1 := γa) (exS_par (vs := [.new (.l ((a :: vs).map rowL)), .dat (.int 0)]) (γ1 := G0 fd_law_rank.N [.dat (.int 2), .dat V]) (evn_cons (γ1 := G0 fd_law_rank.N [.dat (.int 2), .dat V]) pre (by kernel_rfl)) (by subst hγa; kernel_rfl)) ?_
  subst hγa
  have len : ev (callI tb.fn (n + 1)) (.b1 .len (.idx (.slot 2) (.cst (.int 0)))) [.dat (.int 2), .dat V, .own (.l ((a :: vs).map rowL)), .dat (.int 0), .un, .un, .un, .un, .un, .un, .un, .un] = some (.dat (.int (w : Nat)), [.dat (.int 2), .dat V, .own (.l ((a :: vs).map rowL)), .dat (.int 0), .un, .un, .un, .un, .un, .un, .un, .un]) := by
    refine ev_b1 (x := .dat (rowL a)) (ev_idx (x := .loc 2) (y := .dat (.int 0)) (γ1 := [.dat (.int 2), .dat V, .own (.l ((a :: vs).map rowL)), .dat (.int 0), .un, .un, .un, .un, .un, .un, .un, .un]) (by kernel_rfl) (by kernel_rfl) (idx_sq (ds := (a :: vs).map rowL) (by kernel_rfl) (by kernel_rfl) (by decide) rfl)) ?_
    show some (Dv.dat (.int (((vI a).map D.int).length : Nat))) = _
    rw [List.length_map, vI_len, ha]
  have ne : ev (callI tb.fn (n + 1)) (.cmp .ne (.slot 2) (.lst [])) [.dat (.int 2), .dat V, .own (.l ((a :: vs).map rowL)), .dat (.int 0), .un, .un, .un, .un, .un, .un, .un, .un] = some (.dat (.bl true), [.dat (.int 2), .dat V, .own (.l ((a :: vs).map rowL)), .dat (.int 0), .un, .un, .un, .un, .un, .un, .un, .un]) :=
    ev_cmp (x := .loc 2) (y := .new (.l [])) (γ1 := [.dat (.int 2), .dat V, .own (.l ((a :: vs).map rowL)), .dat (.int 0), .un, .un, .un, .un, .un, .un, .un, .un]) (by kernel_rfl) (by kernel_rfl) (eq_nilG (by kernel_rfl) (by kernel_rfl) (shA_map (l := a :: vs) fun v _ => sh_le (sh_row v) (by decide)))
  refine exB_nx (γ1 := RG V w 0 (a :: vs) .un .un .un .un .un) (exS_set (t := .nm 4) (ev_ite ne (fun _ => len) nofun) (by kernel_rfl)) ?_
  refine exB_nx (exS_for (ds := rangeD 0 w) (γ1 := RG V w 0 (a :: vs) .un .un .un .un .un) ?_ lp) (exB_rt (exS_ret (by kernel_rfl)))
  show gd (decide (-1000000 ≤ ((w : Nat) : Int)) && decide (((w : Nat) : Int) ≤ 1000000)) (some (rangeD 0 ((w : Nat) : Int).toNat, _)) = _
  rw [gd_t (by rw [decide_eq_true (show (-1000000 : Int) ≤ (w : Nat) by omega), decide_eq_true (show ((w : Nat) : Int) ≤ 1000000 by omega)]; rfl), Int.toNat_natCast]
theorem rank2_ok {n : Nat} {w : Nat} (hw : w ≤ 6) {u v : BV} (hu : u.length = w) (hv : v.length = w) : callI tb.fn (n + 2) 29 [.dat (.int 2), .dat (.lst ([u, v].map vecD))] = some (.dat (.int (rk2 w u v : Nat)), []) := by
  obtain ⟨γ', e1, x5, x6, x7, x8, x9, e2, _⟩ := forI_inv (step := fun d γ => (tgI (callI tb.fn (n + 1)) (.nm 5) (.dat d) γ).bind fun γ' => exB (callI tb.fn (n + 1)) colB γ')
    (I := fun i γ => ∃ x5 x6 x7 x8 x9, γ = RG (.lst ([u, v].map vecD)) w (rkS u v i).2.2 [(rkS u v i).1, (rkS u v i).2.1] x5 x6 x7 x8 x9 ∧ cs x5 = true ∧ cs x6 = true ∧ cs x7 = true ∧ cs x8 = true ∧ cs x9 = true) (ds := rangeD 0 w) (k := 0) (γ := RG (.lst ([u, v].map vecD)) w 0 [u, v] .un .un .un .un .un) ⟨.un, .un, .un, .un, .un, rfl, rfl, rfl, rfl, rfl, rfl⟩ (fun i d γ hd ⟨x5, x6, x7, x8, x9, hγ, c5, c6, c7, c8, c9⟩ => by
      subst hγ
      have hi : i < w := by
        have := (List.getElem?_eq_some_iff.mp hd).1
        rwa [rangeD_len] at this
      rw [rangeD_get hi, Int.zero_add] at hd
      cases hd
      rw [Nat.zero_add]
      obtain ⟨l1, l2, l3⟩ := rkS_len hu hv i
      obtain ⟨y6, y7, y8, y9, d6, d7, d8, d9, t⟩ := col2 (n := n) (.lst ([u, v].map vecD)) (w := w) (c := i) (a := (rkS u v i).1) (b := (rkS u v i).2.1) (by omega) (by rw [l1, l2]) (by omega) (f := (rkS u v i).2.2) l3 x5 x6 x7 x8 x9 c5 c6 c7 c8 c9
      exact ⟨_, t, .dat (.int (i : Nat)), y6, y7, y8, y9, rfl, rfl, d6, d7, d8, d9⟩)
  rw [Nat.zero_add, rangeD_len] at e2
  exact rank_all (n := n) hw (a := u) (vs := [v]) hu (show 1 < 100 by decide) ⟨γ', _, _, x5, x6, x7, x8, x9, rfl, e2, e1⟩
theorem rank1_ok {n : Nat} {w : Nat} (hw : w ≤ 6) {u : BV} (hu : u.length = w) : callI tb.fn (n + 2) 29 [.dat (.int 2), .dat (.lst ([u].map vecD))] = some (.dat (.int (rk1 u w : Nat)), []) := by
  obtain ⟨γ', e1, x5, x6, x7, x8, x9, e2, _⟩ := forI_inv (step := fun d γ => (tgI (callI tb.fn (n + 1)) (.nm 5) (.dat d) γ).bind fun γ' => exB (callI tb.fn (n + 1)) colB γ')
    (I := fun i γ => ∃ x5 x6 x7 x8 x9, γ = RG (.lst ([u].map vecD)) w (rk1 u i) [u] x5 x6 x7 x8 x9 ∧ cs x5 = true ∧ cs x6 = true ∧ cs x7 = true ∧ cs x8 = true ∧ cs x9 = true) (ds := rangeD 0 w) (k := 0) (γ := RG (.lst ([u].map vecD)) w 0 [u] .un .un .un .un .un) ⟨.un, .un, .un, .un, .un, rfl, rfl, rfl, rfl, rfl, rfl⟩ (fun i d γ hd ⟨x5, x6, x7, x8, x9, hγ, c5, c6, c7, c8, c9⟩ => by
      subst hγ
      have hi : i < w := by
        have := (List.getElem?_eq_some_iff.mp hd).1
        rwa [rangeD_len] at this
      rw [rangeD_get hi, Int.zero_add] at hd
      cases hd
      rw [Nat.zero_add]
      obtain ⟨y6, y7, y8, y9, d6, d7, d8, d9, t⟩ := col1 (n := n) (.lst ([u].map vecD)) (w := w) (c := i) (a := u) (by omega) (by omega) (f := rk1 u i) (rk1_le u i) x5 x6 x7 x8 x9 c5 c6 c7 c8 c9
      exact ⟨_, t, .dat (.int (i : Nat)), y6, y7, y8, y9, rfl, rfl, d6, d7, d8, d9⟩)
  rw [Nat.zero_add, rangeD_len] at e2
  exact rank_all (n := n) hw (a := u) (vs := []) hu (show 0 < 100 by decide) ⟨γ', _, _, x5, x6, x7, x8, x9, rfl, e2, e1⟩
/-! ### what tells, by all vectors -/
def allBV : Nat → List BV
  | 0 => [[]]
  | n + 1 => (allBV n).flatMap fun v => [false :: v, true :: v]
theorem mem_all : ∀ {n : Nat} {v : BV}, v.length = n → v ∈ allBV n
  | 0, [], _ => List.mem_singleton.mpr rfl
  | n + 1, x :: v, h => by
    refine List.mem_flatMap.mpr ⟨v, mem_all (by simpa using h), ?_⟩
    cases x <;> simp
def fin2B (w : Nat) : Bool := (allBV w).all fun u => (allBV w).all fun v => decide (rk2 (w - 1) (u.drop 1) (v.drop 1) < rk2 w u v) == tellsB w [u, v]
def fin1B (w : Nat) : Bool := (allBV w).all fun u => decide (rk1 (u.drop 1) (w - 1) < rk1 u w) == tellsB w [u]
theorem fin2_2 : fin2B 2 = true := by decide +kernel
theorem fin2_3 : fin2B 3 = true := by decide +kernel
theorem fin2_4 : fin2B 4 = true := by decide +kernel
theorem fin2_5 : fin2B 5 = true := by decide +kernel
theorem fin1_2 : fin1B 2 = true := by decide +kernel
theorem fin1_3 : fin1B 3 = true := by decide +kernel
theorem fin1_4 : fin1B 4 = true := by decide +kernel
theorem fin1_5 : fin1B 5 = true := by decide +kernel
theorem fin2 {w : Nat} (h2 : 2 ≤ w) (h5 : w ≤ 5) {u v : BV} (hu : u.length = w) (hv : v.length = w) : decide (rk2 (w - 1) (u.drop 1) (v.drop 1) < rk2 w u v) = tellsB w [u, v] := by
  have h : fin2B w = true := by
    match w, h2, h5 with
    | 2, _, _ => exact fin2_2
    | 3, _, _ => exact fin2_3
    | 4, _, _ => exact fin2_4
    | 5, _, _ => exact fin2_5
  exact eq_of_beq (List.all_eq_true.mp (List.all_eq_true.mp h u (mem_all hu)) v (mem_all hv))
theorem fin1 {w : Nat} (h2 : 2 ≤ w) (h5 : w ≤ 5) {u : BV} (hu : u.length = w) : decide (rk1 (u.drop 1) (w - 1) < rk1 u w) = tellsB w [u] := by
  have h : fin1B w = true := by
    match w, h2, h5 with
    | 2, _, _ => exact fin1_2
    | 3, _, _ => exact fin1_3
    | 4, _, _ => exact fin1_4
    | 5, _, _ => exact fin1_5
  exact eq_of_beq (List.all_eq_true.mp h u (mem_all hu))
def cutG : D → D
  | .tup ts => .tup (VY.cutD ts (some 1) none)
  | d => d
theorem cut_vec {v : BV} (h : 1 ≤ v.length) : cutG (vecD v) = vecD (v.drop 1) := by
  show D.tup (VY.cutD ((vI v).map .int) (some ((1 : Nat) : Int)) none) = D.tup ((vI (v.drop 1)).map .int)
  rw [cut_from (by rw [List.length_map, vI_len]; exact h)]
  unfold vI
  rw [List.map_drop, List.map_drop]
theorem two_or {α : Type} : ∀ {l : List α}, l.length ≤ 2 → l = [] ∨ (∃ u, l = [u]) ∨ ∃ u v, l = [u, v]
  | [], _ => .inl rfl
  | [u], _ => .inr (.inl ⟨u, rfl⟩)
  | [u, v], _ => .inr (.inr ⟨u, v, rfl⟩)
  | _ :: _ :: _ :: _, h => absurd h (by simp)
theorem tells_ok {n : Nat} (s : D) (bs : List Bit) {w : Nat} (h2 : 2 ≤ w) (h5 : w ≤ 5) {vs : List BV} (hl : vs.length ≤ 2) (hv : ∀ v ∈ vs, v.length = w) :
    callI tb.fn (n + 3) 30 [.dat (hallD s bs), .dat (.lst (vs.map vecD))] = some (.dat (.bl (tellsB w vs)), []) := by
  obtain ⟨γ0, hγ0⟩ : ∃ γ0 : List Dsc, γ0 = [.dat (hallD s bs), .dat (.lst (vs.map vecD)), .dat (.int 1), .un, .un] := ⟨_, rfl⟩
  obtain ⟨γ1, hγ1⟩ : ∃ γ1 : List Dsc, γ1 = [.dat (hallD s bs), .dat (.lst (vs.map vecD)), .dat (.int 1), .dat (.lst ((vs.map (List.drop 1)).map vecD)), .un] := ⟨_, rfl⟩
  have tl : ev (callI tb.fn (n + 2)) (.lc [("own", 4)] (.one 4) (.of (.slot 1)) .no (.slc (.slot 4) (.slot 2) .no)) γ0 = some (.new (.l ((vs.map (List.drop 1)).map vecD)), γ0) := by
    subst hγ0
    have h := lcI_map (vs := [4]) (js := [4]) (pt := (Shp.one 4).parts) (fc := fun γ => some (true, γ)) (fe := ev (callI tb.fn (n + 2)) (.slc (.slot 4) (.slot 2) .no)) (γ := [.dat (hallD s bs), .dat (.lst (vs.map vecD)), .dat (.int 1), .un, .un]) (g := cutG) (by kernel_rfl) (ds := vs.map vecD) (acc := []) fun d hd => by
      obtain ⟨v, _, rfl⟩ := List.mem_map.mp hd
      exact ⟨[vecD v], [.dat (hallD s bs), .dat (.lst (vs.map vecD)), .dat (.int 1), .un, .dat (vecD v)], (.dat (cutG (vecD v)), [.dat (hallD s bs), .dat (.lst (vs.map vecD)), .dat (.int 1), .un, .dat (vecD v)]), by kernel_rfl, by kernel_rfl, by kernel_rfl, by kernel_rfl, by kernel_rfl⟩
    rw [List.nil_append, List.map_map, List.map_congr_left (f := cutG ∘ vecD) (g := fun v => vecD (v.drop 1)) (fun v hm => cut_vec (by rw [hv v hm]; omega))] at h
    rw [List.map_map]
    exact ev_lc (ds := vs.map vecD) (γ1 := [.dat (hallD s bs), .dat (.lst (vs.map vecD)), .dat (.int 1), .un, .un]) (by kernel_rfl) (by rw [List.length_map]; omega) h
  refine (callI_eq (tb := tb.fn) (f := 30) (fd := fd_law_tells) (fl := .rt (.dat (.bl (tellsB w vs))) γ1) rfl rfl ?_).trans (by subst hγ1; kernel_rfl)
  refine exB_nx (γ1 := γ0) (by subst hγ0; kernel_rfl) ?_
  refine exB_nx (γ1 := [.dat (hallD s bs), .dat (.lst (vs.map vecD)), .dat (.int 1), .own (.l ((vs.map (List.drop 1)).map vecD)), .un]) (exS_set (t := .nm 3) tl (by subst hγ0; kernel_rfl)) ?_
  refine exB_nx (γ1 := γ1) (by subst hγ1; kernel_rfl) ?_
  have ne : ev (callI tb.fn (n + 2)) (.cmp .ne (.slot 1) (.lst [])) γ1 = some (.dat (.bl (!(vs.map vecD).isEmpty)), γ1) := by
    subst hγ1
    exact ev_cmp (x := .dat (.lst (vs.map vecD))) (y := .new (.l [])) (γ1 := [.dat (hallD s bs), .dat (.lst (vs.map vecD)), .dat (.int 1), .dat (.lst ((vs.map (List.drop 1)).map vecD)), .un]) (by kernel_rfl) (by kernel_rfl) (cmp_nenil (.inl rfl) (seen_sh vs))
  have cl : ∀ (i j : Nat), callI tb.fn (n + 2) 29 [.dat (.int 2), .dat (.lst (vs.map vecD))] = some (.dat (.int (i : Nat)), []) → callI tb.fn (n + 2) 29 [.dat (.int 2), .dat (.lst ((vs.map (List.drop 1)).map vecD))] = some (.dat (.int (j : Nat)), []) → ev (callI tb.fn (n + 2)) (.cmp .gt (.call 29 [(.idx (.idx (.slot 0) (.cst (.int 0))) (.cst (.int 0))), (.slot 1)]) (.call 29 [(.idx (.idx (.slot 0) (.cst (.int 0))) (.cst (.int 0))), (.slot 3)])) γ1 = some (.dat (.bl (decide (j < i))), γ1) := fun i j hi hj => by
    subst hγ1
    have e : decide (((j : Nat) : Int) < (i : Nat)) = decide (j < i) := decide_eq_decide.mpr ⟨fun h => by omega, fun h => by omega⟩
    rw [← e]
    exact ev_gt (γ1 := [.dat (hallD s bs), .dat (.lst (vs.map vecD)), .dat (.int 1), .dat (.lst ((vs.map (List.drop 1)).map vecD)), .un]) (ev_call (γ1 := [.dat (hallD s bs), .dat (.lst (vs.map vecD)), .dat (.int 1), .dat (.lst ((vs.map (List.drop 1)).map vecD)), .un]) (vs := [.dat (.int 2), .dat (.lst (vs.map vecD))]) (by kernel_rfl) (by kernel_rfl) (by kernel_rfl) hi rfl) (ev_call (γ1 := [.dat (hallD s bs), .dat (.lst (vs.map vecD)), .dat (.int 1), .dat (.lst ((vs.map (List.drop 1)).map vecD)), .un]) (vs := [.dat (.int 2), .dat (.lst ((vs.map (List.drop 1)).map vecD))]) (by kernel_rfl) (by kernel_rfl) (by kernel_rfl) hj rfl)
  refine exB_rt (exS_ret ?_)
  rcases two_or hl with rfl | ⟨u, rfl⟩ | ⟨u, v, rfl⟩
  · exact ev_and (k := false) ne nofun (fun _ => ⟨rfl, rfl⟩)
  · have hu := hv u (by simp)
    have r := cl _ _ (rank1_ok (n := n) (w := w) (by omega) hu) (rank1_ok (n := n) (w := w - 1) (u := u.drop 1) (by omega) (by rw [List.length_drop, hu]))
    rw [fin1 h2 h5 hu] at r
    exact ev_and (k := true) ne (fun _ => r) nofun
  · have hu := hv u (by simp)
    have hv' := hv v (by simp)
    have r := cl _ _ (rank2_ok (n := n) (w := w) (by omega) hu hv') (rank2_ok (n := n) (w := w - 1) (u := u.drop 1) (v := v.drop 1) (by omega) (by rw [List.length_drop, hu]) (by rw [List.length_drop, hv']))
    rw [fin2 h2 h5 hu hv'] at r
    exact ev_and (k := true) ne (fun _ => r) nofun
end V86

/-! k86: the cheapest. -/
namespace V86
open PySem PySem.Spec PyProof.Rows L2 VY RI
theorem mix_w {w : Nat} : ∀ {vs : List BV} {fs : List Int} {acc : BV}, (∀ v ∈ vs, v.length = w) → acc.length = w → (mixB w vs fs acc).length = w
  | [], fs, acc, _, ha => by rw [mixB.eq_def]; exact ha
  | v :: vs, [], acc, _, ha => ha
  | v :: vs, f :: fs, acc, hv, ha => mix_w (vs := vs) (fs := fs) (fun u hu => hv u (List.mem_cons_of_mem _ hu)) (by
      split
      · rw [xr_len (by rw [ha, hv v List.mem_cons_self]), hv v List.mem_cons_self]
      · exact ha)
theorem mE_w {w k : Nat} {e : En} (he : EnW w e) {so : So} {m : Mk} (h : m ∈ marksE w k e so) : m.vec.length = w := by
  have hr : ∀ m ∈ readM w k e, m.vec.length = w := fun m hm => by
    obtain ⟨fs, _, rfl⟩ := List.mem_map.mp hm
    exact mix_w he.sw (z_len w)
  have ht : (xr e.new e.old).length = w := by rw [xr_len (by rw [he.nw, he.ow]), he.ow]
  cases so with
  | p1 => simp [marksE] at h; subst h; exact he.nw
  | p1t1 => simp [marksE] at h; rcases h with rfl | rfl <;> first | exact he.nw | exact ht
  | t1 => simp [marksE] at h; subst h; exact ht
  | p2r1t1 =>
    simp [marksE] at h
    rcases h with rfl | rfl | h
    · exact he.nw
    · exact ht
    · exact hr m h
theorem mB_w {w : Nat} {so : So} : ∀ {es : List En} {k : Nat}, (∀ e ∈ es, EnW w e) → ∀ m ∈ marksB w so k es, m.vec.length = w
  | e :: es, k, he, m, h => by
    rcases List.mem_append.mp h with h | h
    · exact mE_w (he e List.mem_cons_self) h
    · exact mB_w (fun e h => he e (List.mem_cons_of_mem _ h)) m h
theorem marks_w {so : So} {bs : List Bit} (hb : ∀ b ∈ bs, BReg b ∧ BTwo b) : ∀ m ∈ marksOf so bs, m.vec.length = wid bs ∧ 1 ≤ m.price := fun m hm => ⟨mB_w (run_w (first_w _) hb) m hm, (mB_mem hm).2.2⟩
theorem marks_len (so : So) (bs : List Bit) : (marksOf so bs).length ≤ 5 * bs.length := by
  have := mB_len (wid bs) so (runB (wid bs) (firstB (wid bs)) 2 bs) 0
  rw [run_len] at this
  exact this
def optD : Option Nat → D
  | none => .non
  | some n => .int (n : Nat)
def midG : D → D
  | .tup [_, v, _] => v
  | d => d
def CG (H L : D) (acc : Option Nat) (x4 x5 : Dsc) : List Dsc := [.dat H, .dat L, .dat (.int 2), .dat (optD acc), x4, x5, .un]
def chB : List RI.St := [.ite (.and (.or (.cmp .isN (.slot 3) (.cst .non)) (.cmp .lt (.slot 5) (.slot 3))) (.call 30 [(.slot 0), (.lc [("own", 6)] (.one 6) (.of (.slot 4)) .no (.idx (.slot 6) (.cst (.int 1))))])) [.set (.nm 3) (.slot 5)] []]
theorem ch_turn {n : Nat} (s : D) (bs : List Bit) (L : D) {w : Nat} (h2 : 2 ≤ w) (h5 : w ≤ 5) (acc : Option Nat) {p : Lk} (hp : p.1.length ≤ 2) (hw : ∀ m ∈ p.1, m.vec.length = w) {x4 x5 : Dsc} (c4 : cs x4 = true) (c5 : cs x5 = true) :
    (tgI (callI tb.fn (n + 3)) (.tup [.nm 4, .nm 5]) (.dat (lkD p)) (CG (hallD s bs) L acc x4 x5)).bind (fun γ' => exB (callI tb.fn (n + 3)) chB γ') = some (.nx (CG (hallD s bs) L (if (acc.all fun n => decide (p.2 < n)) = true ∧ tellsB w (vecs p) = true then some p.2 else acc) (.dat (.lst (p.1.map mkM))) (.dat (.int (p.2 : Nat))))) := by
  have t := tg2 (cal := callI tb.fn (n + 3)) (γ := CG (hallD s bs) L acc x4 x5) (i := 4) (j := 5) (a := .lst (p.1.map mkM)) (b := .int (p.2 : Nat)) (γ1 := CG (hallD s bs) L acc (.dat (.lst (p.1.map mkM))) x5) (γ2 := CG (hallD s bs) L acc (.dat (.lst (p.1.map mkM))) (.dat (.int (p.2 : Nat)))) (cs_at (x := x4) (by kernel_rfl) c4) (by kernel_rfl) (cs_at (x := x5) (by kernel_rfl) c5) (by kernel_rfl)
  refine turn_ok t ?_
  have hv : ∀ v ∈ vecs p, v.length = w := fun v hv => by
    obtain ⟨m, hm, rfl⟩ := List.mem_map.mp hv
    exact hw m hm
  have lc : ev (callI tb.fn (n + 3)) (.lc [("own", 6)] (.one 6) (.of (.slot 4)) .no (.idx (.slot 6) (.cst (.int 1)))) (CG (hallD s bs) L acc (.dat (.lst (p.1.map mkM))) (.dat (.int (p.2 : Nat)))) = some (.new (.l ((vecs p).map vecD)), CG (hallD s bs) L acc (.dat (.lst (p.1.map mkM))) (.dat (.int (p.2 : Nat)))) := by
    have h := lcI_map (vs := [6]) (js := [6]) (pt := (Shp.one 6).parts) (fc := fun γ => some (true, γ)) (fe := ev (callI tb.fn (n + 3)) (.idx (.slot 6) (.cst (.int 1)))) (γ := CG (hallD s bs) L acc (.dat (.lst (p.1.map mkM))) (.dat (.int (p.2 : Nat)))) (g := midG) (by kernel_rfl) (ds := p.1.map mkM) (acc := []) fun d hd => by
      obtain ⟨m, _, rfl⟩ := List.mem_map.mp hd
      exact ⟨[mkM m], [.dat (hallD s bs), .dat L, .dat (.int 2), .dat (optD acc), .dat (.lst (p.1.map mkM)), .dat (.int (p.2 : Nat)), .dat (mkM m)], (.dat (vecD m.vec), [.dat (hallD s bs), .dat L, .dat (.int 2), .dat (optD acc), .dat (.lst (p.1.map mkM)), .dat (.int (p.2 : Nat)), .dat (mkM m)]), by kernel_rfl, by kernel_rfl, by kernel_rfl, by kernel_rfl, by kernel_rfl⟩
    rw [List.nil_append, List.map_map] at h
    unfold vecs
    rw [List.map_map]
    exact ev_lc (ds := p.1.map mkM) (γ1 := CG (hallD s bs) L acc (.dat (.lst (p.1.map mkM))) (.dat (.int (p.2 : Nat)))) (by kernel_rfl) (by rw [List.length_map]; omega) h
  have tl := ev_call (cal := callI tb.fn (n + 3)) (f := 30) (es := [(.slot 0), (.lc [("own", 6)] (.one 6) (.of (.slot 4)) .no (.idx (.slot 6) (.cst (.int 1))))]) (γ := CG (hallD s bs) L acc (.dat (.lst (p.1.map mkM))) (.dat (.int (p.2 : Nat)))) (γ1 := CG (hallD s bs) L acc (.dat (.lst (p.1.map mkM))) (.dat (.int (p.2 : Nat)))) (vs := [.dat (hallD s bs), .dat (.lst ((vecs p).map vecD))]) (evs_cons rfl (x := .dat (hallD s bs)) (γ1 := CG (hallD s bs) L acc (.dat (.lst (p.1.map mkM))) (.dat (.int (p.2 : Nat)))) (by kernel_rfl) (evs_cons rfl (x := .new (.l ((vecs p).map vecD))) lc (by kernel_rfl))) (by kernel_rfl) (by kernel_rfl) (tells_ok (n := n) s bs h2 h5 (by unfold vecs; rw [List.length_map]; exact hp) hv) rfl
  have or : ev (callI tb.fn (n + 3)) (.or (.cmp .isN (.slot 3) (.cst .non)) (.cmp .lt (.slot 5) (.slot 3))) (CG (hallD s bs) L acc (.dat (.lst (p.1.map mkM))) (.dat (.int (p.2 : Nat)))) = some (.dat (.bl (acc.all fun n => decide (p.2 < n))), CG (hallD s bs) L acc (.dat (.lst (p.1.map mkM))) (.dat (.int (p.2 : Nat)))) := by
    cases acc with
    | none => kernel_rfl
    | some m =>
      refine ev_or (k := false) (γ1 := CG (hallD s bs) L (some m) (.dat (.lst (p.1.map mkM))) (.dat (.int (p.2 : Nat)))) (by kernel_rfl) (fun _ => ?_) nofun
      rw [ev_lt (i := (p.2 : Nat)) (j := (m : Nat)) (γ1 := CG (hallD s bs) L (some m) (.dat (.lst (p.1.map mkM))) (.dat (.int (p.2 : Nat)))) (γ2 := CG (hallD s bs) L (some m) (.dat (.lst (p.1.map mkM))) (.dat (.int (p.2 : Nat)))) (by kernel_rfl) (by kernel_rfl)]
      show some (Dv.dat (.bl (decide (((p.2 : Nat) : Int) < (m : Nat)))), _) = some (Dv.dat (.bl (decide (p.2 < m))), _)
      rw [show decide (((p.2 : Nat) : Int) < (m : Nat)) = decide (p.2 < m) from decide_eq_decide.mpr ⟨fun h => by omega, fun h => by omega⟩]
  have cond : ev (callI tb.fn (n + 3)) (.and (.or (.cmp .isN (.slot 3) (.cst .non)) (.cmp .lt (.slot 5) (.slot 3))) (.call 30 [(.slot 0), (.lc [("own", 6)] (.one 6) (.of (.slot 4)) .no (.idx (.slot 6) (.cst (.int 1))))])) (CG (hallD s bs) L acc (.dat (.lst (p.1.map mkM))) (.dat (.int (p.2 : Nat)))) = some (.dat (.bl ((acc.all fun n => decide (p.2 < n)) && tellsB w (vecs p))), CG (hallD s bs) L acc (.dat (.lst (p.1.map mkM))) (.dat (.int (p.2 : Nat)))) :=
    ev_and or (fun h => by rw [h]; exact tl) (fun h => by rw [h]; exact ⟨rfl, rfl⟩)
  refine exB_nx (γ1 := CG (hallD s bs) L (if (acc.all fun n => decide (p.2 < n)) = true ∧ tellsB w (vecs p) = true then some p.2 else acc) (.dat (.lst (p.1.map mkM))) (.dat (.int (p.2 : Nat)))) (exS_ite cond (fun h => ?_) (fun h => ?_)) (by kernel_rfl)
  · rw [Bool.and_eq_true] at h
    rw [if_pos h]
    kernel_rfl
  · rw [if_neg (by rw [← Bool.and_eq_true, h]; exact Bool.false_ne_true)]
    rfl
theorem ch_loop {n : Nat} (s : D) (bs : List Bit) (L : D) {w : Nat} (h2 : 2 ≤ w) (h5 : w ≤ 5) : ∀ (ps : List Lk) (acc : Option Nat) (x4 x5 : Dsc), (∀ p ∈ ps, p.1.length ≤ 2 ∧ ∀ m ∈ p.1, m.vec.length = w) → cs x4 = true → cs x5 = true →
    ∃ y4 y5, forI (fun d γ => (tgI (callI tb.fn (n + 3)) (.tup [.nm 4, .nm 5]) (.dat d) γ).bind fun γ' => exB (callI tb.fn (n + 3)) chB γ') (ps.map lkD) (CG (hallD s bs) L acc x4 x5) = some (.nx (CG (hallD s bs) L (cheapF w ps acc) y4 y5))
  | [], acc, x4, x5, _, _, _ => ⟨x4, x5, rfl⟩
  | p :: ps, acc, x4, x5, hp, c4, c5 => by
    have h0 := hp p List.mem_cons_self
    have t := ch_turn (n := n) s bs L h2 h5 acc h0.1 h0.2 c4 c5
    obtain ⟨y4, y5, lp⟩ := ch_loop (n := n) s bs L h2 h5 ps (if (acc.all fun n => decide (p.2 < n)) = true ∧ tellsB w (vecs p) = true then some p.2 else acc) (.dat (.lst (p.1.map mkM))) (.dat (.int (p.2 : Nat))) (fun q hq => hp q (List.mem_cons_of_mem _ hq)) rfl rfl
    exact ⟨y4, y5, (forI_nx t).trans lp⟩
theorem lk_two {so : So} {goods : List Mk} {w : Nat} (h : ∀ m ∈ goods, m.vec.length = w ∧ 1 ≤ m.price) : ∀ p ∈ looksB goods, p.1.length ≤ 2 ∧ ∀ m ∈ p.1, m.vec.length = w := fun p hp => by
  obtain ⟨a, b, c⟩ := looksB_ok (S := fun m => m.vec.length = w) h p hp
  exact ⟨by omega, c⟩
theorem cheap_ok {n : Nat} (so : So) {bs : List Bit} (hl : bs.length ≤ 3) (hb : ∀ b ∈ bs, BReg b ∧ BTwo b) (hd : bs.countP isDr ≤ 3) :
    callI tb.fn (n + 5) 32 [.dat (hallD (soD so) bs), .dat (.lst (bs.map lotD)), .dat (.int 2)] = some (.dat (optD (cheapF (wid bs) (looksB (marksOf so bs)) none)), []) := by
  have mw := marks_w (so := so) hb
  have ml := marks_len so bs
  have mk := marks_ok (n := n) so (bs := bs) (by omega) hb (by omega)
  have lk := lk_ok (n := n + 3) (goods := marksOf so bs) (by omega) (fun m hm => (mw m hm).2)
  obtain ⟨y4, y5, lp⟩ := ch_loop (n := n + 1) (soD so) bs (.lst (bs.map lotD)) (w := wid bs) (by unfold wid; omega) (by unfold wid; omega) (looksB (marksOf so bs)) none .un .un (lk_two (so := so) mw) rfl rfl
  refine (callI_eq (tb := tb.fn) (f := 32) (fd := fd_law_cheapest) (fl := .rt (.dat (optD (cheapF (wid bs) (looksB (marksOf so bs)) none))) (CG (hallD (soD so) bs) (.lst (bs.map lotD)) (cheapF (wid bs) (looksB (marksOf so bs)) none) y4 y5)) rfl rfl ?_).trans (by cases cheapF (wid bs) (looksB (marksOf so bs)) none <;> kernel_rfl)
  refine exB_nx (γ1 := CG (hallD (soD so) bs) (.lst (bs.map lotD)) none .un .un) (by kernel_rfl) ?_
  refine exB_nx (exS_for (ds := (looksB (marksOf so bs)).map lkD) (γ1 := CG (hallD (soD so) bs) (.lst (bs.map lotD)) none .un .un) (evi_of (x := .new (.l ((looksB (marksOf so bs)).map lkD))) (ev_call (γ1 := CG (hallD (soD so) bs) (.lst (bs.map lotD)) none .un .un) (vs := [.dat (.lst ((marksOf so bs).map mkM)), .dat (.int 2)]) (evs_cons rfl (x := .new (.l ((marksOf so bs).map mkM))) (γ1 := CG (hallD (soD so) bs) (.lst (bs.map lotD)) none .un .un) (ev_call (γ1 := CG (hallD (soD so) bs) (.lst (bs.map lotD)) none .un .un) (vs := [.dat (hallD (soD so) bs), .dat (.lst (bs.map lotD))]) (by kernel_rfl) (by kernel_rfl) (by kernel_rfl) mk rfl) (by kernel_rfl)) (by kernel_rfl) (by kernel_rfl) lk rfl) (by kernel_rfl)) lp) (exB_rt (exS_ret (by cases cheapF (wid bs) (looksB (marksOf so bs)) none <;> kernel_rfl)))
end V86


/-! k86: the law. -/
namespace V86
open PySem PySem.Spec PyProof.Rows L2 VY RI
theorem b_reg {b : Bit} (h : BOk b) : BReg b ∧ BTwo b ∧ B012 b := by
  cases b with
  | dr r =>
    refine ⟨?_, trivial, h⟩
    rcases h with h | h | h
    · exact .inl h
    · exact .inr (.inl h)
    · exact .inr (.inr (.inl h))
  | st r ks =>
    obtain ⟨h1, h2⟩ := h
    have hk : ∀ k ∈ ks, R012 k := by
      simp [six] at h2
      rcases h2 with rfl | rfl | rfl | rfl | rfl | rfl <;> intro k hk <;> simp at hk
      · exact .inl hk
      · exact .inr (.inl hk)
      · exact .inr (.inr hk)
      · rcases hk with rfl | rfl
        · exact .inl rfl
        · exact .inr (.inl rfl)
      · rcases hk with rfl | rfl
        · exact .inl rfl
        · exact .inr (.inr rfl)
      · rcases hk with rfl | rfl
        · exact .inr (.inl rfl)
        · exact .inr (.inr rfl)
    have r4 : ∀ {k : Int}, R012 k → Reg k := fun h => by
      rcases h with h | h | h
      · exact .inl h
      · exact .inr (.inl h)
      · exact .inr (.inr (.inl h))
    refine ⟨⟨r4 h1, fun k h => r4 (hk k h)⟩, ?_, h1, hk⟩
    show ks.length ≤ 2
    simp [six] at h2
    rcases h2 with rfl | rfl | rfl | rfl | rfl | rfl <;> simp
theorem way_reg : ∀ b ∈ way, BReg b ∧ BTwo b := fun b hb => by
  simp [way] at hb
  rcases hb with rfl | rfl | rfl | rfl
  · exact ⟨.inr (.inr (.inr rfl)), trivial⟩
  · exact ⟨⟨.inl rfl, fun k hk => by simp at hk; rcases hk with rfl | rfl; exact .inl rfl; exact .inr (.inr (.inr rfl))⟩, show 2 ≤ 2 by decide⟩
  · exact ⟨⟨.inr (.inl rfl), fun k hk => by simp at hk; rcases hk with rfl | rfl; exact .inr (.inl rfl); exact .inr (.inr (.inr rfl))⟩, show 2 ≤ 2 by decide⟩
  · exact ⟨⟨.inr (.inr (.inr rfl)), nofun⟩, show 0 ≤ 2 by decide⟩
theorem put_reg {bs : List Bit} {k : Nat} (h : ∀ b ∈ bs, BReg b ∧ BTwo b) : ∀ b ∈ putB bs k way, BReg b ∧ BTwo b := fun b hb => by
  unfold putB at hb
  rcases List.mem_append.mp hb with hb | hb
  · rcases List.mem_append.mp hb with hb | hb
    · exact h b (List.mem_of_mem_take hb)
    · exact way_reg b hb
  · exact h b (List.mem_of_mem_drop hb)
theorem put_dr (bs : List Bit) (k : Nat) : (putB bs k way).countP isDr = bs.countP isDr + 1 := by
  unfold putB
  rw [List.countP_append, List.countP_append, show way.countP isDr = 1 from rfl]
  have : (bs.take k ++ bs.drop k).countP isDr = bs.countP isDr := by rw [List.take_append_drop]
  rw [List.countP_append] at this
  omega
theorem due_facts {bs : List Bit} {L : Nat} {ts : List Nat} (ht : TsOk L ts) (h : ∀ b ∈ bs, BReg b ∧ BTwo b) (hd : bs.countP isDr ≤ 1) : (∀ b ∈ dueB bs ts, BReg b ∧ BTwo b) ∧ (dueB bs ts).countP isDr ≤ 3 := by
  rcases ht with ⟨k, rfl, _⟩ | ⟨j, k, rfl, _, _⟩
  · refine ⟨put_reg h, ?_⟩
    show (putB bs k way).countP isDr ≤ 3
    rw [put_dr]; omega
  · refine ⟨put_reg (put_reg h), ?_⟩
    show (putB (putB bs k way) j way).countP isDr ≤ 3
    rw [put_dr, put_dr]; omega
/-! ### the renewals' lines -/
def ownI (ts : List Nat) : List Int := match ts with
  | [k] => [(k : Nat) + 0 * 4 + 0, (k : Nat) + 0 * 4 + 1, (k : Nat) + 0 * 4 + 2, (k : Nat) + 0 * 4 + 3]
  | [j, k] => [(j : Nat) + 0 * 4 + 0, (j : Nat) + 0 * 4 + 1, (j : Nat) + 0 * 4 + 2, (j : Nat) + 0 * 4 + 3, (k : Nat) + 1 * 4 + 0, (k : Nat) + 1 * 4 + 1, (k : Nat) + 1 * 4 + 2, (k : Nat) + 1 * 4 + 3]
  | _ => []
theorem scVs_int : ∀ is : List Int, scVs (is.map .int) = some (is.map V.int)
  | [] => rfl
  | i :: is => by
    show (scV (.int i)).bind (fun v => (scVs (is.map .int)).map (v :: ·)) = _
    rw [scVs_int is]
    rfl
end V86

/-! k86: told by hand. -/
namespace V86
open PySem PySem.Spec PyProof.Rows L2 VY RI
theorem hand_ok : callI tb.fn 19 41 [] = some (.dat (.bl true), []) := by kernel_rfl
end V86

/-! k86: the law, row by row. -/
namespace V86
open PySem PySem.Spec PyProof.Rows L2 VY RI
def LA (sc : D) (x1 x2 x3 x4 x5 x6 x7 x8 x9 x10 x11 x12 x13 : Dsc) : List Dsc := [.dat sc, x1, x2, x3, x4, x5, x6, x7, x8, x9, x10, x11, x12, x13, .un, .un]
def wayD : D := .tup (way.map bitD)
def trD (ts : List Nat) : D := .tup (ts.map gapD)
section
variable {sc : D} {x1 x2 : Dsc} {s : D} {bs : List Bit} {ts : List Nat}
/-- the renewals put in -/
theorem put_loop (hL : bs.length ≤ 3) (ht : TsOk bs.length ts) : ∃ x7, cs x7 = true ∧ forI (fun d γ => (tgI (callI tb.fn 19) (.nm 7) (.dat d) γ).bind fun γ' => exB (callI tb.fn 19) [.set (.nm 5) (.call 36 [(.slot 5), (.slot 7), (.slot 4), (.cst (.int 0))])] γ') (ts.reverse.map gapD) (LA sc x1 x2 (.dat (trD ts)) (.dat wayD) (.dat (hallD s bs)) (.own (.l [])) .un .un .un .un .un .un .un) =
    some (.nx (LA sc x1 x2 (.dat (trD ts)) (.dat wayD) (.dat (hallD s (dueB bs ts))) (.own (.l [])) x7 .un .un .un .un .un .un)) := by
  have turn : ∀ (b2 : List Bit) (k : Nat) (x : Dsc), k ≤ b2.length → b2.length ≤ 100 → cs x = true → ((tgI (callI tb.fn 19) (.nm 7) (.dat (gapD k)) (LA sc x1 x2 (.dat (trD ts)) (.dat wayD) (.dat (hallD s b2)) (.own (.l [])) x .un .un .un .un .un .un)).bind fun γ' => exB (callI tb.fn 19) [.set (.nm 5) (.call 36 [(.slot 5), (.slot 7), (.slot 4), (.cst (.int 0))])] γ') = some (.nx (LA sc x1 x2 (.dat (trD ts)) (.dat wayD) (.dat (hallD s (putB b2 k way))) (.own (.l [])) (.dat (gapD k)) .un .un .un .un .un .un)) := fun b2 k x hk hl hx => by
    refine turn_ok (γ1 := LA sc x1 x2 (.dat (trD ts)) (.dat wayD) (.dat (hallD s b2)) (.own (.l [])) (.dat (gapD k)) .un .un .un .un .un .un) (tg_nm (cs_at (x := x) (by kernel_rfl) hx) (by kernel_rfl)) ?_
    exact exB_nx (γ1 := LA sc x1 x2 (.dat (trD ts)) (.dat wayD) (.dat (hallD s (putB b2 k way))) (.own (.l [])) (.dat (gapD k)) .un .un .un .un .un .un) (exS_set (t := .nm 5) (x := .dat (hallD s (putB b2 k way))) (ev_call (γ1 := LA sc x1 x2 (.dat (trD ts)) (.dat wayD) (.dat (hallD s b2)) (.own (.l [])) (.dat (gapD k)) .un .un .un .un .un .un) (vs := [.dat (hallD s b2), .dat (gapD k), .dat wayD, .dat (.int 0)]) (by kernel_rfl) (by kernel_rfl) (by kernel_rfl) (with_ok (n := 17) s hk (by show b2.length + 4 ≤ 1000; omega)) rfl) (by kernel_rfl)) (by kernel_rfl)
  rcases ht with ⟨k, rfl, hk⟩ | ⟨j, k, rfl, hjk, hk⟩
  · exact ⟨.dat (gapD k), rfl, (forI_nx (ds := []) (turn bs k .un hk (by omega) rfl)).trans rfl⟩
  · exact ⟨.dat (gapD j), rfl, (forI_nx (ds := [gapD j]) (turn bs k .un hk (by omega) rfl)).trans ((forI_nx (ds := []) (turn (putB bs k way) j (.dat (gapD k)) (by rw [putB_len]; omega) (by rw [putB_len]; omega) rfl)).trans rfl)⟩
/-- their lines -/
theorem own_loop {x5 : Dsc} (ht : TsOk bs.length ts) {x7 : Dsc} (c7 : cs x7 = true) : ∃ y7 y8, forI (fun d γ => (tgI (callI tb.fn 19) (.tup [(.nm 8), (.nm 7)]) (.dat d) γ).bind fun γ' => exB (callI tb.fn 19) [.set (.nm 6) (.bin .add (.slot 6) (.lc [("k", 14)] (.one 14) (.range1 (.b1 .len (.slot 4))) .no (.bin .add (.bin .add (.idx (.slot 7) (.cst (.int 1))) (.bin .mul (.slot 8) (.b1 .len (.slot 4)))) (.slot 14))))] γ') (enumD (ts.map gapD)) (LA sc x1 x2 (.dat (trD ts)) (.dat wayD) x5 (.own (.l [])) x7 .un .un .un .un .un .un) =
    some (.nx (LA sc x1 x2 (.dat (trD ts)) (.dat wayD) x5 (.own (.l ((ownI ts).map .int))) y7 y8 .un .un .un .un .un)) := by
  have tg : ∀ (x6 x8 : Dsc) (x7 : Dsc) (i k : Nat), cs x7 = true → cs x8 = true → tgI (callI tb.fn 19) (.tup [(.nm 8), (.nm 7)]) (.dat (.tup [.int (i : Nat), gapD k])) (LA sc x1 x2 (.dat (trD ts)) (.dat wayD) x5 x6 x7 x8 .un .un .un .un .un) = some (LA sc x1 x2 (.dat (trD ts)) (.dat wayD) x5 x6 (.dat (gapD k)) (.dat (.int (i : Nat))) .un .un .un .un .un) := fun x6 x8 x7 i k c7 c8 =>
    tg2 (γ1 := LA sc x1 x2 (.dat (trD ts)) (.dat wayD) x5 x6 x7 (.dat (.int (i : Nat))) .un .un .un .un .un) (cs_at (x := x8) (by kernel_rfl) c8) (by kernel_rfl) (cs_at (x := x7) (by kernel_rfl) c7) (by kernel_rfl)
  rcases ht with ⟨k, rfl, hk⟩ | ⟨j, k, rfl, hjk, hk⟩
  · exact ⟨_, _, (forI_nx (ds := []) (turn_ok (tg _ .un x7 0 k c7 rfl) (fl := .nx (LA sc x1 x2 (.dat (trD [k])) (.dat wayD) x5 (.own (.l ((ownI [k]).map .int))) (.dat (gapD k)) (.dat (.int (0 : Nat))) .un .un .un .un .un)) (by kernel_rfl))).trans rfl⟩
  · exact ⟨_, _, (forI_nx (ds := [.tup [.int (1 : Nat), gapD k]]) (turn_ok (tg _ .un x7 0 j c7 rfl) (fl := .nx (LA sc x1 x2 (.dat (trD [j, k])) (.dat wayD) x5 (.own (.l ((ownI [j]).map .int))) (.dat (gapD j)) (.dat (.int (0 : Nat))) .un .un .un .un .un)) (by kernel_rfl))).trans ((forI_nx (ds := []) (turn_ok (tg _ (.dat (.int (0 : Nat))) (.dat (gapD j)) 1 k rfl rfl) (fl := .nx (LA sc x1 x2 (.dat (trD [j, k])) (.dat wayD) x5 (.own (.l ((ownI [j, k]).map .int))) (.dat (gapD k)) (.dat (.int (1 : Nat))) .un .un .un .un .un)) (by kernel_rfl))).trans rfl)⟩
end
def notOwn (ts : List Nat) (d : D) : Bool := !decide (lineOf d ∈ ownI ts)
theorem line_of (m : Mk) : lineOf (mkM m) = (m.line : Nat) := by
  match m with
  | ⟨l, .put, v, c⟩ => rfl
  | ⟨l, .turn, v, c⟩ => rfl
  | ⟨l, .read fs, v, c⟩ => rfl
theorem not_own {L : Nat} {ts : List Nat} (ht : TsOk L ts) (m : Mk) : notOwn ts (mkM m) = !ownB ts m.line := by
  unfold notOwn
  rw [line_of]
  congr 1
  rcases ht with ⟨k, rfl, _⟩ | ⟨j, k, rfl, _, _⟩
  · show decide (_ ∈ _) = (decide (k ≤ m.line) && decide (m.line < k + 4))
    rw [← Bool.decide_and]
    refine decide_eq_decide.mpr ?_
    simp only [ownI, List.mem_cons, List.not_mem_nil, or_false]
    omega
  · show decide (_ ∈ _) = ((decide (j ≤ m.line) && decide (m.line < j + 4)) || (decide (k + 4 ≤ m.line) && decide (m.line < k + 8)))
    rw [← Bool.decide_and, ← Bool.decide_and, ← Bool.decide_or]
    refine decide_eq_decide.mpr ?_
    simp only [ownI, List.mem_cons, List.not_mem_nil, or_false]
    omega
theorem filt_map {L : Nat} {ts : List Nat} (ht : TsOk L ts) : ∀ l : List Mk, (l.map mkM).filter (notOwn ts) = (l.filter fun m => !ownB ts m.line).map mkM
  | [] => rfl
  | m :: l => by
    rw [List.map_cons]
    cases h : (!ownB ts m.line) with
    | true => rw [List.filter_cons_of_pos (by rw [not_own ht]; exact h), List.filter_cons_of_pos (p := fun m : Mk => !ownB ts m.line) h, List.map_cons, filt_map ht l]
    | false => rw [List.filter_cons_of_neg (by rw [not_own ht, h]; exact Bool.false_ne_true), List.filter_cons_of_neg (p := fun m : Mk => !ownB ts m.line) (by rw [h]; exact Bool.false_ne_true), filt_map ht l]
theorem notin_int {γ : List Dsc} {i : Nat} {l : Int} {ns : List Int} (h : γ[i]? = some (.own (.l (ns.map .int)))) : cmpI γ .notin (.dat (.int l)) (.loc i) = some (!decide (l ∈ ns)) := by
  have e1 : locT γ i = some (.l (ns.map .int)) := by unfold locT; rw [h]
  have e2 : dctI γ (.loc i) = none := by
    show (match locT γ i with | some (.cl (.dct kvs)) => some kvs | _ => none) = none
    rw [e1]
  have e3 : inF γ (.dat (.int l)) (.loc i) = some (decide (l ∈ ns)) := by
    show (some (V.int l)).bind (fun u => (sqI γ (.loc i)).bind fun ds => (scVs ds).bind fun us => some (inV u us)) = _
    have : sqI γ (.loc i) = some (ns.map .int) := by
      show (match locT γ i with | some (.cl (.lst ds)) => some ds | _ => none) = _
      rw [e1]
    rw [Option.bind_some, this, Option.bind_some, scVs_int, Option.bind_some, inV_ints]
  show (inI γ _ _).map _ = _
  have e4 : inI γ (.dat (.int l)) (.loc i) = some (decide (l ∈ ns)) := by
    unfold inI
    rw [e2]
    show (match inF γ (.dat (.int l)) (.loc i) with | some b => some b | none => inP γ (.dat (.int l)) (.loc i)) = _
    rw [e3]
  rw [e4]
  rfl
section
variable {sc : D} {x1 x2 x3 x4 x7 x8 : Dsc} {s : D} {bs : List Bit} {ts : List Nat}
theorem goods_ev (L9 : D) (so : So) (due : List Bit) (hc : ev (callI tb.fn 19) (.call 28 [(.slot 5), (.slot 9)]) (LA sc x1 x2 x3 x4 (.dat (hallD s due)) (.own (.l ((ownI ts).map .int))) x7 x8 (.dat L9) .un .un .un .un) = some (.new (.l ((marksOf so due).map mkM)), LA sc x1 x2 x3 x4 (.dat (hallD s due)) (.own (.l ((ownI ts).map .int))) x7 x8 (.dat L9) .un .un .un .un)) (hl : (marksOf so due).length < 1000) :
    ev (callI tb.fn 19) (.lc [("its", 15)] (.one 15) (.of (.call 28 [(.slot 5), (.slot 9)])) (.cmp .notin (.idx (.idx (.slot 15) (.cst (.int 0))) (.cst (.int 0))) (.slot 6)) (.slot 15)) (LA sc x1 x2 x3 x4 (.dat (hallD s due)) (.own (.l ((ownI ts).map .int))) x7 x8 (.dat L9) .un .un .un .un) = some (.new (.l (((marksOf so due).map mkM).filter (notOwn ts))), LA sc x1 x2 x3 x4 (.dat (hallD s due)) (.own (.l ((ownI ts).map .int))) x7 x8 (.dat L9) .un .un .un .un) := by
  have h := lcI_filter (vs := [15]) (js := [15]) (pt := (Shp.one 15).parts) (fc := fun γ => evcW false (ev (callI tb.fn 19) (.cmp .notin (.idx (.idx (.slot 15) (.cst (.int 0))) (.cst (.int 0))) (.slot 6)) γ) γ) (fe := ev (callI tb.fn 19) (.slot 15)) (γ := LA sc x1 x2 x3 x4 (.dat (hallD s due)) (.own (.l ((ownI ts).map .int))) x7 x8 (.dat L9) .un .un .un .un) (g := id) (p := notOwn ts) (by kernel_rfl) (ds := (marksOf so due).map mkM) (acc := []) fun d hd => by
    obtain ⟨m, _, rfl⟩ := List.mem_map.mp hd
    refine ⟨[mkM m], [.dat sc, x1, x2, x3, x4, .dat (hallD s due), .own (.l ((ownI ts).map .int)), x7, x8, .dat L9, .un, .un, .un, .un, .un, .dat (mkM m)], by kernel_rfl, ?_, by kernel_rfl, fun _ => ⟨(.dat (mkM m), [.dat sc, x1, x2, x3, x4, .dat (hallD s due), .own (.l ((ownI ts).map .int)), x7, x8, .dat L9, .un, .un, .un, .un, .un, .dat (mkM m)]), by kernel_rfl, by kernel_rfl, by kernel_rfl⟩⟩
    have e := ev_cmp (cal := callI tb.fn 19) (op := .notin) (a := .idx (.idx (.slot 15) (.cst (.int 0))) (.cst (.int 0))) (b := .slot 6) (x := .dat (.int (m.line : Nat))) (y := .loc 6) (γ := [.dat sc, x1, x2, x3, x4, .dat (hallD s due), .own (.l ((ownI ts).map .int)), x7, x8, .dat L9, .un, .un, .un, .un, .un, .dat (mkM m)]) (γ1 := [.dat sc, x1, x2, x3, x4, .dat (hallD s due), .own (.l ((ownI ts).map .int)), x7, x8, .dat L9, .un, .un, .un, .un, .un, .dat (mkM m)]) (γ2 := [.dat sc, x1, x2, x3, x4, .dat (hallD s due), .own (.l ((ownI ts).map .int)), x7, x8, .dat L9, .un, .un, .un, .un, .un, .dat (mkM m)])
      (by match m with
          | ⟨l, .put, v, c⟩ => kernel_rfl
          | ⟨l, .turn, v, c⟩ => kernel_rfl
          | ⟨l, .read fs, v, c⟩ => kernel_rfl) (by kernel_rfl) (notin_int (ns := ownI ts) rfl)
    show evcW false (ev (callI tb.fn 19) _ [.dat sc, x1, x2, x3, x4, .dat (hallD s due), .own (.l ((ownI ts).map .int)), x7, x8, .dat L9, .un, .un, .un, .un, .un, .dat (mkM m)]) _ = _
    rw [e, ← line_of]
    rfl
  rw [List.nil_append, List.map_id] at h
  exact ev_lc (ds := (marksOf so due).map mkM) (γ1 := LA sc x1 x2 x3 x4 (.dat (hallD s due)) (.own (.l ((ownI ts).map .int))) x7 x8 (.dat L9) .un .un .un .un) (evi_of hc (by kernel_rfl)) (by rw [List.length_map]; omega) h
def laB : List RI.St := [.ite (.and (.call 30 [(.slot 5), (.lc [("its", 15)] (.one 15) (.of (.slot 12)) .no (.idx (.slot 15) (.cst (.int 1))))]) (.or (.cmp .isN (.slot 11) (.cst .non)) (.cmp .gt (.slot 11) (.slot 13)))) [.ret (.cst (.bl false))] []]
theorem la_turn {x6 x9 x10 : Dsc} (due : List Bit) {w : Nat} (h2 : 2 ≤ w) (h5 : w ≤ 5) (near : Option Nat) {p : Lk} (hp : p.1.length ≤ 2) (hw : ∀ m ∈ p.1, m.vec.length = w) (hn : tellsB w (vecs p) = true → ∃ n, near = some n ∧ n ≤ p.2) {x12 x13 : Dsc} (c12 : cs x12 = true) (c13 : cs x13 = true) :
    (tgI (callI tb.fn 19) (.tup [.nm 12, .nm 13]) (.dat (lkD p)) (LA sc x1 x2 x3 x4 (.dat (hallD s due)) x6 x7 x8 x9 x10 (.dat (optD near)) x12 x13)).bind (fun γ' => exB (callI tb.fn 19) laB γ') = some (.nx (LA sc x1 x2 x3 x4 (.dat (hallD s due)) x6 x7 x8 x9 x10 (.dat (optD near)) (.dat (.lst (p.1.map mkM))) (.dat (.int (p.2 : Nat))))) := by
  have t := tg2 (cal := callI tb.fn 19) (γ := LA sc x1 x2 x3 x4 (.dat (hallD s due)) x6 x7 x8 x9 x10 (.dat (optD near)) x12 x13) (i := 12) (j := 13) (a := .lst (p.1.map mkM)) (b := .int (p.2 : Nat)) (γ1 := LA sc x1 x2 x3 x4 (.dat (hallD s due)) x6 x7 x8 x9 x10 (.dat (optD near)) (.dat (.lst (p.1.map mkM))) x13) (γ2 := LA sc x1 x2 x3 x4 (.dat (hallD s due)) x6 x7 x8 x9 x10 (.dat (optD near)) (.dat (.lst (p.1.map mkM))) (.dat (.int (p.2 : Nat)))) (cs_at (x := x12) (by kernel_rfl) c12) (by kernel_rfl) (cs_at (x := x13) (by kernel_rfl) c13) (by kernel_rfl)
  refine turn_ok t ?_
  have hv : ∀ v ∈ vecs p, v.length = w := fun v hv => by
    obtain ⟨m, hm, rfl⟩ := List.mem_map.mp hv
    exact hw m hm
  obtain ⟨γ, hγ⟩ : ∃ γ, γ = LA sc x1 x2 x3 x4 (.dat (hallD s due)) x6 x7 x8 x9 x10 (.dat (optD near)) (.dat (.lst (p.1.map mkM))) (.dat (.int (p.2 : Nat))) := ⟨_, rfl⟩
  have lc : ev (callI tb.fn 19) (.lc [("its", 15)] (.one 15) (.of (.slot 12)) .no (.idx (.slot 15) (.cst (.int 1)))) γ = some (.new (.l ((vecs p).map vecD)), γ) := by
    subst hγ
    have h := lcI_map (vs := [15]) (js := [15]) (pt := (Shp.one 15).parts) (fc := fun γ => some (true, γ)) (fe := ev (callI tb.fn 19) (.idx (.slot 15) (.cst (.int 1)))) (γ := LA sc x1 x2 x3 x4 (.dat (hallD s due)) x6 x7 x8 x9 x10 (.dat (optD near)) (.dat (.lst (p.1.map mkM))) (.dat (.int (p.2 : Nat)))) (g := midG) (by kernel_rfl) (ds := p.1.map mkM) (acc := []) fun d hd => by
      obtain ⟨m, _, rfl⟩ := List.mem_map.mp hd
      exact ⟨[mkM m], [.dat sc, x1, x2, x3, x4, .dat (hallD s due), x6, x7, x8, x9, x10, .dat (optD near), .dat (.lst (p.1.map mkM)), .dat (.int (p.2 : Nat)), .un, .dat (mkM m)], (.dat (vecD m.vec), [.dat sc, x1, x2, x3, x4, .dat (hallD s due), x6, x7, x8, x9, x10, .dat (optD near), .dat (.lst (p.1.map mkM)), .dat (.int (p.2 : Nat)), .un, .dat (mkM m)]), by kernel_rfl, by kernel_rfl, by kernel_rfl, by kernel_rfl, by kernel_rfl⟩
    rw [List.nil_append, List.map_map] at h
    unfold vecs
    rw [List.map_map]
    exact ev_lc (ds := p.1.map mkM) (γ1 := LA sc x1 x2 x3 x4 (.dat (hallD s due)) x6 x7 x8 x9 x10 (.dat (optD near)) (.dat (.lst (p.1.map mkM))) (.dat (.int (p.2 : Nat)))) (by kernel_rfl) (by rw [List.length_map]; omega) h
  have s5 : ev (callI tb.fn 19) (.slot 5) γ = some (.dat (hallD s due), γ) := by subst hγ; kernel_rfl
  have tl : ev (callI tb.fn 19) (.call 30 [(.slot 5), (.lc [("its", 15)] (.one 15) (.of (.slot 12)) .no (.idx (.slot 15) (.cst (.int 1))))]) γ = some (.dat (.bl (tellsB w (vecs p))), γ) :=
    ev_call (γ1 := γ) (vs := [.dat (hallD s due), .dat (.lst ((vecs p).map vecD))]) (evs_cons rfl (x := .dat (hallD s due)) (γ1 := γ) s5 (evs_cons rfl (x := .new (.l ((vecs p).map vecD))) lc (by kernel_rfl))) (by kernel_rfl) (by kernel_rfl) (tells_ok (n := 16) s due h2 h5 (by unfold vecs; rw [List.length_map]; exact hp) hv) rfl
  have cond : ev (callI tb.fn 19) (.and (.call 30 [(.slot 5), (.lc [("its", 15)] (.one 15) (.of (.slot 12)) .no (.idx (.slot 15) (.cst (.int 1))))]) (.or (.cmp .isN (.slot 11) (.cst .non)) (.cmp .gt (.slot 11) (.slot 13)))) γ = some (.dat (.bl false), γ) := by
    refine ev_and tl (fun h => ?_) (fun _ => ⟨rfl, rfl⟩)
    obtain ⟨n, rfl, hn⟩ := hn h
    subst hγ
    refine ev_or (k := false) (γ1 := LA sc x1 x2 x3 x4 (.dat (hallD s due)) x6 x7 x8 x9 x10 (.dat (.int (n : Nat))) (.dat (.lst (p.1.map mkM))) (.dat (.int (p.2 : Nat)))) (by kernel_rfl) (fun _ => ?_) nofun
    have g := ev_gt (cal := callI tb.fn 19) (a := .slot 11) (b := .slot 13) (i := (n : Nat)) (j := (p.2 : Nat)) (γ := LA sc x1 x2 x3 x4 (.dat (hallD s due)) x6 x7 x8 x9 x10 (.dat (.int (n : Nat))) (.dat (.lst (p.1.map mkM))) (.dat (.int (p.2 : Nat)))) (γ1 := LA sc x1 x2 x3 x4 (.dat (hallD s due)) x6 x7 x8 x9 x10 (.dat (.int (n : Nat))) (.dat (.lst (p.1.map mkM))) (.dat (.int (p.2 : Nat)))) (γ2 := LA sc x1 x2 x3 x4 (.dat (hallD s due)) x6 x7 x8 x9 x10 (.dat (.int (n : Nat))) (.dat (.lst (p.1.map mkM))) (.dat (.int (p.2 : Nat)))) (by kernel_rfl) (by kernel_rfl)
    rw [decide_eq_false (show ¬ ((p.2 : Nat) : Int) < (n : Nat) by omega)] at g
    exact g
  rw [← hγ]
  exact exB_nx (γ1 := γ) (exS_ite (k := false) cond nofun (fun _ => by kernel_rfl)) (by kernel_rfl)
theorem la_loop {x6 x9 x10 : Dsc} (due : List Bit) {w : Nat} (h2 : 2 ≤ w) (h5 : w ≤ 5) (near : Option Nat) : ∀ (ps : List Lk) (x12 x13 : Dsc), (∀ p ∈ ps, (p.1.length ≤ 2 ∧ ∀ m ∈ p.1, m.vec.length = w) ∧ (tellsB w (vecs p) = true → ∃ n, near = some n ∧ n ≤ p.2)) → cs x12 = true → cs x13 = true →
    ∃ y12 y13, forI (fun d γ => (tgI (callI tb.fn 19) (.tup [.nm 12, .nm 13]) (.dat d) γ).bind fun γ' => exB (callI tb.fn 19) laB γ') (ps.map lkD) (LA sc x1 x2 x3 x4 (.dat (hallD s due)) x6 x7 x8 x9 x10 (.dat (optD near)) x12 x13) = some (.nx (LA sc x1 x2 x3 x4 (.dat (hallD s due)) x6 x7 x8 x9 x10 (.dat (optD near)) y12 y13))
  | [], x12, x13, _, _, _ => ⟨x12, x13, rfl⟩
  | p :: ps, x12, x13, hp, c12, c13 => by
    have h0 := hp p List.mem_cons_self
    have t := la_turn (sc := sc) (x1 := x1) (x2 := x2) (x3 := x3) (x4 := x4) (x7 := x7) (x8 := x8) (s := s) (x6 := x6) (x9 := x9) (x10 := x10) due h2 h5 near h0.1.1 h0.1.2 h0.2 c12 c13
    obtain ⟨y12, y13, lp⟩ := la_loop (x6 := x6) (x9 := x9) (x10 := x10) due h2 h5 near ps (.dat (.lst (p.1.map mkM))) (.dat (.int (p.2 : Nat))) (fun q hq => hp q (List.mem_cons_of_mem _ hq)) rfl rfl
    exact ⟨y12, y13, (forI_nx t).trans lp⟩
end
end V86

/-! k86: the law, whole. -/
namespace V86
open PySem PySem.Spec PyProof.Rows L2 VY RI
theorem plain (ns : List Int) (h : ns.length ≤ 63) : callI tb.fn 20 43 [.dat (.scr (ns.map .int))] = some (.dat (.bl true), []) := by
  obtain ⟨x, hc⟩ := cells_ok (n := 18) ns h
  obtain ⟨a, b, hb⟩ := box_ok (n := 18) x
  obtain ⟨k1, a1, c1, t1, k10, k11, c10, c11⟩ := take_ok (n := 18) a b 0 (m := 2) (by decide) (by decide) (by decide) (by decide)
  obtain ⟨s, bs, a2, c2, hwd, hs, hbs, c20, c21⟩ := wide_ok (n := 15) a1 b c1 (m := 1 + k1) (by omega) c10 (by omega)
  have hL := hbs.hi
  have hL1 := hbs.lo
  have sok := sorts_dep hs
  obtain ⟨so, rfl⟩ := sorts_so hs
  have gp := gaps_ok (n := 17) (soD so) hbs
  obtain ⟨k3, a3, c3, t3, k30, k31, c30, c31⟩ := take_ok (n := 18) a2 b c2 (m := 2) (by decide) (by decide) c20 (by omega)
  obtain ⟨ps, rest, a4, c4, pk, hperm, hpl, c40, c41⟩ := pick_ok (n := 17) a3 b c3 (gapsD bs.length) (.inr rfl) (1 + k3) (by omega) (by rw [gaps_len]; omega) c30 (by omega)
  rw [gaps_len] at hpl
  obtain ⟨ts, hts, hsort⟩ := trail_ok hperm (by omega)
  have hreg : ∀ q ∈ bs, BReg q ∧ BTwo q := fun q hq => ⟨(b_reg (hbs.ok q hq)).1, (b_reg (hbs.ok q hq)).2.1⟩
  have h012 : ∀ q ∈ bs, B012 q := fun q hq => (b_reg (hbs.ok q hq)).2.2
  obtain ⟨dreg, ddr⟩ := due_facts hts hreg hbs.dr
  have dl := due_len (bs := bs) hts
  obtain ⟨sc, hsc⟩ : ∃ sc, sc = D.scr (ns.map .int) := ⟨_, rfl⟩
  rw [← hsc] at hc ⊢
  obtain ⟨due, hdue⟩ : ∃ due, due = dueB bs ts := ⟨_, rfl⟩
  obtain ⟨x7, d7, lp1⟩ := put_loop (sc := sc) (x1 := .own (tinT a4 b c4)) (x2 := .dat (hallD (soD so) bs)) (s := soD so) hL hts
  obtain ⟨y7, y8, lp2⟩ := own_loop (sc := sc) (x1 := .own (tinT a4 b c4)) (x2 := .dat (hallD (soD so) bs)) (x5 := .dat (hallD (soD so) (dueB bs ts))) hts d7
  have rn := renewed_ok sok hbs hts
  have isd := is_due sok hbs hts
  have go1 := go_ok (n := 17) (soD so) (bs := dueB bs ts) (by omega)
  have go2 := go_ok (n := 17) (soD so) (bs := bs) (by omega)
  have mk := marks_ok (n := 15) so (bs := dueB bs ts) (by omega) dreg (by omega)
  have ch := cheap_ok (n := 14) so (bs := bs) hL hreg (by have := hbs.dr; omega)
  have mw := marks_w (so := so) dreg
  have ml := marks_len so (dueB bs ts)
  have ml0 := marks_len so bs
  have gw : ∀ m ∈ goodsOf so bs ts, m.vec.length = wid (dueB bs ts) ∧ 1 ≤ m.price := fun m hm => mw m (List.mem_filter.mp hm).1
  have gl : (goodsOf so bs ts).length ≤ 18 := by
    obtain ⟨ms, _, _, _, e⟩ := goods_map so hL1 hL hts h012
    have := congrArg List.length e
    rw [List.length_map] at this
    omega
  have lk := lk_ok (n := 18) (goods := goodsOf so bs ts) gl (fun m hm => (gw m hm).2)
  have fm : ((marksOf so (dueB bs ts)).map mkM).filter (notOwn ts) = (goodsOf so bs ts).map mkM := filt_map hts _
  rw [← hdue] at lp1 lp2 rn isd go1 mk mw ml dreg ddr dl gw fm
  obtain ⟨near, hnear⟩ : ∃ near, near = cheapF (wid bs) (looksB (marksOf so bs)) none := ⟨_, rfl⟩
  rw [← hnear] at ch
  have lawB : ∀ p ∈ looksB (goodsOf so bs ts), (p.1.length ≤ 2 ∧ ∀ m ∈ p.1, m.vec.length = wid due) ∧ (tellsB (wid due) (vecs p) = true → ∃ n, near = some n ∧ n ≤ p.2) := fun p hp => ⟨lk_two (so := so) gw p hp, fun t => by
    rw [hnear]
    rw [hdue] at t
    exact law_B so hL1 hL hts h012 p hp t⟩
  obtain ⟨y12, y13, lp3⟩ := la_loop (sc := sc) (x1 := .own (tinT a4 b c4)) (x2 := .dat (hallD (soD so) bs)) (x3 := .dat (trD ts)) (x4 := .dat wayD) (x7 := y7) (x8 := y8) (s := soD so) (x6 := .own (.l ((ownI ts).map .int))) (x9 := .dat (.lst (due.map lotD))) (x10 := .dat (.lst ((goodsOf so bs ts).map mkM))) due (w := wid due) (by unfold wid; omega) (by unfold wid; omega) near (looksB (goodsOf so bs ts)) .un .un lawB rfl rfl
  have ge := goods_ev (sc := sc) (x1 := .own (tinT a4 b c4)) (x2 := .dat (hallD (soD so) bs)) (x3 := .dat (trD ts)) (x4 := .dat wayD) (x7 := y7) (x8 := y8) (s := soD so) (ts := ts) (.lst (due.map lotD)) so due (ev_call (γ1 := LA sc (.own (tinT a4 b c4)) (.dat (hallD (soD so) bs)) (.dat (trD ts)) (.dat wayD) (.dat (hallD (soD so) due)) (.own (.l ((ownI ts).map .int))) y7 y8 (.dat (.lst (due.map lotD))) .un .un .un .un) (vs := [.dat (hallD (soD so) due), .dat (.lst (due.map lotD))]) (by kernel_rfl) (by kernel_rfl) (by kernel_rfl) mk rfl) (by omega)
  rw [fm] at ge
  refine (callI_eq (tb := tb.fn) (f := 43) (fd := fd_law) (fl := .rt (.dat (.bl true)) (LA sc (.own (tinT a4 b c4)) (.dat (hallD (soD so) bs)) (.dat (trD ts)) (.dat wayD) (.dat (hallD (soD so) due)) (.own (.l ((ownI ts).map .int))) y7 y8 (.dat (.lst (due.map lotD))) (.dat (.lst ((goodsOf so bs ts).map mkM))) (.dat (optD near)) y12 y13)) rfl rfl ?_).trans (by kernel_rfl)
  refine exB_nx (γ1 := LA sc .un .un .un .un .un .un .un .un .un .un .un .un .un) (exS_ite (k := false) (ev_not (k := true) (ev_call (γ1 := LA sc .un .un .un .un .un .un .un .un .un .un .un .un .un) (vs := []) (by kernel_rfl) (by kernel_rfl) (by kernel_rfl) hand_ok rfl)) nofun (fun _ => by kernel_rfl)) ?_
  refine exB_nx (γ1 := LA sc (.own (tinT a b 0)) .un .un .un .un .un .un .un .un .un .un .un .un) (exS_set (t := .nm 1) (ev_call (γ1 := LA sc .un .un .un .un .un .un .un .un .un .un .un .un .un) (vs := [.dat (.lst [.int x]), .dat (.int 0)]) (evs_cons rfl (x := .new (.l [.int x])) (γ1 := LA sc .un .un .un .un .un .un .un .un .un .un .un .un .un) (ev_call (γ1 := LA sc .un .un .un .un .un .un .un .un .un .un .un .un .un) (vs := [.dat sc, .dat (.int 1)]) (by kernel_rfl) (by kernel_rfl) (by kernel_rfl) hc rfl) (by kernel_rfl)) (by kernel_rfl) (by kernel_rfl) hb rfl) (by kernel_rfl)) ?_
  have e1 : ev (callI tb.fn 19) (.bin .add (.cst (.int 1)) (.call 13 [(.slot 1), (.cst (.int 2))])) (LA sc (.own (tinT a b 0)) .un .un .un .un .un .un .un .un .un .un .un .un) = some (.dat (.int (1 + k1)), LA sc (.own (tinT a1 b c1)) .un .un .un .un .un .un .un .un .un .un .un .un) :=
    ev_add (i := 1) (j := k1) (γ1 := LA sc (.own (tinT a b 0)) .un .un .un .un .un .un .un .un .un .un .un .un) (by kernel_rfl) (ev_call (γ1 := LA sc (.own (tinT a b 0)) .un .un .un .un .un .un .un .un .un .un .un .un) (vs := [.loc 1, .dat (.int 2)]) (by kernel_rfl) (by kernel_rfl) (by kernel_rfl) t1 rfl)
  refine exB_nx (γ1 := LA sc (.own (tinT a2 b c2)) (.dat (hallD (soD so) bs)) .un .un .un .un .un .un .un .un .un .un .un) (exS_set (t := .nm 2) (ev_call (γ1 := LA sc (.own (tinT a1 b c1)) .un .un .un .un .un .un .un .un .un .un .un .un) (vs := [.loc 1, .dat (.int (1 + k1))]) (evs_cons rfl (x := .loc 1) (γ1 := LA sc (.own (tinT a b 0)) .un .un .un .un .un .un .un .un .un .un .un .un) (by kernel_rfl) (evs_cons rfl (x := .dat (.int (1 + k1))) e1 (by kernel_rfl))) (by kernel_rfl) (by kernel_rfl) hwd rfl) (by kernel_rfl)) ?_
  have e3 : ev (callI tb.fn 19) (.bin .add (.cst (.int 1)) (.call 13 [(.slot 1), (.cst (.int 2))])) (LA sc (.own (tinT a2 b c2)) (.dat (hallD (soD so) bs)) .un .un .un .un .un .un .un .un .un .un .un) = some (.dat (.int (1 + k3)), LA sc (.own (tinT a3 b c3)) (.dat (hallD (soD so) bs)) .un .un .un .un .un .un .un .un .un .un .un) :=
    ev_add (i := 1) (j := k3) (γ1 := LA sc (.own (tinT a2 b c2)) (.dat (hallD (soD so) bs)) .un .un .un .un .un .un .un .un .un .un .un) (by kernel_rfl) (ev_call (γ1 := LA sc (.own (tinT a2 b c2)) (.dat (hallD (soD so) bs)) .un .un .un .un .un .un .un .un .un .un .un) (vs := [.loc 1, .dat (.int 2)]) (by kernel_rfl) (by kernel_rfl) (by kernel_rfl) t3 rfl)
  have e4 := ev_call (cal := callI tb.fn 19) (f := 16) (es := [(.slot 1), (.call 38 [(.slot 2)]), (.bin .add (.cst (.int 1)) (.call 13 [(.slot 1), (.cst (.int 2))]))]) (γ := LA sc (.own (tinT a2 b c2)) (.dat (hallD (soD so) bs)) .un .un .un .un .un .un .un .un .un .un .un) (γ1 := LA sc (.own (tinT a3 b c3)) (.dat (hallD (soD so) bs)) .un .un .un .un .un .un .un .un .un .un .un) (vs := [.loc 1, .dat (.tup (gapsD bs.length)), .dat (.int (1 + k3))]) (evs_cons rfl (x := .loc 1) (γ1 := LA sc (.own (tinT a2 b c2)) (.dat (hallD (soD so) bs)) .un .un .un .un .un .un .un .un .un .un .un) (by kernel_rfl) (evs_cons rfl (x := .dat (.tup (gapsD bs.length))) (γ1 := LA sc (.own (tinT a2 b c2)) (.dat (hallD (soD so) bs)) .un .un .un .un .un .un .un .un .un .un .un) (ev_call (γ1 := LA sc (.own (tinT a2 b c2)) (.dat (hallD (soD so) bs)) .un .un .un .un .un .un .un .un .un .un .un) (vs := [.dat (hallD (soD so) bs)]) (by kernel_rfl) (by kernel_rfl) (by kernel_rfl) gp rfl) (evs_cons rfl (x := .dat (.int (1 + k3))) e3 (by kernel_rfl)))) (by kernel_rfl) (by kernel_rfl) pk rfl
  refine exB_nx (γ1 := LA sc (.own (tinT a4 b c4)) (.dat (hallD (soD so) bs)) (.dat (trD ts)) .un .un .un .un .un .un .un .un .un .un) (exS_set (t := .nm 3) (x := .dat (trD ts)) (ev_b1 (x := .new (.l (ts.map gapD))) (ev_b1 (x := .new (.l ps)) e4 hsort) (by kernel_rfl)) (by kernel_rfl)) ?_
  refine exB_nx (γ1 := LA sc (.own (tinT a4 b c4)) (.dat (hallD (soD so) bs)) (.dat (trD ts)) (.dat wayD) (.dat (hallD (soD so) bs)) (.own (.l [])) .un .un .un .un .un .un .un) (exS_par (vs := [.dat wayD, .dat (hallD (soD so) bs), .new (.l [])]) (evn_cons (vs := [.dat (hallD (soD so) bs), .new (.l [])]) (γ2 := LA sc (.own (tinT a4 b c4)) (.dat (hallD (soD so) bs)) (.dat (trD ts)) .un .un .un .un .un .un .un .un .un .un) (ev_call (γ1 := LA sc (.own (tinT a4 b c4)) (.dat (hallD (soD so) bs)) (.dat (trD ts)) .un .un .un .un .un .un .un .un .un .un) (vs := [.dat (.int 2), .dat (.tup [.int 0, .int 1]), .dat (.int 3)]) (by kernel_rfl) (by kernel_rfl) (by kernel_rfl) (way_ok (n := 18)) rfl) (by kernel_rfl)) (by kernel_rfl)) ?_
  refine exB_nx (exS_for (ds := ts.reverse.map gapD) (γ1 := LA sc (.own (tinT a4 b c4)) (.dat (hallD (soD so) bs)) (.dat (trD ts)) (.dat wayD) (.dat (hallD (soD so) bs)) (.own (.l [])) .un .un .un .un .un .un .un) (by rw [List.map_reverse]; kernel_rfl) lp1) ?_
  refine exB_nx (exS_for (ds := enumD (ts.map gapD)) (γ1 := LA sc (.own (tinT a4 b c4)) (.dat (hallD (soD so) bs)) (.dat (trD ts)) (.dat wayD) (.dat (hallD (soD so) due)) (.own (.l [])) x7 .un .un .un .un .un .un) (by kernel_rfl) lp2) ?_
  refine exB_nx (γ1 := LA sc (.own (tinT a4 b c4)) (.dat (hallD (soD so) bs)) (.dat (trD ts)) (.dat wayD) (.dat (hallD (soD so) due)) (.own (.l ((ownI ts).map .int))) y7 y8 .un .un .un .un .un) (exS_ite (k := false) (ev_not (k := true) (ev_call (γ1 := LA sc (.own (tinT a4 b c4)) (.dat (hallD (soD so) bs)) (.dat (trD ts)) (.dat wayD) (.dat (hallD (soD so) due)) (.own (.l ((ownI ts).map .int))) y7 y8 .un .un .un .un .un) (vs := [.dat (hallD (flatN 15 (soD so)) due), .dat (hallD (soD so) due)]) (evs_cons rfl (x := .dat (hallD (flatN 15 (soD so)) due)) (γ1 := LA sc (.own (tinT a4 b c4)) (.dat (hallD (soD so) bs)) (.dat (trD ts)) (.dat wayD) (.dat (hallD (soD so) due)) (.own (.l ((ownI ts).map .int))) y7 y8 .un .un .un .un .un) (ev_call (γ1 := LA sc (.own (tinT a4 b c4)) (.dat (hallD (soD so) bs)) (.dat (trD ts)) (.dat wayD) (.dat (hallD (soD so) due)) (.own (.l ((ownI ts).map .int))) y7 y8 .un .un .un .un .un) (vs := [.dat (hallD (soD so) bs), .dat (trD ts), .dat (.tup [.int 0, .int 1]), .dat (.int 3)]) (by kernel_rfl) (by kernel_rfl) (by kernel_rfl) rn rfl) (by kernel_rfl)) (by kernel_rfl) (by kernel_rfl) isd rfl)) nofun (fun _ => by kernel_rfl)) ?_
  refine exB_nx (γ1 := LA sc (.own (tinT a4 b c4)) (.dat (hallD (soD so) bs)) (.dat (trD ts)) (.dat wayD) (.dat (hallD (soD so) due)) (.own (.l ((ownI ts).map .int))) y7 y8 (.own (.l (due.map lotD))) .un .un .un .un) (exS_set (t := .nm 9) (ev_call (γ1 := LA sc (.own (tinT a4 b c4)) (.dat (hallD (soD so) bs)) (.dat (trD ts)) (.dat wayD) (.dat (hallD (soD so) due)) (.own (.l ((ownI ts).map .int))) y7 y8 .un .un .un .un .un) (vs := [.dat (hallD (soD so) due), .dat (.tup [])]) (by kernel_rfl) (by kernel_rfl) (by kernel_rfl) go1 rfl) (by kernel_rfl)) ?_
  refine exB_nx (γ1 := LA sc (.own (tinT a4 b c4)) (.dat (hallD (soD so) bs)) (.dat (trD ts)) (.dat wayD) (.dat (hallD (soD so) due)) (.own (.l ((ownI ts).map .int))) y7 y8 (.dat (.lst (due.map lotD))) .un .un .un .un) (by kernel_rfl) ?_
  refine exB_nx (γ1 := LA sc (.own (tinT a4 b c4)) (.dat (hallD (soD so) bs)) (.dat (trD ts)) (.dat wayD) (.dat (hallD (soD so) due)) (.own (.l ((ownI ts).map .int))) y7 y8 (.dat (.lst (due.map lotD))) (.own (.l ((goodsOf so bs ts).map mkM))) .un .un .un) (exS_set (t := .nm 10) ge (by kernel_rfl)) ?_
  refine exB_nx (γ1 := LA sc (.own (tinT a4 b c4)) (.dat (hallD (soD so) bs)) (.dat (trD ts)) (.dat wayD) (.dat (hallD (soD so) due)) (.own (.l ((ownI ts).map .int))) y7 y8 (.dat (.lst (due.map lotD))) (.own (.l ((goodsOf so bs ts).map mkM))) (.dat (optD near)) .un .un) (exS_set (t := .nm 11) (ev_call (γ1 := LA sc (.own (tinT a4 b c4)) (.dat (hallD (soD so) bs)) (.dat (trD ts)) (.dat wayD) (.dat (hallD (soD so) due)) (.own (.l ((ownI ts).map .int))) y7 y8 (.dat (.lst (due.map lotD))) (.own (.l ((goodsOf so bs ts).map mkM))) .un .un .un) (vs := [.dat (hallD (soD so) bs), .dat (.lst (bs.map lotD)), .dat (.int 2)]) (evs_cons rfl (x := .dat (hallD (soD so) bs)) (γ1 := LA sc (.own (tinT a4 b c4)) (.dat (hallD (soD so) bs)) (.dat (trD ts)) (.dat wayD) (.dat (hallD (soD so) due)) (.own (.l ((ownI ts).map .int))) y7 y8 (.dat (.lst (due.map lotD))) (.own (.l ((goodsOf so bs ts).map mkM))) .un .un .un) (by kernel_rfl) (evs_cons rfl (x := .new (.l (bs.map lotD))) (γ1 := LA sc (.own (tinT a4 b c4)) (.dat (hallD (soD so) bs)) (.dat (trD ts)) (.dat wayD) (.dat (hallD (soD so) due)) (.own (.l ((ownI ts).map .int))) y7 y8 (.dat (.lst (due.map lotD))) (.own (.l ((goodsOf so bs ts).map mkM))) .un .un .un) (ev_call (γ1 := LA sc (.own (tinT a4 b c4)) (.dat (hallD (soD so) bs)) (.dat (trD ts)) (.dat wayD) (.dat (hallD (soD so) due)) (.own (.l ((ownI ts).map .int))) y7 y8 (.dat (.lst (due.map lotD))) (.own (.l ((goodsOf so bs ts).map mkM))) .un .un .un) (vs := [.dat (hallD (soD so) bs), .dat (.tup [])]) (by kernel_rfl) (by kernel_rfl) (by kernel_rfl) go2 rfl) (by kernel_rfl))) (by kernel_rfl) (by kernel_rfl) ch rfl) (by kernel_rfl)) ?_
  refine exB_nx (γ1 := LA sc (.own (tinT a4 b c4)) (.dat (hallD (soD so) bs)) (.dat (trD ts)) (.dat wayD) (.dat (hallD (soD so) due)) (.own (.l ((ownI ts).map .int))) y7 y8 (.dat (.lst (due.map lotD))) (.dat (.lst ((goodsOf so bs ts).map mkM))) (.dat (optD near)) .un .un) (by kernel_rfl) ?_
  refine exB_nx (exS_for (ds := (looksB (goodsOf so bs ts)).map lkD) (γ1 := LA sc (.own (tinT a4 b c4)) (.dat (hallD (soD so) bs)) (.dat (trD ts)) (.dat wayD) (.dat (hallD (soD so) due)) (.own (.l ((ownI ts).map .int))) y7 y8 (.dat (.lst (due.map lotD))) (.dat (.lst ((goodsOf so bs ts).map mkM))) (.dat (optD near)) .un .un) (evi_of (x := .new (.l ((looksB (goodsOf so bs ts)).map lkD))) (ev_call (γ1 := LA sc (.own (tinT a4 b c4)) (.dat (hallD (soD so) bs)) (.dat (trD ts)) (.dat wayD) (.dat (hallD (soD so) due)) (.own (.l ((ownI ts).map .int))) y7 y8 (.dat (.lst (due.map lotD))) (.dat (.lst ((goodsOf so bs ts).map mkM))) (.dat (optD near)) .un .un) (vs := [.dat (.lst ((goodsOf so bs ts).map mkM)), .dat (.int 2)]) (by kernel_rfl) (by kernel_rfl) (by kernel_rfl) lk rfl) (by kernel_rfl)) lp3) ?_
  exact exB_rt (exS_ret (by kernel_rfl))
end V86

open PySem PySem.W PyProof.Rows
set_option maxHeartbeats 0 in
set_option maxRecDepth 100000 in
theorem PySem.Challenge.cw_anydlooks_k86_whole_renewals_harm_by_the_holds : PySem.Challenge.rw_anydlooks_k86_whole_renewals_harm_by_the.Holds := by
  w_on; o_law; k_head; (case hw => w_witness2)
  k_fill
  refine L2.walk_of (l := PySem.Challenge.rw_anydlooks_k86_whole_renewals_harm_by_the) (n := 63) (k := 20) (x := "script") (CX := fun _ => C8.CX0) (sp := fun w => VY.spW _ (RI.SIc (RI.callI V86.tb.fn 20) 43)) rfl (by decide) rfl ⟨rfl, by decide, by decide⟩ (fun w h Y => PySem.W.kIn_of Y) ?F (fun _ _ a ns hl _ hS => V86.law_sp hl hS (fun _ => rfl) _ (V86.plain ns hl)) (fun _ _ _ _ _ h => h)
  case F =>
    intro w mg fa h KX G hmg
    refine' V86.all_mk KX G hmg ?a5 ?l5 ?c5 ?k5 ?a12 ?l12 ?c12 ?k12 ?a13 ?l13 ?c13 ?k13 ?a14 ?l14 ?c14 ?k14 ?a15 ?l15 ?c15 ?k15 ?a16 ?l16 ?c16 ?k16 ?a17 ?l17 ?c17 ?k17 ?a18 ?l18 ?c18 ?k18 ?a19 ?l19 ?c19 ?k19 ?a20 ?l20 ?c20 ?k20 ?a21 ?l21 ?c21 ?k21 ?a22 ?l22 ?c22 ?k22 ?a24 ?l24 ?c24 ?k24 ?a25 ?l25 ?c25 ?k25 ?a26 ?l26 ?c26 ?k26 ?a27 ?l27 ?c27 ?k27 ?a28 ?l28 ?c28 ?k28 ?a29 ?l29 ?c29 ?k29 ?a30 ?l30 ?c30 ?k30 ?a31 ?l31 ?c31 ?k31 ?a32 ?l32 ?c32 ?k32 ?a34 ?l34 ?c34 ?k34 ?a35 ?l35 ?c35 ?k35 ?a36 ?l36 ?c36 ?k36 ?a37 ?l37 ?c37 ?k37 ?a38 ?l38 ?c38 ?k38 ?a39 ?l39 ?c39 ?k39 ?a40 ?l40 ?c40 ?k40 ?a41 ?l41 ?c41 ?k41 ?a42 ?l42 ?c42 ?k42 ?a43 ?l43 ?c43 ?k43 ?a44 ?l44 ?c44 ?k44 ?a45 ?l45 ?c45 ?k45 ?a46 ?l46 ?c46 ?k46 ?a47 ?l47 ?c47 ?k47 ?a48 ?l48 ?c48 ?k48 ?a49 ?l49 ?c49 ?k49 ?a50 ?l50 ?c50 ?k50 ?a51 ?l51 ?c51 ?k51 ?a52 ?l52 ?c52 ?k52 ?a53 ?l53 ?c53 ?k53 ?a54 ?l54 ?c54 ?k54 ?a55 ?l55 ?c55 ?k55 ?a56 ?l56 ?c56 ?k56 ?z_len ?z_int ?z_abs ?z_sum ?z_all ?z_any ?z_list ?z_tuple ?z_sorted ?z_range ?z_min ?z_isinstance ?z_bool ?z_str ?z_enumerate ?z_zip ?z_dict ?z_set ?g_DRAW ?g_SET ?g_ONE ?g_MANY ?g_FEWEST
    (case a5 => k_is); (case l5 => k_is); (case c5 => k_is); (case k5 => k_is); (case a12 => k_is); (case l12 => k_is); (case c12 => k_is); (case k12 => k_is); (case a13 => k_is); (case l13 => k_is); (case c13 => k_is); (case k13 => k_is); (case a14 => k_is); (case l14 => k_is); (case c14 => k_is); (case k14 => k_is); (case a15 => k_is); (case l15 => k_is); (case c15 => k_is); (case k15 => k_is); (case a16 => k_is); (case l16 => k_is); (case c16 => k_is); (case k16 => k_is); (case a17 => k_is); (case l17 => k_is); (case c17 => k_is); (case k17 => k_is); (case a18 => k_is); (case l18 => k_is); (case c18 => k_is); (case k18 => k_is); (case a19 => k_is); (case l19 => k_is); (case c19 => k_is); (case k19 => k_is); (case a20 => k_is); (case l20 => k_is); (case c20 => k_is); (case k20 => k_is); (case a21 => k_is); (case l21 => k_is); (case c21 => k_is); (case k21 => k_is); (case a22 => k_is); (case l22 => k_is); (case c22 => k_is); (case k22 => k_is); (case a24 => k_is); (case l24 => k_is); (case c24 => k_is); (case k24 => k_is); (case a25 => k_is); (case l25 => k_is); (case c25 => k_is); (case k25 => k_is); (case a26 => k_is); (case l26 => k_is); (case c26 => k_is); (case k26 => k_is); (case a27 => k_is); (case l27 => k_is); (case c27 => k_is); (case k27 => k_is); (case a28 => k_is); (case l28 => k_is); (case c28 => k_is); (case k28 => k_is); (case a29 => k_is); (case l29 => k_is); (case c29 => k_is); (case k29 => k_is); (case a30 => k_is); (case l30 => k_is); (case c30 => k_is); (case k30 => k_is); (case a31 => k_is); (case l31 => k_is); (case c31 => k_is); (case k31 => k_is); (case a32 => k_is); (case l32 => k_is); (case c32 => k_is); (case k32 => k_is); (case a34 => k_is); (case l34 => k_is); (case c34 => k_is); (case k34 => k_is); (case a35 => k_is); (case l35 => k_is); (case c35 => k_is); (case k35 => k_is); (case a36 => k_is); (case l36 => k_is); (case c36 => k_is); (case k36 => k_is); (case a37 => k_is); (case l37 => k_is); (case c37 => k_is); (case k37 => k_is); (case a38 => k_is); (case l38 => k_is); (case c38 => k_is); (case k38 => k_is); (case a39 => k_is); (case l39 => k_is); (case c39 => k_is); (case k39 => k_is); (case a40 => k_is); (case l40 => k_is); (case c40 => k_is); (case k40 => k_is); (case a41 => k_is); (case l41 => k_is); (case c41 => k_is); (case k41 => k_is); (case a42 => k_is); (case l42 => k_is); (case c42 => k_is); (case k42 => k_is); (case a43 => k_is); (case l43 => k_is); (case c43 => k_is); (case k43 => k_is); (case a44 => k_is); (case l44 => k_is); (case c44 => k_is); (case k44 => k_is); (case a45 => k_is); (case l45 => k_is); (case c45 => k_is); (case k45 => k_is); (case a46 => k_is); (case l46 => k_is); (case c46 => k_is); (case k46 => k_is); (case a47 => k_is); (case l47 => k_is); (case c47 => k_is); (case k47 => k_is); (case a48 => k_is); (case l48 => k_is); (case c48 => k_is); (case k48 => k_is); (case a49 => k_is); (case l49 => k_is); (case c49 => k_is); (case k49 => k_is); (case a50 => k_is); (case l50 => k_is); (case c50 => k_is); (case k50 => k_is); (case a51 => k_is); (case l51 => k_is); (case c51 => k_is); (case k51 => k_is); (case a52 => k_is); (case l52 => k_is); (case c52 => k_is); (case k52 => k_is); (case a53 => k_is); (case l53 => k_is); (case c53 => k_is); (case k53 => k_is); (case a54 => k_is); (case l54 => k_is); (case c54 => k_is); (case k54 => k_is); (case a55 => k_is); (case l55 => k_is); (case c55 => k_is); (case k55 => k_is); (case a56 => k_is); (case l56 => k_is); (case c56 => k_is); (case k56 => k_is); (case z_len => k_is); (case z_int => k_is); (case z_abs => k_is); (case z_sum => k_is); (case z_all => k_is); (case z_any => k_is); (case z_list => k_is); (case z_tuple => k_is); (case z_sorted => k_is); (case z_range => k_is); (case z_min => k_is); (case z_isinstance => k_is); (case z_bool => k_is); (case z_str => k_is); (case z_enumerate => k_is); (case z_zip => k_is); (case z_dict => k_is); (case z_set => k_is); (case g_DRAW => k_is); (case g_SET => k_is); (case g_ONE => k_is); (case g_MANY => k_is); (case g_FEWEST => k_is)
