import PyProof.Rows.All
import Wide.All
import OpenK.AllK
import Wide.FinOn
import HandS.ForMost
import HandS.Wide
import HandS.Walk
import HandS.IsInst
import PySem.Challenge.RW_galleywork_k32_badness_and_class
set_option Elab.async false
set_option linter.all false
set_option maxRecDepth 100000
set_option maxHeartbeats 4000000
/-! The pure layer: Python values as plain data D; frozen heap and owned slots; readings over D. -/
namespace Pu
open PySem PySem.Spec L2

abbrev Fg := PySem.W.Frag

/-- plain data -/
inductive D where
  | non | bl (b : Bool) | int (i : Int) | str (s : Str)
  | tup (ds : List D) | lst (ds : List D) | klst (ds : List D)
  | dK (ks : List Key) (ds : List D) | dT (ks : List (List Key)) (ds : List D)
  | ins (C : Addr) (ns : List Str) (ds : List D)
  | pool | rf (a : Addr)

/-- what is always true of an object that changes (it may speak of what is frozen) -/
structure InvP where
  φ : Hp → HO → Prop
  mono : ∀ H H' o, Same H H' → φ H o → φ H' o
/-- what is frozen; what keeps an invariant -/
structure FS where
  fz : Hp
  iv : Addr → Option InvP

structure Fits (F : FS) (H : Hp) : Prop where
  fz : Same F.fz H
  iv : ∀ a φ, F.iv a = some φ → ∃ o, H a = some o ∧ φ.φ F.fz o

structure Ext (O : Addr → Prop) (F : FS) (H : Hp) (F' : FS) (H' : Hp) : Prop where
  fz : Same F.fz F'.fz
  iv : ∀ a φ, F.iv a = some φ → F'.iv a = some φ
  fits : Fits F' H'
  nfz : ∀ a o, F'.fz a = some o → F.fz a = some o ∨ H a = none
  niv : ∀ a φ, F'.iv a = some φ → F.iv a = some φ ∨ H a = none
  keep : ∀ a o, H a = some o → O a ∨ (∃ φ, F.iv a = some φ) ∨ H' a = some o
  dom : ∀ a, H' a = none → H a = none

abbrev No : Addr → Prop := fun _ => False

theorem Ext.refl {O : Addr → Prop} {F : FS} {H : Hp} (f : Fits F H) : Ext O F H F H :=
  ⟨Same.refl _, fun _ _ h => h, f, fun _ _ h => .inl h, fun _ _ h => .inl h, fun _ _ h => .inr (.inr h), fun _ h => h⟩

theorem Ext.trans {O O' : Addr → Prop} {F F1 F2 : FS} {H H1 H2 : Hp} (x : Ext O F H F1 H1) (y : Ext O' F1 H1 F2 H2) (hO : ∀ a, O' a → O a ∨ H a = none) : Ext O F H F2 H2 where
  fz := x.fz.trans y.fz
  iv a φ h := y.iv a φ (x.iv a φ h)
  fits := y.fits
  nfz a o h := (y.nfz a o h).elim (fun q => x.nfz a o q) fun q => .inr (x.dom a q)
  niv a φ h := (y.niv a φ h).elim (fun q => x.niv a φ q) fun q => .inr (x.dom a q)
  keep a o h := by
    rcases x.keep a o h with q | q | q
    · exact .inl q
    · exact .inr (.inl q)
    · rcases y.keep a o q with q | ⟨φ, q⟩ | q
      · rcases hO a q with z | z
        · exact .inl z
        · rw [h] at z; cases z
      · rcases x.niv a φ q with z | z
        · exact .inr (.inl ⟨φ, z⟩)
        · rw [h] at z; cases z
      · exact .inr (.inr q)
  dom a h := x.dom a (y.dom a h)

theorem Ext.then0 {O : Addr → Prop} {F F1 F2 : FS} {H H1 H2 : Hp} (x : Ext O F H F1 H1) (y : Ext No F1 H1 F2 H2) : Ext O F H F2 H2 := x.trans y fun _ h => h.elim

theorem Ext.mono {O O' : Addr → Prop} {F F1 : FS} {H H1 : Hp} (x : Ext O F H F1 H1) (h : ∀ a, O a → O' a) : Ext O' F H F1 H1 :=
  { x with keep := fun a o e => (x.keep a o e).imp (h a) id }

/-! ### a value stands for a datum -/
def PoolI : InvP := ⟨fun H o => ∃ (l : Addr) (ns : List Int) (c r q s : Int), o = .lst [.ref l, .int c, .int r, .int q, .int s] ∧ H l = some (.lst (ns.map V.int)) ∧ 0 ≤ c ∧ c ≤ ns.length ∧ 0 ≤ r,
  fun H H' o h ⟨l, ns, c, r, q, s, e, hl, z⟩ => ⟨l, ns, c, r, q, s, e, h _ _ hl, z⟩⟩
mutual
def Rep (K : Fg) (F : FS) : D → V → Prop
  | .non, v => v = .non
  | .bl b, v => v = .bl b
  | .int i, v => v = .int i
  | .str s, v => v = .str s
  | .tup ds, v => ∃ a vs, v = .ref a ∧ SqT K F.fz a vs ∧ Reps K F ds vs
  | .lst ds, v => ∃ a vs, v = .ref a ∧ F.fz a = some (.lst vs) ∧ Reps K F ds vs
  | .klst ds, v => ∃ a vs, v = .ref a ∧ SqL K F.fz a vs ∧ Reps K F ds vs
  | .dK ks ds, v => ∃ a vs, v = .ref a ∧ F.fz a = some (.dK (ks.zip vs)) ∧ ks.length = ds.length ∧ Reps K F ds vs
  | .dT ks ds, v => ∃ a vs, v = .ref a ∧ F.fz a = some (.dT (ks.zip vs)) ∧ ks.length = ds.length ∧ Reps K F ds vs
  | .ins C ns ds, v => ∃ a dx vs, v = .ref a ∧ F.fz a = some (.ins C dx (ns.zip vs)) ∧ ns.length = ds.length ∧ Reps K F ds vs
  | .pool, v => ∃ a, v = .ref a ∧ F.iv a = some PoolI ∧ F.fz a = none
  | .rf a, v => v = .ref a
def Reps (K : Fg) (F : FS) : List D → List V → Prop
  | [], vs => vs = []
  | d :: ds, vs => ∃ v r, vs = v :: r ∧ Rep K F d v ∧ Reps K F ds r
end

section
variable {K : Fg} {F F' : FS} {H H' : Hp} {O : Addr → Prop}

theorem Same.seqT {H H' : Hp} {a : Addr} {xs : List V} (e : Same H H') (h : SqT K H a xs) : SqT K H' a xs := by
  rcases h with (h | ⟨o, h⟩) | h
  · exact .inl (.inl (e _ _ h))
  · exact .inl (.inr ⟨o, e _ _ h⟩)
  · exact .inr h

/-- F grows -/
structure Le (F F' : FS) : Prop where
  fz : Same F.fz F'.fz
  iv : ∀ a φ, F.iv a = some φ → F'.iv a = some φ
  nfz : ∀ a, F'.fz a ≠ none → F.iv a ≠ none → F.fz a ≠ none

mutual
theorem Rep.mono (h : Le F F') : ∀ {d : D} {v : V}, Rep K F d v → Rep K F' d v
  | .non, _, r => by simpa only [Rep] using r
  | .bl _, _, r => by simpa only [Rep] using r
  | .int _, _, r => by simpa only [Rep] using r
  | .str _, _, r => by simpa only [Rep] using r
  | .tup ds, v, r => by
    simp only [Rep] at r ⊢
    obtain ⟨a, vs, e, s, q⟩ := r
    exact ⟨a, vs, e, Same.seqT h.fz s, Reps.mono h q⟩
  | .lst ds, v, r => by
    simp only [Rep] at r ⊢
    obtain ⟨a, vs, e, s, q⟩ := r
    exact ⟨a, vs, e, h.fz _ _ s, Reps.mono h q⟩
  | .klst ds, v, r => by
    simp only [Rep] at r ⊢
    obtain ⟨a, vs, e, s, q⟩ := r
    exact ⟨a, vs, e, h.fz.seq s, Reps.mono h q⟩
  | .dK ks ds, v, r => by
    simp only [Rep] at r ⊢
    obtain ⟨a, vs, e, s, l, q⟩ := r
    exact ⟨a, vs, e, h.fz _ _ s, l, Reps.mono h q⟩
  | .dT ks ds, v, r => by
    simp only [Rep] at r ⊢
    obtain ⟨a, vs, e, s, l, q⟩ := r
    exact ⟨a, vs, e, h.fz _ _ s, l, Reps.mono h q⟩
  | .ins C ns ds, v, r => by
    simp only [Rep] at r ⊢
    obtain ⟨a, dx, vs, e, s, l, q⟩ := r
    exact ⟨a, dx, vs, e, h.fz _ _ s, l, Reps.mono h q⟩
  | .pool, v, r => by
    simp only [Rep] at r ⊢
    obtain ⟨a, e, i, z⟩ := r
    refine ⟨a, e, h.iv _ _ i, ?_⟩
    by_cases q : F'.fz a = none
    · exact q
    · exact absurd z (h.nfz a q (by rw [i]; intro z; cases z))
  | .rf _, _, r => by simpa only [Rep] using r
theorem Reps.mono (h : Le F F') : ∀ {ds : List D} {vs : List V}, Reps K F ds vs → Reps K F' ds vs
  | [], _, r => by simpa only [Reps] using r
  | d :: ds, _, r => by
    simp only [Reps] at r ⊢
    obtain ⟨v, q, e, h1, h2⟩ := r
    exact ⟨v, q, e, Rep.mono h h1, Reps.mono h h2⟩
end

theorem Ext.le (x : Ext O F H F' H') (f : Fits F H) : Le F F' :=
  ⟨x.fz, x.iv, fun a h1 h2 => by
    cases e : F'.fz a with
    | none => exact absurd e h1
    | some o =>
      rcases x.nfz a o e with q | q
      · rw [q]; intro z; cases z
      · cases e2 : F.iv a with
        | none => exact absurd e2 h2
        | some φ =>
          obtain ⟨o', h, _⟩ := f.iv a φ e2
          rw [q] at h; cases h⟩
theorem Rep.ext {d : D} {v : V} (r : Rep K F d v) (x : Ext O F H F' H') (f : Fits F H) : Rep K F' d v := Rep.mono (x.le f) r
theorem Reps.ext {d : List D} {v : List V} (r : Reps K F d v) (x : Ext O F H F' H') (f : Fits F H) : Reps K F' d v := Reps.mono (x.le f) r

theorem Reps.length : ∀ {ds : List D} {vs : List V}, Reps K F ds vs → vs.length = ds.length
  | [], _, r => by simp only [Reps] at r; rw [r]; rfl
  | d :: ds, _, r => by
    simp only [Reps] at r
    obtain ⟨v, q, e, _, h2⟩ := r
    rw [e, List.length_cons, List.length_cons, Reps.length h2]
theorem Reps.get : ∀ {ds : List D} {vs : List V} {i : Nat} {d : D}, Reps K F ds vs → ds[i]? = some d → ∃ v, vs[i]? = some v ∧ Rep K F d v
  | [], _, i, _, _, e => by simp at e
  | d :: ds, _, i, x, r, e => by
    simp only [Reps] at r
    obtain ⟨v, q, rfl, h1, h2⟩ := r
    cases i with
    | zero =>
      have : d = x := Option.some.inj e
      subst this
      exact ⟨v, rfl, h1⟩
    | succ i => exact Reps.get (i := i) h2 e
theorem Reps.get' {ds : List D} {vs : List V} {i : Nat} {v : V} (r : Reps K F ds vs) (e : vs[i]? = some v) : ∃ d, ds[i]? = some d ∧ Rep K F d v := by
  have hl := r.length
  have hi := (List.getElem?_eq_some_iff.mp e).1
  have h2 : ds[i]? = some ds[i] := List.getElem?_eq_getElem (by omega)
  obtain ⟨u, e1, r1⟩ := r.get h2
  rw [e] at e1
  cases e1
  exact ⟨_, h2, r1⟩
theorem Reps.append : ∀ {ds es : List D} {vs us : List V}, Reps K F ds vs → Reps K F es us → Reps K F (ds ++ es) (vs ++ us)
  | [], _, _, _, r, s => by simp only [Reps] at r; subst r; simpa using s
  | d :: ds, _, _, _, r, s => by
    simp only [Reps] at r
    obtain ⟨v, q, rfl, h1, h2⟩ := r
    simp only [List.cons_append, Reps]
    exact ⟨v, _, rfl, h1, Reps.append h2 s⟩
theorem Reps.one {d : D} {v : V} (r : Rep K F d v) : Reps K F [d] [v] := by
  simp only [Reps]
  exact ⟨v, [], rfl, r, rfl⟩
theorem Reps.nil : Reps K F [] [] := by simp only [Reps]
theorem Reps.cons {d : D} {v : V} {ds : List D} {vs : List V} (r : Rep K F d v) (s : Reps K F ds vs) : Reps K F (d :: ds) (v :: vs) := by
  simp only [Reps]
  exact ⟨v, vs, rfl, r, s⟩
theorem Reps.take : ∀ {ds : List D} {vs : List V} (n : Nat), Reps K F ds vs → Reps K F (ds.take n) (vs.take n)
  | _, _, 0, _ => by simpa using Reps.nil
  | [], _, _ + 1, r => by simp only [Reps] at r; subst r; simpa using Reps.nil
  | d :: ds, _, n + 1, r => by
    simp only [Reps] at r
    obtain ⟨v, q, rfl, h1, h2⟩ := r
    exact Reps.cons h1 (Reps.take n h2)
theorem Reps.drop : ∀ {ds : List D} {vs : List V} (n : Nat), Reps K F ds vs → Reps K F (ds.drop n) (vs.drop n)
  | _, _, 0, r => by simpa using r
  | [], _, _ + 1, r => by simp only [Reps] at r; subst r; simpa using Reps.nil
  | d :: ds, _, n + 1, r => by
    simp only [Reps] at r
    obtain ⟨v, q, rfl, h1, h2⟩ := r
    exact Reps.drop n h2
theorem Reps.set : ∀ {ds : List D} {vs : List V} {d : D} {v : V} (i : Nat), Reps K F ds vs → Rep K F d v → Reps K F (ds.set i d) (vs.set i v)
  | [], _, _, _, _, r, _ => by simp only [Reps] at r; subst r; simpa using Reps.nil
  | x :: ds, _, _, _, i, r, s => by
    simp only [Reps] at r
    obtain ⟨v, q, rfl, h1, h2⟩ := r
    cases i with
    | zero => exact Reps.cons s h2
    | succ i => exact Reps.cons h1 (Reps.set i h2 s)
theorem Reps.reverse {ds : List D} {vs : List V} (r : Reps K F ds vs) : Reps K F ds.reverse vs.reverse := by
  induction ds generalizing vs with
  | nil => simp only [Reps] at r; subst r; simpa using Reps.nil
  | cons d ds ih =>
    simp only [Reps] at r
    obtain ⟨v, q, rfl, h1, h2⟩ := r
    simp only [List.reverse_cons]
    exact (ih h2).append (Reps.one h1)
theorem Reps.eraseIdx : ∀ {ds : List D} {vs : List V} (i : Nat), Reps K F ds vs → Reps K F (ds.eraseIdx i) (vs.eraseIdx i)
  | [], _, _, r => by simp only [Reps] at r; subst r; simpa using Reps.nil
  | x :: ds, _, i, r => by
    simp only [Reps] at r
    obtain ⟨v, q, rfl, h1, h2⟩ := r
    cases i with
    | zero => exact h2
    | succ i => exact Reps.cons h1 (Reps.eraseIdx i h2)
theorem Reps.ints : ∀ {ns : List Int} {vs : List V}, Reps K F (ns.map D.int) vs → vs = ns.map V.int
  | [], _, r => by simpa only [List.map_nil, Reps] using r
  | n :: ns, _, r => by
    simp only [List.map_cons, Reps] at r
    obtain ⟨v, q, rfl, h1, h2⟩ := r
    simp only [Rep] at h1
    rw [h1, Reps.ints h2, List.map_cons]
theorem Reps.of_ints : ∀ (ns : List Int), Reps K F (ns.map D.int) (ns.map V.int)
  | [] => Reps.nil
  | n :: ns => Reps.cons (by simp only [Rep]) (Reps.of_ints ns)
theorem Reps.strs : ∀ {ns : List Str} {vs : List V}, Reps K F (ns.map D.str) vs → vs = ns.map V.str
  | [], _, r => by simpa only [List.map_nil, Reps] using r
  | n :: ns, _, r => by
    simp only [List.map_cons, Reps] at r
    obtain ⟨v, q, rfl, h1, h2⟩ := r
    simp only [Rep] at h1
    rw [h1, Reps.strs h2, List.map_cons]
theorem Reps.of_strs : ∀ (ns : List Str), Reps K F (ns.map D.str) (ns.map V.str)
  | [] => Reps.nil
  | n :: ns => Reps.cons (by simp only [Rep]) (Reps.of_strs ns)
theorem Reps.bls : ∀ {ns : List Bool} {vs : List V}, Reps K F (ns.map D.bl) vs → vs = ns.map V.bl
  | [], _, r => by simpa only [List.map_nil, Reps] using r
  | n :: ns, _, r => by
    simp only [List.map_cons, Reps] at r
    obtain ⟨v, q, rfl, h1, h2⟩ := r
    simp only [Rep] at h1
    rw [h1, Reps.bls h2, List.map_cons]

/-- a fresh address is frozen -/
def FS.add (F : FS) (a : Addr) (o : HO) : FS := ⟨upd F.fz a o, F.iv⟩
theorem Fits.none_fz (f : Fits F H) {a : Addr} (h : H a = none) : F.fz a = none := f.fz.free h
theorem Fits.none_iv (f : Fits F H) {a : Addr} (h : H a = none) : F.iv a = none := by
  cases e : F.iv a with
  | none => rfl
  | some φ =>
    obtain ⟨o, q, _⟩ := f.iv a φ e
    rw [h] at q; cases q
theorem Ext.new (f : Fits F H) {a : Addr} {o : HO} (h : H a = none) : Ext O F H (F.add a o) (upd H a o) := by
  have hz := f.none_fz h
  have hi := f.none_iv h
  have up : Same F.fz (upd F.fz a o) := fun b x e => by
    rw [upd_ne (fun z => by rw [z, hz] at e; cases e)]; exact e
  refine ⟨up, fun _ _ e => e, ⟨fun b x e => ?_, fun b φ e => ?_⟩, fun b x e => ?_, fun _ _ e => .inl e, fun b x e => .inr (.inr ?_), fun b e => ?_⟩
  · have e : upd F.fz a o b = some x := e
    by_cases q : b = a
    · subst q; rw [upd_same] at e ⊢; exact e
    · rw [upd_ne q] at e ⊢; exact f.fz _ _ e
  · have e : F.iv b = some φ := e
    obtain ⟨x, h1, h2⟩ := f.iv b φ e
    exact ⟨x, by rw [upd_ne (fun z => by rw [z, h] at h1; cases h1)]; exact h1, φ.mono _ _ _ up h2⟩
  · have e : upd F.fz a o b = some x := e
    by_cases q : b = a
    · subst q; exact .inr h
    · rw [upd_ne q] at e; exact .inl e
  · rw [upd_ne (fun z => by rw [z, h] at e; cases e)]; exact e
  · by_cases q : b = a
    · subst q; exact h
    · rw [upd_ne q] at e; exact e
/-- a fresh object that is not frozen -/
theorem Ext.newM (f : Fits F H) {a : Addr} {o : HO} (h : H a = none) : Ext O F H F (upd H a o) := by
  refine ⟨Same.refl _, fun _ _ e => e, ⟨fun b x e => ?_, fun b φ e => ?_⟩, fun b x e => .inl e, fun _ _ e => .inl e, fun b x e => .inr (.inr ?_), fun b e => ?_⟩
  · rw [upd_ne (fun z => by rw [z, f.none_fz h] at e; cases e)]; exact f.fz _ _ e
  · obtain ⟨x, h1, h2⟩ := f.iv b φ e
    exact ⟨x, by rw [upd_ne (fun z => by rw [z, h] at h1; cases h1)]; exact h1, h2⟩
  · rw [upd_ne (fun z => by rw [z, h] at e; cases e)]; exact e
  · by_cases q : b = a
    · subst q; exact h
    · rw [upd_ne q] at e; exact e
theorem FS.add_same {a : Addr} {o : HO} : (F.add a o).fz a = some o := upd_same
end
end Pu
namespace Pu
open PySem PySem.Spec L2

/-! ### slots -/
inductive Sl where
  | sh (d : D) | ow (b : Bool) (d : D)
abbrev Env := List (Option Sl)
abbrev DK := D → Prop

def OwnAt (K : Fg) (F : FS) (H : Hp) (a : Addr) : D → Prop
  | .lst ds => ∃ vs, H a = some (.lst vs) ∧ Reps K F ds vs
  | .dK ks ds => ∃ vs, H a = some (.dK (ks.zip vs)) ∧ ks.length = ds.length ∧ Reps K F ds vs
  | .dT ks ds => ∃ vs, H a = some (.dT (ks.zip vs)) ∧ ks.length = ds.length ∧ Reps K F ds vs
  | .ins C ns ds => ∃ dx vs, H a = some (.ins C dx (ns.zip vs)) ∧ ns.length = ds.length ∧ Reps K F ds vs
  | _ => False

def SlotOk (K : Fg) (N : Bool → Addr → Prop) (F : FS) (H : Hp) (x : Option Sl) (ov : Option V) : Prop :=
  match x with
  | none => True
  | some (.sh d) => ∃ v, ov = some v ∧ Rep K F d v
  | some (.ow b d) => ∃ a, ov = some (.ref a) ∧ N b a ∧ F.fz a = none ∧ F.iv a = none ∧ OwnAt K F H a d

structure Stt (K : Fg) (N : Bool → Addr → Prop) (F : FS) (ρ : Env) (σ : L2.St) (H : Hp) : Prop where
  fits : Fits F H
  len : ρ.length = σ.length
  slot : ∀ (i : Nat) x ov, ρ[i]? = some x → σ[i]? = some ov → SlotOk K N F H x ov
  dis : ∀ (i j : Nat) b d b' e a, ρ[i]? = some (some (.ow b d)) → ρ[j]? = some (some (.ow b' e)) → σ[i]? = some (some (.ref a)) → σ[j]? = some (some (.ref a)) → i = j

section
variable {K : Fg} {N : Bool → Addr → Prop} {O : Addr → Prop} {F F' : FS} {H H' : Hp} {ρ : Env} {σ : L2.St}
theorem OwnAt.there {a : Addr} {d : D} (h : OwnAt K F H a d) : H a ≠ none := by
  intro z
  cases d <;> simp only [OwnAt] at h
  · obtain ⟨_, q, _⟩ := h; rw [z] at q; cases q
  · obtain ⟨_, q, _⟩ := h; rw [z] at q; cases q
  · obtain ⟨_, q, _⟩ := h; rw [z] at q; cases q
  · obtain ⟨_, _, q, _⟩ := h; rw [z] at q; cases q
theorem OwnAt.mono {a : Addr} {d : D} (h : OwnAt K F H a d) (l : Le F F') (e : H' a = H a) : OwnAt K F' H' a d := by
  cases d <;> simp only [OwnAt] at h ⊢
  · obtain ⟨vs, q, r⟩ := h; exact ⟨vs, by rw [e, q], r.mono l⟩
  · obtain ⟨vs, q, z, r⟩ := h; exact ⟨vs, by rw [e, q], z, r.mono l⟩
  · obtain ⟨vs, q, z, r⟩ := h; exact ⟨vs, by rw [e, q], z, r.mono l⟩
  · obtain ⟨dx, vs, q, z, r⟩ := h; exact ⟨dx, vs, by rw [e, q], z, r.mono l⟩
theorem own_keep {a : Addr} {d : D} (h : OwnAt K F H a d) (hz : F.fz a = none) (hi : F.iv a = none) (x : Ext No F H F' H') (f : Fits F H) : OwnAt K F' H' a d ∧ F'.fz a = none ∧ F'.iv a = none := by
  have hs := h.there
  obtain ⟨o, eo⟩ : ∃ o, H a = some o := by
    cases e : H a with
    | none => exact absurd e hs
    | some o => exact ⟨o, rfl⟩
  refine ⟨h.mono (x.le f) ?_, ?_, ?_⟩
  · rcases x.keep a o eo with q | ⟨φ, q⟩ | q
    · exact q.elim
    · rw [hi] at q; cases q
    · rw [q, eo]
  · cases e : F'.fz a with
    | none => rfl
    | some o' =>
      rcases x.nfz a o' e with q | q
      · rw [hz] at q; cases q
      · rw [eo] at q; cases q
  · cases e : F'.iv a with
    | none => rfl
    | some o' =>
      rcases x.niv a o' e with q | q
      · rw [hi] at q; cases q
      · rw [eo] at q; cases q
theorem SlotOk.ext {x : Option Sl} {ov : Option V} (h : SlotOk K N F H x ov) (e : Ext No F H F' H') (f : Fits F H) : SlotOk K N F' H' x ov := by
  cases x with
  | none => trivial
  | some s =>
    cases s with
    | sh d => obtain ⟨v, q, r⟩ := h; exact ⟨v, q, r.ext e f⟩
    | ow b d =>
      obtain ⟨a, q, n, hz, hi, r⟩ := h
      obtain ⟨r1, r2, r3⟩ := own_keep r hz hi e f
      exact ⟨a, q, n, r2, r3, r1⟩
theorem Stt.ext (s : Stt K N F ρ σ H) (e : Ext No F H F' H') : Stt K N F' ρ σ H' :=
  ⟨e.fits, s.len, fun i x ov h1 h2 => (s.slot i x ov h1 h2).ext e s.fits, s.dis⟩
theorem Stt.get (s : Stt K N F ρ σ H) {i : Nat} {d : D} (h : ρ[i]? = some (some (.sh d))) : ∃ v, σ[i]? = some (some v) ∧ Rep K F d v := by
  have hi := (List.getElem?_eq_some_iff.mp h).1
  have hi2 : i < σ.length := by rw [← s.len]; exact hi
  have h2 : σ[i]? = some σ[i] := List.getElem?_eq_getElem hi2
  obtain ⟨v, e, r⟩ := s.slot i _ _ h h2
  exact ⟨v, by rw [h2, e], r⟩
theorem Stt.geto (s : Stt K N F ρ σ H) {i : Nat} {b : Bool} {d : D} (h : ρ[i]? = some (some (.ow b d))) : ∃ a, σ[i]? = some (some (.ref a)) ∧ N b a ∧ F.fz a = none ∧ F.iv a = none ∧ OwnAt K F H a d := by
  have hi := (List.getElem?_eq_some_iff.mp h).1
  have hi2 : i < σ.length := by rw [← s.len]; exact hi
  have h2 : σ[i]? = some σ[i] := List.getElem?_eq_getElem hi2
  obtain ⟨a, e, r⟩ := s.slot i _ _ h h2
  exact ⟨a, by rw [h2, e], r⟩
theorem get_set {α : Type} {l : List α} {i j : Nat} {x y : α} (h : (l.set i x)[j]? = some y) : (i = j ∧ y = x) ∨ (i ≠ j ∧ l[j]? = some y) := by
  rw [List.getElem?_set] at h
  split at h
  · rename_i e
    subst e
    split at h
    · exact .inl ⟨rfl, (Option.some.inj h).symm⟩
    · cases h
  · exact .inr ⟨by assumption, h⟩
theorem Stt.set_sh (s : Stt K N F ρ σ H) {d : D} {v : V} (i : Nat) (r : Rep K F d v) : Stt K N F (ρ.set i (some (.sh d))) (σ.set i (some v)) H := by
  refine ⟨s.fits, by rw [List.length_set, List.length_set, s.len], fun j x ov h1 h2 => ?_, fun j k b1 d1 b2 d2 a h1 h2 h3 h4 => ?_⟩
  · rcases get_set h1 with ⟨e, h1⟩ | ⟨e, h1⟩
    · rcases get_set h2 with ⟨_, h2⟩ | ⟨e2, h2⟩
      · subst h1; subst h2; exact ⟨v, rfl, r⟩
      · exact absurd e e2
    · rcases get_set h2 with ⟨e2, h2⟩ | ⟨e2, h2⟩
      · exact absurd e2 e
      · exact s.slot j x ov h1 h2
  · rcases get_set h1 with ⟨e, h1⟩ | ⟨e, h1⟩
    · cases h1
    · rcases get_set h2 with ⟨e2, h2⟩ | ⟨e2, h2⟩
      · cases h2
      · rcases get_set h3 with ⟨e3, _⟩ | ⟨_, h3⟩
        · exact absurd e3 e
        · rcases get_set h4 with ⟨e4, _⟩ | ⟨_, h4⟩
          · exact absurd e4 e2
          · exact s.dis j k b1 d1 b2 d2 a h1 h2 h3 h4
/-- a slot is forgotten (whatever it then holds) -/
theorem Stt.drop (s : Stt K N F ρ σ H) (i : Nat) (ov : Option V) : Stt K N F (ρ.set i none) (σ.set i ov) H := by
  refine ⟨s.fits, by rw [List.length_set, List.length_set, s.len], fun j x ov h1 h2 => ?_, fun j k b1 d1 b2 d2 a h1 h2 h3 h4 => ?_⟩
  · rcases get_set h1 with ⟨e, h1⟩ | ⟨e, h1⟩
    · subst h1; trivial
    · rcases get_set h2 with ⟨e2, h2⟩ | ⟨e2, h2⟩
      · exact absurd e2 e
      · exact s.slot j x ov h1 h2
  · rcases get_set h1 with ⟨e, h1⟩ | ⟨e, h1⟩
    · cases h1
    · rcases get_set h2 with ⟨e2, h2⟩ | ⟨e2, h2⟩
      · cases h2
      · rcases get_set h3 with ⟨e3, _⟩ | ⟨_, h3⟩
        · exact absurd e3 e
        · rcases get_set h4 with ⟨e4, _⟩ | ⟨_, h4⟩
          · exact absurd e4 e2
          · exact s.dis j k b1 d1 b2 d2 a h1 h2 h3 h4
/-- a new owned object -/
theorem Stt.set_ow (s : Stt K N F ρ σ H) {c : Bool} {d : D} {a : Addr} {o : HO} (i : Nat) (n : N c a) (hn : H a = none) (r : OwnAt K F (upd H a o) a d) : Stt K N F (ρ.set i (some (.ow c d))) (σ.set i (some (.ref a))) (upd H a o) := by
  have x : Ext No F H F (upd H a o) := Ext.newM s.fits hn
  have s1 := s.ext x
  have old : ∀ (j : Nat) b1 d1, ρ[j]? = some (some (.ow b1 d1)) → σ[j]? = some (some (.ref a)) → False := fun j b1 d1 h1 h3 => by
    obtain ⟨b, e, _, _, _, q⟩ := s.geto h1
    rw [h3] at e
    cases e
    exact q.there hn
  refine ⟨s1.fits, by rw [List.length_set, List.length_set, s.len], fun j x ov h1 h2 => ?_, fun j k b1 d1 b2 d2 b h1 h2 h3 h4 => ?_⟩
  · rcases get_set h1 with ⟨e, h1⟩ | ⟨e, h1⟩
    · rcases get_set h2 with ⟨_, h2⟩ | ⟨e2, h2⟩
      · subst h1; subst h2; exact ⟨a, rfl, n, s.fits.none_fz hn, s.fits.none_iv hn, r⟩
      · exact absurd e e2
    · rcases get_set h2 with ⟨e2, h2⟩ | ⟨e2, h2⟩
      · exact absurd e2 e
      · exact s1.slot j x ov h1 h2
  · rcases get_set h3 with ⟨e3, q3⟩ | ⟨e3, h3⟩
    · cases q3
      rcases get_set h4 with ⟨e4, _⟩ | ⟨e4, h4⟩
      · omega
      · rcases get_set h2 with ⟨e2, _⟩ | ⟨_, h2⟩
        · exact absurd e2 e4
        · exact (old k b2 d2 h2 h4).elim
    · rcases get_set h1 with ⟨e1, _⟩ | ⟨_, h1⟩
      · exact absurd e1 e3
      · rcases get_set h4 with ⟨e4, q4⟩ | ⟨e4, h4⟩
        · cases q4
          exact (old j b1 d1 h1 h3).elim
        · rcases get_set h2 with ⟨e2, _⟩ | ⟨_, h2⟩
          · exact absurd e2 e4
          · exact s.dis j k b1 d1 b2 d2 b h1 h2 h3 h4
/-- an owned object changes -/
theorem Stt.own_upd (s : Stt K N F ρ σ H) {c : Bool} {d d' : D} {a : Addr} {o : HO} {i : Nat} (h : ρ[i]? = some (some (.ow c d))) (e : σ[i]? = some (some (.ref a))) (r : OwnAt K F (upd H a o) a d') : Stt K N F (ρ.set i (some (.ow c d'))) σ (upd H a o) := by
  obtain ⟨b, e', n, hz, hi, q⟩ := s.geto h
  rw [e] at e'
  cases e'
  have ft : Fits F (upd H a o) := ⟨fun b x z => by
      rw [upd_ne (fun w => by rw [w, hz] at z; cases z)]; exact s.fits.fz _ _ z, fun b φ z => by
      obtain ⟨x, h1, h2⟩ := s.fits.iv b φ z
      exact ⟨x, by rw [upd_ne (fun w => by rw [w, hi] at z; cases z)]; exact h1, h2⟩⟩
  refine ⟨ft, by rw [List.length_set, s.len], fun j x ov h1 h2 => ?_, fun j k b1 d1 b2 d2 b h1 h2 h3 h4 => ?_⟩
  · rcases get_set h1 with ⟨ej, hx⟩ | ⟨ej, h1⟩
    · subst ej; subst hx
      rw [e] at h2
      cases h2
      exact ⟨a, rfl, n, hz, hi, r⟩
    · have q1 := s.slot j x ov h1 h2
      cases x with
      | none => trivial
      | some y =>
        cases y with
        | sh _ => exact q1
        | ow b1 d1 =>
          obtain ⟨c', e1, e2, e3, e4, e5⟩ := q1
          have : c' ≠ a := fun z => by
            subst z
            subst e1
            exact ej (s.dis i j _ _ _ _ c' h h1 e h2)
          exact ⟨c', e1, e2, e3, e4, e5.mono ⟨Same.refl _, fun _ _ q => q, fun _ q _ => q⟩ (upd_ne this)⟩
  · have k1 : ∃ c1 d1', ρ[j]? = some (some (.ow c1 d1')) := by
      rcases get_set h1 with ⟨ej, _⟩ | ⟨_, h1⟩
      · subst ej; exact ⟨_, _, h⟩
      · exact ⟨_, _, h1⟩
    have k2 : ∃ c2 d2', ρ[k]? = some (some (.ow c2 d2')) := by
      rcases get_set h2 with ⟨ej, _⟩ | ⟨_, h2⟩
      · subst ej; exact ⟨_, _, h⟩
      · exact ⟨_, _, h2⟩
    obtain ⟨_, _, k1⟩ := k1
    obtain ⟨_, _, k2⟩ := k2
    exact s.dis j k _ _ _ _ b k1 k2 h3 h4
/-- an owned slot is frozen -/
def HO.of (o : HO) : HO := o
theorem Stt.freeze (s : Stt K N F ρ σ H) {c : Bool} {d : D} {a : Addr} {i : Nat} {o : HO} (h : ρ[i]? = some (some (.ow c d))) (e : σ[i]? = some (some (.ref a))) (ho : H a = some o) (hr : ∀ F', F'.fz a = some o → Le F F' → Rep K F' d (.ref a)) :
    Stt K N (F.add a o) (ρ.set i (some (.sh d))) σ H ∧ Le F (F.add a o) := by
  obtain ⟨b, e', n, hz, hi, q⟩ := s.geto h
  rw [e] at e'
  cases e'
  have le : Le F (F.add a o) := ⟨fun b x z => by
      show upd F.fz a o b = some x
      rw [upd_ne (fun w => by rw [w, hz] at z; cases z)]; exact z, fun _ _ q => q, fun b q1 q2 => by
      have q1 : upd F.fz a o b ≠ none := q1
      by_cases w : b = a
      · subst w; exact absurd hi q2
      · rw [upd_ne w] at q1; exact q1⟩
  refine ⟨⟨⟨fun b x z => ?_, fun b φ z => let ⟨y, h1, h2⟩ := s.fits.iv b φ z; ⟨y, h1, φ.mono _ _ _ le.fz h2⟩⟩, by rw [List.length_set, s.len], fun j x ov h1 h2 => ?_, fun j k b1 d1 b2 d2 b h1 h2 h3 h4 => ?_⟩, le⟩
  · have z : upd F.fz a o b = some x := z
    by_cases w : b = a
    · subst w; rw [upd_same] at z; rw [ho]; exact z
    · rw [upd_ne w] at z; exact s.fits.fz _ _ z
  · rcases get_set h1 with ⟨ej, hx⟩ | ⟨ej, h1⟩
    · subst ej; subst hx
      rw [e] at h2
      cases h2
      exact ⟨_, rfl, hr _ FS.add_same le⟩
    · have q1 := s.slot j x ov h1 h2
      cases x with
      | none => trivial
      | some y =>
        cases y with
        | sh _ => obtain ⟨v, q2, q3⟩ := q1; exact ⟨v, q2, q3.mono le⟩
        | ow b1 d1 =>
          obtain ⟨c', e1, e2, e3, e4, e5⟩ := q1
          have : c' ≠ a := fun z => by
            subst z
            subst e1
            exact ej (s.dis i j _ _ _ _ c' h h1 e h2)
          exact ⟨c', e1, e2, by show upd F.fz a o c' = none; rw [upd_ne this]; exact e3, e4, e5.mono le rfl⟩
  · rcases get_set h1 with ⟨_, z⟩ | ⟨_, h1⟩
    · cases z
    · rcases get_set h2 with ⟨_, z⟩ | ⟨_, h2⟩
      · cases z
      · exact s.dis j k _ _ _ _ b h1 h2 h3 h4
theorem wipe_get {vs : List Nat} {i : Nat} {ov : Option V} (h : (wipe σ vs)[i]? = some ov) : (i ∈ vs ∧ ov = none) ∨ (i ∉ vs ∧ σ[i]? = some ov) := by
  induction vs with
  | nil => exact .inr ⟨by simp, h⟩
  | cons v vs ih =>
    have h : ((wipe σ vs).set v none)[i]? = some ov := h
    rcases get_set h with ⟨e, q⟩ | ⟨e, q⟩
    · subst e; exact .inl ⟨by simp, q⟩
    · rcases ih q with ⟨m, z⟩ | ⟨m, z⟩
      · exact .inl ⟨by simp [m], z⟩
      · exact .inr ⟨by simp [m, Ne.symm e], z⟩
def wipeE (ρ : Env) : List Nat → Env
  | [] => ρ
  | v :: vs => (wipeE ρ vs).set v none
theorem Stt.wipe (s : Stt K N F ρ σ H) : ∀ (vs : List Nat), Stt K N F (wipeE ρ vs) (wipe σ vs) H
  | [] => s
  | v :: vs => Stt.drop (Stt.wipe s vs) v none
end
end Pu
namespace Pu
open PySem PySem.Spec L2

/-! ### readings over plain data -/
abbrev PTE := Env → DK → Prop
abbrev PTT := Env → (Bool → Prop) → Prop
abbrev PTA := Env → (List D → Prop) → Prop

/-- read: a frozen value, or an owned object itself -/
def RepT (K : Fg) (F : FS) (H : Hp) (d : D) (v : V) : Prop := Rep K F d v ∨ ∃ a, v = .ref a ∧ F.fz a = none ∧ F.iv a = none ∧ OwnAt K F H a d
def RepTs (K : Fg) (F : FS) (H : Hp) : List D → List V → Prop
  | [], vs => vs = []
  | d :: ds, vs => ∃ v r, vs = v :: r ∧ RepT K F H d v ∧ RepTs K F H ds r

def L (K : Fg) (p : PTE) : TE := fun σ H Q => ∃ N F ρ P, Stt K N F ρ σ H ∧ p ρ P ∧ ∀ d v F' H', P d → Ext No F H F' H' → Rep K F' d v → Q v H'
def Lr (K : Fg) (p : PTE) : TE := fun σ H Q => ∃ N F ρ P, Stt K N F ρ σ H ∧ p ρ P ∧ ∀ d v F' H', P d → Ext No F H F' H' → RepT K F' H' d v → Q v H'
def LT (K : Fg) (p : PTT) : TT := fun σ H Q => ∃ N F ρ P, Stt K N F ρ σ H ∧ p ρ P ∧ ∀ b F' H', P b → Ext No F H F' H' → Q b H'
def LA (K : Fg) (p : PTA) : TA := fun σ H Q => ∃ N F ρ P, Stt K N F ρ σ H ∧ p ρ P ∧ ∀ ds vs F' H', P ds → Ext No F H F' H' → Reps K F' ds vs → Q vs H'
def LAr (K : Fg) (p : PTA) : TA := fun σ H Q => ∃ N F ρ P, Stt K N F ρ σ H ∧ p ρ P ∧ ∀ ds vs F' H', P ds → Ext No F H F' H' → RepTs K F' H' ds vs → Q vs H'

def pe (X : Cx) (e : Expr) (p : PTE) : Prop := PE X e (L X.K p)
def pr (X : Cx) (e : Expr) (p : PTE) : Prop := PE X e (Lr X.K p)
def pt (X : Cx) (e : Expr) (p : PTT) : Prop := PT X e (LT X.K p)
def pw (X : Cx) (e : Expr) (p : PTT) : Prop := PW X e (LT X.K p)
def pa (X : Cx) (es : List Expr) (p : PTA) : Prop := PA X es (LA X.K p)
def par (X : Cx) (es : List Expr) (p : PTA) : Prop := PA X es (LAr X.K p)

section
variable {K : Fg} {F F' : FS} {H H' : Hp} {X : Cx}
theorem PE_weak {e : Expr} {t t' : TE} (h : PE X e t) (w : ∀ σ H Q, t' σ H Q → t σ H Q) : PE X e t' := ⟨fun pins s σ H Q I q => h.run pins s σ H Q I (w _ _ _ q)⟩
theorem PT_weak {e : Expr} {t t' : TT} (h : PT X e t) (w : ∀ σ H Q, t' σ H Q → t σ H Q) : PT X e t' := ⟨fun pins s σ H Q I q => h.run pins s σ H Q I (w _ _ _ q)⟩
theorem PW_weak {e : Expr} {t t' : TT} (h : PW X e t) (w : ∀ σ H Q, t' σ H Q → t σ H Q) : PW X e t' := ⟨fun wh pins s σ H Q I q => h.run wh pins s σ H Q I (w _ _ _ q)⟩
theorem PA_weak {e : List Expr} {t t' : TA} (h : PA X e t) (w : ∀ σ H Q, t' σ H Q → t σ H Q) : PA X e t' := ⟨fun pos pins s σ H Q I q => h.run pos pins s σ H Q I (w _ _ _ q)⟩

theorem RepT.ext {d : D} {v : V} (r : RepT K F H d v) (x : Ext No F H F' H') (f : Fits F H) : RepT K F' H' d v := by
  rcases r with r | ⟨a, e, hz, hi, o⟩
  · exact .inl (r.ext x f)
  · obtain ⟨r1, r2, r3⟩ := own_keep o hz hi x f
    exact .inr ⟨a, e, r2, r3, r1⟩
theorem RepTs.ext (x : Ext No F H F' H') (f : Fits F H) : ∀ {ds : List D} {vs : List V}, RepTs K F H ds vs → RepTs K F' H' ds vs
  | [], _, r => r
  | d :: ds, _, ⟨v, q, e, h1, h2⟩ => ⟨v, q, e, h1.ext x f, RepTs.ext x f h2⟩
theorem Reps.T : ∀ {ds : List D} {vs : List V}, Reps K F ds vs → RepTs K F H ds vs
  | [], _, r => by simpa only [Reps, RepTs] using r
  | d :: ds, _, r => by
    simp only [Reps] at r
    obtain ⟨v, q, e, h1, h2⟩ := r
    exact ⟨v, q, e, .inl h1, Reps.T h2⟩
theorem RepT.non {v : V} (r : RepT K F H .non v) : v = .non := by
  rcases r with r | ⟨a, e, _, _, o⟩
  · simpa only [Rep] using r
  · exact o.elim
theorem RepT.bl {b : Bool} {v : V} (r : RepT K F H (.bl b) v) : v = .bl b := by
  rcases r with r | ⟨a, e, _, _, o⟩
  · simpa only [Rep] using r
  · exact o.elim
theorem RepT.int {i : Int} {v : V} (r : RepT K F H (.int i) v) : v = .int i := by
  rcases r with r | ⟨a, e, _, _, o⟩
  · simpa only [Rep] using r
  · exact o.elim
theorem RepT.str {i : Str} {v : V} (r : RepT K F H (.str i) v) : v = .str i := by
  rcases r with r | ⟨a, e, _, _, o⟩
  · simpa only [Rep] using r
  · exact o.elim
theorem RepT.lst {ds : List D} {v : V} (r : RepT K F H (.lst ds) v) (f : Fits F H) : ∃ a vs, v = .ref a ∧ H a = some (.lst vs) ∧ Reps K F ds vs := by
  rcases r with r | ⟨a, e, _, _, o⟩
  · simp only [Rep] at r
    obtain ⟨a, vs, e, h, q⟩ := r
    exact ⟨a, vs, e, f.fz _ _ h, q⟩
  · obtain ⟨vs, h, q⟩ := o
    exact ⟨a, vs, e, h, q⟩
theorem RepT.klst {ds : List D} {v : V} (r : RepT K F H (.klst ds) v) (f : Fits F H) : ∃ a vs, v = .ref a ∧ SqL K H a vs ∧ Reps K F ds vs := by
  rcases r with r | ⟨a, e, _, _, o⟩
  · simp only [Rep] at r
    obtain ⟨a, vs, e, h, q⟩ := r
    exact ⟨a, vs, e, f.fz.seq h, q⟩
  · exact o.elim
theorem RepT.tup {ds : List D} {v : V} (r : RepT K F H (.tup ds) v) (f : Fits F H) : ∃ a vs, v = .ref a ∧ SqT K H a vs ∧ Reps K F ds vs := by
  rcases r with r | ⟨a, e, _, _, o⟩
  · simp only [Rep] at r
    obtain ⟨a, vs, e, h, q⟩ := r
    exact ⟨a, vs, e, Same.seqT f.fz h, q⟩
  · exact o.elim
theorem RepT.dK {ks : List Key} {ds : List D} {v : V} (r : RepT K F H (.dK ks ds) v) (f : Fits F H) : ∃ a vs, v = .ref a ∧ H a = some (.dK (ks.zip vs)) ∧ ks.length = ds.length ∧ Reps K F ds vs := by
  rcases r with r | ⟨a, e, _, _, o⟩
  · simp only [Rep] at r
    obtain ⟨a, vs, e, h, q⟩ := r
    exact ⟨a, vs, e, f.fz _ _ h, q⟩
  · obtain ⟨vs, h, q⟩ := o
    exact ⟨a, vs, e, h, q⟩
theorem RepT.dT {ks : List (List Key)} {ds : List D} {v : V} (r : RepT K F H (.dT ks ds) v) (f : Fits F H) : ∃ a vs, v = .ref a ∧ H a = some (.dT (ks.zip vs)) ∧ ks.length = ds.length ∧ Reps K F ds vs := by
  rcases r with r | ⟨a, e, _, _, o⟩
  · simp only [Rep] at r
    obtain ⟨a, vs, e, h, q⟩ := r
    exact ⟨a, vs, e, f.fz _ _ h, q⟩
  · obtain ⟨vs, h, q⟩ := o
    exact ⟨a, vs, e, h, q⟩
theorem RepT.ins {C : Addr} {ns : List Str} {ds : List D} {v : V} (r : RepT K F H (.ins C ns ds) v) (f : Fits F H) : ∃ a dx vs, v = .ref a ∧ H a = some (.ins C dx (ns.zip vs)) ∧ ns.length = ds.length ∧ Reps K F ds vs := by
  rcases r with r | ⟨a, e, _, _, o⟩
  · simp only [Rep] at r
    obtain ⟨a, dx, vs, e, h, q⟩ := r
    exact ⟨a, dx, vs, e, f.fz _ _ h, q⟩
  · obtain ⟨dx, vs, h, q⟩ := o
    exact ⟨a, dx, vs, e, h, q⟩
theorem rep_non : Rep K F .non .non := by simp only [Rep]
theorem rep_bl {b : Bool} : Rep K F (.bl b) (.bl b) := by simp only [Rep]
theorem rep_int {b : Int} : Rep K F (.int b) (.int b) := by simp only [Rep]
theorem rep_str {b : Str} : Rep K F (.str b) (.str b) := by simp only [Rep]
theorem rep_lst {ds : List D} {a : Addr} {vs : List V} (h : F.fz a = some (.lst vs)) (r : Reps K F ds vs) : Rep K F (.lst ds) (.ref a) := by
  simp only [Rep]; exact ⟨a, vs, rfl, h, r⟩
theorem rep_tup {ds : List D} {a : Addr} {vs : List V} (h : F.fz a = some (.tup vs)) (r : Reps K F ds vs) : Rep K F (.tup ds) (.ref a) := by
  simp only [Rep]; exact ⟨a, vs, rfl, .inl (.inl h), r⟩
theorem rep_tup' {ds : List D} {a : Addr} {vs : List V} (h : SqT K F.fz a vs) (r : Reps K F ds vs) : Rep K F (.tup ds) (.ref a) := by
  simp only [Rep]; exact ⟨a, vs, rfl, h, r⟩

/-! ### the outcome of a step, in short -/
/-- what a continuation wants: Q at every value of a datum of P in a grown heap -/
def Kont (K : Fg) (F : FS) (H : Hp) (P : DK) (Q : VK) : Prop := ∀ d v F' H', P d → Ext No F H F' H' → Rep K F' d v → Q v H'
theorem Kont.here {P : DK} {Q : VK} (k : Kont K F H P Q) (f : Fits F H) {d : D} {v : V} (p : P d) (r : Rep K F d v) : Q v H := k d v F H p (Ext.refl f) r
theorem Kont.int {P : DK} {Q : VK} (k : Kont K F H P Q) (f : Fits F H) {i : Int} (p : P (.int i)) : Q (.int i) H := k.here f p rep_int
theorem Kont.bl {P : DK} {Q : VK} (k : Kont K F H P Q) (f : Fits F H) {i : Bool} (p : P (.bl i)) : Q (.bl i) H := k.here f p rep_bl
theorem Kont.str {P : DK} {Q : VK} (k : Kont K F H P Q) (f : Fits F H) {i : Str} (p : P (.str i)) : Q (.str i) H := k.here f p rep_str
theorem Kont.non {P : DK} {Q : VK} (k : Kont K F H P Q) (f : Fits F H) (p : P .non) : Q .non H := k.here f p rep_non
theorem Kont.lst {P : DK} {Q : VK} (k : Kont K F H P Q) (f : Fits F H) {ds : List D} {vs : List V} (p : P (.lst ds)) (r : Reps K F ds vs) : ∀ a, H a = none → Q (.ref a) (upd H a (.lst vs)) := fun a ha => by
  have x : Ext No F H (F.add a (.lst vs)) (upd H a (.lst vs)) := Ext.new f ha
  exact k _ _ _ _ p x (rep_lst FS.add_same (r.ext x f))
theorem Kont.tup {P : DK} {Q : VK} (k : Kont K F H P Q) (f : Fits F H) {ds : List D} {vs : List V} (p : P (.tup ds)) (r : Reps K F ds vs) : ∀ a, H a = none → Q (.ref a) (upd H a (.tup vs)) := fun a ha => by
  have x : Ext No F H (F.add a (.tup vs)) (upd H a (.tup vs)) := Ext.new f ha
  exact k _ _ _ _ p x (rep_tup FS.add_same (r.ext x f))
theorem Kont.ext {P : DK} {Q : VK} (k : Kont K F H P Q) (x : Ext No F H F' H') : Kont K F' H' P Q := fun d v F2 H2 p y r => k d v F2 H2 p (x.then0 y) r

/-! ### names, constants -/
def atSh (P : DK) : Option (Option Sl) → Prop
  | some (some (.sh d)) => P d
  | _ => False
def atAny (P : DK) : Option (Option Sl) → Prop
  | some (some (.sh d)) => P d
  | some (some (.ow _ d)) => P d
  | _ => False
def pVar (i : Nat) : PTE := fun ρ P => atSh P ρ[i]?
def pVarR (i : Nat) : PTE := fun ρ P => atAny P ρ[i]?
theorem atSh_inv {P : DK} {x : Option (Option Sl)} (h : atSh P x) : ∃ d, x = some (some (.sh d)) ∧ P d := by
  match x, h with
  | some (some (.sh d)), h => exact ⟨d, rfl, h⟩
theorem atAny_inv {P : DK} {x : Option (Option Sl)} (h : atAny P x) : ∃ d, (x = some (some (.sh d)) ∨ ∃ b, x = some (some (.ow b d))) ∧ P d := by
  match x, h with
  | some (some (.sh d)), h => exact ⟨d, .inl rfl, h⟩
  | some (some (.ow b d)), h => exact ⟨d, .inr ⟨b, rfl⟩, h⟩
def pC (d : D) : PTE := fun _ P => P d
theorem pe.r {e : Expr} {p : PTE} (h : pe X e p) : pr X e p := PE_weak h fun σ H Q ⟨N, F, ρ, P, s, q, k⟩ => ⟨N, F, ρ, P, s, q, fun d v F' H' a b c => k d v F' H' a b (.inl c)⟩
theorem pa.r {e : List Expr} {p : PTA} (h : pa X e p) : par X e p := PA_weak h fun σ H Q ⟨N, F, ρ, P, s, q, k⟩ => ⟨N, F, ρ, P, s, q, fun d v F' H' a b c => k d v F' H' a b c.T⟩
theorem e_var (i : Nat) {x : Str} {pos : Pos} (hN : X.N[i]? = some x := by rfl) (hv : Vis X.env.scope x := by first | exact Or.inl rfl | exact Or.inr (Or.inl rfl) | exact Or.inr (Or.inr rfl)) (hd : (x == ("__debug__" : Str)) = false := by decide)
    (hcd : (x == ("__classdict__" : Str)) = false := by decide) : pe X (.Name x pos) (pVar i) :=
  PE_weak (pe_var hN hv hd hcd) fun σ H Q ⟨N, F, ρ, P, s, q, k⟩ => by
    obtain ⟨d, e, p⟩ := atSh_inv q
    obtain ⟨v, e2, r⟩ := s.get e
    exact ⟨v, e2, k d v F H p (Ext.refl s.fits) r⟩
theorem r_var (i : Nat) {x : Str} {pos : Pos} (hN : X.N[i]? = some x := by rfl) (hv : Vis X.env.scope x := by first | exact Or.inl rfl | exact Or.inr (Or.inl rfl) | exact Or.inr (Or.inr rfl)) (hd : (x == ("__debug__" : Str)) = false := by decide)
    (hcd : (x == ("__classdict__" : Str)) = false := by decide) : pr X (.Name x pos) (pVarR i) :=
  PE_weak (pe_var hN hv hd hcd) fun σ H Q ⟨N, F, ρ, P, s, q, k⟩ => by
    obtain ⟨d, e, p⟩ := atAny_inv q
    rcases e with e | e
    · obtain ⟨v, e2, r⟩ := s.get e
      exact ⟨v, e2, k d v F H p (Ext.refl s.fits) (.inl r)⟩
    · obtain ⟨b, e⟩ := e
      obtain ⟨a, e2, _, r1, r2, r3⟩ := s.geto e
      exact ⟨.ref a, e2, k d _ F H p (Ext.refl s.fits) (.inr ⟨a, rfl, r1, r2, r3⟩)⟩
theorem e_const {e : Expr} {v : V} {d : D} (h : PE X e (tC v)) (r : ∀ F, Rep X.K F d v) : pe X e (pC d) :=
  PE_weak h fun σ H Q ⟨N, F, ρ, P, s, p, k⟩ => k d v F H p (Ext.refl s.fits) (r F)
theorem e_int {i j pos} : pe X (.Constant (.int i) j pos) (pC (.int i)) := e_const pe_int fun _ => rep_int
theorem e_bl {b j pos} : pe X (.Constant (.bool b) j pos) (pC (.bl b)) := e_const pe_bl fun _ => rep_bl
theorem e_non {j pos} : pe X (.Constant .none j pos) (pC .non) := e_const pe_non fun _ => rep_non
theorem e_str {x j pos} : pe X (.Constant (.str x) j pos) (pC (.str x)) := e_const pe_str fun _ => rep_str
/-- a module's constant: an int, a text, a tuple .. -/
theorem e_glob {x : Str} {v : V} {u : Value} {d : D} {pos : Pos} (hg : Gl X x) (hm : X.mg x = some u) (r : RelV v u) (q : ∀ F, Rep X.K F d v) (hd : (x == ("__debug__" : Str)) = false := by decide) : pe X (.Name x pos) (pC d) := e_const (pe_glob hg hm r hd) q

/-! ### two operands -/
def pOp (w : D → D → DK → Prop) (pa pb : PTE) : PTE := fun ρ P => pa ρ fun d => pb ρ fun e => w d e P
def opS (X : Cx) (f : Value → Value → Sem Value) (w : D → D → DK → Prop) : Prop :=
  ∃ r, OpR X f r ∧ ∀ d e x y F H P Q, Fits F H → RepT X.K F H d x → RepT X.K F H e y → w d e P → Kont X.K F H P Q → r x y H Q
theorem two {a b : Expr} {pa pb : PTE} {w : D → D → DK → Prop} {r : R2} (hr : ∀ d e x y F H P Q, Fits F H → RepT X.K F H d x → RepT X.K F H e y → w d e P → Kont X.K F H P Q → r x y H Q) :
    ∀ σ H Q, L X.K (pOp w pa pb) σ H Q → tOp r (Lr X.K pa) (Lr X.K pb) σ H Q := fun σ H Q ⟨N, F, ρ, P, s, p, k⟩ =>
  ⟨N, F, ρ, _, s, p, fun d v F1 H1 p1 x1 r1 => ⟨N, F1, ρ, _, s.ext x1, p1, fun e u F2 H2 p2 x2 r2 =>
    hr d e v u F2 H2 P Q x2.fits (r1.ext x2 x1.fits) r2 p2 fun d' v' F' H' a b c => k d' v' F' H' a ((x1.then0 x2).then0 b) c⟩⟩
theorem e_bin {a b : Expr} {pa pb : PTE} {op : Operator} {w : D → D → DK → Prop} {pos : Pos} (ho : opS X (binaryOp op) w) (ha : pr X a pa) (hb : pr X b pb) : pe X (.BinOp a op b pos) (pOp w pa pb) := by
  obtain ⟨r, h, hr⟩ := ho
  exact PE_weak (pe_op h ha hb) (two (a := a) (b := b) hr)
theorem e_cmp {a b : Expr} {pa pb : PTE} {op : CmpOp} {w : D → D → DK → Prop} {pos : Pos} (ho : opS X (compareOp op) w) (ha : pr X a pa) (hb : pr X b pb) (hm : behindInMarks op b = false := by first | exact nomark _ | rfl | with_unfolding_all rfl) : pe X (.Compare a [op] [b] pos) (pOp w pa pb) := by
  obtain ⟨r, h, hr⟩ := ho
  exact PE_weak (pe_cmpR h ha hb hm) (two (a := a) (b := b) hr)

/-! ### ints -/
def addW : D → D → DK → Prop
  | .int i, .int j, P => P (.int (i + j))
  | .int i, .bl k, P => P (.int (i + PyProof.Rows.b2i k))
  | .str i, .str j, P => i.length + j.length ≤ sizeLine ∧ P (.str (i ++ j))
  | .lst a, .lst b, P => a.length + b.length ≤ sizeLine ∧ P (.lst (a ++ b))
  | _, _, _ => False
theorem o_add : opS X (binaryOp .Add) addW := by
  refine ⟨_, ((OpR.or op_add op_add_ib).or op_add_str).or op_cat, fun d e x y F H P Q f r1 r2 h k => ?_⟩
  cases d <;> try exact h.elim
  · cases e <;> try exact h.elim
    · exact .inl (.inl (.inr ⟨_, _, r1.int, r2.bl, k.int f h⟩))
    · exact .inl (.inl (.inl ⟨_, _, r1.int, r2.int, k.int f h⟩))
  · cases e <;> try exact h.elim
    exact .inl (.inr ⟨_, _, r1.str, r2.str, h.1, k.str f h.2⟩)
  · cases e <;> try exact h.elim
    obtain ⟨a, vs, rfl, h1, q1⟩ := r1.lst f
    obtain ⟨b, us, rfl, h2, q2⟩ := r2.lst f
    refine .inr ⟨a, b, vs, us, rfl, rfl, h1, h2, by rw [q1.length, q2.length]; exact h.1, k.lst f h.2 (q1.append q2)⟩
def intW (g : Int → Int → DK → Prop) : D → D → DK → Prop
  | .int i, .int j, P => g i j P
  | _, _, _ => False
theorem o_int {fo : Value → Value → Sem Value} {C : Int → Int → Prop} {g : Int → Int → Int} (h : OpR X fo (rI C fun i j => .int (g i j))) : opS X fo (intW fun i j P => C i j ∧ P (.int (g i j))) := by
  refine ⟨_, h, fun d e x y F H P Q f r1 r2 h k => ?_⟩
  cases d <;> try exact h.elim
  cases e <;> try exact h.elim
  exact ⟨_, _, r1.int, r2.int, h.1, k.int f h.2⟩
theorem o_int0 {fo : Value → Value → Sem Value} {g : Int → Int → Int} (h : OpR X fo (rI0 fun i j => .int (g i j))) : opS X fo (intW fun i j P => P (.int (g i j))) := by
  refine ⟨_, h, fun d e x y F H P Q f r1 r2 h k => ?_⟩
  cases d <;> try exact h.elim
  cases e <;> try exact h.elim
  exact ⟨_, _, r1.int, r2.int, k.int f h⟩
theorem o_intB {fo : Value → Value → Sem Value} {g : Int → Int → Bool} (h : OpR X fo (rI0 fun i j => .bl (g i j))) : opS X fo (intW fun i j P => P (.bl (g i j))) := by
  refine ⟨_, h, fun d e x y F H P Q f r1 r2 h k => ?_⟩
  cases d <;> try exact h.elim
  cases e <;> try exact h.elim
  exact ⟨_, _, r1.int, r2.int, k.bl f h⟩
def subW : D → D → DK → Prop := intW fun i j P => P (.int (i - j))
def fdivW : D → D → DK → Prop := intW fun i j P => CDivW i j ∧ P (.int (i / j))
def modW : D → D → DK → Prop := intW fun i j P => 0 < j ∧ P (.int (i % j))
def powW : D → D → DK → Prop := intW fun i j P => CPow i j ∧ P (.int (i ^ j.toNat))
def ltW : D → D → DK → Prop := intW fun i j P => P (.bl (decide (i < j)))
def leW : D → D → DK → Prop := intW fun i j P => P (.bl (decide (i ≤ j)))
def gtW : D → D → DK → Prop := intW fun i j P => P (.bl (decide (j < i)))
def geW : D → D → DK → Prop := intW fun i j P => P (.bl (decide (j ≤ i)))
theorem o_sub : opS X (binaryOp .Sub) subW := o_int0 op_sub
theorem o_fdiv : opS X (binaryOp .FloorDiv) fdivW := o_int op_fdivW
theorem o_mod : opS X (binaryOp .Mod) modW := o_int op_mod
theorem o_pow : opS X (binaryOp .Pow) powW := o_int op_pow
theorem o_lt : opS X (compareOp .Lt) ltW := o_intB op_lt
theorem o_le : opS X (compareOp .LtE) leW := o_intB op_le
theorem o_gt : opS X (compareOp .Gt) gtW := o_intB op_gt
theorem o_ge : opS X (compareOp .GtE) geW := o_intB op_ge
/-- a product of two ints (their bits together below a million, or one of them small); a list times an int -/
def MulOk (i j : Int) : Prop := CMul i j ∨ CMulW i j
def mulW : D → D → DK → Prop
  | .int i, .int j, P => MulOk i j ∧ P (.int (i * j))
  | .lst a, .int k, P => -(2 ^ 63) ≤ k ∧ k < 2 ^ 63 ∧ a.length * k.toNat ≤ sizeLine ∧ P (.lst (List.replicate k.toNat a).flatten)
  | _, _, _ => False
theorem Reps.rep {ds : List D} {vs : List V} (r : Reps K F ds vs) : ∀ n : Nat, Reps K F (List.replicate n ds).flatten (List.replicate n vs).flatten
  | 0 => by simpa using Reps.nil
  | n + 1 => by
    rw [List.replicate_succ, List.flatten_cons, List.replicate_succ, List.flatten_cons]
    exact r.append (Reps.rep r n)
theorem o_mul : opS X (binaryOp .Mult) mulW := by
  refine ⟨_, (op_mul.or op_mulW).or op_rep, fun d e x y F H P Q f r1 r2 h k => ?_⟩
  cases d <;> try exact h.elim
  · cases e <;> try exact h.elim
    rcases h.1 with h1 | h1
    · exact .inl (.inl ⟨_, _, r1.int, r2.int, h1, k.int f h.2⟩)
    · exact .inl (.inr ⟨_, _, r1.int, r2.int, h1, k.int f h.2⟩)
  · cases e <;> try exact h.elim
    obtain ⟨a, vs, rfl, h1, q1⟩ := r1.lst f
    exact .inr ⟨a, _, vs, rfl, r2.int, h1, h.1, h.2.1, by rw [q1.length]; exact h.2.2.1, k.lst f h.2.2.2 (q1.rep _)⟩

/-! ### == -/
mutual
def D.py : D → PyData
  | .non => .none
  | .bl b => .bool b
  | .int i => .int i
  | .str s => .str s
  | .tup ds => .tuple (D.pys ds)
  | .lst ds => .list (D.pys ds)
  | .klst ds => .list (D.pys ds)
  | .dK _ _ => .dict []
  | .dT _ _ => .dict []
  | .ins _ _ _ => .dict []
  | .pool => .dict []
  | .rf _ => .dict []
def D.pys : List D → List PyData
  | [] => []
  | d :: ds => d.py :: D.pys ds
end
mutual
/-- data alone: no dict, no object within -/
def D.plain : D → Bool
  | .non => true
  | .bl _ => true
  | .int _ => true
  | .str _ => true
  | .tup ds => D.plains ds
  | .lst ds => D.plains ds
  | .klst ds => D.plains ds
  | _ => false
def D.plains : List D → Bool
  | [] => true
  | d :: ds => d.plain && D.plains ds
end
mutual
theorem Rep.dp (f : Same F.fz H) : ∀ {d : D} {v : V}, Rep K F d v → d.plain = true → Dp K H v d.py
  | .non, _, r, _ => by simp only [Rep] at r; subst r; exact .non
  | .bl _, _, r, _ => by simp only [Rep] at r; subst r; exact .bl _
  | .int _, _, r, _ => by simp only [Rep] at r; subst r; exact .int _
  | .str _, _, r, _ => by simp only [Rep] at r; subst r; exact .str _
  | .tup ds, v, r, h => by
    simp only [Rep] at r
    obtain ⟨a, vs, rfl, s, q⟩ := r
    simp only [D.py]
    exact .tup (Same.seqT f s) (Reps.dp f q (by simpa only [D.plain] using h))
  | .lst ds, v, r, h => by
    simp only [Rep] at r
    obtain ⟨a, vs, rfl, s, q⟩ := r
    simp only [D.py]
    exact .lst (.inl (.inl (f _ _ s))) (Reps.dp f q (by simpa only [D.plain] using h))
  | .klst ds, v, r, h => by
    simp only [Rep] at r
    obtain ⟨a, vs, rfl, s, q⟩ := r
    simp only [D.py]
    exact .lst (f.seq s) (Reps.dp f q (by simpa only [D.plain] using h))
  | .dK _ _, _, _, h => by simp [D.plain] at h
  | .dT _ _, _, _, h => by simp [D.plain] at h
  | .ins _ _ _, _, _, h => by simp [D.plain] at h
  | .pool, _, _, h => by simp [D.plain] at h
  | .rf _, _, _, h => by simp [D.plain] at h
theorem Reps.dp (f : Same F.fz H) : ∀ {ds : List D} {vs : List V}, Reps K F ds vs → D.plains ds = true → DpAll K H vs (D.pys ds)
  | [], _, r, _ => by simp only [Reps] at r; subst r; simp only [D.pys]; exact .nil
  | d :: ds, _, r, h => by
    simp only [Reps] at r
    obtain ⟨v, q, rfl, h1, h2⟩ := r
    simp only [D.plains, Bool.and_eq_true] at h
    simp only [D.pys]
    exact .cons (Rep.dp f h1 h.1) (Reps.dp f h2 h.2)
end
theorem RepT.dp {d : D} {v : V} (r : RepT K F H d v) (f : Fits F H) (h : d.plain = true) : Dp K H v d.py := by
  rcases r with r | ⟨a, rfl, _, _, o⟩
  · exact r.dp f.fz h
  · cases d <;> simp only [OwnAt] at o
    · obtain ⟨vs, h1, q⟩ := o
      simp only [D.py]
      exact .lst (.inl (.inl h1)) (Reps.dp f.fz q (by simpa only [D.plain] using h))
    · simp [D.plain] at h
    · simp [D.plain] at h
    · simp [D.plain] at h
/-- fit for == : data, depth and texts within the library's bounds -/
def D.ok (d : D) : Prop := d.plain = true ∧ SeqAt.shaped d.py = true
def D.eqv (d e : D) : Bool := PyData.eqv d.py e.py
def eqW : D → D → DK → Prop
  | .int i, .int j, P => P (.bl (decide (i = j)))
  | .str i, .str j, P => P (.bl (decide (i = j)))
  | .bl i, .bl j, P => P (.bl (decide (i = j)))
  | .non, .non, P => P (.bl true)
  | .non, .int _, P => P (.bl false)
  | .int _, .non, P => P (.bl false)
  | .non, .str _, P => P (.bl false)
  | .str _, .non, P => P (.bl false)
  | .int _, .str _, P => P (.bl false)
  | .str _, .int _, P => P (.bl false)
  | d, e, P => d.ok ∧ e.ok ∧ P (.bl (d.eqv e))
def neW : D → D → DK → Prop
  | .int i, .int j, P => P (.bl (!decide (i = j)))
  | .str i, .str j, P => P (.bl (!decide (i = j)))
  | .bl i, .bl j, P => P (.bl (!decide (i = j)))
  | .non, .non, P => P (.bl false)
  | .non, .int _, P => P (.bl true)
  | .int _, .non, P => P (.bl true)
  | .non, .str _, P => P (.bl true)
  | .str _, .non, P => P (.bl true)
  | .int _, .str _, P => P (.bl true)
  | .str _, .int _, P => P (.bl true)
  | d, e, P => d.ok ∧ e.ok ∧ P (.bl (!d.eqv e))
theorem dec_V_int {i j : Int} : decide (V.int i = V.int j) = decide (i = j) := by simp
theorem dec_V_str {i j : Str} : decide (V.str i = V.str j) = decide (i = j) := by simp
theorem dec_V_bl {i j : Bool} : decide (V.bl i = V.bl j) = decide (i = j) := by simp
theorem o_eq (hu : X.A.units + 64 < cLine) : opS X (compareOp .Eq) eqW := by
  refine ⟨_, op_eq.or (op_eqD hu), fun d e x y F H P Q f r1 r2 h k => ?_⟩
  have deep : d.ok ∧ e.ok ∧ P (.bl (d.eqv e)) → (rEq x y H Q ∨ rEqD X.K x y H Q) := fun ⟨h1, h2, h3⟩ =>
    .inr ⟨_, _, r1.dp f h1.1, r2.dp f h2.1, h1.2, h2.2, k.bl f h3⟩
  cases d <;> cases e <;> first
    | exact deep h
    | (have e1 := r1.int; have e2 := r2.int; subst e1; subst e2; refine .inl ⟨rfl, ?_⟩; rw [dec_V_int]; exact k.bl f h)
    | (have e1 := r1.str; have e2 := r2.str; subst e1; subst e2; refine .inl ⟨rfl, ?_⟩; rw [dec_V_str]; exact k.bl f h)
    | (have e1 := r1.bl; have e2 := r2.bl; subst e1; subst e2; refine .inl ⟨rfl, ?_⟩; rw [dec_V_bl]; exact k.bl f h)
    | (have e1 := r1.non; have e2 := r2.non; subst e1; subst e2; exact .inl ⟨rfl, k.bl f h⟩)
    | (have e1 := r1.non; have e2 := r2.int; subst e1; subst e2; exact .inl ⟨rfl, k.bl f h⟩)
    | (have e1 := r1.int; have e2 := r2.non; subst e1; subst e2; exact .inl ⟨rfl, k.bl f h⟩)
    | (have e1 := r1.non; have e2 := r2.str; subst e1; subst e2; exact .inl ⟨rfl, k.bl f h⟩)
    | (have e1 := r1.str; have e2 := r2.non; subst e1; subst e2; exact .inl ⟨rfl, k.bl f h⟩)
    | (have e1 := r1.int; have e2 := r2.str; subst e1; subst e2; exact .inl ⟨rfl, k.bl f h⟩)
    | (have e1 := r1.str; have e2 := r2.int; subst e1; subst e2; exact .inl ⟨rfl, k.bl f h⟩)
theorem o_ne (hu : X.A.units + 64 < cLine) : opS X (compareOp .NotEq) neW := by
  refine ⟨_, op_ne.or (op_neD hu), fun d e x y F H P Q f r1 r2 h k => ?_⟩
  have deep : d.ok ∧ e.ok ∧ P (.bl (!d.eqv e)) → (rNe x y H Q ∨ rNeD X.K x y H Q) := fun ⟨h1, h2, h3⟩ =>
    .inr ⟨_, _, r1.dp f h1.1, r2.dp f h2.1, h1.2, h2.2, k.bl f h3⟩
  cases d <;> cases e <;> first
    | exact deep h
    | (have e1 := r1.int; have e2 := r2.int; subst e1; subst e2; refine .inl ⟨rfl, ?_⟩; rw [dec_V_int]; exact k.bl f h)
    | (have e1 := r1.str; have e2 := r2.str; subst e1; subst e2; refine .inl ⟨rfl, ?_⟩; rw [dec_V_str]; exact k.bl f h)
    | (have e1 := r1.bl; have e2 := r2.bl; subst e1; subst e2; refine .inl ⟨rfl, ?_⟩; rw [dec_V_bl]; exact k.bl f h)
    | (have e1 := r1.non; have e2 := r2.non; subst e1; subst e2; exact .inl ⟨rfl, k.bl f h⟩)
    | (have e1 := r1.non; have e2 := r2.int; subst e1; subst e2; exact .inl ⟨rfl, k.bl f h⟩)
    | (have e1 := r1.int; have e2 := r2.non; subst e1; subst e2; exact .inl ⟨rfl, k.bl f h⟩)
    | (have e1 := r1.non; have e2 := r2.str; subst e1; subst e2; exact .inl ⟨rfl, k.bl f h⟩)
    | (have e1 := r1.str; have e2 := r2.non; subst e1; subst e2; exact .inl ⟨rfl, k.bl f h⟩)
    | (have e1 := r1.int; have e2 := r2.str; subst e1; subst e2; exact .inl ⟨rfl, k.bl f h⟩)
    | (have e1 := r1.str; have e2 := r2.int; subst e1; subst e2; exact .inl ⟨rfl, k.bl f h⟩)
end
end Pu
namespace Pu
open PySem PySem.Spec L2
section
variable {K : Fg} {F F' : FS} {H H' : Hp} {X : Cx}

/-! ### tests -/
def isBl (P : Bool → Prop) : D → Prop
  | .bl k => P k
  | _ => False
theorem isBl_inv {P : Bool → Prop} {z : D} (h : isBl P z) : ∃ k, z = .bl k ∧ P k := by
  cases z <;> first | exact h.elim | exact ⟨_, rfl, h⟩
def tst (p : PTE) : PTT := fun ρ P => p ρ (isBl P)
def pAndT (p q : PTT) : PTT := fun ρ P => p ρ fun c => if c = true then q ρ P else P false
def pOrT (p q : PTT) : PTT := fun ρ P => p ρ fun c => if c = true then P true else q ρ P
def pNotT (p : PTT) : PTT := fun ρ P => p ρ fun c => P (!c)
def truW : D → (Bool → Prop) → Prop
  | .non, P => P false
  | .bl b, P => P b
  | .int i, P => P (i != 0)
  | .str s, P => s.length ≤ sizeLine ∧ P ((s.length : Int) != 0)
  | .lst ds, P => P (!ds.isEmpty)
  | .klst ds, P => P (!ds.isEmpty)
  | .tup ds, P => P (!ds.isEmpty)
  | _, _ => False
def pTru (p : PTE) : PTT := fun ρ P => p ρ fun d => truW d P
theorem Reps.isEmpty {ds : List D} {vs : List V} (r : Reps K F ds vs) : vs.isEmpty = ds.isEmpty := by
  have := r.length
  cases ds <;> cases vs <;> simp_all
theorem truW_ok {d : D} {x : V} {P : Bool → Prop} (f : Fits F H) (r : RepT K F H d x) (h : truW d P) : ∃ k, TruV K x H k ∧ P k := by
  cases d <;> try exact h.elim
  · have e := r.non; subst e; exact ⟨_, rfl, h⟩
  · have e := r.bl; subst e; exact ⟨_, rfl, h⟩
  · have e := r.int; subst e; exact ⟨_, rfl, h⟩
  · have e := r.str; subst e; exact ⟨_, ⟨h.1, rfl⟩, h.2⟩
  · obtain ⟨a, vs, rfl, h1, q⟩ := r.tup f; exact ⟨_, .inr (.inl ⟨vs, h1, by rw [q.isEmpty]⟩), h⟩
  · obtain ⟨a, vs, rfl, h1, q⟩ := r.lst f; exact ⟨_, .inl ⟨vs, SqL.of h1, by rw [q.isEmpty]⟩, h⟩
  · obtain ⟨a, vs, rfl, h1, q⟩ := r.klst f; exact ⟨_, .inl ⟨vs, h1, by rw [q.isEmpty]⟩, h⟩
theorem t_tru {e : Expr} {p : PTE} (h : pr X e p) (he : ∀ whole, isTrue e X.env whole = (do let v ← whole; standAt e.pos; holding [v] (truthy v)) := by intro _; rfl) : pt X e (pTru p) :=
  PT_weak (pt_truth h he) fun σ H Q ⟨N, F, ρ, P, s, q, k⟩ => ⟨N, F, ρ, _, s, q, fun d v F' H' a b c => by
    obtain ⟨k', h1, h2⟩ := truW_ok b.fits c a
    exact ⟨k', h1, k _ _ _ h2 b⟩⟩
theorem t_cmp {a b : Expr} {pa pb : PTE} {op : CmpOp} {w : D → D → DK → Prop} {pos : Pos} (ho : opS X (compareOp op) w) (ha : pr X a pa) (hb : pr X b pb) (hm : behindInMarks op b = false := by first | exact nomark _ | rfl | with_unfolding_all rfl) :
    pt X (.Compare a [op] [b] pos) (tst (pOp w pa pb)) := by
  obtain ⟨r, h, hr⟩ := ho
  refine PT_weak (pt_cmpR h ha hb hm) fun σ H Q ⟨N, F, ρ, P, s, q, k⟩ => ?_
  refine two (a := a) (b := b) hr σ H _ ⟨N, F, ρ, _, s, q, fun d v F' H' p x r => ?_⟩
  obtain ⟨b, rfl, z⟩ := isBl_inv p
  simp only [Rep] at r
  subst r
  exact ⟨b, rfl, k _ _ _ z x⟩
theorem w_and1 {a : Expr} {p : PTT} {pos : Pos} (ha : pt X a p) : pw X (.BoolOp .And [a] pos) p := pw_and1 ha
theorem w_or1 {a : Expr} {p : PTT} {pos : Pos} (ha : pt X a p) : pw X (.BoolOp .Or [a] pos) p := pw_or1 ha
theorem w_and {a b : Expr} {rest : List Expr} {p q : PTT} {pos : Pos} (ha : pt X a p) (hb : pw X (.BoolOp .And (b :: rest) pos) q) : pw X (.BoolOp .And (a :: b :: rest) pos) (pAndT p q) :=
  PW_weak (pw_and ha hb) fun σ H Q ⟨N, F, ρ, P, s, h, k⟩ => ⟨N, F, ρ, _, s, h, fun b F1 H1 p1 x1 => by
    cases b with
    | true => exact ⟨N, F1, ρ, P, s.ext x1, p1, fun c F2 H2 p2 x2 => k _ _ _ p2 (x1.then0 x2)⟩
    | false => exact k _ _ _ p1 x1⟩
theorem w_or {a b : Expr} {rest : List Expr} {p q : PTT} {pos : Pos} (ha : pt X a p) (hb : pw X (.BoolOp .Or (b :: rest) pos) q) : pw X (.BoolOp .Or (a :: b :: rest) pos) (pOrT p q) :=
  PW_weak (pw_or ha hb) fun σ H Q ⟨N, F, ρ, P, s, h, k⟩ => ⟨N, F, ρ, _, s, h, fun b F1 H1 p1 x1 => by
    cases b with
    | true => exact k _ _ _ p1 x1
    | false => exact ⟨N, F1, ρ, P, s.ext x1, p1, fun c F2 H2 p2 x2 => k _ _ _ p2 (x1.then0 x2)⟩⟩
theorem t_bool {e : Expr} {p : PTT} (h : pw X e p) : pt X e p := h.pt
theorem t_not {a : Expr} {p : PTT} {pos : Pos} (ha : pt X a p) : pt X (.UnaryOp .Not a pos) (pNotT p) :=
  PT_weak (pt_not ha) fun σ H Q ⟨N, F, ρ, P, s, h, k⟩ => ⟨N, F, ρ, _, s, h, fun b F1 H1 p1 x1 => k _ _ _ p1 x1⟩

/-! ### and, or, not as values (of bools); if .. else -/
def pAnd (p q : PTE) : PTE := fun ρ P => p ρ (isBl fun c => if c = true then q ρ P else P (.bl false))
def pOr (p q : PTE) : PTE := fun ρ P => p ρ (isBl fun c => if c = true then P (.bl true) else q ρ P)
def pNot (p : PTE) : PTE := fun ρ P => p ρ (isBl fun c => P (.bl (!c)))
def pIf (t : PTT) (p q : PTE) : PTE := fun ρ P => t ρ fun c => if c = true then p ρ P else q ρ P
theorem e_one {a : Expr} {op} {p : PTE} {pos : Pos} (h : pe X a p) : pe X (.BoolOp op [a] pos) p := pe_one h
theorem e_and {a b : Expr} {rest : List Expr} {p q : PTE} {pos : Pos} (ha : pe X a p) (hb : pe X (.BoolOp .And (b :: rest) pos) q) : pe X (.BoolOp .And (a :: b :: rest) pos) (pAnd p q) :=
  PE_weak (pe_and ha hb) fun σ H Q ⟨N, F, ρ, P, s, h, k⟩ => ⟨N, F, ρ, _, s, h, fun d v F1 H1 p1 x1 r1 => by
    obtain ⟨c, rfl, p1⟩ := isBl_inv p1
    simp only [Rep] at r1
    refine ⟨c, r1, ?_⟩
    cases c with
    | true => exact ⟨N, F1, ρ, P, s.ext x1, p1, fun d v F2 H2 p2 x2 r2 => k _ _ _ _ p2 (x1.then0 x2) r2⟩
    | false => exact k _ _ _ _ p1 x1 rep_bl⟩
theorem e_or {a b : Expr} {rest : List Expr} {p q : PTE} {pos : Pos} (ha : pe X a p) (hb : pe X (.BoolOp .Or (b :: rest) pos) q) : pe X (.BoolOp .Or (a :: b :: rest) pos) (pOr p q) :=
  PE_weak (pe_or ha hb) fun σ H Q ⟨N, F, ρ, P, s, h, k⟩ => ⟨N, F, ρ, _, s, h, fun d v F1 H1 p1 x1 r1 => by
    obtain ⟨c, rfl, p1⟩ := isBl_inv p1
    simp only [Rep] at r1
    refine ⟨c, r1, ?_⟩
    cases c with
    | true => exact k _ _ _ _ p1 x1 rep_bl
    | false => exact ⟨N, F1, ρ, P, s.ext x1, p1, fun d v F2 H2 p2 x2 r2 => k _ _ _ _ p2 (x1.then0 x2) r2⟩⟩
theorem e_not {a : Expr} {p : PTE} {pos : Pos} (ha : pe X a p) : pe X (.UnaryOp .Not a pos) (pNot p) :=
  PE_weak (pe_not ha) fun σ H Q ⟨N, F, ρ, P, s, h, k⟩ => ⟨N, F, ρ, _, s, h, fun d v F1 H1 p1 x1 r1 => by
    obtain ⟨c, rfl, p1⟩ := isBl_inv p1
    simp only [Rep] at r1
    exact ⟨c, r1, k _ _ _ _ p1 x1 rep_bl⟩⟩
theorem e_if {c a b : Expr} {t : PTT} {p q : PTE} {pos : Pos} (hc : pt X c t) (ha : pe X a p) (hb : pe X b q) : pe X (.IfExp c a b pos) (pIf t p q) :=
  PE_weak (pe_ifExp hc ha hb) fun σ H Q ⟨N, F, ρ, P, s, h, k⟩ => ⟨N, F, ρ, _, s, h, fun b F1 H1 p1 x1 => by
    cases b with
    | true => exact ⟨N, F1, ρ, P, s.ext x1, p1, fun d v F2 H2 p2 x2 r2 => k _ _ _ _ p2 (x1.then0 x2) r2⟩
    | false => exact ⟨N, F1, ρ, P, s.ext x1, p1, fun d v F2 H2 p2 x2 r2 => k _ _ _ _ p2 (x1.then0 x2) r2⟩⟩
/-! ### one operand -/
def pUn (w : D → DK → Prop) (pa : PTE) : PTE := fun ρ P => pa ρ fun d => w d P
def unS (X : Cx) (f : Value → Sem Value) (w : D → DK → Prop) : Prop :=
  ∃ r, UnR X f r ∧ ∀ d x F H P Q, Fits F H → RepT X.K F H d x → w d P → Kont X.K F H P Q → r x H Q
theorem e_un {a : Expr} {p : PTE} {op : UnaryOp} {w : D → DK → Prop} {pos : Pos} (ho : unS X (unaryOp op) w) (ha : pr X a p) : pe X (.UnaryOp op a pos) (pUn w p) := by
  obtain ⟨r, h, hr⟩ := ho
  exact PE_weak (pe_un h ha) fun σ H Q ⟨N, F, ρ, P, s, h, k⟩ => ⟨N, F, ρ, _, s, h, fun d v F1 H1 p1 x1 r1 => hr d v F1 H1 P Q x1.fits r1 p1 fun d' v' F' H' a b c => k d' v' F' H' a (x1.then0 b) c⟩
def negW : D → DK → Prop
  | .int i, P => P (.int (-i))
  | _, _ => False
theorem u_neg : unS X (unaryOp .USub) negW := ⟨_, un_neg, fun d x F H P Q f r h k => by
  cases d <;> try exact h.elim
  exact ⟨_, r.int, k.int f h⟩⟩
/-! ### is None, is not None -/
def D.isNon : D → Bool
  | .non => true
  | _ => false
def pIsN (b : Bool) (pa : PTE) : PTE := fun ρ P => pa ρ fun d => P (.bl (d.isNon == b))
theorem Rep.non_iff {d : D} {v : V} (r : RepT K F H d v) (f : Fits F H) : decide (v = .non) = d.isNon := by
  cases d with
  | non => rw [r.non]; rfl
  | bl b => rw [r.bl]; rfl
  | int b => rw [r.int]; rfl
  | str b => rw [r.str]; rfl
  | lst ds => obtain ⟨a, vs, rfl, _⟩ := r.lst f; rfl
  | klst ds => obtain ⟨a, vs, rfl, _⟩ := r.klst f; rfl
  | tup ds => obtain ⟨a, vs, rfl, _⟩ := r.tup f; rfl
  | dK ks ds => obtain ⟨a, vs, rfl, _⟩ := r.dK f; rfl
  | dT ks ds => obtain ⟨a, vs, rfl, _⟩ := r.dT f; rfl
  | ins C ns ds => obtain ⟨a, dx, vs, rfl, _⟩ := r.ins f; rfl
  | pool =>
    rcases r with r | ⟨a, _, _, _, o⟩
    · simp only [Rep] at r
      obtain ⟨a, rfl, _⟩ := r; rfl
    · exact o.elim
  | rf a =>
    rcases r with r | ⟨a, _, _, _, o⟩
    · simp only [Rep] at r
      subst r; rfl
    · exact o.elim
theorem e_isN {a : Expr} {p : PTE} {j pos pos'} (ha : pr X a p) : pe X (.Compare a [.Is] [.Constant .none j pos'] pos) (pIsN true p) :=
  PE_weak (pe_cmp (pc_isN ha)) fun σ H Q ⟨N, F, ρ, P, s, h, k⟩ => ⟨N, F, ρ, _, s, h, fun d v F1 H1 p1 x1 r1 => by
    show Q (V.bl (decide (v = V.non))) H1
    rw [Rep.non_iff r1 x1.fits]
    exact k _ _ _ _ p1 x1 (by rw [beq_true]; exact rep_bl)⟩
theorem e_notN {a : Expr} {p : PTE} {j pos pos'} (ha : pr X a p) : pe X (.Compare a [.IsNot] [.Constant .none j pos'] pos) (pIsN false p) :=
  PE_weak (pe_cmp (pc_notN ha)) fun σ H Q ⟨N, F, ρ, P, s, h, k⟩ => ⟨N, F, ρ, _, s, h, fun d v F1 H1 p1 x1 r1 => by
    show Q (V.bl (!decide (v = V.non))) H1
    rw [Rep.non_iff r1 x1.fits]
    exact k _ _ _ _ p1 x1 (by rw [beq_false]; exact rep_bl)⟩
theorem t_isN {a : Expr} {p : PTE} {j pos pos'} (ha : pr X a p) : pt X (.Compare a [.Is] [.Constant .none j pos'] pos) (tst (pIsN true p)) :=
  PT_weak (pt_cmp (pc_isN ha)) fun σ H Q ⟨N, F, ρ, P, s, h, k⟩ => ⟨N, F, ρ, _, s, h, fun d v F1 H1 p1 x1 r1 => by
    obtain ⟨b, e, z⟩ := isBl_inv p1
    rw [Rep.non_iff r1 x1.fits]
    rw [beq_true] at e
    cases e
    exact ⟨_, rfl, k _ _ _ z x1⟩⟩
theorem t_notN {a : Expr} {p : PTE} {j pos pos'} (ha : pr X a p) : pt X (.Compare a [.IsNot] [.Constant .none j pos'] pos) (tst (pIsN false p)) :=
  PT_weak (pt_cmp (pc_notN ha)) fun σ H Q ⟨N, F, ρ, P, s, h, k⟩ => ⟨N, F, ρ, _, s, h, fun d v F1 H1 p1 x1 r1 => by
    obtain ⟨b, e, z⟩ := isBl_inv p1
    rw [Rep.non_iff r1 x1.fits]
    rw [beq_false] at e
    cases e
    exact ⟨_, rfl, k _ _ _ z x1⟩⟩
/-! ### a < b < c -/
def pChain (w w' : D → D → DK → Prop) (pa pb pc : PTE) : PTE := fun ρ P => pa ρ fun d => pb ρ fun e => w d e (isBl fun k => if k = true then pc ρ fun g => w' e g P else P (.bl false))
theorem chain_ok {a b c : Expr} {pa pb pc : PTE} {w w' : D → D → DK → Prop} {r r' : R2} (hr : ∀ d e x y F H P Q, Fits F H → RepT X.K F H d x → RepT X.K F H e y → w d e P → Kont X.K F H P Q → r x y H Q) (hr' : ∀ d e x y F H P Q, Fits F H → RepT X.K F H d x → RepT X.K F H e y → w' d e P → Kont X.K F H P Q → r' x y H Q) :
    ∀ σ H Q, L X.K (pChain w w' pa pb pc) σ H Q → tChain r r' (Lr X.K pa) (Lr X.K pb) (Lr X.K pc) σ H Q := fun σ H Q ⟨N, F, ρ, P, s, p, k⟩ =>
  ⟨N, F, ρ, _, s, p, fun d v F1 H1 p1 x1 r1 => ⟨N, F1, ρ, _, s.ext x1, p1, fun e u F2 H2 p2 x2 r2 => by
    refine hr d e v u F2 H2 _ _ x2.fits (r1.ext x2 x1.fits) r2 p2 fun d' v' F3 H3 p3 x3 r3 => ?_
    obtain ⟨b, rfl, p3⟩ := isBl_inv p3
    simp only [Rep] at r3
    refine ⟨b, r3, ?_⟩
    cases b with
    | true => exact ⟨N, F3, ρ, _, (s.ext x1).ext (x2.then0 x3), p3, fun g w F4 H4 p4 x4 r4 => hr' e g u w F4 H4 P Q x4.fits (r2.ext (x3.then0 x4) x2.fits) r4 p4 fun d' v' F' H' a b c => k d' v' F' H' a (((x1.then0 x2).then0 x3).then0 (x4.then0 b)) c⟩
    | false => exact k _ _ _ _ p3 ((x1.then0 x2).then0 x3) rep_bl⟩⟩
theorem e_chain {a b c : Expr} {pa pb pc : PTE} {op op' : CmpOp} {w w' : D → D → DK → Prop} {pos : Pos} (ho : opS X (compareOp op) w) (ho' : opS X (compareOp op') w') (ha : pr X a pa) (hb : pr X b pb) (hc : pr X c pc) (hm : lastMarks [op, op'] [b, c] = false := by with_unfolding_all rfl) :
    pe X (.Compare a [op, op'] [b, c] pos) (pChain w w' pa pb pc) := by
  obtain ⟨r, h, hr⟩ := ho
  obtain ⟨r', h', hr'⟩ := ho'
  exact PE_weak (pe_chain h h' ha hb hc hm) (chain_ok (a := a) (b := b) (c := c) hr hr')
theorem t_chain {a b c : Expr} {pa pb pc : PTE} {op op' : CmpOp} {w w' : D → D → DK → Prop} {pos : Pos} (ho : opS X (compareOp op) w) (ho' : opS X (compareOp op') w') (ha : pr X a pa) (hb : pr X b pb) (hc : pr X c pc) (hm : lastMarks [op, op'] [b, c] = false := by with_unfolding_all rfl) :
    pt X (.Compare a [op, op'] [b, c] pos) (tst (pChain w w' pa pb pc)) := by
  obtain ⟨r, h, hr⟩ := ho
  obtain ⟨r', h', hr'⟩ := ho'
  refine PT_weak (pt_chain h h' ha hb hc hm) fun σ H Q ⟨N, F, ρ, P, s, q, k⟩ => ?_
  refine chain_ok (a := a) (b := b) (c := c) hr hr' σ H _ ⟨N, F, ρ, _, s, q, fun d v F' H' p x r => ?_⟩
  obtain ⟨b, rfl, z⟩ := isBl_inv p
  simp only [Rep] at r
  subst r
  exact ⟨b, rfl, k _ _ _ z x⟩

/-! ### argument lists, displays -/
def pNil : PTA := fun _ P => P []
def pCons (p : PTE) (q : PTA) : PTA := fun ρ P => p ρ fun d => q ρ fun ds => P (d :: ds)
theorem a_nil : pa X [] pNil := PA_weak pa_nil fun σ H Q ⟨N, F, ρ, P, s, p, k⟩ => k [] [] F H p (Ext.refl s.fits) Reps.nil
theorem a_cons {e : Expr} {es : List Expr} {p : PTE} {q : PTA} (ha : pe X e p) (hr : pa X es q) (hs : starEach (e :: es) X.env = (false, eval e X.env) :: starEach es X.env := by rfl) : pa X (e :: es) (pCons p q) :=
  PA_weak (pa_cons ha hr hs) fun σ H Q ⟨N, F, ρ, P, s, p, k⟩ => ⟨N, F, ρ, _, s, p, fun d v F1 H1 p1 x1 r1 => ⟨N, F1, ρ, _, s.ext x1, p1, fun ds vs F2 H2 p2 x2 r2 => k _ _ _ _ p2 (x1.then0 x2) (Reps.cons (r1.ext x2 x1.fits) r2)⟩⟩
theorem ar_nil : par X [] pNil := a_nil.r
theorem ar_cons {e : Expr} {es : List Expr} {p : PTE} {q : PTA} (ha : pr X e p) (hr : par X es q) (hs : starEach (e :: es) X.env = (false, eval e X.env) :: starEach es X.env := by rfl) : par X (e :: es) (pCons p q) :=
  PA_weak (pa_cons ha hr hs) fun σ H Q ⟨N, F, ρ, P, s, p, k⟩ => ⟨N, F, ρ, _, s, p, fun d v F1 H1 p1 x1 r1 => ⟨N, F1, ρ, _, s.ext x1, p1, fun ds vs F2 H2 p2 x2 r2 => k _ _ _ _ p2 (x1.then0 x2) ⟨v, vs, rfl, r1.ext x2 x1.fits, r2⟩⟩⟩
def pTup (t : PTA) : PTE := fun ρ P => t ρ fun ds => ds.length ≤ sizeLine ∧ P (.tup ds)
def pLst (t : PTA) : PTE := fun ρ P => t ρ fun ds => ds.length ≤ sizeLine ∧ P (.lst ds)
theorem e_tup {es : List Expr} {p : PTA} {x1 pos} (h : pa X es p) : pe X (.Tuple es x1 pos) (pTup p) :=
  PE_weak (pe_tup h) fun σ H Q ⟨N, F, ρ, P, s, p, k⟩ => ⟨N, F, ρ, _, s, p, fun ds vs F1 H1 p1 x1 r1 => ⟨by rw [r1.length]; exact p1.1, Kont.tup (P := P) (fun d v F' H' a b c => k d v F' H' a (x1.then0 b) c) x1.fits p1.2 r1⟩⟩
theorem e_lst {es : List Expr} {p : PTA} {pos} (h : pa X es p) : pe X (.List es pos) (pLst p) :=
  PE_weak (pe_lst h) fun σ H Q ⟨N, F, ρ, P, s, p, k⟩ => ⟨N, F, ρ, _, s, p, fun ds vs F1 H1 p1 x1 r1 => ⟨by rw [r1.length]; exact p1.1, Kont.lst (P := P) (fun d v F' H' a b c => k d v F' H' a (x1.then0 b) c) x1.fits p1.2 r1⟩⟩

/-! ### built-in functions by values -/
def pCall (w : List D → DK → Prop) (t : PTA) : PTE := fun ρ P => t ρ fun ds => w ds P
def callS (X : Cx) (f : Value) (w : List D → DK → Prop) : Prop :=
  ∃ r, CallR X f r ∧ ∀ ds xs F H P Q, Fits F H → RepTs X.K F H ds xs → w ds P → Kont X.K F H P Q → r xs H Q
theorem e_callB {x : Str} {id : String} {e : Expr} {es : List Expr} {p pos : Pos} {w : List D → DK → Prop} {t : PTA} (hc : callS X (.builtin id) w) (hg : Gl X x) (hm : X.mg x = none) (hv : bootBuiltins x = some (.builtin id)) (ha : par X (e :: es) t) (hn : x ≠ "__name__" := by decide) (hdb : (x == ("__debug__" : Str)) = false := by decide)
    (he : starEach (e :: es) X.env = (false, eval e X.env) :: starEach es X.env := by rfl) (hpl : (backTo pos (starEach es X.env)).any (·.1) = false := by rfl) : pe X (.Call (.Name x p) (e :: es) [] pos) (pCall w t) := by
  obtain ⟨r, h, hr⟩ := hc
  exact PE_weak (pe_callB h hg hm hv ha hn hdb he hpl) fun σ H Q ⟨N, F, ρ, P, s, q, k⟩ => ⟨N, F, ρ, _, s, q, fun ds vs F1 H1 p1 x1 r1 => hr ds vs F1 H1 P Q x1.fits r1 p1 fun d' v' F' H' a b c => k d' v' F' H' a (x1.then0 b) c⟩
theorem e_callTy {x : Str} {T : String} {e : Expr} {es : List Expr} {p pos : Pos} {w : List D → DK → Prop} {t : PTA} (hc : callS X (.type T) w) (hg : Gl X x) (hm : X.mg x = none) (hv : bootBuiltins x = some (.type T)) (ha : par X (e :: es) t) (hn : x ≠ "__name__" := by decide) (hdb : (x == ("__debug__" : Str)) = false := by decide)
    (he : starEach (e :: es) X.env = (false, eval e X.env) :: starEach es X.env := by rfl) (hpl : (backTo pos (starEach es X.env)).any (·.1) = false := by rfl) : pe X (.Call (.Name x p) (e :: es) [] pos) (pCall w t) := by
  obtain ⟨r, h, hr⟩ := hc
  exact PE_weak (pe_callTy h hg hm hv ha hn hdb he hpl) fun σ H Q ⟨N, F, ρ, P, s, q, k⟩ => ⟨N, F, ρ, _, s, q, fun ds vs F1 H1 p1 x1 r1 => hr ds vs F1 H1 P Q x1.fits r1 p1 fun d' v' F' H' a b c => k d' v' F' H' a (x1.then0 b) c⟩
def on1 (w : D → DK → Prop) : List D → DK → Prop
  | [d], P => w d P
  | _, _ => False
def on2 (w : D → D → DK → Prop) : List D → DK → Prop
  | [d, e], P => w d e P
  | _, _ => False
theorem RepTs.nil_inv {xs : List V} (r : RepTs K F H [] xs) : xs = [] := r
theorem RepTs.cons_inv {d : D} {ds : List D} {xs : List V} (r : RepTs K F H (d :: ds) xs) : ∃ v vs, xs = v :: vs ∧ RepT K F H d v ∧ RepTs K F H ds vs := r
theorem on1_inv {w : D → DK → Prop} {ds : List D} {xs : List V} {P : DK} (h : on1 w ds P) (r : RepTs K F H ds xs) : ∃ d v, ds = [d] ∧ xs = [v] ∧ RepT K F H d v ∧ w d P := by
  cases ds with
  | nil => exact h.elim
  | cons d ds =>
    cases ds with
    | nil =>
      obtain ⟨v, vs, rfl, r1, r2⟩ := r.cons_inv
      cases r2.nil_inv
      exact ⟨d, v, rfl, rfl, r1, h⟩
    | cons _ _ => exact h.elim
theorem on2_inv {w : D → D → DK → Prop} {ds : List D} {xs : List V} {P : DK} (h : on2 w ds P) (r : RepTs K F H ds xs) : ∃ d e v u, ds = [d, e] ∧ xs = [v, u] ∧ RepT K F H d v ∧ RepT K F H e u ∧ w d e P := by
  cases ds with
  | nil => exact h.elim
  | cons d ds =>
    cases ds with
    | nil => exact h.elim
    | cons e ds =>
      cases ds with
      | nil =>
        obtain ⟨v, vs, rfl, r1, r2⟩ := r.cons_inv
        obtain ⟨u, us, rfl, r3, r4⟩ := r2.cons_inv
        cases r4.nil_inv
        exact ⟨d, e, v, u, rfl, rfl, r1, r3, h⟩
      | cons _ _ => exact h.elim
def absW : D → DK → Prop
  | .int i, P => P (.int (if i < 0 then -i else i))
  | _, _ => False
theorem c_abs : callS X (.builtin "abs") (on1 absW) := ⟨_, call_abs, fun ds xs F H P Q f r h k => by
  obtain ⟨d, v, rfl, rfl, r1, h⟩ := on1_inv h r
  cases d <;> try exact h.elim
  exact ⟨_, by rw [r1.int], k.int f h⟩⟩
def intfW : D → DK → Prop
  | .int i, P => P (.int i)
  | .bl b, P => P (.int (if b then 1 else 0))
  | _, _ => False
theorem c_int : callS X (.type "int") (on1 intfW) := ⟨_, call_int1, fun ds xs F H P Q f r h k => by
  obtain ⟨d, v, rfl, rfl, r1, h⟩ := on1_inv h r
  cases d <;> try exact h.elim
  · exact .inr ⟨_, by rw [r1.bl], k.int f h⟩
  · exact .inl ⟨_, by rw [r1.int], k.int f h⟩⟩
def lenW : D → DK → Prop
  | .str s, P => s.length ≤ sizeLine ∧ P (.int s.length)
  | .lst ds, P => P (.int ds.length)
  | .klst ds, P => P (.int ds.length)
  | .tup ds, P => P (.int ds.length)
  | _, _ => False
theorem c_len : callS X (.builtin "len") (on1 lenW) := ⟨_, call_len_seq.or call_len_str, fun ds xs F H P Q f r h k => by
  obtain ⟨d, v, rfl, rfl, r1, h⟩ := on1_inv h r
  cases d <;> try exact h.elim
  · exact .inr ⟨_, by rw [r1.str], h.1, k.int f h.2⟩
  · obtain ⟨a, vs, rfl, h1, q⟩ := r1.tup f
    exact .inl ⟨a, vs, rfl, .inr h1, k.int f (by rw [q.length]; exact h)⟩
  · obtain ⟨a, vs, rfl, h1, q⟩ := r1.lst f
    exact .inl ⟨a, vs, rfl, .inl (SqL.of h1), k.int f (by rw [q.length]; exact h)⟩
  · obtain ⟨a, vs, rfl, h1, q⟩ := r1.klst f
    exact .inl ⟨a, vs, rfl, .inl h1, k.int f (by rw [q.length]; exact h)⟩⟩
def max2W : D → D → DK → Prop
  | .int i, .int j, P => P (.int (if j > i then j else i))
  | _, _, _ => False
def min2W : D → D → DK → Prop
  | .int i, .int j, P => P (.int (if j < i then j else i))
  | _, _, _ => False
theorem c_max2 (hc : X.calm = true) : callS X (.builtin "max") (on2 max2W) := ⟨_, call_max2 hc, fun ds xs F H P Q f r h k => by
  obtain ⟨d, e, v, u, rfl, rfl, r1, r2, h⟩ := on2_inv h r
  cases d <;> try exact h.elim
  cases e <;> try exact h.elim
  exact ⟨_, _, by rw [r1.int, r2.int], k.int f h⟩⟩
theorem c_min2 (hc : X.calm = true) : callS X (.builtin "min") (on2 min2W) := ⟨_, call_min2 hc, fun ds xs F H P Q f r h k => by
  obtain ⟨d, e, v, u, rfl, rfl, r1, r2, h⟩ := on2_inv h r
  cases d <;> try exact h.elim
  cases e <;> try exact h.elim
  exact ⟨_, _, by rw [r1.int, r2.int], k.int f h⟩⟩
def asList : D → Option (List D)
  | .lst ds => some ds
  | .klst ds => some ds
  | .tup ds => some ds
  | _ => none
theorem RepT.seq {d : D} {ds : List D} {v : V} (r : RepT K F H d v) (f : Fits F H) (h : asList d = some ds) : ∃ a vs, v = .ref a ∧ (SqL K H a vs ∨ SqT K H a vs) ∧ Reps K F ds vs := by
  cases d <;> cases h
  · obtain ⟨a, vs, rfl, h1, q⟩ := r.tup f; exact ⟨a, vs, rfl, .inr h1, q⟩
  · obtain ⟨a, vs, rfl, h1, q⟩ := r.lst f; exact ⟨a, vs, rfl, .inl (SqL.of h1), q⟩
  · obtain ⟨a, vs, rfl, h1, q⟩ := r.klst f; exact ⟨a, vs, rfl, .inl h1, q⟩
def isSome {α : Type} (P : α → Prop) : Option α → Prop
  | some x => P x
  | none => False
theorem isSome_inv {α : Type} {P : α → Prop} {o : Option α} (h : isSome P o) : ∃ x, o = some x ∧ P x := by
  cases o with
  | none => exact h.elim
  | some x => exact ⟨x, rfl, h⟩
def listW : D → DK → Prop := fun d P => isSome (fun ds => P (.lst ds)) (asList d)
def tupleW : D → DK → Prop := fun d P => isSome (fun ds => P (.tup ds)) (asList d)
theorem c_list : callS X (.type "list") (on1 listW) := ⟨_, call_list_of, fun ds xs F H P Q f r h k => by
  obtain ⟨d, v, rfl, rfl, r1, h⟩ := on1_inv h r
  obtain ⟨ds, h1, h2⟩ := isSome_inv h
  obtain ⟨a, vs, rfl, q1, q⟩ := r1.seq f h1
  exact ⟨a, vs, rfl, q1, k.lst f h2 q⟩⟩
theorem c_tuple : callS X (.type "tuple") (on1 tupleW) := ⟨_, call_tuple_of, fun ds xs F H P Q f r h k => by
  obtain ⟨d, v, rfl, rfl, r1, h⟩ := on1_inv h r
  obtain ⟨ds, h1, h2⟩ := isSome_inv h
  cases d <;> cases h1
  · rcases r1 with r1 | ⟨_, _, _, _, o⟩
    · have r1' := r1
      simp only [Rep] at r1
      obtain ⟨a, vs, rfl, s, q⟩ := r1
      exact ⟨a, vs, rfl, .inr ⟨Same.seqT f.fz s, k.here f h2 r1'⟩⟩
    · exact o.elim
  · obtain ⟨a, vs, rfl, q1, q⟩ := r1.lst f
    exact ⟨a, vs, rfl, .inl ⟨SqL.of q1, k.tup f h2 q⟩⟩
  · obtain ⟨a, vs, rfl, q1, q⟩ := r1.klst f
    exact ⟨a, vs, rfl, .inl ⟨q1, k.tup f h2 q⟩⟩⟩
/-! ### isinstance by a built-in class -/
def tyN : D → Option String
  | .non => some "NoneType"
  | .bl _ => some "bool"
  | .int _ => some "int"
  | .str _ => some "str"
  | .tup _ => some "tuple"
  | .lst _ => some "list"
  | .dK _ _ => some "dict"
  | .dT _ _ => some "dict"
  | _ => none
def subT (t n : String) : Bool := decide (t = n) || (decide (t = "bool") && decide (n = "int"))
def pIsi (n : String) (p : PTE) : PTE := fun ρ P => p ρ fun d => isSome (fun t => P (.bl (subT t n))) (tyN d)
theorem tyX {d : D} {v : V} {t : String} (r : RepT K F H d v) (f : Fits F H) (h : tyN d = some t) : TyX K H v (.type t) := by
  cases d <;> cases h
  · rw [r.non]; exact .base .non
  · rw [r.bl]; exact .base (.bl _)
  · rw [r.int]; exact .base (.int _)
  · rw [r.str]; exact .base (.str _)
  · obtain ⟨a, vs, rfl, h1, q⟩ := r.tup f
    rcases h1 with (h1 | ⟨o, h1⟩) | ⟨o, its, n, h1, h2, _⟩
    · exact .base (.tup h1)
    · exact .fTuple h1
    · exact .kTuple h1 h2
  · obtain ⟨a, vs, rfl, h1, q⟩ := r.lst f; exact .base (.lst h1)
  · obtain ⟨a, vs, rfl, h1, _, q⟩ := r.dK f; exact .base (.dK h1)
  · obtain ⟨a, vs, rfl, h1, _, q⟩ := r.dT f; exact .base (.dT h1)
def tyNs : List String := ["NoneType", "bool", "int", "str", "tuple", "list", "dict"]
theorem tyN_mem {d : D} {t : String} (h : tyN d = some t) : t ∈ tyNs := by
  cases d <;> cases h <;> decide
theorem e_isi {n : String} {x : Str} {a : Expr} {pa : PTE} {p p2 pos : Pos} (ha : pr X a pa) (hg : Gl X "isinstance") (hm : X.mg "isinstance" = none) (hg2 : Gl X x) (hm2 : X.mg x = none) (hv2 : bootBuiltins x = some (.type n)) (hk : tyNs.all (fun t => decide (kitB t n = some (subT t n))) = true) (hn2 : x ≠ "__name__" := by decide) (hd2 : (x == ("__debug__" : Str)) = false := by decide)
    (hs2 : starEach [.Name x p2] X.env = [(false, eval (.Name x p2) X.env)] := by rfl) (he : starEach [a, .Name x p2] X.env = (false, eval a X.env) :: starEach [.Name x p2] X.env := by rfl) (hpl : (backTo pos (starEach [.Name x p2] X.env)).any (·.1) = false := by rfl) : pe X (.Call (.Name "isinstance" p) [a, .Name x p2] [] pos) (pIsi n pa) := by
  refine PE_weak (pe_callB call_isi hg hm PyProof.Rows.boot_isinstance (pa_cons ha (pa_cons (pe_bltn (v := .ty n) hg2 hm2 hv2 rfl hn2 hd2) pa_nil hs2) he) (by decide) (by decide) he hpl) fun σ H Q ⟨N, F, ρ, P, s, q, k⟩ => ?_
  refine ⟨N, F, ρ, _, s, q, fun d v F1 H1 p1 x1 r1 => ?_⟩
  obtain ⟨t, h1, h2⟩ := isSome_inv p1
  have hk' := of_decide_eq_true (List.all_eq_true.mp hk t (tyN_mem h1))
  exact ⟨v, .ty n, .type t, .type n, _, rfl, .ty n, tyX r1 x1.fits h1, kit_ty hk', k _ _ _ _ h2 x1 rep_bl⟩

/-! ### items -/
def itemW : D → D → DK → Prop
  | .str z, .int i, P => z.length ≤ sizeLine ∧ isSome (fun c => P (.str ⟨#[c]⟩)) (atI z.cps.toList i)
  | .lst ds, .int i, P => isSome P (atI ds i)
  | .klst ds, .int i, P => isSome P (atI ds i)
  | .tup ds, .int i, P => isSome P (atI ds i)
  | _, _, _ => False
theorem Reps.atI {ds : List D} {vs : List V} {i : Int} {d : D} (r : Reps K F ds vs) (h : atI ds i = some d) : ∃ v, atI vs i = some v ∧ Rep K F d v := by
  unfold L2.atI at h ⊢
  rw [r.length]
  cases e : ixN ds.length i with
  | none => rw [e] at h; cases h
  | some j =>
    rw [e] at h
    exact r.get h
theorem e_ix {a b : Expr} {pa pb : PTE} {pos : Pos} (ha : pr X a pa) (hb : pr X b pb) (hs : PlainIx b := by exact fun _ _ => rfl) : pe X (.Subscript a b pos) (pOp itemW pa pb) :=
  PE_weak (pe_ix ix_seq ha hb hs) (two (a := a) (b := b) fun d e x y F H P Q f r1 r2 h k => by
    cases e <;> try (cases d <;> exact h.elim)
    have e2 := r2.int
    subst e2
    cases d <;> try exact h.elim
    · have e1 := r1.str
      subst e1
      obtain ⟨c, h1, h2⟩ := isSome_inv h.2
      exact .inr (.inr ⟨_, _, c, rfl, rfl, h.1, h1, k.str f h2⟩)
    · obtain ⟨e, h1, h2⟩ := isSome_inv h
      obtain ⟨a, vs, rfl, h3, q⟩ := r1.tup f
      obtain ⟨v, h4, h5⟩ := q.atI h1
      exact .inr (.inl ⟨a, vs, _, v, rfl, rfl, h3, h4, k.here f h2 h5⟩)
    · obtain ⟨e, h1, h2⟩ := isSome_inv h
      obtain ⟨a, vs, rfl, h3, q⟩ := r1.lst f
      obtain ⟨v, h4, h5⟩ := q.atI h1
      exact .inl ⟨a, vs, _, v, rfl, rfl, SqL.of h3, h4, k.here f h2 h5⟩
    · obtain ⟨e, h1, h2⟩ := isSome_inv h
      obtain ⟨a, vs, rfl, h3, q⟩ := r1.klst f
      obtain ⟨v, h4, h5⟩ := q.atI h1
      exact .inl ⟨a, vs, _, v, rfl, rfl, h3, h4, k.here f h2 h5⟩)
end
end Pu
namespace Pu
open PySem PySem.Spec L2

/-! ### new objects that may still change -/
def Lf (K : Fg) (p : PTE) : TE := fun σ H Q => ∃ N F ρ P, Stt K N F ρ σ H ∧ p ρ P ∧ ∀ d a F' H', P d → Ext No F H F' H' → H a = none → F'.fz a = none → F'.iv a = none → OwnAt K F' H' a d → Q (.ref a) H'
def pf (X : Cx) (e : Expr) (p : PTE) : Prop := PE X e (Lf X.K p)

section
variable {K : Fg} {F F' : FS} {H H' : Hp} {X : Cx}
theorem OwnAt.rep {a : Addr} {d : D} {o : HO} (h : OwnAt K F H a d) (e : H a = some o) {F' : FS} (hz : F'.fz a = some o) (l : Le F F') : Rep K F' d (.ref a) := by
  cases d <;> simp only [OwnAt] at h
  · obtain ⟨vs, q, r⟩ := h
    rw [e] at q; cases q
    simp only [Rep]; exact ⟨a, vs, rfl, hz, r.mono l⟩
  · obtain ⟨vs, q, z, r⟩ := h
    rw [e] at q; cases q
    simp only [Rep]; exact ⟨a, vs, rfl, hz, z, r.mono l⟩
  · obtain ⟨vs, q, z, r⟩ := h
    rw [e] at q; cases q
    simp only [Rep]; exact ⟨a, vs, rfl, hz, z, r.mono l⟩
  · obtain ⟨dx, vs, q, z, r⟩ := h
    rw [e] at q; cases q
    simp only [Rep]; exact ⟨a, dx, vs, rfl, hz, z, r.mono l⟩
/-- what is new may be frozen -/
theorem Ext.frz {O : Addr → Prop} (x : Ext O F H F' H') {a : Addr} {o : HO} (hn : H a = none) (hz : F'.fz a = none) (e : H' a = some o) : Ext O F H (F'.add a o) H' := by
  have up : Same F'.fz (upd F'.fz a o) := fun b y q => by
    rw [upd_ne (fun z => by rw [z, hz] at q; cases q)]; exact q
  refine ⟨x.fz.trans up, x.iv, ⟨fun b y q => ?_, fun b φ z => let ⟨y, h1, h2⟩ := x.fits.iv b φ z; ⟨y, h1, φ.mono _ _ _ up h2⟩⟩, fun b y q => ?_, x.niv, x.keep, x.dom⟩
  · have q : upd F'.fz a o b = some y := q
    by_cases z : b = a
    · subst z; rw [upd_same] at q; rw [e]; exact q
    · rw [upd_ne z] at q; exact x.fits.fz _ _ q
  · have q : upd F'.fz a o b = some y := q
    by_cases z : b = a
    · subst z; exact .inr hn
    · rw [upd_ne z] at q; exact x.nfz _ _ q
theorem Le.add {a : Addr} {o : HO} (hz : F.fz a = none) (hi : F.iv a = none) : Le F (F.add a o) :=
  ⟨fun b x z => by
      show upd F.fz a o b = some x
      rw [upd_ne (fun w => by rw [w, hz] at z; cases z)]; exact z, fun _ _ q => q, fun b q1 q2 => by
      have q1 : upd F.fz a o b ≠ none := q1
      by_cases w : b = a
      · subst w; exact absurd hi q2
      · rw [upd_ne w] at q1; exact q1⟩
theorem some_of_ne {o : Option HO} (h : o ≠ none) : ∃ x, o = some x := by
  cases o with
  | none => exact absurd rfl h
  | some x => exact ⟨x, rfl⟩
theorem pf.e {e : Expr} {p : PTE} (h : pf X e p) : pe X e p := PE_weak h fun σ H Q ⟨N, F, ρ, P, s, q, k⟩ => ⟨N, F, ρ, P, s, q, fun d a F' H' p1 x1 hn hz hi ow => by
  obtain ⟨o, eo⟩ := some_of_ne ow.there
  exact k d _ (F'.add a o) H' p1 (x1.frz hn hz eo) (ow.rep eo FS.add_same (Le.add hz hi))⟩
theorem f_lst {es : List Expr} {p : PTA} {pos} (h : pa X es p) : pf X (.List es pos) (pLst p) :=
  PE_weak (pe_lst h) fun σ H Q ⟨N, F, ρ, P, s, p, k⟩ => ⟨N, F, ρ, _, s, p, fun ds vs F1 H1 p1 x1 r1 => ⟨by rw [r1.length]; exact p1.1, fun a ha =>
    k _ a F1 _ p1.2 (x1.then0 (Ext.newM x1.fits ha)) (x1.dom _ ha) (x1.fits.none_fz ha) (x1.fits.none_iv ha) ⟨vs, upd_same, r1⟩⟩⟩
end

/-! ### statements -/
structure PEnds where
  nx : Env → Prop
  rt : D → Env → Prop
  bk : Env → Prop
  ct : Env → Prop
abbrev PTS := PEnds → Env → Prop
/-- where a def's run began: what it may change of what stood, what was frozen, the heap -/
structure Bas where
  O : Addr → Prop
  F0 : FS
  H0 : Hp
def Bas.N (B : Bas) : Bool → Addr → Prop
  | true, a => B.H0 a = none
  | false, a => B.O a
structure FSt (K : Fg) (B : Bas) (F : FS) (ρ : Env) (σ : L2.St) (H : Hp) : Prop where
  ext : Ext B.O B.F0 B.H0 F H
  st : Stt K B.N F ρ σ H
theorem FSt.go {K : Fg} {B : Bas} {F F' : FS} {ρ : Env} {σ : L2.St} {H H' : Hp} (s : FSt K B F ρ σ H) (x : Ext No F H F' H') : FSt K B F' ρ σ H' := ⟨s.ext.then0 x, s.st.ext x⟩
theorem Le.refl (F : FS) : Le F F := ⟨Same.refl _, fun _ _ h => h, fun _ h _ => h⟩
theorem Le.trans {F F1 F2 : FS} (x : Le F F1) (y : Le F1 F2) : Le F F2 := ⟨x.fz.trans y.fz, fun a φ h => y.iv a φ (x.iv a φ h), fun a h1 h2 => by
  cases e : F.iv a with
  | none => exact absurd e h2
  | some φ => exact x.nfz a (y.nfz a h1 (by rw [x.iv a φ e]; intro z; cases z)) h2⟩
structure EndsOk (K : Fg) (B : Bas) (F : FS) (PD : PEnds) (E : Ends) : Prop where
  nx : ∀ F' ρ σ H, FSt K B F' ρ σ H → Le F F' → PD.nx ρ → E.nx σ H
  rt : ∀ F' ρ σ H d v, FSt K B F' ρ σ H → Le F F' → PD.rt d ρ → Rep K F' d v → E.rt v H
  bk : ∀ F' ρ σ H, FSt K B F' ρ σ H → Le F F' → PD.bk ρ → E.bk σ H
  ct : ∀ F' ρ σ H, FSt K B F' ρ σ H → Le F F' → PD.ct ρ → E.ct σ H
theorem EndsOk.up {K : Fg} {B : Bas} {F F1 : FS} {PD : PEnds} {E : Ends} (e : EndsOk K B F PD E) (l : Le F F1) : EndsOk K B F1 PD E :=
  ⟨fun F' ρ σ H s l' => e.nx F' ρ σ H s (l.trans l'), fun F' ρ σ H d v s l' => e.rt F' ρ σ H d v s (l.trans l'), fun F' ρ σ H s l' => e.bk F' ρ σ H s (l.trans l'), fun F' ρ σ H s l' => e.ct F' ρ σ H s (l.trans l')⟩
def LS (K : Fg) (p : PTS) : TS := fun E σ H => ∃ B F ρ PD, FSt K B F ρ σ H ∧ p PD ρ ∧ EndsOk K B F PD E
def ps (X : Cx) (st : Stmt) (p : PTS) : Prop := PS X st (LS X.K p)
def pss (X : Cx) (st : List Stmt) (p : PTS) : Prop := PSs X st (LS X.K p)

def qSeq (p q : PTS) : PTS := fun PD ρ => p { PD with nx := q PD } ρ
def qNext : PTS := fun PD ρ => PD.nx ρ
def qBreak : PTS := fun PD ρ => PD.bk ρ
def qCont : PTS := fun PD ρ => PD.ct ρ
def qNever : PTS := fun _ _ => False
def qDrop (p : PTE) : PTS := fun PD ρ => p ρ fun _ => PD.nx ρ
def qRet (p : PTE) : PTS := fun PD ρ => p ρ fun d => PD.rt d ρ
def qRetN : PTS := fun PD ρ => PD.rt .non ρ
def qSet (i : Nat) (p : PTE) : PTS := fun PD ρ => p ρ fun d => PD.nx (ρ.set i (some (.sh d)))
def qSetN (i : Nat) (p : PTE) : PTS := fun PD ρ => p ρ fun d => PD.nx (ρ.set i (some (.ow true d)))
def qIf (t : PTT) (p q : PTS) : PTS := fun PD ρ => t ρ fun c => if c = true then p PD ρ else q PD ρ
def atOwT (P : DK) : Option (Option Sl) → Prop
  | some (some (.ow true d)) => P d
  | _ => False
theorem atOwT_inv {P : DK} {x : Option (Option Sl)} (h : atOwT P x) : ∃ d, x = some (some (.ow true d)) ∧ P d := by
  match x, h with
  | some (some (.ow true d)), h => exact ⟨d, rfl, h⟩
def atOwL (P : Bool → List D → Prop) : Option (Option Sl) → Prop
  | some (some (.ow b (.lst ds))) => P b ds
  | _ => False
theorem atOwL_inv {P : Bool → List D → Prop} {x : Option (Option Sl)} (h : atOwL P x) : ∃ b ds, x = some (some (.ow b (.lst ds))) ∧ P b ds := by
  match x, h with
  | some (some (.ow b (.lst ds))), h => exact ⟨b, ds, rfl, h⟩
def qFrz (i : Nat) (q : PTS) : PTS := fun PD ρ => atOwT (fun d => q PD (ρ.set i (some (.sh d)))) ρ[i]?
/-- a cut: what is known behind -/
def PEnds.to (PD : PEnds) (I : Env → Prop) : PEnds := { PD with nx := I }

section
variable {K : Fg} {X : Cx} {pos : Pos}
theorem PS_weak {st : Stmt} {t t' : TS} (h : PS X st t) (w : ∀ E σ H, t' E σ H → t E σ H) : PS X st t' := ⟨fun pins s σ H E I q => h.run pins s σ H E I (w _ _ _ q)⟩
theorem PSs_weak {st : List Stmt} {t t' : TS} (h : PSs X st t) (w : ∀ E σ H, t' E σ H → t E σ H) : PSs X st t' := ⟨fun pins s σ H E I q => h.run pins s σ H E I (w _ _ _ q)⟩
theorem s_nil : pss X [] qNext := PSs_weak pss_nil fun E σ H ⟨B, F, ρ, PD, s, p, e⟩ => e.nx F ρ σ H s (Le.refl F) p
theorem s_one {st : Stmt} {p : PTS} (h : ps X st p) : pss X [st] p := pss_one h
theorem s_cons {st : Stmt} {rest : List Stmt} {p q : PTS} (h : ps X st p) (h2 : pss X rest q) : pss X (st :: rest) (qSeq p q) :=
  PSs_weak (pss_cons h h2) fun E σ H ⟨B, F, ρ, PD, s, p, e⟩ => ⟨B, F, ρ, _, s, p, ⟨fun F1 ρ1 σ1 H1 s1 l1 p1 => ⟨B, F1, ρ1, PD, s1, p1, e.up l1⟩, e.rt, e.bk, e.ct⟩⟩
theorem s_never {st : Stmt} : ps X st qNever := PS_weak ps_never fun E σ H ⟨B, F, ρ, PD, s, p, e⟩ => p.elim
theorem s_nevers {st : List Stmt} : pss X st qNever := PSs_weak pss_never fun E σ H ⟨B, F, ρ, PD, s, p, e⟩ => p.elim
theorem s_pass : ps X (.Pass pos) qNext := PS_weak ps_pass fun E σ H ⟨B, F, ρ, PD, s, p, e⟩ => e.nx F ρ σ H s (Le.refl F) p
theorem s_break : ps X (.Break pos) qBreak := PS_weak ps_break fun E σ H ⟨B, F, ρ, PD, s, p, e⟩ => e.bk F ρ σ H s (Le.refl F) p
theorem s_cont : ps X (.Continue pos) qCont := PS_weak ps_continue fun E σ H ⟨B, F, ρ, PD, s, p, e⟩ => e.ct F ρ σ H s (Le.refl F) p
theorem s_doc {x j pos pos'} : ps X (.Expr (.Constant (.str x) j pos) pos') qNext := PS_weak ps_doc fun E σ H ⟨B, F, ρ, PD, s, p, e⟩ => e.nx F ρ σ H s (Le.refl F) p
theorem s_expr {e : Expr} {p : PTE} (he : pe X e p) (hs : swapsWith e none pos.line X.env = pure false := by rfl) : ps X (.Expr e pos) (qDrop p) :=
  PS_weak (ps_expr he hs) fun E σ H ⟨B, F, ρ, PD, s, p, e⟩ => ⟨B.N, F, ρ, _, s.st, p, fun d v F1 H1 p1 x1 r1 => e.nx F1 ρ σ H1 (s.go x1) (x1.le s.ext.fits) p1⟩
theorem s_ret {e : Expr} {p : PTE} (he : pe X e p) : ps X (.Return (some e) pos) (qRet p) :=
  PS_weak (ps_ret he) fun E σ H ⟨B, F, ρ, PD, s, p, e⟩ => ⟨B.N, F, ρ, _, s.st, p, fun d v F1 H1 p1 x1 r1 => e.rt F1 ρ σ H1 d v (s.go x1) (x1.le s.ext.fits) p1 r1⟩
theorem s_retN : ps X (.Return none pos) qRetN := PS_weak ps_retN fun E σ H ⟨B, F, ρ, PD, s, p, e⟩ => e.rt F ρ σ H .non .non s (Le.refl F) p rep_non
theorem s_if {c : Expr} {a b : List Stmt} {t : PTT} {p q : PTS} (hc : pt X c t) (ha : pss X a p) (hb : pss X b q) : ps X (.If c a b pos) (qIf t p q) :=
  PS_weak (ps_if hc ha hb) fun E σ H ⟨B, F, ρ, PD, s, p, e⟩ => ⟨B.N, F, ρ, _, s.st, p, fun b F1 H1 p1 x1 => by
    cases b with
    | true => exact ⟨B, F1, ρ, PD, s.go x1, p1, e.up (x1.le s.ext.fits)⟩
    | false => exact ⟨B, F1, ρ, PD, s.go x1, p1, e.up (x1.le s.ext.fits)⟩⟩
theorem s_set {i : Nat} {x : Str} {e : Expr} {p : PTE} {pos' : Pos} (hN : X.N.Nodup) (he : pe X e p) (hi : X.N[i]? = some x := by rfl) (hx : Loc X.env.scope x := by first | exact Or.inl rfl | exact Or.inr rfl) (hs : swapsWith e (some (.Name x pos')) pos.line X.env = pure false := by rfl)
    (hf : X.fn x = true ∨ X.env.scope.names.lookup x = some .local := by first | exact .inl rfl | exact .inr rfl | assumption) : ps X (.Assign [.Name x pos'] e pos) (qSet i p) :=
  PS_weak (ps_set hN hi hx he hs hf) fun E σ H ⟨B, F, ρ, PD, s, p, e⟩ => ⟨B.N, F, ρ, _, s.st, p, fun d v F1 H1 p1 x1 r1 => e.nx F1 _ _ H1 ⟨(s.go x1).ext, (s.go x1).st.set_sh i r1⟩ (x1.le s.ext.fits) p1⟩
theorem Stt.adopt {N : Bool → Addr → Prop} {F F' : FS} {H H' : Hp} {ρ : Env} {σ : L2.St} (s : Stt K N F ρ σ H) (x : Ext No F H F' H') {c : Bool} {d : D} {a : Addr} (i : Nat) (n : N c a) (hn : H a = none) (hz : F'.fz a = none) (hi : F'.iv a = none) (r : OwnAt K F' H' a d) :
    Stt K N F' (ρ.set i (some (.ow c d))) (σ.set i (some (.ref a))) H' := by
  have s1 := s.ext x
  have old : ∀ (j : Nat) b1 d1, ρ[j]? = some (some (.ow b1 d1)) → σ[j]? = some (some (.ref a)) → False := fun j b1 d1 h1 h3 => by
    obtain ⟨b, e, _, _, _, q⟩ := s.geto h1
    rw [h3] at e
    cases e
    exact q.there hn
  refine ⟨s1.fits, by rw [List.length_set, List.length_set, s.len], fun j x ov h1 h2 => ?_, fun j k b1 d1 b2 d2 b h1 h2 h3 h4 => ?_⟩
  · rcases get_set h1 with ⟨e, h1⟩ | ⟨e, h1⟩
    · rcases get_set h2 with ⟨_, h2⟩ | ⟨e2, h2⟩
      · subst h1; subst h2; exact ⟨a, rfl, n, hz, hi, r⟩
      · exact absurd e e2
    · rcases get_set h2 with ⟨e2, h2⟩ | ⟨e2, h2⟩
      · exact absurd e2 e
      · exact s1.slot j x ov h1 h2
  · rcases get_set h3 with ⟨e3, q3⟩ | ⟨e3, h3⟩
    · cases q3
      rcases get_set h4 with ⟨e4, _⟩ | ⟨e4, h4⟩
      · omega
      · rcases get_set h2 with ⟨e2, _⟩ | ⟨_, h2⟩
        · exact absurd e2 e4
        · exact (old k b2 d2 h2 h4).elim
    · rcases get_set h1 with ⟨e1, _⟩ | ⟨_, h1⟩
      · exact absurd e1 e3
      · rcases get_set h4 with ⟨e4, q4⟩ | ⟨e4, h4⟩
        · cases q4
          exact (old j b1 d1 h1 h3).elim
        · rcases get_set h2 with ⟨e2, _⟩ | ⟨_, h2⟩
          · exact absurd e2 e4
          · exact s.dis j k b1 d1 b2 d2 b h1 h2 h3 h4
/-- x = a new list, dict ..: it is the slot's own -/
theorem s_setN {i : Nat} {x : Str} {e : Expr} {p : PTE} {pos' : Pos} (hN : X.N.Nodup) (he : pf X e p) (hi : X.N[i]? = some x := by rfl) (hx : Loc X.env.scope x := by first | exact Or.inl rfl | exact Or.inr rfl) (hs : swapsWith e (some (.Name x pos')) pos.line X.env = pure false := by rfl)
    (hf : X.fn x = true ∨ X.env.scope.names.lookup x = some .local := by first | exact .inl rfl | exact .inr rfl | assumption) : ps X (.Assign [.Name x pos'] e pos) (qSetN i p) :=
  PS_weak (ps_set hN hi hx he hs hf) fun E σ H ⟨B, F, ρ, PD, s, p, e⟩ => ⟨B.N, F, ρ, _, s.st, p, fun d a F1 H1 p1 x1 hn hz hv r1 => e.nx F1 _ _ H1 ⟨(s.go x1).ext, s.st.adopt x1 (c := true) i (s.ext.dom _ hn) hn hz hv r1⟩ (x1.le s.ext.fits) p1⟩
theorem FSt.freeze {B : Bas} {F : FS} {ρ : Env} {σ : L2.St} {H : Hp} (s : FSt K B F ρ σ H) {i : Nat} {d : D} (h : ρ[i]? = some (some (.ow true d))) : ∃ F', FSt K B F' (ρ.set i (some (.sh d))) σ H ∧ Le F F' := by
  obtain ⟨a, e, n, hz, hi, q⟩ := s.st.geto h
  obtain ⟨o, eo⟩ := some_of_ne q.there
  obtain ⟨s1, l1⟩ := s.st.freeze h e eo fun F' h1 h2 => q.rep eo h1 h2
  exact ⟨_, ⟨s.ext.frz n hz eo, s1⟩, l1⟩
theorem s_frz (i : Nat) {st : List Stmt} {q : PTS} (h : pss X st q) : pss X st (qFrz i q) :=
  PSs_weak h fun E σ H ⟨B, F, ρ, PD, s, q, e⟩ => by
    obtain ⟨d, hd, p⟩ := atOwT_inv q
    obtain ⟨F', s', l'⟩ := s.freeze hd
    exact ⟨B, F', _, PD, s', p, e.up l'⟩

/-! ### an owned list changes -/
theorem FSt.own {B : Bas} {F : FS} {ρ : Env} {σ : L2.St} {H : Hp} (s : FSt K B F ρ σ H) {c : Bool} {i : Nat} {d d' : D} {a : Addr} {o : HO} (h : ρ[i]? = some (some (.ow c d))) (e : σ[i]? = some (some (.ref a))) (r : OwnAt K F (upd H a o) a d') : FSt K B F (ρ.set i (some (.ow c d'))) σ (upd H a o) := by
  obtain ⟨b, e', n, hz, hi, q⟩ := s.st.geto h
  rw [e] at e'
  cases e'
  have s1 := s.st.own_upd h e r
  refine ⟨⟨s.ext.fz, s.ext.iv, s1.fits, s.ext.nfz, s.ext.niv, fun b x eb => ?_, fun b eb => ?_⟩, s1⟩
  · by_cases z : b = a
    · subst z
      cases c with
      | true =>
        have n : B.H0 b = none := n
        rw [eb] at n; cases n
      | false => exact .inl n
    · rw [upd_ne z]; exact s.ext.keep b x eb
  · by_cases z : b = a
    · subst z; rw [upd_same] at eb; cases eb
    · rw [upd_ne z] at eb; exact s.ext.dom b eb
def qApp (i : Nat) (p : PTE) : PTS := fun PD ρ => atOwL (fun c ds => p ρ fun d => ds.length < sizeLine ∧ PD.nx (ρ.set i (some (.ow c (.lst (ds ++ [d])))))) ρ[i]?
theorem own_lst {N : Bool → Addr → Prop} {F : FS} {ρ : Env} {σ : L2.St} {H : Hp} (s : Stt K N F ρ σ H) {i : Nat} {c : Bool} {ds : List D} (h : ρ[i]? = some (some (.ow c (.lst ds)))) : ∃ a vs, σ[i]? = some (some (.ref a)) ∧ H a = some (.lst vs) ∧ Reps K F ds vs := by
  obtain ⟨a, e, _, _, _, vs, q1, q2⟩ := s.geto h
  exact ⟨a, vs, e, q1, q2⟩
theorem s_app {i : Nat} {call : Expr} {p : PTE} (h : PE X call (tBM X.K "list" rAppend (tVar i) (tCons (L X.K p) tNil))) (hs : swapsWith call none pos.line X.env = pure false := by rfl) : ps X (.Expr call pos) (qApp i p) := by
  refine PS_weak (ps_expr h hs) ?_
  rintro E σ H ⟨B, F, ρ, PD, s, q, e⟩
  obtain ⟨c, ds, h1, p⟩ := atOwL_inv q
  obtain ⟨a, vs, q1, q2, q3⟩ := own_lst s.st h1
  refine ⟨.ref a, q1, .inl ⟨rfl, vs, SqL.of q2⟩, B.N, F, ρ, _, s.st, p, fun d v F1 H1 p1 x1 r1 => ?_⟩
  have s1 := s.go x1
  obtain ⟨a', vs', q1', q2', q3'⟩ := own_lst s1.st h1
  rw [q1] at q1'
  cases q1'
  exact ⟨a, vs', v, rfl, rfl, q2', by rw [q3'.length]; exact p1.1, e.nx F1 _ σ _ (s1.own (d' := .lst (ds ++ [d])) h1 q1 ⟨_, upd_same, q3'.append (Reps.one r1)⟩) (x1.le s.ext.fits) p1.2⟩
end
end Pu
namespace Pu
open PySem PySem.Spec L2

/-! ### targets -/
abbrev PTG := D → Env → (Env → Prop) → Prop
abbrev PTGs := List D → Env → (Env → Prop) → Prop
/-- a target stores into slots of is alone -/
def LG (K : Fg) (is : List Nat) (g : PTG) : TG := fun v σ H Q => ∃ N F ρ d P, Stt K N F ρ σ H ∧ Rep K F d v ∧ g d ρ P ∧ ∀ ρ' σ', Stt K N F ρ' σ' H → P ρ' → (∀ vs : List Nat, (∀ i ∈ is, i ∈ vs) → wipe σ' vs = wipe σ vs) → Q σ' H
def LGs (K : Fg) (is : List Nat) (g : PTGs) : TGs := fun vs σ H Q => ∃ N F ρ ds P, Stt K N F ρ σ H ∧ Reps K F ds vs ∧ g ds ρ P ∧ ∀ ρ' σ', Stt K N F ρ' σ' H → P ρ' → (∀ vs : List Nat, (∀ i ∈ is, i ∈ vs) → wipe σ' vs = wipe σ vs) → Q σ' H
structure pg (X : Cx) (tg : Expr) (is : List Nat) (g : PTG) : Prop where
  h : PG X tg (LG X.K is g)
structure pgs (X : Cx) (tg : List Expr) (is : List Nat) (g : PTGs) : Prop where
  h : PGs X tg (LGs X.K is g)
def gN (i : Nat) : PTG := fun d ρ Q => Q (ρ.set i (some (.sh d)))
def gT (n : Nat) (g : PTGs) : PTG
  | .tup ds, ρ, Q => ds.length = n ∧ g ds ρ Q
  | _, _, _ => False
def gNilP : PTGs := fun ds ρ Q => ds = [] ∧ Q ρ
def gConsP (g : PTG) (h : PTGs) : PTGs
  | d :: r, ρ, Q => g d ρ fun ρ' => h r ρ' Q
  | [], _, _ => False
section
variable {K : Fg} {F F' : FS} {H H' : Hp} {X : Cx} {pos : Pos}
theorem PG_weak {e : Expr} {t t' : TG} (h : PG X e t) (w : ∀ v σ H Q, t' v σ H Q → t v σ H Q) : PG X e t' := ⟨fun pins s σ H v u Q I r q => h.run pins s σ H v u Q I r (w _ _ _ _ q)⟩
theorem PGs_weak {e : List Expr} {t t' : TGs} (h : PGs X e t) (w : ∀ v σ H Q, t' v σ H Q → t v σ H Q) : PGs X e t' := ⟨fun pins s σ H v u Q I r q => h.run pins s σ H v u Q I r (w _ _ _ _ q)⟩
theorem wipe_at {σ : L2.St} : ∀ {vs : List Nat} {j : Nat}, (wipe σ vs)[j]? = if j ∈ vs then σ[j]?.map (fun _ => none) else σ[j]?
  | [], j => by simp [wipe]
  | v :: vs, j => by
    have ih := wipe_at (σ := σ) (vs := vs) (j := j)
    show ((wipe σ vs).set v none)[j]? = _
    rw [List.getElem?_set]
    by_cases h : v = j
    · subst h
      rw [if_pos rfl, if_pos (show v ∈ v :: vs by simp), wipe_length]
      by_cases hl : v < σ.length
      · rw [if_pos hl, List.getElem?_eq_getElem hl]; rfl
      · rw [if_neg hl, List.getElem?_eq_none (Nat.le_of_not_lt hl)]; rfl
    · rw [if_neg h, ih]
      by_cases h2 : j ∈ vs
      · rw [if_pos h2, if_pos (show j ∈ v :: vs by simp [h2])]
      · rw [if_neg h2, if_neg (show ¬ j ∈ v :: vs by simp [h2, Ne.symm h])]
theorem wipe_set {σ : L2.St} {vs : List Nat} {i : Nat} {x : Option V} (h : i ∈ vs) : wipe (σ.set i x) vs = wipe σ vs := by
  apply List.ext_getElem?
  intro j
  rw [wipe_at, wipe_at]
  by_cases hj : j ∈ vs
  · rw [if_pos hj, if_pos hj, List.getElem?_set]
    by_cases e : i = j
    · subst e
      rw [if_pos rfl]
      by_cases hl : i < σ.length
      · rw [if_pos hl, List.getElem?_eq_getElem hl]; rfl
      · rw [if_neg hl, List.getElem?_eq_none (Nat.le_of_not_lt hl)]
    · rw [if_neg e]
  · have hne : i ≠ j := fun e => hj (by rw [← e]; exact h)
    rw [if_neg hj, if_neg hj, List.getElem?_set, if_neg hne]
theorem g_name {i : Nat} {x : Str} (hN : X.N.Nodup) (hi : X.N[i]? = some x := by rfl) (hx : Loc X.env.scope x := by first | exact Or.inl rfl | exact Or.inr rfl) (hf : X.fn x = true ∨ X.env.scope.names.lookup x = some .local := by first | exact .inl rfl | exact .inr rfl | assumption) : pg X (.Name x pos) [i] (gN i) :=
  ⟨PG_weak (pg_name hN hi hx hf) fun v σ H Q ⟨N, F, ρ, d, P, s, r, p, k⟩ => k _ _ (s.set_sh i r) p fun vs h => wipe_set (h i (by simp))⟩
theorem gs_nil : pgs X [] [] gNilP := ⟨PGs_weak pgs_nil fun v σ H Q ⟨N, F, ρ, d, P, s, r, p, k⟩ => by
  obtain ⟨rfl, p⟩ := p
  simp only [Reps] at r
  exact ⟨r, k _ _ s p fun _ _ => rfl⟩⟩
theorem gs_cons {e : Expr} {es : List Expr} {is js : List Nat} {g : PTG} {h : PTGs} (h1 : pg X e is g) (h2 : pgs X es js h)
    (hs : (assignEach (e :: es) X.env).map (·.2) = assign e X.env :: (assignEach es X.env).map (·.2) := by rfl) : pgs X (e :: es) (is ++ js) (gConsP g h) :=
  ⟨PGs_weak (pgs_cons h1.h h2.h hs) fun v σ H Q ⟨N, F, ρ, ds, P, s, r, p, k⟩ => by
    cases ds with
    | nil => exact p.elim
    | cons d r' =>
    simp only [Reps] at r
    obtain ⟨v, vs, rfl, r1, r2⟩ := r
    exact ⟨v, vs, rfl, N, F, ρ, d, _, s, r1, p, fun ρ' σ' s' p' w' => ⟨N, F, ρ', r', P, s', r2, p', fun ρ2 σ2 s2 p2 w2 => k ρ2 σ2 s2 p2 fun us hu => (w2 us fun i hi => hu i (by simp [hi])).trans (w' us fun i hi => hu i (by simp [hi]))⟩⟩⟩
theorem g_tup {es : List Expr} {is : List Nat} {kk : Nat} {g : PTGs} (hc : X.calm = true) (h : pgs X es is g) (hst : (assignEach es X.env).findIdx? (·.1) = none := by rfl) (n : Nat) (hn : (assignEach es X.env).length = n := by rfl) :
    pg X (.Tuple es kk pos) is (gT n g) :=
  ⟨PG_weak (pg_tup hc h.h hn hst) fun v σ H Q ⟨N, F, ρ, d, P, s, r, p, k⟩ => by
    cases d <;> try exact p.elim
    rename_i ds
    obtain ⟨hl, p⟩ := p
    simp only [Rep] at r
    obtain ⟨a, vs, rfl, h1, q⟩ := r
    exact ⟨a, vs, rfl, Same.seqT s.fits.fz h1, by rw [q.length]; exact hl, N, F, ρ, ds, P, s, q, p, k⟩⟩

/-! ### what is walked -/
def WalkD (K : Fg) (F : FS) (J : It) (ds : List D) : Prop := ∃ G Y, Walk J ds.length G Y ∧ (∀ F' H', Le F F' → Fits F' H' → G H') ∧ (∀ i H1 x H2 F1, Le F F1 → Fits F1 H1 → Y i H1 x H2 → ∃ d F2, ds[i]? = some d ∧ Ext No F1 H1 F2 H2 ∧ Rep K F2 d x)
def WalkE (K : Fg) (F : FS) (H : Hp) (J : It) (ds : List D) : Prop := ∃ G Y, Walk J ds.length G Y ∧ (∀ F' H', Ext No F H F' H' → G H') ∧ (∀ i H1 x H2 F1, Ext No F H F1 H1 → Y i H1 x H2 → ∃ d F2, ds[i]? = some d ∧ Ext No F1 H1 F2 H2 ∧ Rep K F2 d x)
theorem WalkD.e {J : It} {ds : List D} (w : WalkD K F J ds) (f : Fits F H) : WalkE K F H J ds := by
  obtain ⟨G, Y, h1, h2, h3⟩ := w
  exact ⟨G, Y, h1, fun F' H' x => h2 F' H' (x.le f) x.fits, fun i H1 x H2 F1 e => h3 i H1 x H2 F1 (e.le f) e.fits⟩
def LI (K : Fg) (w : PTA) : TI := fun σ H R => ∃ N F ρ P, Stt K N F ρ σ H ∧ w ρ P ∧ ∀ ds J F' H', P ds → Ext No F H F' H' → WalkD K F' J ds → R J H'
def LIr (K : Fg) (w : PTA) : TI := fun σ H R => ∃ N F ρ P, Stt K N F ρ σ H ∧ w ρ P ∧ ∀ ds J F' H', P ds → Ext No F H F' H' → WalkE K F' H' J ds → R J H'
def pi (X : Cx) (tg iter : Expr) (w : PTA) : Prop := PI X tg iter (LI X.K w)
def pir (X : Cx) (tg iter : Expr) (w : PTA) : Prop := PI X tg iter (LIr X.K w)
theorem PI_weak {tg e : Expr} {t t' : TI} (h : PI X tg e t) (w : ∀ σ H R, t' σ H R → t σ H R) : PI X tg e t' := ⟨fun pins s σ H R I q => h.run pins s σ H R I (w _ _ _ q)⟩
theorem pi.r {tg e : Expr} {w : PTA} (h : pi X tg e w) : pir X tg e w := PI_weak h fun σ H R ⟨N, F, ρ, P, s, p, k⟩ => ⟨N, F, ρ, P, s, p, fun ds J F' H' a b c => k ds J F' H' a b (c.e b.fits)⟩
theorem walkD_list {a : Addr} {vs : List V} {ds : List D} (h : SqL K F.fz a vs) (r : Reps K F ds vs) : WalkD K F (Itl K a) ds :=
  ⟨_, _, by rw [← r.length]; exact walk_list, fun F' H' l f => f.fz.seq (l.fz.seq h), fun i H1 x H2 F1 l f y => by
    obtain ⟨rfl, e⟩ := y
    obtain ⟨d, e1, r1⟩ := r.get' e
    exact ⟨d, F1, e1, Ext.refl f, r1.mono l⟩⟩
theorem walkD_tup {a : Addr} {vs : List V} {ds : List D} (h : SqT K F.fz a vs) (r : Reps K F ds vs) : WalkD K F (Itt K a) ds :=
  ⟨_, _, by rw [← r.length]; exact walk_tup, fun F' H' l f => Same.seqT f.fz (Same.seqT l.fz h), fun i H1 x H2 F1 l f y => by
    obtain ⟨rfl, e⟩ := y
    obtain ⟨d, e1, r1⟩ := r.get' e
    exact ⟨d, F1, e1, Ext.refl f, r1.mono l⟩⟩
theorem walkD_range (lo : Int) (n : Nat) : WalkD K F (Itr lo n) ((List.range n).map fun (k : Nat) => .int (lo + k)) :=
  ⟨fun _ => True, fun i H1 x H2 => i < n ∧ H2 = H1 ∧ x = .int (lo + i), by
    rw [List.length_map, List.length_range]
    exact ⟨fun _ _ hi _ => hi, fun _ _ => Nat.le_refl _, fun i _ _ _ hi _ y => ⟨hi, y⟩⟩, fun _ _ _ _ => trivial, fun i H1 x H2 F1 l f ⟨hi, e1, e2⟩ => by
    subst e1; subst e2
    exact ⟨.int (lo + i), F1, by rw [List.getElem?_map, List.getElem?_range hi]; rfl, Ext.refl f, rep_int⟩⟩
/-- a list or a tuple, as it comes -/
theorem pi_seq {tg l : Expr} {tl : TE} (hl : PE X l tl) : PI X tg l (fun σ H R => tl σ H fun x H1 => ∃ a, x = .ref a ∧ (((∃ xs, SqL X.K H1 a xs) ∧ R (Itl X.K a) H1) ∨ ((∃ xs, SqT X.K H1 a xs) ∧ R (Itt X.K a) H1))) := by
  constructor
  intro pins s σ H R I h
  refine thn (hl.run pins s σ H _ I h) ?_
  rintro v s1 ⟨x, H1, I1, r1, a, rfl, ⟨⟨xs, hq⟩, q⟩ | ⟨⟨xs, hq⟩, q⟩⟩
  · cases r1
    obtain ⟨its, _, p, _⟩ := I1.list hq
    exact wpAny_pyIter_list p.isList (pi_one I1 _ (turn_list a _) ⟨_, Heap.get?_push_size _ rfl, rfl, rfl⟩ q)
  · cases r1
    obtain ⟨its, _, p, _⟩ := I1.tuple hq
    exact wpAny_pyIter_tuple (show s1.heap.IsTuple a its.toArray from p) (pi_one I1 _ (turn_tuple a _) ⟨_, Heap.get?_push_size _ rfl, rfl, rfl⟩ q)
def pSeq (p : PTE) : PTA := fun ρ P => p ρ fun d => isSome P (asList d)
theorem i_seq {tg l : Expr} {p : PTE} (h : pe X l p) : pi X tg l (pSeq p) :=
  PI_weak (pi_seq h) fun σ H R ⟨N, F, ρ, P, s, p, k⟩ => ⟨N, F, ρ, _, s, p, fun d v F1 H1 p1 x1 r1 => by
    obtain ⟨ds, e, p1⟩ := isSome_inv p1
    cases d <;> cases e
    · simp only [Rep] at r1
      obtain ⟨a, vs, rfl, h1, q⟩ := r1
      exact ⟨a, rfl, .inr ⟨⟨vs, Same.seqT x1.fits.fz h1⟩, k _ _ _ _ p1 x1 (walkD_tup h1 q)⟩⟩
    · simp only [Rep] at r1
      obtain ⟨a, vs, rfl, h1, q⟩ := r1
      exact ⟨a, rfl, .inl ⟨⟨vs, SqL.of (x1.fits.fz _ _ h1)⟩, k _ _ _ _ p1 x1 (walkD_list (SqL.of h1) q)⟩⟩
    · simp only [Rep] at r1
      obtain ⟨a, vs, rfl, h1, q⟩ := r1
      exact ⟨a, rfl, .inl ⟨⟨vs, x1.fits.fz.seq h1⟩, k _ _ _ _ p1 x1 (walkD_list h1 q)⟩⟩⟩
theorem walkE_own {a : Addr} {vs : List V} {ds : List D} (f : Fits F H) (h : H a = some (.lst vs)) (hz : F.fz a = none) (hi : F.iv a = none) (r : Reps K F ds vs) : WalkE K F H (Itl K a) ds :=
  ⟨_, _, by rw [← r.length]; exact walk_list, fun F' H' x => by
      rcases x.keep _ _ h with q | ⟨φ, q⟩ | q
      · exact q.elim
      · rw [hi] at q; cases q
      · exact SqL.of q, fun i H1 x H2 F1 l y => by
    obtain ⟨rfl, e⟩ := y
    obtain ⟨d, e1, r1⟩ := r.get' e
    exact ⟨d, F1, e1, Ext.refl l.fits, r1.ext l f⟩⟩
/-- walked within an expression: an owned list, too -/
theorem ir_seq {tg l : Expr} {p : PTE} (h : pr X l p) : pir X tg l (pSeq p) :=
  PI_weak (pi_seq h) fun σ H R ⟨N, F, ρ, P, s, p, k⟩ => ⟨N, F, ρ, _, s, p, fun d v F1 H1 p1 x1 r1 => by
    obtain ⟨ds, e, p1⟩ := isSome_inv p1
    rcases r1 with r1 | ⟨a, rfl, hz, hi, o⟩
    · cases d <;> cases e
      · simp only [Rep] at r1
        obtain ⟨a, vs, rfl, h1, q⟩ := r1
        exact ⟨a, rfl, .inr ⟨⟨vs, Same.seqT x1.fits.fz h1⟩, k _ _ _ _ p1 x1 ((walkD_tup h1 q).e x1.fits)⟩⟩
      · simp only [Rep] at r1
        obtain ⟨a, vs, rfl, h1, q⟩ := r1
        exact ⟨a, rfl, .inl ⟨⟨vs, SqL.of (x1.fits.fz _ _ h1)⟩, k _ _ _ _ p1 x1 ((walkD_list (SqL.of h1) q).e x1.fits)⟩⟩
      · simp only [Rep] at r1
        obtain ⟨a, vs, rfl, h1, q⟩ := r1
        exact ⟨a, rfl, .inl ⟨⟨vs, x1.fits.fz.seq h1⟩, k _ _ _ _ p1 x1 ((walkD_list h1 q).e x1.fits)⟩⟩
    · cases d <;> cases e
      · exact o.elim
      · obtain ⟨vs, h1, q⟩ := o
        exact ⟨a, rfl, .inl ⟨⟨vs, SqL.of h1⟩, k _ _ _ _ p1 x1 (walkE_own x1.fits h1 hz hi q)⟩⟩
      · exact o.elim⟩
def isInt (P : Int → Prop) : D → Prop
  | .int i => P i
  | _ => False
theorem isInt_inv {P : Int → Prop} {d : D} (h : isInt P d) : ∃ i, d = .int i ∧ P i := by
  cases d <;> first | exact h.elim | exact ⟨_, rfl, h⟩
def rangeD (lo : Int) (n : Nat) : List D := (List.range n).map fun (k : Nat) => .int (lo + k)
def pRange1 (p : PTE) : PTA := fun ρ P => p ρ (isInt fun n => -(2 ^ 62) ≤ n ∧ n < 2 ^ 62 ∧ P (rangeD 0 n.toNat))
theorem i_range1 {tg a : Expr} {q : PTE} {p pos : Pos} (ha : pr X a q) (hg : Gl X "range") (hm : X.mg "range" = none) (hs1 : starEach [a] X.env = [(false, eval a X.env)] := by rfl) : pi X tg (.Call (.Name "range" p) [a] [] pos) (pRange1 q) :=
  PI_weak (pi_range1 hg hm (pa_cons ha pa_nil hs1) hs1) fun σ H R ⟨N, F, ρ, P, s, p, k⟩ => ⟨N, F, ρ, _, s, p, fun d v F1 H1 p1 x1 r1 => by
    obtain ⟨n, rfl, h1, h2, p1⟩ := isInt_inv p1
    exact ⟨n, by rw [r1.int], h1, h2, k _ _ _ _ p1 x1 (walkD_range 0 n.toNat)⟩⟩
def pRange2 (p q : PTE) : PTA := fun ρ P => p ρ (isInt fun i => q ρ (isInt fun j => (-(2 ^ 62) ≤ i ∧ i < 2 ^ 62 ∧ -(2 ^ 62) ≤ j ∧ j < 2 ^ 62) ∧ P (rangeD i (j - i).toNat)))
theorem i_range2 {tg a b : Expr} {q q2 : PTE} {p pos : Pos} (ha : pr X a q) (hb : pr X b q2) (hg : Gl X "range") (hm : X.mg "range" = none) (hs : starEach [a, b] X.env = [(false, eval a X.env), (false, eval b X.env)] := by rfl) (hs2 : starEach [b] X.env = [(false, eval b X.env)] := by rfl) : pi X tg (.Call (.Name "range" p) [a, b] [] pos) (pRange2 q q2) :=
  PI_weak (pi_range2 hg hm (pa_cons ha (pa_cons hb pa_nil hs2) (by rw [hs, hs2])) hs hs2) fun σ H R ⟨N, F, ρ, P, s, p, k⟩ => ⟨N, F, ρ, _, s, p, fun d v F1 H1 p1 x1 r1 => by
    obtain ⟨i, rfl, p1⟩ := isInt_inv p1
    refine ⟨N, F1, ρ, _, s.ext x1, p1, fun e u F2 H2 p2 x2 r2 => ?_⟩
    obtain ⟨j, rfl, h1, p2⟩ := isInt_inv p2
    exact ⟨i, j, by rw [r1.int, r2.int], h1, k _ _ _ _ p2 (x1.then0 x2) (walkD_range i (j - i).toNat)⟩⟩

/-! ### for -/
def forW (g : PTG) (body : PTS) (PD : PEnds) : List D → Env → Prop
  | [], ρ => PD.nx ρ
  | d :: ds, ρ => g d ρ fun ρ' => body { nx := forW g body PD ds, rt := PD.rt, ct := forW g body PD ds, bk := PD.nx } ρ'
/-- a for by what holds of the rest and the slots -/
def forI (g : PTG) (body : PTS) (PD : PEnds) (ds : List D) (ρ : Env) : Prop :=
  ∃ I : List D → Env → Prop, I ds ρ ∧ (∀ d ds ρ, I (d :: ds) ρ → g d ρ fun ρ' => body { nx := I ds, rt := PD.rt, ct := I ds, bk := PD.nx } ρ') ∧ ∀ ρ, I [] ρ → PD.nx ρ
theorem forI_unroll {g : PTG} {body : PTS} {PD : PEnds} {ds : List D} {ρ : Env} (h : forW g body PD ds ρ) : forI g body PD ds ρ := ⟨fun ds ρ => forW g body PD ds ρ, h, fun _ _ _ h => h, fun _ h => h⟩
theorem forI_inv {g : PTG} {body : PTS} {PD : PEnds} {ds : List D} {ρ : Env} (I : List D → Env → Prop) (h0 : I ds ρ) (hs : ∀ d ds ρ, I (d :: ds) ρ → g d ρ fun ρ' => body { nx := I ds, rt := PD.rt, ct := I ds, bk := PD.nx } ρ') (hd : ∀ ρ, I [] ρ → PD.nx ρ) : forI g body PD ds ρ := ⟨I, h0, hs, hd⟩
def qFor (w : PTA) (g : PTG) (body : PTS) : PTS := fun PD ρ => w ρ fun ds => forI g body PD ds ρ
theorem s_for {tg iter : Expr} {body : List Stmt} {is : List Nat} {w : PTA} {g : PTG} {p : PTS} (hp : PassesOwn (model X.prog X.w) X.A X.env X.xe) (hc : X.calm = true) (hi : pi X tg iter w) (hg : pg X tg is g) (hb : pss X body p)
    (hs : ∀ x, foldedSetIterable iter X.env x = pure x := by intro _; rfl) : ps X (.For tg iter body [] pos) (qFor w g p) :=
  PS_weak (ps_for hp hc hi hg.h hb hs) fun E σ H ⟨B, F, ρ, PD, s, q, e⟩ => ⟨B.N, F, ρ, _, s.st, q, fun ds J F1 H1 p1 x1 wk => by
    obtain ⟨G, Y, wk, hG, hY⟩ := wk
    obtain ⟨I, p1, hst, hdn⟩ := p1
    have s1 := s.go x1
    refine for_it wk (fun i σ' H' => ∃ F' ρ', FSt X.K B F' ρ' σ' H' ∧ Le F1 F' ∧ I (ds.drop i) ρ') ⟨F1, ρ, s1, Le.refl F1, by simpa using p1⟩ (fun i σ' H' _ ⟨F', ρ', s', l', _⟩ => hG F' H' l' s'.ext.fits) ?_ ?_
    · rintro i x σ' H' H2 hi' ⟨F', ρ', s', l', q'⟩ y
      obtain ⟨d, F2, hd, x2, r2⟩ := hY i H' x H2 F' l' s'.ext.fits y
      have hdr : ds.drop i = d :: ds.drop (i + 1) := by
        obtain ⟨h1, h2⟩ := List.getElem?_eq_some_iff.mp hd
        rw [List.drop_eq_getElem_cons h1, h2]
      rw [hdr] at q'
      have q' := hst _ _ _ q'
      have s2 := s'.go x2
      have l2 : Le F1 F2 := l'.trans (x2.le s'.ext.fits)
      have e2 := (e.up (x1.le s.ext.fits)).up l2
      refine ⟨B.N, F2, ρ', d, _, s2.st, r2, q', fun ρ3 σ3 st3 q3 _ => ⟨B, F2, ρ3, _, ⟨s2.ext, st3⟩, q3, ⟨fun F4 ρ4 σ4 H4 s4 l4 q4 => ⟨F4, ρ4, s4, l2.trans l4, q4⟩, e2.rt, fun F4 ρ4 σ4 H4 s4 l4 q4 => e2.nx F4 ρ4 σ4 H4 s4 l4 q4, fun F4 ρ4 σ4 H4 s4 l4 q4 => ⟨F4, ρ4, s4, l2.trans l4, q4⟩⟩⟩⟩
    · rintro σ' H' ⟨F', ρ', s', l', q'⟩
      rw [List.drop_length] at q'
      exact e.nx F' ρ' σ' H' s' ((x1.le s.ext.fits).trans l') (hdn _ q')⟩

/-! ### while -/
def whileW (t : PTT) (body : PTS) (PD : PEnds) : Nat → Env → Prop
  | 0, _ => False
  | n + 1, ρ => t ρ fun c => if c = true then body { nx := whileW t body PD n, rt := PD.rt, ct := whileW t body PD n, bk := PD.nx } ρ else PD.nx ρ
def whileI (t : PTT) (body : PTS) (PD : PEnds) (ρ : Env) : Prop :=
  ∃ I : Nat → Env → Prop, (∃ n, I n ρ) ∧ ∀ n ρ, I n ρ → t ρ fun c => if c = true then body { nx := fun ρ => ∃ m, m < n ∧ I m ρ, rt := PD.rt, ct := fun ρ => ∃ m, m < n ∧ I m ρ, bk := PD.nx } ρ else PD.nx ρ
theorem whileI_inv {t : PTT} {body : PTS} {PD : PEnds} {ρ : Env} (I : Nat → Env → Prop) (n : Nat) (h0 : I n ρ) (hs : ∀ n ρ, I n ρ → t ρ fun c => if c = true then body { nx := fun ρ => ∃ m, m < n ∧ I m ρ, rt := PD.rt, ct := fun ρ => ∃ m, m < n ∧ I m ρ, bk := PD.nx } ρ else PD.nx ρ) : whileI t body PD ρ := ⟨I, ⟨n, h0⟩, hs⟩
def qWhile (t : PTT) (body : PTS) : PTS := fun PD ρ => whileI t body PD ρ
theorem s_while {c : Expr} {body : List Stmt} {t : PTT} {p : PTS} (hp : PassesOwn (model X.prog X.w) X.A X.env X.xe) (hc : pt X c t) (hb : pss X body p) : ps X (.While c body [] pos) (qWhile t p) :=
  PS_weak (ps_while hp hc hb) fun E σ H ⟨B, F, ρ, PD, s, ⟨I, ⟨n, q⟩, hst⟩, e⟩ => by
    refine ⟨fun m σ' H' => ∃ F' ρ', FSt X.K B F' ρ' σ' H' ∧ Le F F' ∧ I m ρ', ⟨n, F, ρ, s, Le.refl F, q⟩, ?_⟩
    rintro m σ' H' ⟨F', ρ', s', l', q'⟩
    · have q' := hst _ _ q'
      refine ⟨B.N, F', ρ', _, s'.st, q', fun b F1 H1 p1 x1 => ?_⟩
      have l1 := l'.trans (x1.le s'.ext.fits)
      have e1 := e.up l1
      cases b with
      | true =>
        refine ⟨fun σ2 H2 => ∃ F2 ρ2, FSt X.K B F2 ρ2 σ2 H2 ∧ Le F F2 ∧ ∃ m', m' < m ∧ I m' ρ2, fun σ2 H2 ⟨F2, ρ2, h1, h2, m', h3, h4⟩ => ⟨m', h3, F2, ρ2, h1, h2, h4⟩, ?_⟩
        exact ⟨B, F1, ρ', _, s'.go x1, p1, ⟨fun F4 ρ4 σ4 H4 s4 l4 q4 => ⟨F4, ρ4, s4, l1.trans l4, q4⟩, e1.rt, fun F4 ρ4 σ4 H4 s4 l4 q4 => e1.nx F4 ρ4 σ4 H4 s4 l4 q4, fun F4 ρ4 σ4 H4 s4 l4 q4 => ⟨F4, ρ4, s4, l1.trans l4, q4⟩⟩⟩
      | false => exact e1.nx F1 ρ' σ' H1 (s'.go x1) (Le.refl F1) p1

/-! ### comprehensions -/
def compW (vs : List Nat) (g : PTG) (t : PTT) (e : PTE) (ρ : Env) (P : DK) : List D → List D → Prop
  | [], acc => P (.lst acc)
  | d :: ds, acc => g d (wipeE ρ vs) fun ρ' => t ρ' fun b => if b = true then e ρ' fun y => acc.length < sizeLine ∧ compW vs g t e ρ P ds (acc ++ [y]) else compW vs g t e ρ P ds acc
def compI (vs : List Nat) (g : PTG) (t : PTT) (e : PTE) (ρ : Env) (P : DK) (ds : List D) : Prop :=
  ∃ I : List D → List D → Prop, I ds [] ∧ (∀ d ds acc, I (d :: ds) acc → g d (wipeE ρ vs) fun ρ' => t ρ' fun b => if b = true then e ρ' fun y => acc.length < sizeLine ∧ I ds (acc ++ [y]) else I ds acc) ∧ ∀ acc, I [] acc → P (.lst acc)
theorem compI_unroll {vs : List Nat} {g : PTG} {t : PTT} {e : PTE} {ρ : Env} {P : DK} {ds : List D} (h : compW vs g t e ρ P ds []) : compI vs g t e ρ P ds := ⟨fun ds acc => compW vs g t e ρ P ds acc, h, fun _ _ _ h => h, fun _ h => h⟩
theorem compI_inv {vs : List Nat} {g : PTG} {t : PTT} {e : PTE} {ρ : Env} {P : DK} {ds : List D} (I : List D → List D → Prop) (h0 : I ds []) (hs : ∀ d ds acc, I (d :: ds) acc → g d (wipeE ρ vs) fun ρ' => t ρ' fun b => if b = true then e ρ' fun y => acc.length < sizeLine ∧ I ds (acc ++ [y]) else I ds acc) (hd : ∀ acc, I [] acc → P (.lst acc)) : compI vs g t e ρ P ds := ⟨I, h0, hs, hd⟩
def pComp (vs : List Nat) (w : PTA) (g : PTG) (t : PTT) (e : PTE) : PTE := fun ρ P => w ρ fun ds => compI vs g t e ρ P ds
def pYes : PTT := fun _ P => P true
def pts (X : Cx) (ifs : List Expr) (p : PTT) : Prop := PTs X ifs (LT X.K p)
theorem PTs_weak {e : List Expr} {t t' : TT} (h : PTs X e t) (w : ∀ σ H Q, t' σ H Q → t σ H Q) : PTs X e t' := ⟨fun pins s σ H Q I q => h.run pins s σ H Q I (w _ _ _ q)⟩
theorem ts_nil : pts X [] pYes := PTs_weak L2.pts_nil fun σ H Q ⟨N, F, ρ, P, s, p, k⟩ => k true F H p (Ext.refl s.fits)
theorem ts_one {c : Expr} {p : PTT} (h : pt X c p) : pts X [c] p := L2.pts_one h
theorem Ext.newobj {O : Addr → Prop} (x : Ext O F H F' H') {a : Addr} {o : HO} (hn : H a = none) (hz : F'.fz a = none) (hi : F'.iv a = none) (he : H' a ≠ none) : Ext O F H F' (upd H' a o) := by
  refine ⟨x.fz, x.iv, ⟨fun b y q => ?_, fun b φ q => ?_⟩, x.nfz, x.niv, fun b y q => ?_, fun b q => ?_⟩
  · rw [upd_ne (fun z => by rw [z, hz] at q; cases q)]; exact x.fits.fz _ _ q
  · obtain ⟨y, h1, h2⟩ := x.fits.iv b φ q
    exact ⟨y, by rw [upd_ne (fun z => by rw [z, hi] at q; cases q)]; exact h1, h2⟩
  · rcases x.keep b y q with h | h | h
    · exact .inl h
    · exact .inr (.inl h)
    · exact .inr (.inr (by rw [upd_ne (fun z => by rw [z, hn] at q; cases q)]; exact h))
  · by_cases z : b = a
    · subst z; rw [upd_same] at q; cases q
    · rw [upd_ne z] at q; exact x.dom b q
theorem comp_ok {own : List (Str × Nat)} {is : List Nat} {w : PTA} {g : PTG} {t : PTT} {e : PTE} (hsub : ∀ i ∈ is, i ∈ own.map (·.2)) : ∀ σ H Q, Lf X.K (pComp (own.map (·.2)) w g t e) σ H Q → tLc (LIr X.K w) (LG X.K is g) (LT X.K t) (L X.K e) (own.map (·.2)) σ H Q :=
  fun σ H Q ⟨N, F, ρ, P, s, q, k⟩ => ⟨N, F, ρ, _, s, q, fun ds J F1 H1 p1 x1 wk D0 hD => by
    obtain ⟨G, Y, wk, hG, hY⟩ := wk
    obtain ⟨I, p1, hst, hdn⟩ := p1
    have hz1 := x1.fits.none_fz hD
    have hi1 := x1.fits.none_iv hD
    refine lc_it wk (fun i H' => ∃ F' acc vs, Ext No F1 H1 F' H' ∧ F'.fz D0 = none ∧ F'.iv D0 = none ∧ H' D0 = some (.lst vs) ∧ Reps X.K F' acc vs ∧ I (ds.drop i) acc)
      ⟨F1, [], [], Ext.newM x1.fits hD, hz1, hi1, upd_same, Reps.nil, by simpa using p1⟩ (fun i H' _ ⟨F', _, _, x', _⟩ => hG F' H' x') ?_ ?_
    · rintro i x H' H2 hi' ⟨F', acc, vs, x', hz, hv, hl, rs, q'⟩ y
      obtain ⟨d, F2, hd, x2, r2⟩ := hY i H' x H2 F' x' y
      have hdr : ds.drop i = d :: ds.drop (i + 1) := by
        obtain ⟨h1, h2⟩ := List.getElem?_eq_some_iff.mp hd
        rw [List.drop_eq_getElem_cons h1, h2]
      rw [hdr] at q'
      have q' := hst _ _ _ q'
      have st2 := ((s.ext x1).ext (x'.then0 x2)).wipe (own.map (·.2))
      have ow : OwnAt X.K F' H' D0 (.lst acc) := ⟨vs, hl, rs⟩
      refine ⟨N, F2, _, d, _, st2, r2, q', fun ρ3 σ3 st3 q3 w3 => ⟨?_, N, F2, ρ3, _, st3, q3, fun b F3 H3 p3 x3 => ?_⟩⟩
      · rw [w3 _ hsub]
        apply List.ext_getElem?
        intro j
        rw [wipe_at]
        by_cases hj : j ∈ own.map (·.2)
        · rw [if_pos hj, wipe_at, if_pos hj]
          cases σ[j]? <;> rfl
        · rw [if_neg hj]
      · have x23 := x2.then0 x3
        cases b with
        | false =>
          obtain ⟨o1, o2, o3⟩ := own_keep ow hz hv x23 x'.fits
          obtain ⟨vs', h1, h2⟩ := o1
          exact ⟨F3, acc, vs', x'.then0 x23, o2, o3, h1, h2, p3⟩
        | true =>
          refine ⟨N, F3, ρ3, _, st3.ext x3, p3, fun z v F4 H4 p4 x4 r4 => ?_⟩
          obtain ⟨o1, o2, o3⟩ := own_keep ow hz hv (x23.then0 x4) x'.fits
          obtain ⟨vs', h1, h2⟩ := o1
          refine ⟨vs', h1, by rw [h2.length]; exact p4.1, F4, acc ++ [z], vs' ++ [v], (x'.then0 (x23.then0 x4)).newobj hD o2 o3 (by rw [h1]; intro z; cases z), o2, o3, upd_same, h2.append (Reps.one r4), p4.2⟩
    · rintro H' ⟨F', acc, vs, x', hz, hv, hl, rs, q'⟩
      rw [List.drop_length] at q'
      exact k _ D0 F' H' (hdn _ q') (x1.then0 x') (x1.dom _ hD) hz hv ⟨vs, hl, rs⟩⟩
theorem f_comp {elt tg iter : Expr} {ifs : List Expr} {scope : Scope} {own : List (Str × Nat)} {is : List Nat} {w : PTA} {g : PTG} {t : PTT} {e : PTE} (hc : X.calm = true) (hN : X.N.Nodup) (hi : pir X tg iter w) (ok : BlkOk X.N X.env.scope scope own)
    (hg : ∀ (s : Shared) (H : Hp) (C : Addr) (cl : List (Str × Addr)) (fp : List Addr), pg (X.blk s H scope (compEnvC scope cl C X.env) fp) tg is g) (ht : ∀ (s : Shared) (H : Hp) (C : Addr) (cl : List (Str × Addr)) (fp : List Addr), pts (X.blk s H scope (compEnvC scope cl C X.env) fp) ifs t)
    (he : ∀ (s : Shared) (H : Hp) (C : Addr) (cl : List (Str × Addr)) (fp : List Addr), pe (X.blk s H scope (compEnvC scope cl C X.env) fp) elt e) (hs : ∀ x, foldedSetIterable iter X.env x = pure x := by intro _; rfl) (hsub : ∀ i ∈ is, i ∈ own.map (·.2) := by decide) :
    pf X (.ListComp elt [⟨tg, iter, ifs, 0⟩] scope pos) (pComp (own.map (·.2)) w g t e) :=
  PE_weak (pe_lc (g := LG X.K is g) (tt := LT X.K t) (te := L X.K e) hc hN hi ok (fun a b c d e => (hg a b c d e).h) ht he hs) (comp_ok hsub)
end
end Pu
namespace Pu
open PySem PySem.Spec L2

/-! ### promises over plain data -/
abbrev Pr := List D → DK → Prop
def spOf (K : Fg) (c : Pr) : Sp := fun vs H Q _ => ∃ F ds P, Fits F H ∧ Reps K F ds vs ∧ c ds P ∧ Kont K F H P Q
/-- the first argument is an object that the def changes -/
abbrev PrIo := D → List D → (D → D → Prop) → Prop
def spIo (K : Fg) (c : PrIo) : Sp := fun vs H Q _ => ∃ F a vs' d0 ds P, vs = .ref a :: vs' ∧ Fits F H ∧ F.fz a = none ∧ F.iv a = none ∧ OwnAt K F H a d0 ∧ Reps K F ds vs' ∧ c d0 ds P ∧
  ∀ d d1 v F' H', P d d1 → Ext (fun b => b = a) F H F' H' → F'.fz a = none → F'.iv a = none → OwnAt K F' H' a d1 → Rep K F' d v → Q v H'
def startE (N : List Str) (ds : List D) : Env := ds.map (fun d => some (.sh d)) ++ List.replicate (N.length - ds.length) none
def startIo (N : List Str) (d0 : D) (ds : List D) : Env := some (.ow false d0) :: (ds.map (fun d => some (.sh d)) ++ List.replicate (N.length - (ds.length + 1)) none)
def endOf (P : DK) : PEnds := { nx := fun _ => P .non, rt := fun d _ => P d, bk := fun _ => False, ct := fun _ => False }
def atOwF (P : DK) : Option (Option Sl) → Prop
  | some (some (.ow false d)) => P d
  | _ => False
theorem atOwF_inv {P : DK} {x : Option (Option Sl)} (h : atOwF P x) : ∃ d, x = some (some (.ow false d)) ∧ P d := by
  match x, h with
  | some (some (.ow false d)), h => exact ⟨d, rfl, h⟩
def endIo (P : D → D → Prop) : PEnds := { nx := fun ρ => atOwF (P .non) ρ[0]?, rt := fun d ρ => atOwF (P d) ρ[0]?, bk := fun _ => False, ct := fun _ => False }
section
variable {P : Program} {w : World} {K : Fg} {mg : Str → Option Value} {base : Heap} {F F' : FS} {H H' : Hp}
theorem Reps.at : ∀ {ds : List D} {vs : List V} {i : Nat} {x : Option Sl} {ov : Option V} {n : Nat} {N : Bool → Addr → Prop}, Reps K F ds vs →
    (ds.map (fun d => some (Sl.sh d)) ++ List.replicate n none)[i]? = some x → (vs.map some ++ List.replicate n none)[i]? = some ov → SlotOk K N F H x ov
  | [], _, i, x, ov, n, N, r, h1, h2 => by
    simp only [Reps] at r
    subst r
    simp only [List.map_nil, List.nil_append, List.getElem?_replicate] at h1
    split at h1
    · cases h1; trivial
    · cases h1
  | d :: ds, _, i, x, ov, n, N, r, h1, h2 => by
    simp only [Reps] at r
    obtain ⟨v, q, rfl, r1, r2⟩ := r
    cases i with
    | zero =>
      simp only [List.map_cons, List.cons_append, List.getElem?_cons_zero] at h1 h2
      cases h1; cases h2
      exact ⟨v, rfl, r1⟩
    | succ i =>
      simp only [List.map_cons, List.cons_append, List.getElem?_cons_succ] at h1 h2
      exact Reps.at (i := i) r2 h1 h2
theorem no_own {ds : List D} {n i : Nat} {b : Bool} {d : D} (h : (ds.map (fun d => some (Sl.sh d)) ++ List.replicate n none)[i]? = some (some (.ow b d))) : False := by
  induction ds generalizing i with
  | nil =>
    simp only [List.map_nil, List.nil_append, List.getElem?_replicate] at h
    split at h <;> cases h
  | cons e ds ih =>
    cases i with
    | zero => simp only [List.map_cons, List.cons_append, List.getElem?_cons_zero] at h; cases h
    | succ i => simp only [List.map_cons, List.cons_append, List.getElem?_cons_succ] at h; exact ih h
theorem start_st {N : List Str} {ds : List D} {vs : List V} {Nn : Bool → Addr → Prop} (f : Fits F H) (r : Reps K F ds vs) : Stt K Nn F (startE N ds) (L2.start N vs) H := by
  have hl := r.length
  refine ⟨f, ?_, fun i x ov h1 h2 => ?_, fun i j b d b' e a h1 h2 h3 h4 => (no_own h1).elim⟩
  · simp only [startE, L2.start, List.length_append, List.length_map, List.length_replicate, hl]
  · unfold L2.start at h2
    rw [hl] at h2
    exact Reps.at r h1 h2
theorem start_io {N : List Str} {d0 : D} {ds : List D} {vs : List V} {a : Addr} {Nn : Bool → Addr → Prop} (f : Fits F H) (r : Reps K F ds vs) (n : Nn false a) (hz : F.fz a = none) (hi : F.iv a = none) (o : OwnAt K F H a d0) :
    Stt K Nn F (startIo N d0 ds) (L2.start N (.ref a :: vs)) H := by
  have hl := r.length
  have e : L2.start N (V.ref a :: vs) = some (V.ref a) :: (vs.map some ++ List.replicate (N.length - (ds.length + 1)) none) := by
    simp only [L2.start, List.map_cons, List.cons_append, List.length_cons, hl]
  rw [e]
  refine ⟨f, ?_, fun i x ov h1 h2 => ?_, fun i j b d b' e a' h1 h2 h3 h4 => ?_⟩
  · simp only [startIo, List.length_cons, List.length_append, List.length_map, List.length_replicate, hl]
  · cases i with
    | zero =>
      simp only [startIo, List.getElem?_cons_zero] at h1 h2
      cases h1; cases h2
      exact ⟨a, rfl, n, hz, hi, o⟩
    | succ i =>
      simp only [startIo, List.getElem?_cons_succ] at h1 h2
      exact Reps.at r h1 h2
  · cases i with
    | zero =>
      cases j with
      | zero => rfl
      | succ j => simp only [startIo, List.getElem?_cons_succ] at h2; exact (no_own h2).elim
    | succ i => simp only [startIo, List.getElem?_cons_succ] at h1; exact (no_own h1).elim
/-- THE RULE for a def -/
theorem fn_ok {x qual : Str} {st : Stmt} {f : Addr} {fd : FuncData} {N ps : List Str} {k : Nat} {c : Pr} (G : Fun K x qual st f fd) (S : FnScope N ps (defScope st)) (hlen : ∀ ds P, c ds P → ds.length = ps.length)
    (hbody : ∀ (cdv : Value) (A : Around) (outer : List PySem.Env) (s : Shared) (H : Hp) (E : XK), Room k (A.deeper (PyProof.Rows.envOfC qual (defScope st) s.heap.objs.size f cdv)) →
      ∃ p, pss (cxOf CX0 P w K mg base N qual (defScope st) f cdv A outer s H E).nox (defBody st) p ∧ ∀ ds R, c ds R → p (endOf R) (startE N ds)) : FnOk P w K mg base CX0 (k + 1) f fd ps (spOf K c) := by
  refine G.ok S (fun vs H Q E ⟨F, ds, R, _, r, h, _⟩ => by rw [r.length]; exact hlen ds R h) (fun cdv A outer s H vs Q E hr ⟨F, ds, R, ft, r, h, k⟩ => ?_)
  obtain ⟨p, hp, hq⟩ := hbody cdv A outer s H E hr
  have s0 : FSt K ⟨No, F, H⟩ F (startE N ds) (L2.start N vs) H := ⟨Ext.refl ft, start_st ft r⟩
  refine ⟨_, hp, ⟨No, F, H⟩, F, startE N ds, endOf R, s0, hq ds R h, ⟨fun F' ρ σ H' s' _ q => k _ _ F' H' q s'.ext rep_non, fun F' ρ σ H' d v s' _ q r' => k d v F' H' q s'.ext r', fun F' ρ σ H' s' _ q => q.elim, fun F' ρ σ H' s' _ q => q.elim⟩⟩
theorem fn_okIo {x qual : Str} {st : Stmt} {f : Addr} {fd : FuncData} {N ps : List Str} {k : Nat} {c : PrIo} (G : Fun K x qual st f fd) (S : FnScope N ps (defScope st)) (hlen : ∀ d0 ds P, c d0 ds P → ds.length + 1 = ps.length)
    (hbody : ∀ (cdv : Value) (A : Around) (outer : List PySem.Env) (s : Shared) (H : Hp) (E : XK), Room k (A.deeper (PyProof.Rows.envOfC qual (defScope st) s.heap.objs.size f cdv)) →
      ∃ p, pss (cxOf CX0 P w K mg base N qual (defScope st) f cdv A outer s H E).nox (defBody st) p ∧ ∀ d0 ds R, c d0 ds R → p (endIo R) (startIo N d0 ds)) : FnOk P w K mg base CX0 (k + 1) f fd ps (spIo K c) := by
  refine G.ok S (fun vs H Q E ⟨F, a, vs', d0, ds, R, e, _, _, _, _, r, h, _⟩ => by rw [e, List.length_cons, r.length]; exact hlen d0 ds R h) (fun cdv A outer s H vs Q E hr ⟨F, a, vs', d0, ds, R, e, ft, hz, hi, o, r, h, k⟩ => ?_)
  subst e
  obtain ⟨p, hp, hq⟩ := hbody cdv A outer s H E hr
  have s0 : FSt K ⟨fun b => b = a, F, H⟩ F (startIo N d0 ds) (L2.start N (.ref a :: vs')) H := ⟨Ext.refl ft, start_io ft r (Nn := (Bas.mk (fun b => b = a) F H).N) rfl hz hi o⟩
  have fin : ∀ F' ρ σ H' d v d1, FSt K ⟨fun b => b = a, F, H⟩ F' ρ σ H' → ρ[0]? = some (some (Sl.ow false d1)) → R d d1 → Rep K F' d v → Q v H' := fun F' ρ σ H' d v d1 s' e q r' => by
    obtain ⟨b, e1, n, z1, z2, o1⟩ := s'.st.geto e
    have n : b = a := n
    subst n
    exact k d d1 v F' H' q s'.ext z1 z2 o1 r'
  exact ⟨_, hp, ⟨fun b => b = a, F, H⟩, F, startIo N d0 ds, endIo R, s0, hq d0 ds R h, ⟨fun F' ρ σ H' s' _ h => let ⟨d1, e, q⟩ := atOwF_inv h; fin F' ρ σ H' _ _ d1 s' e q rep_non, fun F' ρ σ H' d v s' _ h r' => let ⟨d1, e, q⟩ := atOwF_inv h; fin F' ρ σ H' d v d1 s' e q r', fun F' ρ σ H' s' _ q => q.elim, fun F' ρ σ H' s' _ q => q.elim⟩⟩
end

/-! ### calls -/
def pCallD (c : Pr) (dds : List D) (t : PTA) : PTE := fun ρ P => t ρ fun ds => c (ds ++ dds) P
def pMake (C : Addr) (c : PrIo) (dds : List D) (t : PTA) : PTE := fun ρ P => t ρ fun ds => c (.ins C [] []) (ds ++ dds) fun d d1 => d = .non ∧ P d1
section
variable {X : Cx} {k : Nat} {f C : Addr} {fd : FuncData} {ps : List Str} {c : Pr} {ci : PrIo} {dvs : List V} {dds : List D} {ds : List Value} {x m : Str} {p pos apos : Pos} {e o : Expr} {es : List Expr} {t : PTA} {F F' : FS} {H H' : Hp}
theorem call_ok : ∀ σ H Q, (∀ F, Reps X.K F dds dvs) → L X.K (pCallD c dds t) σ H Q → tCall (spOf X.K c) dvs E0 (LA X.K t) σ H Q := fun σ H Q hd ⟨N, F, ρ, P, s, q, k⟩ =>
  ⟨N, F, ρ, _, s, q, fun ds vs F1 H1 p1 x1 r1 => ⟨F1, ds ++ dds, P, x1.fits, r1.append (hd F1), p1, fun d v F' H' a b c => k d v F' H' a (x1.then0 b) c⟩⟩
theorem e_call (G : FnOk X.prog X.w X.K X.mg X.base CX0 k f fd ps (spOf X.K c)) (hr : Room k X.A) (hm : X.mg x = some (.ref f)) (hk : PySem.W.keepIn X.K (.ref f) = true) (hb : Binds X.K fd ps ds) (ha : pa X (e :: es) t) (hg : Gl X x := by rfl) (hd : Vals dvs ds := by exact Paired.nil) (hdd : ∀ F, Reps X.K F dds dvs := by exact fun _ => Reps.nil)
    (hdb : (x == ("__debug__" : Str)) = false := by decide) (he : starEach (e :: es) X.env = (false, eval e X.env) :: starEach es X.env := by rfl) (hpl : (backTo pos (starEach es X.env)).any (·.1) = false := by rfl) : pe X (.Call (.Name x p) (e :: es) [] pos) (pCallD c dds t) :=
  PE_weak (pe_call G hr hg hm hk hb hd pass0 ha hdb he hpl) fun σ H Q h => call_ok σ H Q hdd h
theorem e_call0 (G : FnOk X.prog X.w X.K X.mg X.base CX0 k f fd ps (spOf X.K c)) (hr : Room k X.A) (hm : X.mg x = some (.ref f)) (hk : PySem.W.keepIn X.K (.ref f) = true) (hb : Binds X.K fd ps ds) (hg : Gl X x := by rfl) (hd : Vals dvs ds := by exact Paired.nil) (hdd : ∀ F, Reps X.K F dds dvs := by exact fun _ => Reps.nil)
    (hdb : (x == ("__debug__" : Str)) = false := by decide) : pe X (.Call (.Name x p) [] [] pos) (pCallD c dds pNil) :=
  PE_weak (pe_call0 G hr hg hm hk hb hd pass0 hdb) fun σ H Q h => call_ok σ H Q hdd (t := pNil) h |> fun ⟨N, F, ρ, P, s, q, k⟩ => k [] [] F H q (Ext.refl s.fits) Reps.nil
theorem make_ok : ∀ σ H Q, (∀ F, Reps X.K F dds dvs) → Lf X.K (pMake C ci dds t) σ H Q → tMake C (spIo X.K ci) dvs E0 (LA X.K t) σ H Q := fun σ H Q hd ⟨N, F, ρ, P, s, q, k⟩ =>
  ⟨N, F, ρ, _, s, q, fun ds vs F1 H1 p1 x1 r1 x dx nx nd ne => by
    have f1 := x1.fits
    have y1 : Ext No F1 H1 F1 (upd H1 dx (.own x)) := Ext.newM f1 nd
    have nx2 : (upd H1 dx (.own x)) x = none := by rw [upd_ne (Ne.symm ne)]; exact nx
    have y2 : Ext No F1 (upd H1 dx (.own x)) F1 (upd (upd H1 dx (.own x)) x (.ins C dx [])) := Ext.newM y1.fits nx2
    have hz := f1.none_fz nx
    have hi := f1.none_iv nx
    refine ⟨F1, x, vs ++ dvs, .ins C [] [], ds ++ dds, _, rfl, y2.fits, hz, hi, ⟨dx, [], upd_same, rfl, Reps.nil⟩, r1.append (hd F1), p1, ?_⟩
    rintro d d1 v F' H' ⟨rfl, p2⟩ y3 hz' hi' ow r'
    simp only [Rep] at r'
    subst r'
    refine ⟨rfl, ?_⟩
    have y : Ext No F1 H1 F' H' := ((y1.then0 y2).mono (fun _ h => h)).trans y3 fun b hb => by subst hb; exact .inr nx
    exact k d1 x F' H' p2 (x1.then0 y) (x1.dom _ nx) hz' hi' ow⟩
theorem f_make (M : Mk X.K C f) (G : FnOk X.prog X.w X.K X.mg X.base CX0 k f fd ps (spIo X.K ci)) (hr : Room (k + 1) X.A) (hm : X.mg x = some (.ref C)) (hb : Binds X.K fd ps ds) (ha : pa X (e :: es) t) (hg : Gl X x := by rfl) (hd : Vals dvs ds := by exact Paired.nil) (hdd : ∀ F, Reps X.K F dds dvs := by exact fun _ => Reps.nil)
    (hdb : (x == ("__debug__" : Str)) = false := by decide) (he : starEach (e :: es) X.env = (false, eval e X.env) :: starEach es X.env := by rfl) (hpl : (backTo pos (starEach es X.env)).any (·.1) = false := by rfl) : pf X (.Call (.Name x p) (e :: es) [] pos) (pMake C ci dds t) :=
  PE_weak (pe_make M G hr hg hm hb hd pass0 ha hdb he hpl) fun σ H Q h => make_ok σ H Q hdd h
/-- o.m(e, ..): a def of o's class; o comes first -/
def isIns (P : Addr → List Str → List D → Prop) : D → Prop
  | .ins C ns fs => P C ns fs
  | _ => False
theorem isIns_inv {P : Addr → List Str → List D → Prop} {d : D} (h : isIns P d) : ∃ C ns fs, d = .ins C ns fs ∧ P C ns fs := by
  cases d <;> first | exact h.elim | exact ⟨_, _, _, rfl, h⟩
def pMeth (C : Addr) (m : Str) (c : Pr) (dds : List D) (po : PTE) (t : PTA) : PTE := fun ρ P => po ρ fun d => isIns (fun C' ns _ => C' = C ∧ ns.contains m = false ∧ (t ρ fun ds => c (d :: (ds ++ dds)) P)) d
theorem lookup_zip {m : Str} : ∀ {ns : List Str} {vs : List V}, ns.contains m = false → (ns.zip vs).lookup m = none
  | [], _, _ => rfl
  | n :: ns, [], _ => rfl
  | n :: ns, v :: vs, h => by
    simp only [List.contains_cons, Bool.or_eq_false_iff] at h
    rw [List.zip_cons_cons, List.lookup_cons, h.1]
    exact lookup_zip h.2
theorem meth_ok {po : PTE} : ∀ σ H Q, (∀ F, Reps X.K F dds dvs) → L X.K (pMeth C m c dds po t) σ H Q → tMeth C m (spOf X.K c) dvs E0 (L X.K po) (LA X.K t) σ H Q := fun σ H Q hd ⟨N, F, ρ, P, s, q, k⟩ =>
  ⟨N, F, ρ, _, s, q, fun d v F1 H1 p1 x1 r1 => by
    obtain ⟨C', ns, fs, rfl, rfl, hm, p1⟩ := isIns_inv p1
    have r1' := r1
    simp only [Rep] at r1
    obtain ⟨a, dx, vs, rfl, h1, h2, h3⟩ := r1
    refine ⟨a, dx, _, rfl, x1.fits.fz _ _ h1, lookup_zip hm, N, F1, ρ, _, s.ext x1, p1, fun ds us F2 H2 p2 x2 r2 => ?_⟩
    exact ⟨F2, _, P, x2.fits, Reps.cons (r1'.ext x2 x1.fits) (r2.append (hd F2)), p2, fun d v F' H' a b c => k d v F' H' a ((x1.then0 x2).then0 b) c⟩⟩
theorem e_meth {po : PTE} {pl : Pos} (ho : pe X o po) (cl : Cls X.K C) (hm : Meth X.K C m f) (G : FnOk X.prog X.w X.K X.mg X.base CX0 k f fd ps (spOf X.K c)) (hr : Room k X.A) (hb : Binds X.K fd ps ds) (t' : TA) (h : PE X (.Call (.Attribute o m apos) (e :: es) [] pos) (tMeth C m (spOf X.K c) dvs E0 (L X.K po) (LA X.K t))) (hdd : ∀ F, Reps X.K F dds dvs := by exact fun _ => Reps.nil) :
    pe X (.Call (.Attribute o m apos) (e :: es) [] pos) (pMeth C m c dds po t) := PE_weak h fun σ H Q h => meth_ok σ H Q hdd h
end
end Pu
namespace Pu
open PySem PySem.Spec L2

/-! ### xs[i] = e, xs an owned list -/
def qSetIx (i : Nat) (pi p : PTE) : PTS := fun PD ρ => atOwL (fun c ds => p ρ fun d => pi ρ (isInt fun n => isSome (fun j => PD.nx (ρ.set i (some (.ow c (.lst (ds.set j d)))))) (ixN ds.length n))) ρ[i]?
section
variable {X : Cx} {pos : Pos}
theorem s_setix {i : Nat} {tg e : Expr} {pi p : PTE} (h : PS X (.Assign [tg] e pos) (tAsg (L X.K p) (gSub (tVar i) (Lr X.K pi) rSetL))) : ps X (.Assign [tg] e pos) (qSetIx i pi p) := by
  refine PS_weak h ?_
  rintro E σ H ⟨B, F, ρ, PD, s, q, e⟩
  obtain ⟨c, ds, h1, q⟩ := atOwL_inv q
  refine ⟨B.N, F, ρ, _, s.st, q, fun d v F1 H1 p1 x1 r1 => ?_⟩
  obtain ⟨a, vs, q1, q2, q3⟩ := own_lst s.st h1
  refine ⟨.ref a, q1, B.N, F1, ρ, _, (s.go x1).st, p1, fun k u F2 H2 p2 x2 r2 => ?_⟩
  obtain ⟨n, rfl, p2⟩ := isInt_inv p2
  obtain ⟨j, hj, p3⟩ := isSome_inv p2
  have s2 := (s.go x1).go x2
  obtain ⟨a', vs', q1', q2', q3'⟩ := own_lst s2.st h1
  rw [q1] at q1'
  cases q1'
  exact ⟨a, vs', n, j, rfl, r2.int, q2', by rw [q3'.length]; exact hj, e.nx F2 _ σ _ (s2.own (d' := .lst (ds.set j d)) h1 q1 ⟨_, upd_same, q3'.set j (r1.ext x2 x1.fits)⟩) ((x1.then0 x2).le s.ext.fits) p3⟩
end

/-! ### the law's pool -/
def poolC : Pr := fun ds P => ∃ ns : List Int, ds = [.klst (ns.map .int)] ∧ ns.length ≤ 1000 ∧ P .pool
def drawC : Pr := fun ds P => ∃ m : Int, ds = [.pool, .int m] ∧ 0 < m ∧ m.natAbs.log2 < 9000 ∧ ∀ r : Int, 0 ≤ r → r < m → P (.int r)
def poolD (ns : List Int) (c r q s : Int) : D := .lst [.lst (ns.map .int), .int c, .int r, .int q, .int s]
def drawIo : PrIo := fun d0 ds P => ∃ (ns : List Int) (c r q s m : Int), d0 = poolD ns c r q s ∧ ds = [.int m] ∧ 0 ≤ c ∧ c ≤ ns.length ∧ 0 ≤ r ∧ 0 < m ∧ m.natAbs.log2 < 9000 ∧
  ∀ v c' r' q' s' : Int, 0 ≤ v → v < m → 0 ≤ c' → c' ≤ ns.length → 0 ≤ r' → P (.int v) (poolD ns c' r' q' s')
section
variable {P : Program} {w : World} {K : Fg} {mg : Str → Option Value} {base : Heap} {F F' : FS} {H H' : Hp}
theorem poolD_inv {ns : List Int} {c r q s : Int} {vs : List V} (h : Reps K F [.lst (ns.map .int), .int c, .int r, .int q, .int s] vs) : ∃ l, vs = [.ref l, .int c, .int r, .int q, .int s] ∧ F.fz l = some (.lst (ns.map V.int)) := by
  simp only [Reps, Rep] at h
  obtain ⟨v0, r0, rfl, ⟨l, us, rfl, hl, hu⟩, v1, r1, rfl, rfl, v2, r2, rfl, rfl, v3, r3, rfl, rfl, v4, r4, rfl, rfl, rfl⟩ := h
  cases Reps.ints hu
  exact ⟨l, rfl, hl⟩
theorem draw_imp {k : Nat} {f : Addr} {fd : FuncData} {ps : List Str} (G : FnOk P w K mg base CX0 k f fd ps (spIo K drawIo)) : FnOk P w K mg base CX0 k f fd ps (spOf K drawC) := by
  refine G.imp fun vs H Q E ⟨F, ds, R, ft, rs, ⟨m, e, m0, mb, hR⟩, kk⟩ => ?_
  subst e
  simp only [Reps, Rep] at rs
  obtain ⟨v0, q0, rfl, ⟨a, rfl, hi, hz⟩, v1, q1, rfl, rfl, rfl⟩ := rs
  obtain ⟨o, ho, l, ns, c, r, q, s, rfl, hl, c0, c1, r0⟩ := ft.iv a _ hi
  have hla : l ≠ a := fun z => by rw [z, hz] at hl; cases hl
  let F1 : FS := ⟨F.fz, fun b => if b = a then none else F.iv b⟩
  have f1 : Fits F1 H := ⟨ft.fz, fun b φ hb => by
    have hb : (if b = a then none else F.iv b) = some φ := hb
    split at hb
    · cases hb
    · exact ft.iv b φ hb⟩
  refine ⟨F1, a, [.int m], poolD ns c r q s, [.int m], fun d d1 => R d ∧ ∃ c' r' q' s' : Int, d1 = poolD ns c' r' q' s' ∧ 0 ≤ c' ∧ c' ≤ ns.length ∧ 0 ≤ r', rfl, f1, hz, if_pos rfl, ⟨_, ho, ?_⟩, Reps.one rep_int, ⟨ns, c, r, q, s, m, rfl, rfl, c0, c1, r0, m0, mb, fun v c' r' q' s' v0 v1 h1 h2 h3 => ⟨hR v v0 v1, c', r', q', s', rfl, h1, h2, h3⟩⟩, ?_⟩
  · exact Reps.cons (rep_lst hl (Reps.of_ints ns)) (Reps.cons rep_int (Reps.cons rep_int (Reps.cons rep_int (Reps.one rep_int))))
  · rintro d d1 v F' H' ⟨hd, c', r', q', s', rfl, h1, h2, h3⟩ x hz' hi' ow rv
    obtain ⟨us, ho', ru⟩ := ow
    obtain ⟨l', rfl, hl'⟩ := poolD_inv ru
    let F2 : FS := ⟨F'.fz, fun b => if b = a then some PoolI else F'.iv b⟩
    have up : Le F' F2 := ⟨Same.refl _, fun b φ hb => by
      show (if b = a then some PoolI else F'.iv b) = some φ
      rw [if_neg (fun z => by rw [z, hi'] at hb; cases hb)]; exact hb, fun b hb _ => hb⟩
    refine kk d v F2 H' hd ⟨x.fz, fun b φ hb => ?_, ⟨x.fits.fz, fun b φ hb => ?_⟩, x.nfz, fun b φ hb => ?_, fun b o hb => ?_, x.dom⟩ (rv.mono up)
    · show (if b = a then some PoolI else F'.iv b) = some φ
      by_cases z : b = a
      · subst z; rw [if_pos rfl, ← hi, hb]
      · rw [if_neg z]; exact x.iv b φ (by show (if b = a then none else F.iv b) = some φ; rw [if_neg z]; exact hb)
    · have hb : (if b = a then some PoolI else F'.iv b) = some φ := hb
      by_cases z : b = a
      · subst z
        rw [if_pos rfl] at hb
        cases hb
        exact ⟨_, ho', l', ns, c', r', q', s', rfl, hl', h1, h2, h3⟩
      · rw [if_neg z] at hb; exact x.fits.iv b φ hb
    · have hb : (if b = a then some PoolI else F'.iv b) = some φ := hb
      by_cases z : b = a
      · subst z
        rw [if_pos rfl] at hb
        cases hb
        exact .inl hi
      · rw [if_neg z] at hb
        rcases x.niv b φ hb with q | q
        · have q : (if b = a then none else F.iv b) = some φ := q
          rw [if_neg z] at q; exact .inl q
        · exact .inr q
    · rcases x.keep b o hb with q | ⟨φ, q⟩ | q
      · subst q; exact .inr (.inl ⟨_, hi⟩)
      · have q : (if b = a then none else F.iv b) = some φ := q
        split at q
        · cases q
        · exact .inr (.inl ⟨φ, q⟩)
      · exact .inr (.inr q)
/-- _law_pool -/
theorem pool_ok {x qual : Str} {st : Stmt} {f : Addr} {fd : FuncData} {k : Nat} (G : Fun K x qual st f fd) (S : FnScope ["script"] ["script"] (defScope st))
    (hbody : ∀ (cdv : Value) (A : Around) (outer : List PySem.Env) (s : Shared) (H : Hp) (E : XK), Room k (A.deeper (PyProof.Rows.envOfC qual (defScope st) s.heap.objs.size f cdv)) →
      PSs (cxOf CX0 P w K mg base ["script"] qual (defScope st) f cdv A outer s H E).nox (defBody st) (tRet (tLst (tCons (tCB (fun xs H Q => ∃ p ys, xs = [.ref p] ∧ (SqL K H p ys ∨ SqT K H p ys) ∧ ∀ l, H l = none → Q (.ref l) (upd H l (.lst ys))) (tCons (tVar 0) tNil)) (tCons (tC (.int 0)) (tCons (tC (.int 0)) (tCons (tC (.int 0)) (tCons (tC (.int 1)) tNil)))))))) : FnOk P w K mg base CX0 (k + 1) f fd ["script"] (spOf K poolC) := by
  refine G.ok S (fun vs H Q E ⟨F, ds, R, _, r, ⟨ns, e, _⟩, _⟩ => by rw [r.length, e]; rfl) (fun cdv A outer s H vs Q E hr ⟨F, ds, R, ft, r, ⟨ns, e, hn, hR⟩, kk⟩ => ?_)
  refine ⟨_, hbody cdv A outer s H E hr, ?_⟩
  subst e
  simp only [Reps, Rep] at r
  obtain ⟨v0, r0, rfl, ⟨a, us, rfl, hS, ru⟩, rfl⟩ := r
  cases Reps.ints ru
  refine ⟨.ref a, rfl, a, ns.map V.int, rfl, .inl (ft.fz.seq hS), fun l hl => ?_⟩
  have x1 : Ext No F H (F.add l (.lst (ns.map V.int))) (upd H l (.lst (ns.map V.int))) := Ext.new ft hl
  refine ⟨by show 5 ≤ sizeLine; rw [sizeLine_eq]; omega, fun p hp => ?_⟩
  have f1 := x1.fits
  have hz := f1.none_fz hp
  have hi := f1.none_iv hp
  have x2 : Ext No _ _ _ (upd (upd H l (.lst (ns.map V.int))) p (.lst [.ref l, .int 0, .int 0, .int 0, .int 1])) := Ext.newM f1 hp
  let F2 : FS := ⟨(F.add l (.lst (ns.map V.int))).fz, fun b => if b = p then some PoolI else F.iv b⟩
  have hpl : p ≠ l := fun z => by subst z; rw [upd_same] at hp; cases hp
  have hp0 : H p = none := by rw [upd_ne hpl] at hp; exact hp
  refine kk .pool _ F2 _ hR ⟨x1.fz, fun b φ hb => ?_, ⟨x2.fits.fz, fun b φ hb => ?_⟩, fun b o hb => ?_, fun b φ hb => ?_, fun b o hb => ?_, fun b hb => x1.dom b (x2.dom b hb)⟩ (by simp only [Rep]; exact ⟨p, rfl, if_pos rfl, hz⟩)
  · show (if b = p then some PoolI else F.iv b) = some φ
    rw [if_neg (fun z => by have hi : F.iv p = none := hi; rw [z, hi] at hb; cases hb)]; exact hb
  · have hb : (if b = p then some PoolI else F.iv b) = some φ := hb
    by_cases z : b = p
    · subst z
      rw [if_pos rfl] at hb
      cases hb
      exact ⟨_, upd_same, l, ns, 0, 0, 0, 1, rfl, FS.add_same, by omega, by omega, by omega⟩
    · rw [if_neg z] at hb
      exact x2.fits.iv b φ hb
  · exact x1.nfz b o hb
  · have hb : (if b = p then some PoolI else F.iv b) = some φ := hb
    by_cases z : b = p
    · subst z; exact .inr hp0
    · rw [if_neg z] at hb; exact .inl hb
  · rcases x1.keep b o hb with q | q | q
    · exact q.elim
    · exact .inr (.inl q)
    · rcases x2.keep b o q with q | q | q
      · exact q.elim
      · exact .inr (.inl q)
      · exact .inr (.inr q)
/-- the law itself -/
def lawC : Pr := fun ds P => ∃ ns : List Int, ds = [.klst (ns.map .int)] ∧ ns.length ≤ 63 ∧ P (.bl true)
def spLaw (K : Fg) : Sp := fun vs H Q _ => ∃ (a : Addr) (ns : List Int), vs = [.ref a] ∧ SqL K H a (ns.map V.int) ∧ ns.length ≤ 63 ∧ ∀ H', Q (.bl true) H'
theorem law_imp {k : Nat} {f : Addr} {fd : FuncData} {ps : List Str} (G : FnOk P w K mg base CX0 k f fd ps (spOf K lawC)) : FnOk P w K mg base CX0 k f fd ps (spLaw K) := by
  refine G.imp fun vs H Q E ⟨a, ns, e, hS, hl, hQ⟩ => ?_
  subst e
  refine ⟨⟨H, fun _ => none⟩, [.klst (ns.map .int)], fun d => d = .bl true, ⟨Same.refl _, fun _ _ h => by cases h⟩, Reps.one (by simp only [Rep]; exact ⟨a, _, rfl, hS, Reps.of_ints ns⟩), ⟨ns, rfl, hl, rfl⟩, fun d v F' H' e _ r => ?_⟩
  subst e
  simp only [Rep] at r
  subst r
  exact hQ H'
end
end Pu
namespace Pu
open PySem PySem.Spec L2
section
variable {X : Cx} {pos : Pos} {K : Fg} {F F' : FS} {H H' : Hp}
/-- target = e, any target -/
def qAsg (p : PTE) (g : PTG) : PTS := fun PD ρ => p ρ fun d => g d ρ PD.nx
theorem s_asg {tg e : Expr} {is : List Nat} {p : PTE} {g : PTG} (he : pe X e p) (hg : pg X tg is g) (hs : swapsWithSole [tg] e pos.line X.env = pure false := by rfl) (hw : swappedStores [tg] e X.env = pure none := by rfl) (h1 : (assignEach [tg] X.env).map (·.2) = [assign tg X.env] := by rfl) : ps X (.Assign [tg] e pos) (qAsg p g) :=
  PS_weak (ps_asg he hg.h hs hw h1) fun E σ H ⟨B, F, ρ, PD, s, q, e⟩ => ⟨B.N, F, ρ, _, s.st, q, fun d v F1 H1 p1 x1 r1 => ⟨B.N, F1, ρ, d, _, (s.go x1).st, r1, p1, fun ρ' σ' s' p' _ => e.nx F1 ρ' σ' H1 ⟨(s.go x1).ext, s'⟩ (x1.le s.ext.fits) p'⟩⟩
/-- x op= e, x a shared name -/
def qAug (i : Nat) (w : D → D → DK → Prop) (p : PTE) : PTS := fun PD ρ => atSh (fun d => p ρ fun e => w d e fun z => PD.nx (ρ.set i (some (.sh z)))) ρ[i]?
theorem s_aug {i : Nat} {x : Str} {e : Expr} {p : PTE} {op : Operator} {w : D → D → DK → Prop} {pos' : Pos} (hN : X.N.Nodup) (ho : opS X (inplaceOp op) w) (he : pr X e p) (hi : X.N[i]? = some x := by rfl) (hx : Loc X.env.scope x := by first | exact Or.inl rfl | exact Or.inr rfl)
    (hf : X.fn x = true ∨ X.env.scope.names.lookup x = some .local := by first | exact .inl rfl | exact .inr rfl | assumption) : ps X (.AugAssign (.Name x pos') op e pos) (qAug i w p) := by
  obtain ⟨r, h, hr⟩ := ho
  refine PS_weak (ps_aug (ti := r) hN hi hx he h hf) ?_
  rintro E σ H ⟨B, F, ρ, PD, s, q, e⟩
  obtain ⟨d, h1, q⟩ := atSh_inv q
  obtain ⟨v, e1, r1⟩ := s.st.get h1
  refine ⟨v, e1, B.N, F, ρ, _, s.st, q, fun e' u F1 H1 p1 x1 r2 => ?_⟩
  refine hr d e' v u F1 H1 _ _ x1.fits (.inl (r1.ext x1 s.ext.fits)) r2 p1 fun d' v' F2 H2 p2 x2 r3 => ?_
  have s2 := (s.go x1).go x2
  exact e.nx F2 _ _ H2 ⟨s2.ext, s2.st.set_sh i r3⟩ ((x1.then0 x2).le s.ext.fits) p2
def iaddW : D → D → DK → Prop
  | .int i, .int j, P => P (.int (i + j))
  | .str i, .str j, P => i.length + j.length ≤ sizeLine ∧ P (.str (i ++ j))
  | _, _, _ => False
theorem io_add : opS X (inplaceOp .Add) iaddW := by
  refine ⟨_, iop_add.or iop_add_str, fun d e x y F H P Q f r1 r2 h k => ?_⟩
  cases d <;> try exact h.elim
  · cases e <;> try exact h.elim
    exact .inl ⟨_, _, r1.int, r2.int, k.int f h⟩
  · cases e <;> try exact h.elim
    exact .inr ⟨_, _, r1.str, r2.str, h.1, k.str f h.2⟩
theorem io_sub : opS X (inplaceOp .Sub) subW := o_int0 iop_sub
/-- y = [..] on one line -/
theorem s_setLc {i : Nat} {y : Str} {py : Pos} {elt tg iter : Expr} {ifs : List Expr} {scope : Scope} {own : List (Str × Nat)} {is : List Nat} {pos spos : Pos} {w : PTA} {g : PTG} {t : PTT} {e : PTE} (hc : X.calm = true) (hN : X.N.Nodup) (hi : pir X tg iter w) (ok : BlkOk X.N X.env.scope scope own)
    (hg : ∀ (s : Shared) (H : Hp) (C : Addr) (cl : List (Str × Addr)) (fp : List Addr), pg (X.blk s H scope (compEnvC scope cl C X.env) fp) tg is g) (ht : ∀ (s : Shared) (H : Hp) (C : Addr) (cl : List (Str × Addr)) (fp : List Addr), pts (X.blk s H scope (compEnvC scope cl C X.env) fp) ifs t)
    (he : ∀ (s : Shared) (H : Hp) (C : Addr) (cl : List (Str × Addr)) (fp : List Addr), pe (X.blk s H scope (compEnvC scope cl C X.env) fp) elt e)
    (hsw : swapsWith (.ListComp elt [⟨tg, iter, ifs, 0⟩] scope pos) (some (.Name y py)) spos.line X.env = pure true) (hy : X.N[i]? = some y := by rfl) (hyl : X.env.scope.names.lookup y = some .local := by rfl) (hs : ∀ x, foldedSetIterable iter X.env x = pure x := by intro _; rfl) (hsub : ∀ i ∈ is, i ∈ own.map (·.2) := by decide) :
    ps X (.Assign [.Name y py] (.ListComp elt [⟨tg, iter, ifs, 0⟩] scope pos) spos) (qSetN i (pComp (own.map (·.2)) w g t e)) :=
  PS_weak (ps_setLc (g := LG X.K is g) (tt := LT X.K t) (te := L X.K e) hc hN hy hyl hsw hi ok (fun a b c d e => (hg a b c d e).h) ht he hs) fun E σ H ⟨B, F, ρ, PD, s, q, e⟩ =>
    comp_ok hsub σ H _ ⟨B.N, F, ρ, _, s.st, q, fun d a F1 H1 p1 x1 hn hz hv r1 => e.nx F1 _ _ H1 ⟨(s.go x1).ext, s.st.adopt x1 (c := true) i (s.ext.dom _ hn) hn hz hv r1⟩ (x1.le s.ext.fits) p1⟩
end
end Pu
namespace Pu
open PySem PySem.Spec L2
theorem e_globI {X : Cx} {x : Str} {i : Int} {t : Tok} {pos : Pos} (hm : X.mg x = some (.int i t)) (hg : Gl X x := by rfl) (hd : (x == ("__debug__" : Str)) = false := by decide) : pe X (.Name x pos) (pC (.int i)) := e_glob (v := .int i) hg hm ⟨t, rfl⟩ (fun _ => rep_int) hd
theorem e_globS {X : Cx} {x : Str} {i : Str} {t : Tok} {pos : Pos} (hm : X.mg x = some (.str i t)) (hg : Gl X x := by rfl) (hd : (x == ("__debug__" : Str)) = false := by decide) : pe X (.Name x pos) (pC (.str i)) := e_glob (v := .str i) hg hm ⟨t, rfl⟩ (fun _ => rep_str) hd
/-! ### what the readings come to, by the kinds of the data -/
section
variable {P : DK} {PB : Bool → Prop} {PI : Int → Prop} {PL : Bool → List D → Prop} {i j : Int} {b c : Bool} {s t : Str} {ds es : List D} {d e : D} {C : Addr} {ns : List Str} {ks : List Key} {kt : List (List Key)}
theorem atSh_sh : atSh P (some (some (.sh d))) = P d := rfl
theorem atAny_sh : atAny P (some (some (.sh d))) = P d := rfl
theorem atAny_ow : atAny P (some (some (.ow b d))) = P d := rfl
theorem atOwT_ow : atOwT P (some (some (.ow true d))) = P d := rfl
theorem atOwF_ow : atOwF P (some (some (.ow false d))) = P d := rfl
theorem atOwL_ow : atOwL PL (some (some (.ow b (.lst ds)))) = PL b ds := rfl
theorem isBl_bl : isBl PB (.bl b) = PB b := rfl
theorem isInt_int : isInt PI (.int i) = PI i := rfl
theorem isSome_some {α : Type} {Q : α → Prop} {x : α} : isSome Q (some x) = Q x := rfl
theorem isSome_none {α : Type} {Q : α → Prop} : isSome Q none = False := rfl
theorem isIns_ins {Q : Addr → List Str → List D → Prop} : isIns Q (.ins C ns ds) = Q C ns ds := rfl
theorem on1_1 {w : D → DK → Prop} : on1 w [d] P = w d P := rfl
theorem on2_2 {w : D → D → DK → Prop} : on2 w [d, e] P = w d e P := rfl
theorem addW_int : addW (.int i) (.int j) P = P (.int (i + j)) := rfl
theorem addW_ib : addW (.int i) (.bl b) P = P (.int (i + PyProof.Rows.b2i b)) := rfl
theorem addW_str : addW (.str s) (.str t) P = (s.length + t.length ≤ sizeLine ∧ P (.str (s ++ t))) := rfl
theorem addW_lst : addW (.lst ds) (.lst es) P = (ds.length + es.length ≤ sizeLine ∧ P (.lst (ds ++ es))) := rfl
theorem iaddW_int : iaddW (.int i) (.int j) P = P (.int (i + j)) := rfl
theorem iaddW_str : iaddW (.str s) (.str t) P = (s.length + t.length ≤ sizeLine ∧ P (.str (s ++ t))) := rfl
theorem intW_int {g : Int → Int → DK → Prop} : intW g (.int i) (.int j) P = g i j P := rfl
theorem subW_int : subW (.int i) (.int j) P = P (.int (i - j)) := rfl
theorem fdivW_int : fdivW (.int i) (.int j) P = (CDivW i j ∧ P (.int (i / j))) := rfl
theorem modW_int : modW (.int i) (.int j) P = (0 < j ∧ P (.int (i % j))) := rfl
theorem powW_int : powW (.int i) (.int j) P = (CPow i j ∧ P (.int (i ^ j.toNat))) := rfl
theorem ltW_int : ltW (.int i) (.int j) P = P (.bl (decide (i < j))) := rfl
theorem leW_int : leW (.int i) (.int j) P = P (.bl (decide (i ≤ j))) := rfl
theorem gtW_int : gtW (.int i) (.int j) P = P (.bl (decide (j < i))) := rfl
theorem geW_int : geW (.int i) (.int j) P = P (.bl (decide (j ≤ i))) := rfl
theorem mulW_int : mulW (.int i) (.int j) P = (MulOk i j ∧ P (.int (i * j))) := rfl
theorem mulW_lst : mulW (.lst ds) (.int j) P = (-(2 ^ 63) ≤ j ∧ j < 2 ^ 63 ∧ ds.length * j.toNat ≤ sizeLine ∧ P (.lst (List.replicate j.toNat ds).flatten)) := rfl
theorem eqW_int : eqW (.int i) (.int j) P = P (.bl (decide (i = j))) := rfl
theorem eqW_str : eqW (.str s) (.str t) P = P (.bl (decide (s = t))) := rfl
theorem eqW_bl : eqW (.bl b) (.bl c) P = P (.bl (decide (b = c))) := rfl
theorem eqW_nn : eqW .non .non P = P (.bl true) := rfl
theorem eqW_ni : eqW .non (.int i) P = P (.bl false) := rfl
theorem eqW_in : eqW (.int i) .non P = P (.bl false) := rfl
theorem eqW_is : eqW (.int i) (.str s) P = P (.bl false) := rfl
theorem eqW_si : eqW (.str s) (.int i) P = P (.bl false) := rfl
theorem eqW_tt : eqW (.tup ds) (.tup es) P = ((D.tup ds).ok ∧ (D.tup es).ok ∧ P (.bl ((D.tup ds).eqv (.tup es)))) := rfl
theorem eqW_ll : eqW (.lst ds) (.lst es) P = ((D.lst ds).ok ∧ (D.lst es).ok ∧ P (.bl ((D.lst ds).eqv (.lst es)))) := rfl
theorem neW_int : neW (.int i) (.int j) P = P (.bl (!decide (i = j))) := rfl
theorem neW_str : neW (.str s) (.str t) P = P (.bl (!decide (s = t))) := rfl
theorem neW_bl : neW (.bl b) (.bl c) P = P (.bl (!decide (b = c))) := rfl
theorem neW_nn : neW .non .non P = P (.bl false) := rfl
theorem neW_ni : neW .non (.int i) P = P (.bl true) := rfl
theorem neW_in : neW (.int i) .non P = P (.bl true) := rfl
theorem neW_is : neW (.int i) (.str s) P = P (.bl true) := rfl
theorem neW_si : neW (.str s) (.int i) P = P (.bl true) := rfl
theorem neW_tt : neW (.tup ds) (.tup es) P = ((D.tup ds).ok ∧ (D.tup es).ok ∧ P (.bl (!(D.tup ds).eqv (.tup es)))) := rfl
theorem neW_ll : neW (.lst ds) (.lst es) P = ((D.lst ds).ok ∧ (D.lst es).ok ∧ P (.bl (!(D.lst ds).eqv (.lst es)))) := rfl
theorem negW_int : negW (.int i) P = P (.int (-i)) := rfl
theorem absW_int : absW (.int i) P = P (.int (if i < 0 then -i else i)) := rfl
theorem intfW_int : intfW (.int i) P = P (.int i) := rfl
theorem intfW_bl : intfW (.bl b) P = P (.int (if b then 1 else 0)) := rfl
theorem lenW_str : lenW (.str s) P = (s.length ≤ sizeLine ∧ P (.int s.length)) := rfl
theorem lenW_lst : lenW (.lst ds) P = P (.int ds.length) := rfl
theorem lenW_klst : lenW (.klst ds) P = P (.int ds.length) := rfl
theorem lenW_tup : lenW (.tup ds) P = P (.int ds.length) := rfl
theorem max2W_int : max2W (.int i) (.int j) P = P (.int (if j > i then j else i)) := rfl
theorem min2W_int : min2W (.int i) (.int j) P = P (.int (if j < i then j else i)) := rfl
theorem itemW_lst : itemW (.lst ds) (.int i) P = isSome P (atI ds i) := rfl
theorem itemW_klst : itemW (.klst ds) (.int i) P = isSome P (atI ds i) := rfl
theorem itemW_tup : itemW (.tup ds) (.int i) P = isSome P (atI ds i) := rfl
theorem itemW_str : itemW (.str s) (.int i) P = (s.length ≤ sizeLine ∧ isSome (fun c => P (.str ⟨#[c]⟩)) (atI s.cps.toList i)) := rfl
theorem asList_lst : asList (.lst ds) = some ds := rfl
theorem asList_klst : asList (.klst ds) = some ds := rfl
theorem asList_tup : asList (.tup ds) = some ds := rfl
theorem tyN_non : tyN .non = some "NoneType" := rfl
theorem tyN_bl : tyN (.bl b) = some "bool" := rfl
theorem tyN_int : tyN (.int i) = some "int" := rfl
theorem tyN_str : tyN (.str s) = some "str" := rfl
theorem tyN_tup : tyN (.tup ds) = some "tuple" := rfl
theorem tyN_lst : tyN (.lst ds) = some "list" := rfl
theorem tyN_dK : tyN (.dK ks ds) = some "dict" := rfl
theorem tyN_dT : tyN (.dT kt ds) = some "dict" := rfl
theorem truW_non : truW .non PB = PB false := rfl
theorem truW_bl : truW (.bl b) PB = PB b := rfl
theorem truW_int : truW (.int i) PB = PB (i != 0) := rfl
theorem truW_str : truW (.str s) PB = (s.length ≤ sizeLine ∧ PB ((s.length : Int) != 0)) := rfl
theorem truW_lst : truW (.lst ds) PB = PB (!ds.isEmpty) := rfl
theorem truW_klst : truW (.klst ds) PB = PB (!ds.isEmpty) := rfl
theorem truW_tup : truW (.tup ds) PB = PB (!ds.isEmpty) := rfl
theorem isNon_non : D.isNon .non = true := rfl
theorem isNon_bl : D.isNon (.bl b) = false := rfl
theorem isNon_int : D.isNon (.int i) = false := rfl
theorem isNon_str : D.isNon (.str s) = false := rfl
theorem isNon_tup : D.isNon (.tup ds) = false := rfl
theorem isNon_lst : D.isNon (.lst ds) = false := rfl
theorem isNon_klst : D.isNon (.klst ds) = false := rfl
theorem isNon_ins : D.isNon (.ins C ns ds) = false := rfl
theorem isNon_dK : D.isNon (.dK ks ds) = false := rfl
theorem gT_tup {n : Nat} {g : PTGs} {ρ : Env} {Q : Env → Prop} : gT n g (.tup ds) ρ Q = (ds.length = n ∧ g ds ρ Q) := rfl
theorem gConsP_cons {g : PTG} {h : PTGs} {ρ : Env} {Q : Env → Prop} : gConsP g h (d :: ds) ρ Q = g d ρ fun ρ' => h ds ρ' Q := rfl
theorem gNilP_nil {ρ : Env} {Q : Env → Prop} : gNilP [] ρ Q = Q ρ := by simp [gNilP]
theorem forW_nil {g : PTG} {body : PTS} {PD : PEnds} {ρ : Env} : forW g body PD [] ρ = PD.nx ρ := rfl
theorem forW_cons {g : PTG} {body : PTS} {PD : PEnds} {ρ : Env} : forW g body PD (d :: ds) ρ = g d ρ fun ρ' => body { nx := forW g body PD ds, rt := PD.rt, ct := forW g body PD ds, bk := PD.nx } ρ' := rfl
theorem compW_nil {vs : List Nat} {g : PTG} {t : PTT} {e : PTE} {ρ : Env} {acc : List D} : compW vs g t e ρ P [] acc = P (.lst acc) := rfl
theorem compW_cons {vs : List Nat} {g : PTG} {t : PTT} {e : PTE} {ρ : Env} {acc : List D} : compW vs g t e ρ P (d :: ds) acc = g d (wipeE ρ vs) fun ρ' => t ρ' fun b => if b = true then e ρ' fun y => acc.length < sizeLine ∧ compW vs g t e ρ P ds (acc ++ [y]) else compW vs g t e ρ P ds acc := rfl
theorem wipeE_nil {ρ : Env} : wipeE ρ [] = ρ := rfl
theorem wipeE_cons {ρ : Env} {v : Nat} {vs : List Nat} : wipeE ρ (v :: vs) = (wipeE ρ vs).set v none := rfl
end
theorem atI_cast {α : Type} (xs : List α) (k : Nat) : atI xs (k : Int) = xs[k]? := by
  unfold atI ixN
  rw [if_pos (Int.natCast_nonneg k)]
  by_cases h : k < xs.length
  · rw [if_pos (by omega)]; simp
  · rw [if_neg (by omega), List.getElem?_eq_none (by omega)]; rfl
theorem atI_of {α : Type} {xs : List α} {i : Int} (h : 0 ≤ i) : atI xs i = xs[i.toNat]? := by
  have := atI_cast xs i.toNat
  rwa [Int.toNat_of_nonneg h] at this
theorem atI_neg {α : Type} (xs : List α) (k : Nat) (h : k < xs.length) : atI xs (-((k : Int) + 1)) = xs[xs.length - 1 - k]? := by
  unfold atI ixN
  rw [if_neg (by omega), if_pos (by omega)]
  show xs[(-((k : Int) + 1) + xs.length).toNat]? = _
  congr 1
  omega
section
variable {α : Type} {xs : List α}
theorem atI_0 : atI xs 0 = xs[0]? := atI_cast xs 0
theorem atI_1 : atI xs 1 = xs[1]? := atI_cast xs 1
theorem atI_2 : atI xs 2 = xs[2]? := atI_cast xs 2
theorem atI_3 : atI xs 3 = xs[3]? := atI_cast xs 3
theorem atI_4 : atI xs 4 = xs[4]? := atI_cast xs 4
theorem atI_5 : atI xs 5 = xs[5]? := atI_cast xs 5
theorem atI_6 : atI xs 6 = xs[6]? := atI_cast xs 6
theorem atI_7 : atI xs 7 = xs[7]? := atI_cast xs 7
theorem atI_8 : atI xs 8 = xs[8]? := atI_cast xs 8
theorem atI_9 : atI xs 9 = xs[9]? := atI_cast xs 9
end
theorem ixN_cast (n k : Nat) : ixN n (k : Int) = if k < n then some k else none := by
  unfold ixN
  rw [if_pos (Int.natCast_nonneg k)]
  by_cases h : k < n
  · rw [if_pos (by omega), if_pos h]; simp
  · rw [if_neg (by omega), if_neg h]
theorem ixN_of {n : Nat} {i : Int} (h : 0 ≤ i) (h2 : i < n) : ixN n i = some i.toNat := by
  unfold ixN
  rw [if_pos h, if_pos h2]
theorem ixN_0 {n : Nat} : ixN n 0 = if 0 < n then some 0 else none := ixN_cast n 0
theorem ixN_1 {n : Nat} : ixN n 1 = if 1 < n then some 1 else none := ixN_cast n 1
theorem ixN_2 {n : Nat} : ixN n 2 = if 2 < n then some 2 else none := ixN_cast n 2
theorem ixN_3 {n : Nat} : ixN n 3 = if 3 < n then some 3 else none := ixN_cast n 3
theorem ixN_4 {n : Nat} : ixN n 4 = if 4 < n then some 4 else none := ixN_cast n 4
theorem div_s {i j : Int} (h : 0 < j) (h2 : j.natAbs < 2 ^ 64 := by omega) : CDivW i j := wide_div h h2 (by decide) (by decide)
theorem pow_s {i j : Int} (h : 0 ≤ j := by decide) (h2 : j ≤ 1000000 := by decide) (h3 : i.natAbs < 2 ^ 64 := by decide) : CPow i j := ⟨h, h2, h3⟩
theorem mul_s {i j : Int} (h : -(2 ^ 64) < j ∧ j < 2 ^ 64 := by constructor <;> omega) : MulOk i j := .inl (.inr h)
theorem mul_l {i j : Int} (h : -(2 ^ 64) < i ∧ i < 2 ^ 64 := by constructor <;> omega) : MulOk i j := .inl (.inl h)
theorem mul_b {i j : Int} (a b : Nat) (ha : i.natAbs < 2 ^ a) (hb : j.natAbs < 2 ^ b) (h0 : 0 < a := by decide) (h1 : 0 < b := by decide) (h : a + b ≤ 1000000 := by decide) : MulOk i j := .inr (wide_mul ha hb h0 h1 h)
end Pu
namespace Pu
open PySem PySem.Spec L2
local macro_rules | `(tactic| walk_at "pu") => `(tactic| simp only [qSeq, qNext, qBreak, qCont, qRet, qRetN, qSet, qSetN, qAsg, qAug, qApp, qFrz, qIf, qDrop, qSetIx, qFor, qWhile, tst, pOp, pUn, pC, pVar, pVarR, pCall, pCallD, pCons, pNil, pAndT, pOrT, pNotT, pTru, pAnd, pOr, pNot, pIf, pIsN, pChain, pTup, pLst, pIsi, pSeq, pRange1, pRange2, pComp, pYes, gN, listW, tupleW, ltW_int, leW_int, gtW_int, geW_int, subW_int, fdivW_int, modW_int, powW_int, endOf, endIo, atSh_sh, atAny_sh, atAny_ow, atOwT_ow, atOwL_ow, atOwF_ow, isBl_bl, isInt_int, isSome_some, isSome_none, isIns_ins, on1_1, on2_2, addW_int, addW_ib, addW_str, addW_lst, iaddW_int, iaddW_str, mulW_int, mulW_lst, eqW_int, eqW_str, eqW_bl, eqW_nn, eqW_ni, eqW_in, eqW_is, eqW_si, eqW_tt, eqW_ll, neW_int, neW_str, neW_bl, neW_nn, neW_ni, neW_in, neW_is, neW_si, neW_tt, neW_ll, negW_int, absW_int, intfW_int, intfW_bl, lenW_str, lenW_lst, lenW_klst, lenW_tup, max2W_int, min2W_int, itemW_lst, itemW_klst, itemW_tup, itemW_str, asList_lst, asList_klst, asList_tup, tyN_non, tyN_bl, tyN_int, tyN_str, tyN_tup, tyN_lst, tyN_dK, tyN_dT, truW_non, truW_bl, truW_int, truW_str, truW_lst, truW_klst, truW_tup, isNon_non, isNon_bl, isNon_int, isNon_str, isNon_tup, isNon_lst, isNon_klst, isNon_ins, isNon_dK, gT_tup, gConsP_cons, gNilP_nil, wipeE_nil, wipeE_cons, atI_0, atI_1, atI_2, atI_3, atI_4, atI_5, atI_6, atI_7, atI_8, atI_9, ixN_0, ixN_1, ixN_2, ixN_3, ixN_4, List.getElem?_cons_zero, List.getElem?_cons_succ, List.getElem?_nil, List.set_cons_zero, List.set_cons_succ, List.length_cons, List.length_nil, List.length_map, Nat.reduceAdd, Nat.reduceLT, Nat.lt_irrefl, List.append_nil, List.nil_append, decide_eq_true_eq, decide_eq_false_iff_not, Bool.not_eq_true', Bool.not_true, Bool.not_false, ite_true, ite_false, if_true, if_false, Bool.false_eq_true, Bool.true_eq_false, reduceIte, and_true, true_and, subT, String.reduceEq, decide_true, decide_false, Bool.or_false, Bool.false_or, Bool.or_true, Bool.true_or, Bool.and_true, Bool.and_false, Bool.true_and, Bool.false_and, Bool.or_self, Bool.and_self])
local macro_rules | `(tactic| walk_at "pul") => `(tactic| simp only [forW_nil, forW_cons, compW_nil, compW_cons, List.cons_append, qSeq, qNext, qBreak, qCont, qRet, qRetN, qSet, qSetN, qAsg, qAug, qApp, qFrz, qIf, qDrop, qSetIx, qFor, qWhile, tst, pOp, pUn, pC, pVar, pVarR, pCall, pCallD, pCons, pNil, pAndT, pOrT, pNotT, pTru, pAnd, pOr, pNot, pIf, pIsN, pChain, pTup, pLst, pIsi, pSeq, pRange1, pRange2, pComp, pYes, gN, listW, tupleW, ltW_int, leW_int, gtW_int, geW_int, subW_int, fdivW_int, modW_int, powW_int, endOf, endIo, atSh_sh, atAny_sh, atAny_ow, atOwT_ow, atOwL_ow, atOwF_ow, isBl_bl, isInt_int, isSome_some, isSome_none, isIns_ins, on1_1, on2_2, addW_int, addW_ib, addW_str, addW_lst, iaddW_int, iaddW_str, mulW_int, mulW_lst, eqW_int, eqW_str, eqW_bl, eqW_nn, eqW_ni, eqW_in, eqW_is, eqW_si, eqW_tt, eqW_ll, neW_int, neW_str, neW_bl, neW_nn, neW_ni, neW_in, neW_is, neW_si, neW_tt, neW_ll, negW_int, absW_int, intfW_int, intfW_bl, lenW_str, lenW_lst, lenW_klst, lenW_tup, max2W_int, min2W_int, itemW_lst, itemW_klst, itemW_tup, itemW_str, asList_lst, asList_klst, asList_tup, tyN_non, tyN_bl, tyN_int, tyN_str, tyN_tup, tyN_lst, tyN_dK, tyN_dT, truW_non, truW_bl, truW_int, truW_str, truW_lst, truW_klst, truW_tup, isNon_non, isNon_bl, isNon_int, isNon_str, isNon_tup, isNon_lst, isNon_klst, isNon_ins, isNon_dK, gT_tup, gConsP_cons, gNilP_nil, wipeE_nil, wipeE_cons, atI_0, atI_1, atI_2, atI_3, atI_4, atI_5, atI_6, atI_7, atI_8, atI_9, ixN_0, ixN_1, ixN_2, ixN_3, ixN_4, List.getElem?_cons_zero, List.getElem?_cons_succ, List.getElem?_nil, List.set_cons_zero, List.set_cons_succ, List.length_cons, List.length_nil, List.length_map, Nat.reduceAdd, Nat.reduceLT, Nat.lt_irrefl, List.append_nil, List.nil_append, decide_eq_true_eq, decide_eq_false_iff_not, Bool.not_eq_true', Bool.not_true, Bool.not_false, ite_true, ite_false, if_true, if_false, Bool.false_eq_true, Bool.true_eq_false, reduceIte, and_true, true_and, subT, String.reduceEq, decide_true, decide_false, Bool.or_false, Bool.false_or, Bool.or_true, Bool.true_or, Bool.and_true, Bool.and_false, Bool.true_and, Bool.false_and, Bool.or_self, Bool.and_self])
/-! ### _law_draw -/
abbrev N_draw : List Str := ["pool", "many", "cell", "got", "one"]
def q_draw : PTS := qSeq (qSetIx 0 (pC (.int 3)) (pOp addW (pOp itemW (pVarR 0) (pC (.int 3))) (pC (.int 1))))
  (qSeq (qIf (pAndT (tst (pOp eqW (pOp itemW (pVarR 0) (pC (.int 2))) (pC (.int 0)))) (tst (pOp ltW (pOp itemW (pVarR 0) (pC (.int 1))) (pCall (on1 lenW) (pCons (pOp itemW (pVarR 0) (pC (.int 0))) pNil))))) (qSeq (qSet 2 (pOp itemW (pOp itemW (pVarR 0) (pC (.int 0))) (pOp itemW (pVarR 0) (pC (.int 1)))))
  (qSeq (qSetIx 0 (pC (.int 1)) (pOp addW (pOp itemW (pVarR 0) (pC (.int 1))) (pC (.int 1))))
  (qIf (tst (pOp geW (pCall (on1 absW) (pCons (pVarR 2) pNil)) (pOp powW (pC (.int 10)) (pC (.int 18))))) (qSetIx 0 (pC (.int 2)) (pCall (on1 absW) (pCons (pVarR 2) pNil))) (qSetIx 0 (pC (.int 4)) (pOp modW (pCall (on1 intfW) (pCons (pOp addW (pOp addW (pOp mulW (pOp itemW (pVarR 0) (pC (.int 4))) (pC (.int 16807))) (pOp mulW (pVarR 2) (pC (.int 48271)))) (pC (.int 1))) pNil)) (pC (.int 2147483647))))))) (qNext))
  (qSeq (qIf (tst (pOp gtW (pOp itemW (pVarR 0) (pC (.int 2))) (pC (.int 0)))) (qSeq (qSet 3 (pOp modW (pCall (on1 intfW) (pCons (pOp itemW (pVarR 0) (pC (.int 2))) pNil)) (pVarR 1)))
  (qSeq (qSetIx 0 (pC (.int 2)) (pOp fdivW (pOp itemW (pVarR 0) (pC (.int 2))) (pVarR 1)))
  (qRet (pVar 3)))) (qNext))
  (qSeq (qSet 4 (pOp modW (pCall (on1 intfW) (pCons (pOp addW (pOp itemW (pVarR 0) (pC (.int 4))) (pOp mulW (pOp itemW (pVarR 0) (pC (.int 3))) (pC (.int 69621)))) pNil)) (pC (.int 2147483629))))
  (qSeq (qSet 4 (pOp modW (pCall (on1 intfW) (pCons (pOp addW (pOp addW (pOp mulW (pVarR 4) (pVarR 4)) (pOp mulW (pOp itemW (pVarR 0) (pC (.int 3))) (pC (.int 40692)))) (pC (.int 7))) pNil)) (pC (.int 2147483587))))
  (qSeq (qSet 4 (pOp modW (pCall (on1 intfW) (pCons (pOp addW (pOp addW (pOp mulW (pVarR 4) (pVarR 4)) (pOp itemW (pVarR 0) (pC (.int 4)))) (pC (.int 11))) pNil)) (pC (.int 2147483579))))
  (qRet (pOp modW (pCall (on1 intfW) (pCons (pOp fdivW (pVarR 4) (pC (.int 3))) pNil)) (pVarR 1))))))))
theorem st_draw (d0 d1 : D) : startIo N_draw d0 [d1] = [some (.ow false d0), some (.sh d1), none, none, none] := rfl
theorem len_draw (d0 : D) (ds : List D) (R : D → D → Prop) (h : drawIo d0 ds R) : ds.length + 1 = 2 := by
  obtain ⟨_, _, _, _, _, _, _, rfl, _⟩ := h
  rfl
theorem pure_draw (d0 : D) (ds : List D) (R : D → D → Prop) (h : drawIo d0 ds R) : q_draw (endIo R) (startIo N_draw d0 ds) := by
  obtain ⟨ns, c, r, q, s, m, rfl, rfl, c0, c1, r0, m0, mb, h⟩ := h
  rw [st_draw]
  unfold q_draw poolD
  walk_at "pu"
  have leaf : ∀ (v c' r' q' s' : Int), 0 ≤ v → v < m → 0 ≤ c' → c' ≤ ns.length → 0 ≤ r' → R (.int v) (.lst [.lst (ns.map .int), .int c', .int r', .int q', .int s']) := h
  clear h
  have em : ∀ x : Int, 0 ≤ x % m := fun x => Int.emod_nonneg _ (by omega)
  have el : ∀ x : Int, x % m < m := fun x => Int.emod_lt_of_pos _ m0
  have eq : ∀ x : Int, 0 ≤ x → 0 ≤ x / m := fun x hx => Int.ediv_nonneg hx (by omega)
  split
  · split
    · rename_i hr hc
      rw [atI_of c0, List.getElem?_map, List.getElem?_eq_getElem (by omega)]
      generalize ns[c.toNat]'(by omega) = n
      simp only [Option.map_some]
      walk_at "pu"
      refine ⟨pow_s, ?_⟩
      have e18 : (10 : Int) ^ Int.toNat 18 = 1000000000000000000 := by decide
      rw [e18]
      have hn : 0 ≤ (if n < 0 then -n else n) := by split <;> omega
      generalize (if n < 0 then -n else n) = a at hn ⊢
      split
      · split
        · exact ⟨m0, ⟨m0, mb⟩, leaf _ _ _ _ _ (em _) (el _) (by omega) (by omega) (eq _ hn)⟩
        · exact ⟨mul_s, by omega, mul_s, mul_s, by omega, mul_s, by omega, div_s (by omega), m0, leaf _ _ _ _ _ (em _) (el _) (by omega) (by omega) hn⟩
      · refine ⟨mul_s, mul_s, by omega, ?_⟩
        split
        · omega
        · exact ⟨mul_s, by omega, mul_s, mul_s, by omega, mul_s, by omega, div_s (by omega), m0, leaf _ _ _ _ _ (em _) (el _) (by omega) (by omega) r0⟩
    · split
      · exact ⟨m0, ⟨m0, mb⟩, leaf _ _ _ _ _ (em _) (el _) c0 c1 (eq _ r0)⟩
      · exact ⟨mul_s, by omega, mul_s, mul_s, by omega, mul_s, by omega, div_s (by omega), m0, leaf _ _ _ _ _ (em _) (el _) c0 c1 r0⟩
  · split
    · exact ⟨m0, ⟨m0, mb⟩, leaf _ _ _ _ _ (em _) (el _) c0 c1 (eq _ r0)⟩
    · exact ⟨mul_s, by omega, mul_s, mul_s, by omega, mul_s, by omega, div_s (by omega), m0, leaf _ _ _ _ _ (em _) (el _) c0 c1 r0⟩
end Pu
namespace Gly
open PySem PySem.Spec L2 Pu
/-! ### what each def promises -/
abbrev c_law_pool : Pr := Pu.poolC
abbrev c_law_draw : Pr := Pu.drawC
def badF (s r : Int) : Int := if s = 0 then 0 else if r = 0 then 10000 else if 100 * s * s * s / (r * r * r) < 10000 then 100 * s * s * s / (r * r * r) else 10000
def lcF (s b : Int) : Int := if b ≤ 12 then 1 else if s < 0 then 0 else if b < 100 then 2 else 3
def c_badness : Pr := fun ds P => ∃ s r : Int, ds = [.int s, .int r] ∧ 0 ≤ s ∧ s < 10 ^ 60 ∧ 0 ≤ r ∧ r < 10 ^ 60 ∧ P (.int (badF s r))
def c_line_class : Pr := fun ds P => ∃ s b : Int, ds = [.int s, .int b] ∧ P (.int (lcF s b))
def c_law_size : Pr := fun ds P => ds = [.pool] ∧ ∀ r : Int, 0 ≤ r → r < 10 ^ 40 → P (.int r)
def c_law_least_slack : Pr := fun ds P => ∃ r b : Int, ds = [.int r, .int b] ∧ 0 ≤ r ∧ r < 10 ^ 40 ∧ 0 ≤ b ∧ b ≤ 10000 ∧ ∀ h : Int, 0 ≤ h → h ≤ 10 ^ 41 → P (.int h)
def c_law_pair : Pr := fun ds P => ds = [.pool] ∧ ∀ s r : Int, 0 ≤ s → s ≤ 10 ^ 42 → 0 ≤ r → r ≤ 10 ^ 42 → P (.lst [.int s, .int r])
def c_law_int : Pr := fun ds P => ∃ i : Int, ds = [.int i] ∧ P (.bl true)
def c_law_exact : Pr := fun ds P => ∃ s r : Int, ds = [.int (badF s r), .int s, .int r] ∧ 0 ≤ s ∧ s < 10 ^ 60 ∧ 0 ≤ r ∧ r < 10 ^ 60 ∧ P (.bl true)
def c_law_classes : Pr := fun ds P => ∃ s b : Int, ds = [.int s, .int b] ∧ 0 ≤ s ∧ 0 ≤ b ∧ b ≤ 10000 ∧ P (.bl true)
abbrev c_law : Pr := Pu.lawC
end Gly
namespace Gly
open PySem PySem.Spec L2 Pu
abbrev N_badness : List Str := ["slack", "room"]
def q_badness : PTS := qSeq (qIf (tst (pOp eqW (pVarR 0) (pC (.int 0)))) (qRet (pC (.int 0))) (qNext))
  (qSeq (qIf (tst (pOp eqW (pVarR 1) (pC (.int 0)))) (qRet (pC (.int 10000))) (qNext))
  (qRet (pCall (on2 min2W) (pCons (pC (.int 10000)) (pCons (pOp fdivW (pOp mulW (pOp mulW (pOp mulW (pC (.int 100)) (pVarR 0)) (pVarR 0)) (pVarR 0)) (pOp mulW (pOp mulW (pVarR 1) (pVarR 1)) (pVarR 1))) pNil)))))
theorem st_badness (d0 d1 : D) : startE N_badness [d0, d1] = [some (.sh d0), some (.sh d1)] := rfl
abbrev N_line_class : List Str := ["slack", "bad"]
def q_line_class : PTS := qSeq (qIf (tst (pOp leW (pVarR 1) (pC (.int 12)))) (qRet (pC (.int 1))) (qNext))
  (qSeq (qIf (tst (pOp ltW (pVarR 0) (pC (.int 0)))) (qRet (pC (.int 0))) (qNext))
  (qSeq (qIf (tst (pOp ltW (pVarR 1) (pC (.int 100)))) (qRet (pC (.int 2))) (qNext))
  (qRet (pC (.int 3)))))
theorem st_line_class (d0 d1 : D) : startE N_line_class [d0, d1] = [some (.sh d0), some (.sh d1)] := rfl
abbrev N_law_size : List Str := ["pool", "kind"]
def q_law_size : PTS := qSeq (qSet 1 (pCallD c_law_draw [] (pCons (pVar 0) (pCons (pC (.int 5)) pNil))))
  (qSeq (qIf (tst (pOp eqW (pVarR 1) (pC (.int 3)))) (qRet (pOp addW (pOp mulW (pCallD c_law_draw [] (pCons (pVar 0) (pCons (pOp powW (pC (.int 10)) (pC (.int 9))) pNil))) (pOp powW (pC (.int 10)) (pC (.int 9)))) (pCallD c_law_draw [] (pCons (pVar 0) (pCons (pOp powW (pC (.int 10)) (pC (.int 9))) pNil))))) (qNext))
  (qRet (pCallD c_law_draw [] (pCons (pVar 0) (pCons (pOp itemW (pLst (pCons (pC (.int 13)) (pCons (pC (.int 61)) (pCons (pC (.int 100001)) (pCons (pC (.int 1)) (pCons (pOp powW (pC (.int 10)) (pC (.int 40))) pNil)))))) (pVarR 1)) pNil)))))
theorem st_law_size (d0 : D) : startE N_law_size [d0] = [some (.sh d0), none] := rfl
abbrev N_law_least_slack : List Str := ["room", "bad", "low", "high", "due", "k", "half"]
def b_law_least_slack_1 : PTS := qIf (tst (pOp gtW (pOp subW (pVarR 3) (pVarR 2)) (pC (.int 1)))) (qSeq (qSet 6 (pOp fdivW (pOp addW (pVarR 2) (pVarR 3)) (pC (.int 2))))
  (qIf (tst (pOp ltW (pOp mulW (pOp mulW (pOp mulW (pC (.int 100)) (pVarR 6)) (pVarR 6)) (pVarR 6)) (pVarR 4))) (qSet 2 (pVar 6)) (qSet 3 (pVar 6)))) (qNext)
def q_law_least_slack : PTS := qSeq (qSet 2 (pC (.int 0)))
  (qSeq (qSet 3 (pOp mulW (pC (.int 5)) (pVarR 0)))
  (qSeq (qSet 4 (pOp mulW (pOp mulW (pOp mulW (pVarR 1) (pVarR 0)) (pVarR 0)) (pVarR 0)))
  (qSeq (qFor (pRange1 (pC (.int 160))) (gN 5) b_law_least_slack_1)
  (qRet (pVar 3)))))
theorem st_law_least_slack (d0 d1 : D) : startE N_law_least_slack [d0, d1] = [some (.sh d0), some (.sh d1), none, none, none, none, none] := rfl
abbrev N_law_pair : List Str := ["pool", "room", "kind", "bad"]
def q_law_pair : PTS := qSeq (qSet 1 (pCallD c_law_size [] (pCons (pVar 0) pNil)))
  (qSeq (qSet 2 (pCallD c_law_draw [] (pCons (pVar 0) (pCons (pC (.int 4)) pNil))))
  (qSeq (qIf (tst (pOp eqW (pVarR 2) (pC (.int 0)))) (qRet (pLst (pCons (pCallD c_law_size [] (pCons (pVar 0) pNil)) (pCons (pVar 1) pNil)))) (qNext))
  (qSeq (qIf (tst (pOp eqW (pVarR 2) (pC (.int 1)))) (qRet (pLst (pCons (pCall (on2 max2W) (pCons (pC (.int 0)) (pCons (pOp addW (pOp subW (pVarR 1) (pC (.int 1))) (pCallD c_law_draw [] (pCons (pVar 0) (pCons (pC (.int 3)) pNil)))) pNil))) (pCons (pVar 1) pNil)))) (qNext))
  (qSeq (qSet 3 (pOp itemW (pLst (pCons (pC (.int 13)) (pCons (pC (.int 100)) (pCons (pC (.int 10000)) (pCons (pOp addW (pC (.int 1)) (pCallD c_law_draw [] (pCons (pVar 0) (pCons (pC (.int 10000)) pNil)))) pNil))))) (pCallD c_law_draw [] (pCons (pVar 0) (pCons (pC (.int 4)) pNil)))))
  (qRet (pLst (pCons (pCall (on2 max2W) (pCons (pC (.int 0)) (pCons (pOp subW (pCallD c_law_least_slack [] (pCons (pVar 1) (pCons (pVar 3) pNil))) (pCallD c_law_draw [] (pCons (pVar 0) (pCons (pC (.int 2)) pNil)))) pNil))) (pCons (pVar 1) pNil))))))))
theorem st_law_pair (d0 : D) : startE N_law_pair [d0] = [some (.sh d0), none, none, none] := rfl
abbrev N_law_int : List Str := ["got"]
def q_law_int : PTS := qRet (pAnd (pIsi "int" (pVarR 0)) (pNot (pIsi "bool" (pVarR 0))))
theorem st_law_int (d0 : D) : startE N_law_int [d0] = [some (.sh d0)] := rfl
abbrev N_law_exact : List Str := ["got", "slack", "room", "cube", "weight"]
def q_law_exact : PTS := qSeq (qIf (pOrT (pNotT (pTru (pCallD c_law_int [] (pCons (pVar 0) pNil)))) (pNotT (tst (pChain leW leW (pC (.int 0)) (pVarR 0) (pC (.int 10000)))))) (qRet (pC (.bl false))) (qNext))
  (qSeq (qIf (tst (pOp eqW (pVarR 1) (pC (.int 0)))) (qRet (pOp eqW (pVarR 0) (pC (.int 0)))) (qNext))
  (qSeq (qIf (tst (pOp eqW (pVarR 2) (pC (.int 0)))) (qRet (pOp eqW (pVarR 0) (pC (.int 10000)))) (qNext))
  (qSeq (qSet 3 (pOp mulW (pOp mulW (pVarR 2) (pVarR 2)) (pVarR 2)))
  (qSeq (qSet 4 (pOp mulW (pOp mulW (pOp mulW (pC (.int 100)) (pVarR 1)) (pVarR 1)) (pVarR 1)))
  (qSeq (qIf (tst (pOp gtW (pOp mulW (pVarR 0) (pVarR 3)) (pVarR 4))) (qRet (pC (.bl false))) (qNext))
  (qRet (pOr (pOp eqW (pVarR 0) (pC (.int 10000))) (pOp gtW (pOp mulW (pOp addW (pVarR 0) (pC (.int 1))) (pVarR 3)) (pVarR 4)))))))))
theorem st_law_exact (d0 d1 d2 : D) : startE N_law_exact [d0, d1, d2] = [some (.sh d0), some (.sh d1), some (.sh d2), none, none] := rfl
abbrev N_law_classes : List Str := ["slack", "bad", "due", "row", "side", "got", "one"]
def b_law_classes_1 : PTS := qSeq (qSet 5 (pCallD c_line_class [] (pCons (pVar 4) (pCons (pVar 1) pNil))))
  (qIf (pOrT (pNotT (pTru (pCallD c_law_int [] (pCons (pVar 5) pNil)))) (tst (pOp neW (pVarR 5) (pOp itemW (pVarR 3) (pOp addW (pC (.int 1)) (pCall (on1 intfW) (pCons (pOp geW (pVarR 4) (pC (.int 0))) pNil))))))) (qRet (pC (.bl false))) (qNext))
def q_law_classes : PTS := qSeq (qSet 2 (pLst (pCons (pLst (pCons (pC (.int 12)) (pCons (pC (.int 1)) (pCons (pC (.int 1)) pNil)))) (pCons (pLst (pCons (pC (.int 99)) (pCons (pC (.int 0)) (pCons (pC (.int 2)) pNil)))) (pCons (pLst (pCons (pC (.int 10000)) (pCons (pC (.int 0)) (pCons (pC (.int 3)) pNil)))) pNil)))))
  (qSeq (qSet 3 (pOp itemW (pComp [6] (pSeq (pVarR 2)) (gN 6) (tst (pOp leW (pVarR 1) (pOp itemW (pVarR 6) (pC (.int 0))))) (pVar 6)) (pC (.int 0))))
  (qSeq (qFor (pSeq (pLst (pCons (pOp subW (pUn negW (pVarR 0)) (pC (.int 1))) (pCons (pUn negW (pC (.int 1))) (pCons (pC (.int 0)) (pCons (pC (.int 1)) (pCons (pOp addW (pVarR 0) (pC (.int 1))) pNil))))))) (gN 4) b_law_classes_1)
  (qRet (pC (.bl true)))))
theorem st_law_classes (d0 d1 : D) : startE N_law_classes [d0, d1] = [some (.sh d0), some (.sh d1), none, none, none, none, none] := rfl
abbrev N_law : List Str := ["script", "pool", "pair", "slack", "room", "factor", "drawn", "told", "more", "less", "alike", "bad"]
def b_law_1 : PTS := qIf (pNotT (pTru (pCallD c_law_classes [] (pCons (pVar 3) (pCons (pVar 11) pNil))))) (qRet (pC (.bl false))) (qNext)
def q_law : PTS := qSeq (qSet 1 (pCallD c_law_pool [] (pCons (pVar 0) pNil)))
  (qSeq (qSet 2 (pCallD c_law_pair [] (pCons (pVar 1) pNil)))
  (qSeq (qSet 3 (pOp itemW (pVarR 2) (pC (.int 0))))
  (qSeq (qSet 4 (pOp itemW (pVarR 2) (pC (.int 1))))
  (qSeq (qSet 5 (pOp addW (pC (.int 1)) (pCallD c_law_draw [] (pCons (pVar 1) (pCons (pOp powW (pC (.int 10)) (pC (.int 6))) pNil)))))
  (qSeq (qSet 6 (pCallD c_law_draw [] (pCons (pVar 1) (pCons (pC (.int 10001)) pNil))))
  (qSeq (qSet 7 (pCallD c_badness [] (pCons (pVar 3) (pCons (pVar 4) pNil))))
  (qSeq (qSet 8 (pCallD c_badness [] (pCons (pOp addW (pVarR 3) (pC (.int 1))) (pCons (pVar 4) pNil))))
  (qSeq (qSet 9 (pCallD c_badness [] (pCons (pVar 3) (pCons (pOp addW (pVarR 4) (pC (.int 1))) pNil))))
  (qSeq (qSet 10 (pCallD c_badness [] (pCons (pOp mulW (pVarR 3) (pVarR 5)) (pCons (pOp mulW (pVarR 4) (pVarR 5)) pNil))))
  (qSeq (qIf (pOrT (pNotT (pTru (pCallD c_law_exact [] (pCons (pVar 7) (pCons (pVar 3) (pCons (pVar 4) pNil)))))) (pNotT (pTru (pCallD c_law_exact [] (pCons (pVar 8) (pCons (pOp addW (pVarR 3) (pC (.int 1))) (pCons (pVar 4) pNil))))))) (qRet (pC (.bl false))) (qNext))
  (qSeq (qIf (pOrT (pNotT (pTru (pCallD c_law_exact [] (pCons (pVar 9) (pCons (pVar 3) (pCons (pOp addW (pVarR 4) (pC (.int 1))) pNil)))))) (pNotT (pTru (pCallD c_law_exact [] (pCons (pVar 10) (pCons (pOp mulW (pVarR 3) (pVarR 5)) (pCons (pOp mulW (pVarR 4) (pVarR 5)) pNil))))))) (qRet (pC (.bl false))) (qNext))
  (qSeq (qIf (pOrT (pNotT (tst (pChain leW leW (pVarR 9) (pVarR 7) (pVarR 8)))) (tst (pOp neW (pVarR 10) (pVarR 7)))) (qRet (pC (.bl false))) (qNext))
  (qSeq (qFor (pSeq (pLst (pCons (pC (.int 0)) (pCons (pC (.int 1)) (pCons (pC (.int 11)) (pCons (pC (.int 12)) (pCons (pC (.int 13)) (pCons (pC (.int 14)) (pCons (pC (.int 98)) (pCons (pC (.int 99)) (pCons (pC (.int 100)) (pCons (pC (.int 101)) (pCons (pC (.int 9999)) (pCons (pC (.int 10000)) (pCons (pVar 6) (pCons (pVar 7) pNil)))))))))))))))) (gN 11) b_law_1)
  (qRet (pC (.bl true))))))))))))))))
theorem st_law (d0 : D) : startE N_law [d0] = [some (.sh d0), none, none, none, none, none, none, none, none, none, none, none] := rfl
end Gly
namespace Gly
open PySem PySem.Spec L2 Pu
local macro_rules | `(tactic| walk_at "pu") => `(tactic| simp only [qSeq, qNext, qBreak, qCont, qRet, qRetN, qSet, qSetN, qAsg, qAug, qApp, qFrz, qIf, qDrop, qSetIx, qFor, qWhile, tst, pOp, pUn, pC, pVar, pVarR, pCall, pCallD, pCons, pNil, pAndT, pOrT, pNotT, pTru, pAnd, pOr, pNot, pIf, pIsN, pChain, pTup, pLst, pIsi, pSeq, pRange1, pRange2, pComp, pYes, gN, listW, tupleW, ltW_int, leW_int, gtW_int, geW_int, subW_int, fdivW_int, modW_int, powW_int, endOf, endIo, atSh_sh, atAny_sh, atAny_ow, atOwT_ow, atOwL_ow, atOwF_ow, isBl_bl, isInt_int, isSome_some, isSome_none, isIns_ins, on1_1, on2_2, addW_int, addW_ib, addW_str, addW_lst, iaddW_int, iaddW_str, mulW_int, mulW_lst, eqW_int, eqW_str, eqW_bl, eqW_nn, eqW_ni, eqW_in, eqW_is, eqW_si, eqW_tt, eqW_ll, neW_int, neW_str, neW_bl, neW_nn, neW_ni, neW_in, neW_is, neW_si, neW_tt, neW_ll, negW_int, absW_int, intfW_int, intfW_bl, lenW_str, lenW_lst, lenW_klst, lenW_tup, max2W_int, min2W_int, itemW_lst, itemW_klst, itemW_tup, itemW_str, asList_lst, asList_klst, asList_tup, tyN_non, tyN_bl, tyN_int, tyN_str, tyN_tup, tyN_lst, tyN_dK, tyN_dT, truW_non, truW_bl, truW_int, truW_str, truW_lst, truW_klst, truW_tup, isNon_non, isNon_bl, isNon_int, isNon_str, isNon_tup, isNon_lst, isNon_klst, isNon_ins, isNon_dK, gT_tup, gConsP_cons, gNilP_nil, wipeE_nil, wipeE_cons, atI_0, atI_1, atI_2, atI_3, atI_4, atI_5, atI_6, atI_7, atI_8, atI_9, ixN_0, ixN_1, ixN_2, ixN_3, ixN_4, List.getElem?_cons_zero, List.getElem?_cons_succ, List.getElem?_nil, List.set_cons_zero, List.set_cons_succ, List.length_cons, List.length_nil, List.length_map, Nat.reduceAdd, Int.reduceAdd, Nat.reduceLT, Nat.lt_irrefl, List.append_nil, List.nil_append, decide_eq_true_eq, decide_eq_false_iff_not, Bool.not_eq_true', Bool.not_true, Bool.not_false, ite_true, ite_false, if_true, if_false, Bool.false_eq_true, Bool.true_eq_false, reduceIte, and_true, true_and, subT, String.reduceEq, decide_true, decide_false, Bool.or_false, Bool.false_or, Bool.or_true, Bool.true_or, Bool.and_true, Bool.and_false, Bool.true_and, Bool.false_and, Bool.or_self, Bool.and_self])
local macro_rules | `(tactic| walk_at "pul") => `(tactic| simp only [forW_nil, forW_cons, compW_nil, compW_cons, List.cons_append, qSeq, qNext, qBreak, qCont, qRet, qRetN, qSet, qSetN, qAsg, qAug, qApp, qFrz, qIf, qDrop, qSetIx, qFor, qWhile, tst, pOp, pUn, pC, pVar, pVarR, pCall, pCallD, pCons, pNil, pAndT, pOrT, pNotT, pTru, pAnd, pOr, pNot, pIf, pIsN, pChain, pTup, pLst, pIsi, pSeq, pRange1, pRange2, pComp, pYes, gN, listW, tupleW, ltW_int, leW_int, gtW_int, geW_int, subW_int, fdivW_int, modW_int, powW_int, endOf, endIo, atSh_sh, atAny_sh, atAny_ow, atOwT_ow, atOwL_ow, atOwF_ow, isBl_bl, isInt_int, isSome_some, isSome_none, isIns_ins, on1_1, on2_2, addW_int, addW_ib, addW_str, addW_lst, iaddW_int, iaddW_str, mulW_int, mulW_lst, eqW_int, eqW_str, eqW_bl, eqW_nn, eqW_ni, eqW_in, eqW_is, eqW_si, eqW_tt, eqW_ll, neW_int, neW_str, neW_bl, neW_nn, neW_ni, neW_in, neW_is, neW_si, neW_tt, neW_ll, negW_int, absW_int, intfW_int, intfW_bl, lenW_str, lenW_lst, lenW_klst, lenW_tup, max2W_int, min2W_int, itemW_lst, itemW_klst, itemW_tup, itemW_str, asList_lst, asList_klst, asList_tup, tyN_non, tyN_bl, tyN_int, tyN_str, tyN_tup, tyN_lst, tyN_dK, tyN_dT, truW_non, truW_bl, truW_int, truW_str, truW_lst, truW_klst, truW_tup, isNon_non, isNon_bl, isNon_int, isNon_str, isNon_tup, isNon_lst, isNon_klst, isNon_ins, isNon_dK, gT_tup, gConsP_cons, gNilP_nil, wipeE_nil, wipeE_cons, atI_0, atI_1, atI_2, atI_3, atI_4, atI_5, atI_6, atI_7, atI_8, atI_9, ixN_0, ixN_1, ixN_2, ixN_3, ixN_4, List.getElem?_cons_zero, List.getElem?_cons_succ, List.getElem?_nil, List.set_cons_zero, List.set_cons_succ, List.length_cons, List.length_nil, List.length_map, Nat.reduceAdd, Int.reduceAdd, Nat.reduceLT, Nat.lt_irrefl, List.append_nil, List.nil_append, decide_eq_true_eq, decide_eq_false_iff_not, Bool.not_eq_true', Bool.not_true, Bool.not_false, ite_true, ite_false, if_true, if_false, Bool.false_eq_true, Bool.true_eq_false, reduceIte, and_true, true_and, subT, String.reduceEq, decide_true, decide_false, Bool.or_false, Bool.false_or, Bool.or_true, Bool.true_or, Bool.and_true, Bool.and_false, Bool.true_and, Bool.false_and, Bool.or_self, Bool.and_self])
theorem nab {x : Int} {n : Nat} (h0 : 0 ≤ x) (h : x < 2 ^ n) : x.natAbs < 2 ^ n := by
  have h2 : ((x.natAbs : Nat) : Int) < ((2 ^ n : Nat) : Int) := by
    rw [Int.natAbs_of_nonneg h0]
    simpa using h
  exact Int.ofNat_lt.mp h2
/-- a product, its bounds by powers of two -/
theorem bnd {x y : Int} {a b : Nat} (hx : 0 ≤ x) (hy : 0 ≤ y) (ha : x < 2 ^ a) (hb : y < 2 ^ b) : 0 ≤ x * y ∧ x * y < 2 ^ (a + b) := by
  refine ⟨Int.mul_nonneg hx hy, ?_⟩
  rw [Int.pow_add]
  by_cases h : y = 0
  · subst h
    rw [Int.mul_zero]
    exact Int.mul_pos (Int.pow_pos (by decide)) (Int.pow_pos (by decide))
  · exact Int.mul_lt_mul ha (Int.le_of_lt hb) (by omega) (Int.le_of_lt (Int.pow_pos (by decide)))
theorem p200 : (10 : Int) ^ 60 < 2 ^ 200 := by decide
theorem len_badness (ds : List D) (R : DK) (h : c_badness ds R) : ds.length = 2 := by
  obtain ⟨_, _, rfl, _⟩ := h; rfl
theorem pure_badness (ds : List D) (R : DK) (h : c_badness ds R) : q_badness (endOf R) (startE N_badness ds) := by
  obtain ⟨s, r, rfl, s0, s1, r0, r1, h⟩ := h
  rw [st_badness]
  unfold q_badness
  walk_at "pu"
  unfold badF at h
  have hp := p200
  have s2 : s < 2 ^ 200 := by omega
  have r2 : r < 2 ^ 200 := by omega
  split
  · rename_i e; rw [if_pos e] at h; exact h
  · rename_i e
    rw [if_neg e] at h
    split
    · rename_i e2; rw [if_pos e2] at h; exact h
    · rename_i e2
      rw [if_neg e2] at h
      obtain ⟨a0, a1⟩ := bnd (x := 100) (y := s) (a := 7) (by omega) s0 (by decide) s2
      obtain ⟨b0, b1⟩ := bnd a0 s0 a1 s2
      obtain ⟨c0, c1⟩ := bnd b0 s0 b1 s2
      obtain ⟨d0, d1⟩ := bnd r0 r0 r2 r2
      obtain ⟨f0, f1⟩ := bnd d0 r0 d1 r2
      have f2 : 0 < r * r * r := Int.mul_pos (Int.mul_pos (by omega) (by omega)) (by omega)
      exact ⟨mul_l, mul_b _ _ (nab a0 a1) (nab s0 s2), mul_b _ _ (nab b0 b1) (nab s0 s2), mul_b _ _ (nab r0 r2) (nab r0 r2), mul_b _ _ (nab d0 d1) (nab r0 r2), wide_div f2 (nab f0 f1) (by decide) (by decide), h⟩
theorem len_line_class (ds : List D) (R : DK) (h : c_line_class ds R) : ds.length = 2 := by
  obtain ⟨_, _, rfl, _⟩ := h; rfl
theorem pure_line_class (ds : List D) (R : DK) (h : c_line_class ds R) : q_line_class (endOf R) (startE N_line_class ds) := by
  obtain ⟨s, b, rfl, h⟩ := h
  rw [st_line_class]
  unfold q_line_class
  walk_at "pu"
  unfold lcF at h
  split
  · rename_i e; rwa [if_pos e] at h
  · rename_i e; rw [if_neg e] at h
    split
    · rename_i e; rwa [if_pos e] at h
    · rename_i e; rw [if_neg e] at h
      split
      · rename_i e; rwa [if_pos e] at h
      · rename_i e; rwa [if_neg e] at h
theorem drawI {m : Int} {P : DK} (h0 : 0 < m) (hb : m.natAbs.log2 < 9000) (h : ∀ r : Int, 0 ≤ r → r < m → P (.int r)) : c_law_draw [.pool, .int m] P := ⟨m, rfl, h0, hb, h⟩
theorem log_lt {m : Int} {n : Nat} (h0 : 0 ≤ m) (h : m < 2 ^ n) (hn : 0 < n := by decide) (h9 : n ≤ 9000 := by decide) : m.natAbs.log2 < 9000 := Nat.lt_of_lt_of_le (PySem.Flt.log2_lt_of hn (nab h0 h)) h9
theorem len_law_size (ds : List D) (R : DK) (h : c_law_size ds R) : ds.length = 1 := by
  obtain ⟨rfl, _⟩ := h; rfl
theorem pure_law_size (ds : List D) (R : DK) (h : c_law_size ds R) : q_law_size (endOf R) (startE N_law_size ds) := by
  obtain ⟨rfl, h⟩ := h
  rw [st_law_size]
  unfold q_law_size
  walk_at "pu"
  refine drawI (by omega) (log_lt (n := 3) (by omega) (by omega)) fun k k0 k1 => ?_
  walk_at "pu"
  have e9 : (10 : Int) ^ Int.toNat 9 = 1000000000 := by decide
  have e40 : (10 : Int) ^ Int.toNat 40 = 10 ^ 40 := by decide
  have g40 : (10 : Int) ^ 40 < 2 ^ 134 := by decide
  have big : (10 : Int) ^ 40 = 10000000000000000000000000000000000000000 := by decide
  rw [e9, e40]
  split
  · refine ⟨pow_s, drawI (by omega) (log_lt (n := 30) (by omega) (by omega)) fun a a0 a1 => ?_⟩
    walk_at "pu"
    refine ⟨pow_s, mul_s, pow_s, drawI (by omega) (log_lt (n := 30) (by omega) (by omega)) fun b b0 b1 => ?_⟩
    walk_at "pu"
    exact h _ (by omega) (by omega)
  · refine ⟨pow_s, by rw [sizeLine_eq]; omega, ?_⟩
    have go : ∀ m : Int, 0 < m → m ≤ 10 ^ 40 → c_law_draw [.pool, .int m] fun d => R d := fun m m0 m1 =>
      drawI m0 (log_lt (n := 134) (by omega) (by omega)) fun b b0 b1 => h _ b0 (by omega)
    have : k = 0 ∨ k = 1 ∨ k = 2 ∨ k = 4 := by omega
    rcases this with rfl | rfl | rfl | rfl <;> walk_at "pu" <;> exact go _ (by omega) (by omega)
theorem len_law_least_slack (ds : List D) (R : DK) (h : c_law_least_slack ds R) : ds.length = 2 := by
  obtain ⟨_, _, rfl, _⟩ := h; rfl
theorem pure_law_least_slack (ds : List D) (R : DK) (h : c_law_least_slack ds R) : q_law_least_slack (endOf R) (startE N_law_least_slack ds) := by
  obtain ⟨r, b, rfl, r0, r1, b0, b1, h⟩ := h
  rw [st_law_least_slack]
  unfold q_law_least_slack
  walk_at "pu"
  have big : (10 : Int) ^ 41 = 100000000000000000000000000000000000000000 := by decide
  have big2 : (10 : Int) ^ 40 = 10000000000000000000000000000000000000000 := by decide
  have g : (10 : Int) ^ 41 < 2 ^ 137 := by decide
  have g40 : (10 : Int) ^ 40 < 2 ^ 134 := by decide
  have hb : b < 2 ^ 14 := by omega
  have r2 : r < 2 ^ 134 := by omega
  obtain ⟨x0, x1⟩ := bnd b0 r0 hb r2
  obtain ⟨y0, y1⟩ := bnd x0 r0 x1 r2
  refine ⟨mul_l, mul_b _ _ (nab b0 hb) (nab r0 r2), mul_b _ _ (nab x0 x1) (nab r0 r2), mul_b _ _ (nab y0 y1) (nab r0 r2), by omega, by omega, ?_⟩
  generalize b * r * r * r = due
  -- the loop keeps 0 ≤ low ≤ high ≤ 5 * room
  refine forI_inv (fun _ ρ => ∃ (lo hi : Int) (x5 x6 : Option Sl), 0 ≤ lo ∧ lo ≤ hi ∧ hi ≤ 5 * r ∧ ρ = [some (.sh (.int r)), some (.sh (.int b)), some (.sh (.int lo)), some (.sh (.int hi)), some (.sh (.int due)), x5, x6]) ⟨0, 5 * r, none, none, by omega, by omega, by omega, rfl⟩ ?_ ?_
  · rintro k ks ρ ⟨lo, hi, x5, x6, h0, h1, h2, rfl⟩
    unfold b_law_least_slack_1
    walk_at "pu"
    split
    · refine ⟨div_s (by omega), ?_⟩
      have m0 : lo ≤ (lo + hi) / 2 := by omega
      have m1 : (lo + hi) / 2 ≤ hi := by omega
      generalize (lo + hi) / 2 = m at m0 m1 ⊢
      have m2 : m < 2 ^ 137 := by omega
      obtain ⟨a0, a1⟩ := bnd (x := 100) (y := m) (a := 7) (by omega) (by omega) (by decide) m2
      obtain ⟨b0', b1'⟩ := bnd a0 (show 0 ≤ m by omega) a1 m2
      refine ⟨mul_l, mul_b _ _ (nab a0 a1) (nab (by omega) m2), mul_b _ _ (nab b0' b1') (nab (by omega) m2), ?_⟩
      split
      · exact ⟨_, _, _, _, by omega, m1, h2, rfl⟩
      · exact ⟨_, _, _, _, h0, m0, by omega, rfl⟩
    · exact ⟨_, _, _, _, h0, h1, h2, rfl⟩
  · rintro ρ ⟨lo, hi, x5, x6, h0, h1, h2, rfl⟩
    walk_at "pu"
    exact h hi (by omega) (by omega)
theorem len_law_pair (ds : List D) (R : DK) (h : c_law_pair ds R) : ds.length = 1 := by
  obtain ⟨rfl, _⟩ := h; rfl
theorem pure_law_pair (ds : List D) (R : DK) (h : c_law_pair ds R) : q_law_pair (endOf R) (startE N_law_pair ds) := by
  obtain ⟨rfl, h⟩ := h
  rw [st_law_pair]
  unfold q_law_pair
  walk_at "pu"
  have big : (10 : Int) ^ 42 = 1000000000000000000000000000000000000000000 := by decide
  have big1 : (10 : Int) ^ 41 = 100000000000000000000000000000000000000000 := by decide
  have big2 : (10 : Int) ^ 40 = 10000000000000000000000000000000000000000 := by decide
  refine ⟨rfl, fun r r0 r1 => ?_⟩
  walk_at "pu"
  refine drawI (by omega) (log_lt (n := 3) (by omega) (by omega)) fun k k0 k1 => ?_
  walk_at "pu"
  split
  · refine ⟨rfl, fun s s0 s1 => ⟨by rw [sizeLine_eq]; omega, h s r s0 (by omega) r0 (by omega)⟩⟩
  · split
    · refine drawI (by omega) (log_lt (n := 2) (by omega) (by omega)) fun x x0 x1 => ?_
      walk_at "pu"
      refine ⟨by rw [sizeLine_eq]; omega, ?_⟩
      split <;> exact h _ r (by omega) (by omega) r0 (by omega)
    · refine drawI (by omega) (log_lt (n := 14) (by omega) (by omega)) fun x x0 x1 => ?_
      walk_at "pu"
      refine ⟨by rw [sizeLine_eq]; omega, ?_⟩
      refine drawI (by omega) (log_lt (n := 3) (by omega) (by omega)) fun y y0 y1 => ?_
      have fin : ∀ b : Int, 0 ≤ b → b ≤ 10000 → c_law_least_slack [.int r, .int b] fun d => c_law_draw [.pool, .int 2] fun e => subW d e fun d => max2W (.int 0) d fun d => 2 ≤ sizeLine ∧ R (.lst [d, .int r]) := by
        intro b b0 b1
        refine ⟨r, b, rfl, r0, r1, b0, b1, fun z z0 z1 => ?_⟩
        refine drawI (by omega) (log_lt (n := 2) (by omega) (by omega)) fun y y0 y1 => ?_
        walk_at "pu"
        refine ⟨by rw [sizeLine_eq]; omega, ?_⟩
        split <;> exact h _ r (by omega) (by omega) r0 (by omega)
      have : y = 0 ∨ y = 1 ∨ y = 2 ∨ y = 3 := by omega
      rcases this with rfl | rfl | rfl | rfl <;> walk_at "pu" <;> exact fin _ (by omega) (by omega)
theorem len_law_int (ds : List D) (R : DK) (h : c_law_int ds R) : ds.length = 1 := by
  obtain ⟨_, rfl, _⟩ := h; rfl
theorem pure_law_int (ds : List D) (R : DK) (h : c_law_int ds R) : q_law_int (endOf R) (startE N_law_int ds) := by
  obtain ⟨i, rfl, h⟩ := h
  rw [st_law_int]
  unfold q_law_int
  walk_at "pu"
  exact h
theorem badF_le {s r : Int} (s0 : 0 ≤ s) (r0 : 0 ≤ r) : 0 ≤ badF s r ∧ badF s r ≤ 10000 := by
  unfold badF
  split
  · omega
  · split
    · omega
    · have h0 : 0 ≤ 100 * s * s * s / (r * r * r) := Int.ediv_nonneg (Int.mul_nonneg (Int.mul_nonneg (Int.mul_nonneg (by omega) s0) s0) s0) (Int.mul_nonneg (Int.mul_nonneg r0 r0) r0)
      split <;> omega
theorem cube_pos {r : Int} (h : 0 < r) : 0 < r * r * r := Int.mul_pos (Int.mul_pos h h) h
theorem cube_mono {r t : Int} (h0 : 0 ≤ r) (h : r ≤ t) : r * r * r ≤ t * t * t := by
  have h1 : r * r ≤ t * t := Int.mul_le_mul h h h0 (by omega)
  exact Int.mul_le_mul h1 h h0 (Int.mul_nonneg (by omega) (by omega))
theorem hund {s : Int} : 100 * s * s * s = 100 * (s * s * s) := by rw [Int.mul_assoc 100 s s, Int.mul_assoc 100 (s * s) s]
theorem len_law_exact (ds : List D) (R : DK) (h : c_law_exact ds R) : ds.length = 3 := by
  obtain ⟨_, _, rfl, _⟩ := h; rfl
theorem exact_law {s r : Int} (s0 : 0 < s) (r0 : 0 < r) : badF s r * (r * r * r) ≤ 100 * s * s * s ∧ (badF s r = 10000 ∨ 100 * s * s * s < (badF s r + 1) * (r * r * r)) := by
  have hr := cube_pos r0
  unfold badF
  rw [if_neg (by omega), if_neg (by omega)]
  generalize 100 * s * s * s = x
  generalize r * r * r = y at hr ⊢
  have h1 := Int.ediv_mul_le x (show y ≠ 0 by omega)
  have h2 := Int.lt_ediv_add_one_mul_self x hr
  split
  · exact ⟨h1, .inr h2⟩
  · refine ⟨?_, .inl rfl⟩
    have : 10000 * y ≤ x / y * y := Int.mul_le_mul_of_nonneg_right (by omega) (by omega)
    omega
theorem pure_law_exact (ds : List D) (R : DK) (h : c_law_exact ds R) : q_law_exact (endOf R) (startE N_law_exact ds) := by
  obtain ⟨s, r, rfl, s0, s1, r0, r1, h⟩ := h
  rw [st_law_exact]
  unfold q_law_exact
  obtain ⟨g0, g1⟩ := badF_le s0 r0
  have hp := p200
  have s2 : s < 2 ^ 200 := by omega
  have r2 : r < 2 ^ 200 := by omega
  have ez : s = 0 → badF s r = 0 := fun e => by unfold badF; rw [if_pos e]
  have er : s ≠ 0 → r = 0 → badF s r = 10000 := fun e e2 => by unfold badF; rw [if_neg e, if_pos e2]
  have ex : s ≠ 0 → r ≠ 0 → _ := fun e e2 => exact_law (s := s) (r := r) (by omega) (by omega)
  generalize badF s r = g at g0 g1 ez er ex ⊢
  walk_at "pu"
  refine ⟨g, rfl, ?_⟩
  walk_at "pu"
  rw [if_pos g0, if_neg (by omega)]
  split
  · rename_i e
    rw [decide_eq_true (ez e)]; exact h
  · rename_i e
    split
    · rename_i e2
      rw [decide_eq_true (er e e2)]; exact h
    · rename_i e2
      obtain ⟨x1, x2⟩ := ex e e2
      obtain ⟨a0, a1⟩ := bnd (x := 100) (y := s) (a := 7) (by omega) s0 (by decide) s2
      obtain ⟨b0, b1⟩ := bnd a0 s0 a1 s2
      obtain ⟨d0, d1⟩ := bnd r0 r0 r2 r2
      refine ⟨mul_b _ _ (nab r0 r2) (nab r0 r2), mul_b _ _ (nab d0 d1) (nab r0 r2), mul_l, mul_b _ _ (nab a0 a1) (nab s0 s2), mul_b _ _ (nab b0 b1) (nab s0 s2), mul_l, ?_⟩
      rw [if_neg (by omega)]
      split
      · exact h
      · rename_i e3
        refine ⟨mul_l, ?_⟩
        rw [decide_eq_true (by omega)]; exact h
theorem len_law_classes (ds : List D) (R : DK) (h : c_law_classes ds R) : ds.length = 2 := by
  obtain ⟨_, _, rfl, _⟩ := h; rfl
theorem pure_law_classes (ds : List D) (R : DK) (h : c_law_classes ds R) : q_law_classes (endOf R) (startE N_law_classes ds) := by
  obtain ⟨s, b, rfl, s0, b0, b1, h⟩ := h
  rw [st_law_classes]
  unfold q_law_classes
  walk_at "pu"
  have z3 : 3 ≤ sizeLine := by rw [sizeLine_eq]; omega
  have z5 : 5 ≤ sizeLine := by rw [sizeLine_eq]; omega
  have z0 : 0 < sizeLine := by rw [sizeLine_eq]; omega
  have z1 : 1 < sizeLine := by rw [sizeLine_eq]; omega
  have z2 : 2 < sizeLine := by rw [sizeLine_eq]; omega
  refine ⟨z3, z3, z3, z3, compI_unroll ?_⟩
  walk_at "pul"
  have loop : ∀ (lim n p : Int), (∀ t, lcF t b = if 0 ≤ t then p else n) → ∀ PD : PEnds, PD.nx = (fun _ => R (.bl true)) → (5 ≤ sizeLine ∧
      forI (gN 4) b_law_classes_1 PD [.int (-s - 1), .int (-1), .int 0, .int 1, .int (s + 1)]
        [some (.sh (.int s)), some (.sh (.int b)), some (.sh (.lst [.lst [.int 12, .int 1, .int 1], .lst [.int 99, .int 0, .int 2], .lst [.int 10000, .int 0, .int 3]])), some (.sh (.lst [.int lim, .int n, .int p])), none, none, none]) := by
    intro lim n p hrow PD hPD
    refine ⟨z5, ?_⟩
    generalize D.lst [.lst [.int 12, .int 1, .int 1], .lst [.int 99, .int 0, .int 2], .lst [.int 10000, .int 0, .int 3]] = due
    refine forI_inv (fun ks ρ => (∀ k ∈ ks, ∃ t : Int, k = D.int t) ∧ ∃ x4 x5, ρ = [some (.sh (.int s)), some (.sh (.int b)), some (.sh due), some (.sh (.lst [.int lim, .int n, .int p])), x4, x5, none]) ⟨?_, none, none, rfl⟩ ?_ ?_
    · intro k hk
      simp only [List.mem_cons, List.not_mem_nil, or_false] at hk
      rcases hk with rfl | rfl | rfl | rfl | rfl <;> exact ⟨_, rfl⟩
    · rintro k ks ρ ⟨hks, x4, x5, rfl⟩
      obtain ⟨t, rfl⟩ := hks k (by simp)
      have hks' : ∀ k ∈ ks, ∃ t : Int, k = D.int t := fun k hk => hks k (by simp [hk])
      unfold b_law_classes_1
      walk_at "pu"
      refine ⟨t, b, rfl, ?_⟩
      refine ⟨lcF t b, rfl, ?_⟩
      walk_at "pu"
      rw [hrow t]
      by_cases ht : 0 ≤ t
      · rw [if_pos ht, if_pos ht]
        walk_at "pu"
        exact ⟨hks', _, _, rfl⟩
      · rw [if_neg ht, if_neg ht]
        walk_at "pu"
        exact ⟨hks', _, _, rfl⟩
    · rintro ρ _
      rw [hPD]
      exact h
  have r1 : b ≤ 12 → ∀ t, lcF t b = if 0 ≤ t then 1 else 1 := fun e t => by unfold lcF; split <;> split <;> omega
  have r2 : ¬ b ≤ 12 → b ≤ 99 → ∀ t, lcF t b = if 0 ≤ t then 2 else 0 := fun e e2 t => by unfold lcF; rw [if_neg e]; split <;> split <;> (try split) <;> omega
  have r3 : ¬ b ≤ 99 → ∀ t, lcF t b = if 0 ≤ t then 3 else 0 := fun e2 t => by unfold lcF; rw [if_neg (by omega)]; split <;> split <;> (try split) <;> omega
  rw [if_pos b1, if_pos b1, if_pos b1, if_pos b1]
  split
  · rename_i e
    rw [if_pos (by omega)]
    exact ⟨z0, z1, z2, loop _ _ _ (r1 e) _ rfl⟩
  · rename_i e
    split
    · rename_i e2
      exact ⟨z0, z1, loop _ _ _ (r2 e e2) _ rfl⟩
    · rename_i e2
      exact ⟨z0, loop _ _ _ (r3 e2) _ rfl⟩
theorem bad_up {s r : Int} (s0 : 0 ≤ s) (r0 : 0 ≤ r) : badF s r ≤ badF (s + 1) r := by
  unfold badF
  rw [if_neg (show ¬ s + 1 = 0 by omega)]
  by_cases hr : r = 0
  · rw [if_pos hr, if_pos hr]
    split <;> omega
  · rw [if_neg hr, if_neg hr]
    have hp := cube_pos (show 0 < r by omega)
    have h0 : 0 ≤ 100 * (s + 1) * (s + 1) * (s + 1) / (r * r * r) := Int.ediv_nonneg (Int.mul_nonneg (Int.mul_nonneg (Int.mul_nonneg (by omega) (by omega)) (by omega)) (by omega)) (by omega)
    have h1 : 100 * s * s * s / (r * r * r) ≤ 100 * (s + 1) * (s + 1) * (s + 1) / (r * r * r) := by
      refine Int.ediv_le_ediv hp ?_
      rw [hund, hund]
      exact Int.mul_le_mul_of_nonneg_left (cube_mono s0 (by omega)) (by omega)
    split <;> split <;> (try split) <;> omega
theorem bad_room {s r : Int} (s0 : 0 ≤ s) (r0 : 0 ≤ r) : badF s (r + 1) ≤ badF s r := by
  unfold badF
  by_cases hs : s = 0
  · rw [if_pos hs, if_pos hs]; omega
  · rw [if_neg hs, if_neg hs, if_neg (show ¬ r + 1 = 0 by omega)]
    by_cases hr : r = 0
    · rw [if_pos hr]; split <;> omega
    · rw [if_neg hr]
      have hp := cube_pos (show 0 < r by omega)
      have hx : 0 ≤ 100 * s * s * s := Int.mul_nonneg (Int.mul_nonneg (Int.mul_nonneg (by omega) (by omega)) (by omega)) (by omega)
      have h1 : 100 * s * s * s / ((r + 1) * (r + 1) * (r + 1)) ≤ 100 * s * s * s / (r * r * r) := by
        generalize 100 * s * s * s = x at hx
        have hm : r * r * r ≤ (r + 1) * (r + 1) * (r + 1) := cube_mono r0 (by omega)
        generalize r * r * r = y at hp hm
        generalize (r + 1) * (r + 1) * (r + 1) = z at hm
        have a1 := Int.ediv_mul_le x (show z ≠ 0 by omega)
        have a0 : 0 ≤ x / z := Int.ediv_nonneg hx (by omega)
        refine Int.le_ediv_of_mul_le hp ?_
        exact Int.le_trans (Int.mul_le_mul_of_nonneg_left hm a0) a1
      split <;> split <;> omega
theorem bad_scale {s r f : Int} (f0 : 0 < f) : badF (s * f) (r * f) = badF s r := by
  unfold badF
  have e1 : s * f = 0 ↔ s = 0 := by rw [Int.mul_eq_zero]; constructor <;> intro h <;> omega
  have e2 : r * f = 0 ↔ r = 0 := by rw [Int.mul_eq_zero]; constructor <;> intro h <;> omega
  have hp := cube_pos f0
  have c : ∀ x : Int, (x * f) * (x * f) * (x * f) = (f * f * f) * (x * x * x) := fun x => by
    simp only [Int.mul_assoc, Int.mul_comm, Int.mul_left_comm]
  have e3 : 100 * (s * f) * (s * f) * (s * f) / ((r * f) * (r * f) * (r * f)) = 100 * s * s * s / (r * r * r) := by
    rw [hund, hund, c, c, Int.mul_left_comm 100 (f * f * f) (s * s * s)]
    exact Int.mul_ediv_mul_of_pos _ _ hp
  rw [e3]
  simp only [e1, e2]
theorem len_law (ds : List D) (R : DK) (h : c_law ds R) : ds.length = 1 := by
  obtain ⟨_, rfl, _⟩ := h; rfl
theorem pure_law (ds : List D) (R : DK) (h : c_law ds R) : q_law (endOf R) (startE N_law ds) := by
  obtain ⟨ns, rfl, hn, h⟩ := h
  rw [st_law]
  unfold q_law
  walk_at "pu"
  refine ⟨ns, rfl, by omega, ?_⟩
  refine ⟨rfl, fun s r s0 s1 r0 r1 => ?_⟩
  walk_at "pu"
  have e6 : (10 : Int) ^ Int.toNat 6 = 1000000 := by decide
  have big : (10 : Int) ^ 42 = 1000000000000000000000000000000000000000000 := by decide
  have big2 : (10 : Int) ^ 60 = 1000000000000000000000000000000000000000000000000000000000000 := by decide
  rw [e6]
  refine ⟨pow_s, drawI (by omega) (log_lt (n := 20) (by omega) (by omega)) fun f f0 f1 => ?_⟩
  walk_at "pu"
  refine drawI (by omega) (log_lt (n := 14) (by omega) (by omega)) fun x x0 x1 => ?_
  have m1 : s * (1 + f) ≤ 10 ^ 42 * 1000000 := Int.mul_le_mul s1 (by omega) (by omega) (by omega)
  have m2 : r * (1 + f) ≤ 10 ^ 42 * 1000000 := Int.mul_le_mul r1 (by omega) (by omega) (by omega)
  have m3 : 0 ≤ s * (1 + f) := Int.mul_nonneg s0 (by omega)
  have m4 : 0 ≤ r * (1 + f) := Int.mul_nonneg r0 (by omega)
  have hs := bad_scale (s := s) (r := r) (f := 1 + f) (by omega)
  have hu := bad_up s0 r0
  have hr := bad_room s0 r0
  refine ⟨s, r, rfl, s0, by omega, r0, by omega, ?_⟩
  refine ⟨s + 1, r, rfl, by omega, by omega, r0, by omega, ?_⟩
  refine ⟨s, r + 1, rfl, by omega, by omega, by omega, by omega, ?_⟩
  walk_at "pu"
  refine ⟨mul_s, mul_s, ?_⟩
  refine ⟨s * (1 + f), r * (1 + f), rfl, m3, by omega, m4, by omega, ?_⟩
  refine ⟨s, r, rfl, s0, by omega, r0, by omega, ?_⟩
  walk_at "pu"
  refine ⟨s + 1, r, rfl, by omega, by omega, r0, by omega, ?_⟩
  walk_at "pu"
  refine ⟨s, r + 1, rfl, by omega, by omega, by omega, by omega, ?_⟩
  walk_at "pu"
  refine ⟨mul_s, mul_s, ?_⟩
  refine ⟨s * (1 + f), r * (1 + f), rfl, m3, by omega, m4, by omega, ?_⟩
  walk_at "pu"
  rw [if_pos hr, if_neg (by omega), if_neg (by omega)]
  have z : 14 ≤ sizeLine := by rw [sizeLine_eq]; omega
  refine ⟨z, ?_⟩
  obtain ⟨g0, g1⟩ := badF_le s0 r0
  refine forI_inv (fun ks ρ => (∀ k ∈ ks, ∃ t : Int, k = D.int t ∧ 0 ≤ t ∧ t ≤ 10000) ∧ ∃ x0 x1 x2 x4 x5 x6 x7 x8 x9 x10 x11, ρ = [x0, x1, x2, some (.sh (.int s)), x4, x5, x6, x7, x8, x9, x10, x11]) ⟨?_, _, _, _, _, _, _, _, _, _, _, _, rfl⟩ ?_ ?_
  · intro k hk
    simp only [List.mem_cons, List.not_mem_nil, or_false] at hk
    rcases hk with rfl | rfl | rfl | rfl | rfl | rfl | rfl | rfl | rfl | rfl | rfl | rfl | rfl | rfl <;> exact ⟨_, rfl, by omega, by omega⟩
  · rintro k ks ρ ⟨hks, y0, y1, y2, y4, y5, y6, y7, y8, y9, y10, y11, rfl⟩
    obtain ⟨t, rfl, t0, t1⟩ := hks k (by simp)
    unfold b_law_1
    walk_at "pu"
    refine ⟨s, t, rfl, s0, t0, t1, ?_⟩
    walk_at "pu"
    exact ⟨fun k hk => hks k (by simp [hk]), _, _, _, _, _, _, _, _, _, _, _, rfl⟩
  · rintro ρ _
    exact h
end Gly
namespace Gly
open PySem PySem.Spec L2 Pu
def topS (i : Nat) : Stmt := PySem.Challenge.pw_galleywork_k32_badness_and_class.main.body.getD i (.Pass ⟨0, 0, 0, 0⟩)
abbrev s_badness : Stmt := topS 2
abbrev s_line_class : Stmt := topS 3
abbrev s_law_pool : Stmt := topS 5
abbrev s_law_draw : Stmt := topS 6
abbrev s_law_size : Stmt := topS 7
abbrev s_law_least_slack : Stmt := topS 8
abbrev s_law_pair : Stmt := topS 9
abbrev s_law_int : Stmt := topS 10
abbrev s_law_exact : Stmt := topS 11
abbrev s_law_classes : Stmt := topS 12
abbrev s_law : Stmt := topS 13
section
variable {P : Program} {w : World} {K : PySem.W.Frag} {mg : Str → Option Value} {base : Heap} {f : Addr} {fd : FuncData}
theorem sc_badness : FnScope N_badness ["slack", "room"] (defScope s_badness) := ⟨rfl, rfl, rfl, by decide +kernel, rfl, by decide +kernel, by decide +kernel⟩
theorem ok_badness (F : Fun K "badness" "badness" s_badness f fd) (z_min : mg "min" = none) {t_MOST_BADNESS : Tok} (m_MOST_BADNESS : mg "MOST_BADNESS" = some (.int 10000 t_MOST_BADNESS)) : FnOk P w K mg base CX0 1 f fd ["slack", "room"] (spOf K c_badness) := by
  have nd := (sc_badness).nd
  refine fn_ok F sc_badness len_badness (fun cdv A outer s H E hr => ⟨q_badness, ?_, pure_badness⟩)
  exact (s_cons (s_if (t_cmp (o_eq hr.units) (r_var 0) e_int.r) (s_one (s_ret e_int)) s_nil)
  (s_cons (s_if (t_cmp (o_eq hr.units) (r_var 1) e_int.r) (s_one (s_ret (e_globI m_MOST_BADNESS))) s_nil)
  (s_one (s_ret (e_callB (c_min2 rfl) (by rfl) z_min PyProof.Rows.boot_min (ar_cons (e_globI m_MOST_BADNESS).r (ar_cons (e_bin o_fdiv (e_bin o_mul (e_bin o_mul (e_bin o_mul e_int.r (r_var 0)).r (r_var 0)).r (r_var 0)).r (e_bin o_mul (e_bin o_mul (r_var 1) (r_var 1)).r (r_var 1)).r).r ar_nil)))))))
theorem sc_line_class : FnScope N_line_class ["slack", "bad"] (defScope s_line_class) := ⟨rfl, rfl, rfl, by decide +kernel, rfl, by decide +kernel, by decide +kernel⟩
theorem ok_line_class (F : Fun K "line_class" "line_class" s_line_class f fd)  : FnOk P w K mg base CX0 1 f fd ["slack", "bad"] (spOf K c_line_class) := by
  have nd := (sc_line_class).nd
  refine fn_ok F sc_line_class len_line_class (fun cdv A outer s H E hr => ⟨q_line_class, ?_, pure_line_class⟩)
  exact (s_cons (s_if (t_cmp o_le (r_var 1) e_int.r) (s_one (s_ret e_int)) s_nil)
  (s_cons (s_if (t_cmp o_lt (r_var 0) e_int.r) (s_one (s_ret e_int)) s_nil)
  (s_cons (s_if (t_cmp o_lt (r_var 1) e_int.r) (s_one (s_ret e_int)) s_nil)
  (s_one (s_ret e_int)))))
theorem sc_law_pool : FnScope ["script"] ["script"] (defScope s_law_pool) := ⟨rfl, rfl, rfl, by decide +kernel, rfl, by decide +kernel, by decide +kernel⟩
theorem ok_law_pool (F : Fun K "_law_pool" "_law_pool" s_law_pool f fd) (z_list : mg "list" = none) : FnOk P w K mg base CX0 1 f fd ["script"] (spOf K c_law_pool) :=
  pool_ok F sc_law_pool fun cdv A outer s H E hr => (pss_one (ps_ret (pe_lst (pa_cons (pe_callTy call_list_of (by rfl) z_list PyProof.Rows.boot_list (pa_cons (pv 0) pa_nil)) (pa_cons pe_int (pa_cons pe_int (pa_cons pe_int (pa_cons pe_int pa_nil))))))))
theorem sc_law_draw : FnScope N_draw ["pool", "many"] (defScope s_law_draw) := ⟨rfl, rfl, rfl, by decide +kernel, rfl, by decide +kernel, by decide +kernel⟩
theorem ok_law_draw (F : Fun K "_law_draw" "_law_draw" s_law_draw f fd) (z_len : mg "len" = none) (z_abs : mg "abs" = none) (z_int : mg "int" = none) : FnOk P w K mg base CX0 1 f fd ["pool", "many"] (spOf K c_law_draw) := by
  have nd := (sc_law_draw).nd
  refine draw_imp (fn_okIo F sc_law_draw len_draw (fun cdv A outer s H E hr => ⟨q_draw, ?_, pure_draw⟩))
  exact (s_cons (s_setix (ps_asg (e_bin o_add (e_ix (r_var 0) e_int.r).r e_int.r) (pg_sub (pv 0) e_int.r set_list)))
  (s_cons (s_if (t_bool (w_and (t_cmp (o_eq hr.units) (e_ix (r_var 0) e_int.r).r e_int.r) (w_and1 (t_cmp o_lt (e_ix (r_var 0) e_int.r).r (e_callB c_len (by rfl) z_len PySem.boot_len (ar_cons (e_ix (r_var 0) e_int.r).r ar_nil)).r)))) (s_cons (s_set (i := 2) nd (e_ix (e_ix (r_var 0) e_int.r).r (e_ix (r_var 0) e_int.r).r))
  (s_cons (s_setix (ps_asg (e_bin o_add (e_ix (r_var 0) e_int.r).r e_int.r) (pg_sub (pv 0) e_int.r set_list)))
  (s_one (s_if (t_cmp o_ge (e_callB c_abs (by rfl) z_abs PyProof.Rows.boot_abs (ar_cons (r_var 2) ar_nil)).r (e_bin o_pow e_int.r e_int.r).r) (s_one (s_setix (ps_asg (e_callB c_abs (by rfl) z_abs PyProof.Rows.boot_abs (ar_cons (r_var 2) ar_nil)) (pg_sub (pv 0) e_int.r set_list)))) (s_one (s_setix (ps_asg (e_bin o_mod (e_callTy c_int (by rfl) z_int PyProof.Rows.boot_int (ar_cons (e_bin o_add (e_bin o_add (e_bin o_mul (e_ix (r_var 0) e_int.r).r e_int.r).r (e_bin o_mul (r_var 2) e_int.r).r).r e_int.r).r ar_nil)).r e_int.r) (pg_sub (pv 0) e_int.r set_list)))))))) s_nil)
  (s_cons (s_if (t_cmp o_gt (e_ix (r_var 0) e_int.r).r e_int.r) (s_cons (s_set (i := 3) nd (e_bin o_mod (e_callTy c_int (by rfl) z_int PyProof.Rows.boot_int (ar_cons (e_ix (r_var 0) e_int.r).r ar_nil)).r (r_var 1)))
  (s_cons (s_setix (ps_asg (e_bin o_fdiv (e_ix (r_var 0) e_int.r).r (r_var 1)) (pg_sub (pv 0) e_int.r set_list)))
  (s_one (s_ret (e_var 3))))) s_nil)
  (s_cons (s_set (i := 4) nd (e_bin o_mod (e_callTy c_int (by rfl) z_int PyProof.Rows.boot_int (ar_cons (e_bin o_add (e_ix (r_var 0) e_int.r).r (e_bin o_mul (e_ix (r_var 0) e_int.r).r e_int.r).r).r ar_nil)).r e_int.r))
  (s_cons (s_set (i := 4) nd (e_bin o_mod (e_callTy c_int (by rfl) z_int PyProof.Rows.boot_int (ar_cons (e_bin o_add (e_bin o_add (e_bin o_mul (r_var 4) (r_var 4)).r (e_bin o_mul (e_ix (r_var 0) e_int.r).r e_int.r).r).r e_int.r).r ar_nil)).r e_int.r))
  (s_cons (s_set (i := 4) nd (e_bin o_mod (e_callTy c_int (by rfl) z_int PyProof.Rows.boot_int (ar_cons (e_bin o_add (e_bin o_add (e_bin o_mul (r_var 4) (r_var 4)).r (e_ix (r_var 0) e_int.r).r).r e_int.r).r ar_nil)).r e_int.r))
  (s_one (s_ret (e_bin o_mod (e_callTy c_int (by rfl) z_int PyProof.Rows.boot_int (ar_cons (e_bin o_fdiv (r_var 4) e_int.r).r ar_nil)).r (r_var 1))))))))))
theorem sc_law_size : FnScope N_law_size ["pool"] (defScope s_law_size) := ⟨rfl, rfl, rfl, by decide +kernel, rfl, by decide +kernel, by decide +kernel⟩
theorem ok_law_size (F : Fun K "_law_size" "_law_size" s_law_size f fd) {f_law_draw : Addr} {fd_law_draw : FuncData} (G_law_draw : FnOk P w K mg base CX0 1 f_law_draw fd_law_draw ["pool", "many"] (spOf K c_law_draw)) (m_law_draw : mg "_law_draw" = some (.ref f_law_draw)) (k_law_draw : PySem.W.keepIn K (.ref f_law_draw) = true) (b_law_draw : Binds K fd_law_draw ["pool", "many"] []) : FnOk P w K mg base CX0 2 f fd ["pool"] (spOf K c_law_size) := by
  have nd := (sc_law_size).nd
  refine fn_ok F sc_law_size len_law_size (fun cdv A outer s H E hr => ⟨q_law_size, ?_, pure_law_size⟩)
  exact (s_cons (s_set (i := 1) nd (e_call G_law_draw (hr.mono (by decide)) m_law_draw k_law_draw b_law_draw (a_cons (e_var 0) (a_cons e_int a_nil))))
  (s_cons (s_if (t_cmp (o_eq hr.units) (r_var 1) e_int.r) (s_one (s_ret (e_bin o_add (e_bin o_mul (e_call G_law_draw (hr.mono (by decide)) m_law_draw k_law_draw b_law_draw (a_cons (e_var 0) (a_cons (e_bin o_pow e_int.r e_int.r) a_nil))).r (e_bin o_pow e_int.r e_int.r).r).r (e_call G_law_draw (hr.mono (by decide)) m_law_draw k_law_draw b_law_draw (a_cons (e_var 0) (a_cons (e_bin o_pow e_int.r e_int.r) a_nil))).r))) s_nil)
  (s_one (s_ret (e_call G_law_draw (hr.mono (by decide)) m_law_draw k_law_draw b_law_draw (a_cons (e_var 0) (a_cons (e_ix (e_lst (a_cons e_int (a_cons e_int (a_cons e_int (a_cons e_int (a_cons (e_bin o_pow e_int.r e_int.r) a_nil)))))).r (r_var 1)) a_nil)))))))
theorem sc_law_least_slack : FnScope N_law_least_slack ["room", "bad"] (defScope s_law_least_slack) := ⟨rfl, rfl, rfl, by decide +kernel, rfl, by decide +kernel, by decide +kernel⟩
theorem ok_law_least_slack (F : Fun K "_law_least_slack" "_law_least_slack" s_law_least_slack f fd) (z_range : mg "range" = none) : FnOk P w K mg base CX0 1 f fd ["room", "bad"] (spOf K c_law_least_slack) := by
  have nd := (sc_law_least_slack).nd
  refine fn_ok F sc_law_least_slack len_law_least_slack (fun cdv A outer s H E hr => ⟨q_law_least_slack, ?_, pure_law_least_slack⟩)
  exact (s_cons (s_set (i := 2) nd e_int)
  (s_cons (s_set (i := 3) nd (e_bin o_mul e_int.r (r_var 0)))
  (s_cons (s_set (i := 4) nd (e_bin o_mul (e_bin o_mul (e_bin o_mul (r_var 1) (r_var 0)).r (r_var 0)).r (r_var 0)))
  (s_cons (s_for PassesOwn.never rfl (i_range1 e_int.r (by rfl) z_range) (g_name (i := 5) nd) (s_one (s_if (t_cmp o_gt (e_bin o_sub (r_var 3) (r_var 2)).r e_int.r) (s_cons (s_set (i := 6) nd (e_bin o_fdiv (e_bin o_add (r_var 2) (r_var 3)).r e_int.r))
  (s_one (s_if (t_cmp o_lt (e_bin o_mul (e_bin o_mul (e_bin o_mul e_int.r (r_var 6)).r (r_var 6)).r (r_var 6)).r (r_var 4)) (s_one (s_set (i := 2) nd (e_var 6))) (s_one (s_set (i := 3) nd (e_var 6)))))) s_nil)))
  (s_one (s_ret (e_var 3)))))))
theorem sc_law_pair : FnScope N_law_pair ["pool"] (defScope s_law_pair) := ⟨rfl, rfl, rfl, by decide +kernel, rfl, by decide +kernel, by decide +kernel⟩
theorem ok_law_pair (F : Fun K "_law_pair" "_law_pair" s_law_pair f fd) {f_law_size : Addr} {fd_law_size : FuncData} (G_law_size : FnOk P w K mg base CX0 2 f_law_size fd_law_size ["pool"] (spOf K c_law_size)) (m_law_size : mg "_law_size" = some (.ref f_law_size)) (k_law_size : PySem.W.keepIn K (.ref f_law_size) = true) (b_law_size : Binds K fd_law_size ["pool"] []) {f_law_draw : Addr} {fd_law_draw : FuncData} (G_law_draw : FnOk P w K mg base CX0 1 f_law_draw fd_law_draw ["pool", "many"] (spOf K c_law_draw)) (m_law_draw : mg "_law_draw" = some (.ref f_law_draw)) (k_law_draw : PySem.W.keepIn K (.ref f_law_draw) = true) (b_law_draw : Binds K fd_law_draw ["pool", "many"] []) {f_law_least_slack : Addr} {fd_law_least_slack : FuncData} (G_law_least_slack : FnOk P w K mg base CX0 1 f_law_least_slack fd_law_least_slack ["room", "bad"] (spOf K c_law_least_slack)) (m_law_least_slack : mg "_law_least_slack" = some (.ref f_law_least_slack)) (k_law_least_slack : PySem.W.keepIn K (.ref f_law_least_slack) = true) (b_law_least_slack : Binds K fd_law_least_slack ["room", "bad"] []) (z_max : mg "max" = none) : FnOk P w K mg base CX0 3 f fd ["pool"] (spOf K c_law_pair) := by
  have nd := (sc_law_pair).nd
  refine fn_ok F sc_law_pair len_law_pair (fun cdv A outer s H E hr => ⟨q_law_pair, ?_, pure_law_pair⟩)
  exact (s_cons (s_set (i := 1) nd (e_call G_law_size (hr.mono (by decide)) m_law_size k_law_size b_law_size (a_cons (e_var 0) a_nil)))
  (s_cons (s_set (i := 2) nd (e_call G_law_draw (hr.mono (by decide)) m_law_draw k_law_draw b_law_draw (a_cons (e_var 0) (a_cons e_int a_nil))))
  (s_cons (s_if (t_cmp (o_eq hr.units) (r_var 2) e_int.r) (s_one (s_ret (e_lst (a_cons (e_call G_law_size (hr.mono (by decide)) m_law_size k_law_size b_law_size (a_cons (e_var 0) a_nil)) (a_cons (e_var 1) a_nil))))) s_nil)
  (s_cons (s_if (t_cmp (o_eq hr.units) (r_var 2) e_int.r) (s_one (s_ret (e_lst (a_cons (e_callB (c_max2 rfl) (by rfl) z_max PyProof.Rows.boot_max (ar_cons e_int.r (ar_cons (e_bin o_add (e_bin o_sub (r_var 1) e_int.r).r (e_call G_law_draw (hr.mono (by decide)) m_law_draw k_law_draw b_law_draw (a_cons (e_var 0) (a_cons e_int a_nil))).r).r ar_nil))) (a_cons (e_var 1) a_nil))))) s_nil)
  (s_cons (s_set (i := 3) nd (e_ix (e_lst (a_cons e_int (a_cons e_int (a_cons e_int (a_cons (e_bin o_add e_int.r (e_call G_law_draw (hr.mono (by decide)) m_law_draw k_law_draw b_law_draw (a_cons (e_var 0) (a_cons e_int a_nil))).r) a_nil))))).r (e_call G_law_draw (hr.mono (by decide)) m_law_draw k_law_draw b_law_draw (a_cons (e_var 0) (a_cons e_int a_nil))).r))
  (s_one (s_ret (e_lst (a_cons (e_callB (c_max2 rfl) (by rfl) z_max PyProof.Rows.boot_max (ar_cons e_int.r (ar_cons (e_bin o_sub (e_call G_law_least_slack (hr.mono (by decide)) m_law_least_slack k_law_least_slack b_law_least_slack (a_cons (e_var 1) (a_cons (e_var 3) a_nil))).r (e_call G_law_draw (hr.mono (by decide)) m_law_draw k_law_draw b_law_draw (a_cons (e_var 0) (a_cons e_int a_nil))).r).r ar_nil))) (a_cons (e_var 1) a_nil))))))))))
theorem sc_law_int : FnScope N_law_int ["got"] (defScope s_law_int) := ⟨rfl, rfl, rfl, by decide +kernel, rfl, by decide +kernel, by decide +kernel⟩
theorem ok_law_int (F : Fun K "_law_int" "_law_int" s_law_int f fd) (z_isinstance : mg "isinstance" = none) (z_int : mg "int" = none) (z_bool : mg "bool" = none) : FnOk P w K mg base CX0 1 f fd ["got"] (spOf K c_law_int) := by
  have nd := (sc_law_int).nd
  refine fn_ok F sc_law_int len_law_int (fun cdv A outer s H E hr => ⟨q_law_int, ?_, pure_law_int⟩)
  exact (s_one (s_ret (e_and (e_isi (n := "int") (r_var 0) (by rfl) z_isinstance (by rfl) z_int PyProof.Rows.boot_int (by decide +kernel)) (e_one (e_not (e_isi (n := "bool") (r_var 0) (by rfl) z_isinstance (by rfl) z_bool PyProof.Rows.boot_bool (by decide +kernel)))))))
theorem sc_law_exact : FnScope N_law_exact ["got", "slack", "room"] (defScope s_law_exact) := ⟨rfl, rfl, rfl, by decide +kernel, rfl, by decide +kernel, by decide +kernel⟩
theorem ok_law_exact (F : Fun K "_law_exact" "_law_exact" s_law_exact f fd) {f_law_int : Addr} {fd_law_int : FuncData} (G_law_int : FnOk P w K mg base CX0 1 f_law_int fd_law_int ["got"] (spOf K c_law_int)) (m_law_int : mg "_law_int" = some (.ref f_law_int)) (k_law_int : PySem.W.keepIn K (.ref f_law_int) = true) (b_law_int : Binds K fd_law_int ["got"] []) : FnOk P w K mg base CX0 2 f fd ["got", "slack", "room"] (spOf K c_law_exact) := by
  have nd := (sc_law_exact).nd
  refine fn_ok F sc_law_exact len_law_exact (fun cdv A outer s H E hr => ⟨q_law_exact, ?_, pure_law_exact⟩)
  exact (s_cons (s_if (t_bool (w_or (t_not (t_tru (e_call G_law_int (hr.mono (by decide)) m_law_int k_law_int b_law_int (a_cons (e_var 0) a_nil)).r)) (w_or1 (t_not (t_chain o_le o_le e_int.r (r_var 0) e_int.r))))) (s_one (s_ret e_bl)) s_nil)
  (s_cons (s_if (t_cmp (o_eq hr.units) (r_var 1) e_int.r) (s_one (s_ret (e_cmp (o_eq hr.units) (r_var 0) e_int.r))) s_nil)
  (s_cons (s_if (t_cmp (o_eq hr.units) (r_var 2) e_int.r) (s_one (s_ret (e_cmp (o_eq hr.units) (r_var 0) e_int.r))) s_nil)
  (s_cons (s_set (i := 3) nd (e_bin o_mul (e_bin o_mul (r_var 2) (r_var 2)).r (r_var 2)))
  (s_cons (s_set (i := 4) nd (e_bin o_mul (e_bin o_mul (e_bin o_mul e_int.r (r_var 1)).r (r_var 1)).r (r_var 1)))
  (s_cons (s_if (t_cmp o_gt (e_bin o_mul (r_var 0) (r_var 3)).r (r_var 4)) (s_one (s_ret e_bl)) s_nil)
  (s_one (s_ret (e_or (e_cmp (o_eq hr.units) (r_var 0) e_int.r) (e_one (e_cmp o_gt (e_bin o_mul (e_bin o_add (r_var 0) e_int.r).r (r_var 3)).r (r_var 4))))))))))))
theorem sc_law_classes : FnScope N_law_classes ["slack", "bad"] (defScope s_law_classes) := ⟨rfl, rfl, rfl, by decide +kernel, rfl, by decide +kernel, by decide +kernel⟩
theorem ok_law_classes (F : Fun K "_law_classes" "_law_classes" s_law_classes f fd) {f_line_class : Addr} {fd_line_class : FuncData} (G_line_class : FnOk P w K mg base CX0 1 f_line_class fd_line_class ["slack", "bad"] (spOf K c_line_class)) (m_line_class : mg "line_class" = some (.ref f_line_class)) (k_line_class : PySem.W.keepIn K (.ref f_line_class) = true) (b_line_class : Binds K fd_line_class ["slack", "bad"] []) {f_law_int : Addr} {fd_law_int : FuncData} (G_law_int : FnOk P w K mg base CX0 1 f_law_int fd_law_int ["got"] (spOf K c_law_int)) (m_law_int : mg "_law_int" = some (.ref f_law_int)) (k_law_int : PySem.W.keepIn K (.ref f_law_int) = true) (b_law_int : Binds K fd_law_int ["got"] []) (z_int : mg "int" = none) : FnOk P w K mg base CX0 2 f fd ["slack", "bad"] (spOf K c_law_classes) := by
  have nd := (sc_law_classes).nd
  refine fn_ok F sc_law_classes len_law_classes (fun cdv A outer s H E hr => ⟨q_law_classes, ?_, pure_law_classes⟩)
  exact (s_cons (s_set (i := 2) nd (e_lst (a_cons (e_lst (a_cons e_int (a_cons e_int (a_cons e_int a_nil)))) (a_cons (e_lst (a_cons e_int (a_cons e_int (a_cons e_int a_nil)))) (a_cons (e_lst (a_cons e_int (a_cons e_int (a_cons e_int a_nil)))) a_nil)))))
  (s_cons (s_set (i := 3) nd (e_ix (f_comp (own := [("one", 6)]) rfl nd (ir_seq (r_var 2)) (blkOk_by (N := N_law_classes) (sc := defScope s_law_classes) (by decide +kernel)) (fun _ _ _ _ _ => (g_name (i := 6) nd)) (fun _ _ _ _ _ => (ts_one (t_cmp o_le (r_var 1) (e_ix (r_var 6) e_int.r).r))) (fun _ _ _ _ _ => (e_var 6))).e.r e_int.r))
  (s_cons (s_for PassesOwn.never rfl (i_seq (e_lst (a_cons (e_bin o_sub (e_un u_neg (r_var 0)).r e_int.r) (a_cons (e_un u_neg e_int.r) (a_cons e_int (a_cons e_int (a_cons (e_bin o_add (r_var 0) e_int.r) a_nil))))))) (g_name (i := 4) nd) (s_cons (s_set (i := 5) nd (e_call G_line_class (hr.mono (by decide)) m_line_class k_line_class b_line_class (a_cons (e_var 4) (a_cons (e_var 1) a_nil))))
  (s_one (s_if (t_bool (w_or (t_not (t_tru (e_call G_law_int (hr.mono (by decide)) m_law_int k_law_int b_law_int (a_cons (e_var 5) a_nil)).r)) (w_or1 (t_cmp (o_ne hr.units) (r_var 5) (e_ix (r_var 3) (e_bin o_add e_int.r (e_callTy c_int (by rfl) z_int PyProof.Rows.boot_int (ar_cons (e_cmp o_ge (r_var 4) e_int.r).r ar_nil)).r).r).r)))) (s_one (s_ret e_bl)) s_nil))))
  (s_one (s_ret e_bl)))))
theorem sc_law : FnScope N_law ["script"] (defScope s_law) := ⟨rfl, rfl, rfl, by decide +kernel, rfl, by decide +kernel, by decide +kernel⟩
theorem ok_law (F : Fun K "law" "law" s_law f fd) {f_law_pool : Addr} {fd_law_pool : FuncData} (G_law_pool : FnOk P w K mg base CX0 1 f_law_pool fd_law_pool ["script"] (spOf K c_law_pool)) (m_law_pool : mg "_law_pool" = some (.ref f_law_pool)) (k_law_pool : PySem.W.keepIn K (.ref f_law_pool) = true) (b_law_pool : Binds K fd_law_pool ["script"] []) {f_law_pair : Addr} {fd_law_pair : FuncData} (G_law_pair : FnOk P w K mg base CX0 3 f_law_pair fd_law_pair ["pool"] (spOf K c_law_pair)) (m_law_pair : mg "_law_pair" = some (.ref f_law_pair)) (k_law_pair : PySem.W.keepIn K (.ref f_law_pair) = true) (b_law_pair : Binds K fd_law_pair ["pool"] []) {f_law_draw : Addr} {fd_law_draw : FuncData} (G_law_draw : FnOk P w K mg base CX0 1 f_law_draw fd_law_draw ["pool", "many"] (spOf K c_law_draw)) (m_law_draw : mg "_law_draw" = some (.ref f_law_draw)) (k_law_draw : PySem.W.keepIn K (.ref f_law_draw) = true) (b_law_draw : Binds K fd_law_draw ["pool", "many"] []) {f_badness : Addr} {fd_badness : FuncData} (G_badness : FnOk P w K mg base CX0 1 f_badness fd_badness ["slack", "room"] (spOf K c_badness)) (m_badness : mg "badness" = some (.ref f_badness)) (k_badness : PySem.W.keepIn K (.ref f_badness) = true) (b_badness : Binds K fd_badness ["slack", "room"] []) {f_law_exact : Addr} {fd_law_exact : FuncData} (G_law_exact : FnOk P w K mg base CX0 2 f_law_exact fd_law_exact ["got", "slack", "room"] (spOf K c_law_exact)) (m_law_exact : mg "_law_exact" = some (.ref f_law_exact)) (k_law_exact : PySem.W.keepIn K (.ref f_law_exact) = true) (b_law_exact : Binds K fd_law_exact ["got", "slack", "room"] []) {f_law_classes : Addr} {fd_law_classes : FuncData} (G_law_classes : FnOk P w K mg base CX0 2 f_law_classes fd_law_classes ["slack", "bad"] (spOf K c_law_classes)) (m_law_classes : mg "_law_classes" = some (.ref f_law_classes)) (k_law_classes : PySem.W.keepIn K (.ref f_law_classes) = true) (b_law_classes : Binds K fd_law_classes ["slack", "bad"] []) : FnOk P w K mg base CX0 4 f fd ["script"] (spOf K c_law) := by
  have nd := (sc_law).nd
  refine fn_ok F sc_law len_law (fun cdv A outer s H E hr => ⟨q_law, ?_, pure_law⟩)
  exact (s_cons (s_set (i := 1) nd (e_call G_law_pool (hr.mono (by decide)) m_law_pool k_law_pool b_law_pool (a_cons (e_var 0) a_nil)))
  (s_cons (s_set (i := 2) nd (e_call G_law_pair (hr.mono (by decide)) m_law_pair k_law_pair b_law_pair (a_cons (e_var 1) a_nil)))
  (s_cons (s_set (i := 3) nd (e_ix (r_var 2) e_int.r))
  (s_cons (s_set (i := 4) nd (e_ix (r_var 2) e_int.r))
  (s_cons (s_set (i := 5) nd (e_bin o_add e_int.r (e_call G_law_draw (hr.mono (by decide)) m_law_draw k_law_draw b_law_draw (a_cons (e_var 1) (a_cons (e_bin o_pow e_int.r e_int.r) a_nil))).r))
  (s_cons (s_set (i := 6) nd (e_call G_law_draw (hr.mono (by decide)) m_law_draw k_law_draw b_law_draw (a_cons (e_var 1) (a_cons e_int a_nil))))
  (s_cons (s_set (i := 7) nd (e_call G_badness (hr.mono (by decide)) m_badness k_badness b_badness (a_cons (e_var 3) (a_cons (e_var 4) a_nil))))
  (s_cons (s_set (i := 8) nd (e_call G_badness (hr.mono (by decide)) m_badness k_badness b_badness (a_cons (e_bin o_add (r_var 3) e_int.r) (a_cons (e_var 4) a_nil))))
  (s_cons (s_set (i := 9) nd (e_call G_badness (hr.mono (by decide)) m_badness k_badness b_badness (a_cons (e_var 3) (a_cons (e_bin o_add (r_var 4) e_int.r) a_nil))))
  (s_cons (s_set (i := 10) nd (e_call G_badness (hr.mono (by decide)) m_badness k_badness b_badness (a_cons (e_bin o_mul (r_var 3) (r_var 5)) (a_cons (e_bin o_mul (r_var 4) (r_var 5)) a_nil))))
  (s_cons (s_if (t_bool (w_or (t_not (t_tru (e_call G_law_exact (hr.mono (by decide)) m_law_exact k_law_exact b_law_exact (a_cons (e_var 7) (a_cons (e_var 3) (a_cons (e_var 4) a_nil)))).r)) (w_or1 (t_not (t_tru (e_call G_law_exact (hr.mono (by decide)) m_law_exact k_law_exact b_law_exact (a_cons (e_var 8) (a_cons (e_bin o_add (r_var 3) e_int.r) (a_cons (e_var 4) a_nil)))).r))))) (s_one (s_ret e_bl)) s_nil)
  (s_cons (s_if (t_bool (w_or (t_not (t_tru (e_call G_law_exact (hr.mono (by decide)) m_law_exact k_law_exact b_law_exact (a_cons (e_var 9) (a_cons (e_var 3) (a_cons (e_bin o_add (r_var 4) e_int.r) a_nil)))).r)) (w_or1 (t_not (t_tru (e_call G_law_exact (hr.mono (by decide)) m_law_exact k_law_exact b_law_exact (a_cons (e_var 10) (a_cons (e_bin o_mul (r_var 3) (r_var 5)) (a_cons (e_bin o_mul (r_var 4) (r_var 5)) a_nil)))).r))))) (s_one (s_ret e_bl)) s_nil)
  (s_cons (s_if (t_bool (w_or (t_not (t_chain o_le o_le (r_var 9) (r_var 7) (r_var 8))) (w_or1 (t_cmp (o_ne hr.units) (r_var 10) (r_var 7))))) (s_one (s_ret e_bl)) s_nil)
  (s_cons (s_for PassesOwn.never rfl (i_seq (e_lst (a_cons e_int (a_cons e_int (a_cons e_int (a_cons e_int (a_cons e_int (a_cons e_int (a_cons e_int (a_cons e_int (a_cons e_int (a_cons e_int (a_cons e_int (a_cons e_int (a_cons (e_var 6) (a_cons (e_var 7) a_nil)))))))))))))))) (g_name (i := 11) nd) (s_one (s_if (t_not (t_tru (e_call G_law_classes (hr.mono (by decide)) m_law_classes k_law_classes b_law_classes (a_cons (e_var 3) (a_cons (e_var 11) a_nil))).r)) (s_one (s_ret e_bl)) s_nil)))
  (s_one (s_ret e_bl))))))))))))))))
end
end Gly
namespace Gly
open PySem PySem.Spec L2 Pu
theorem all_mk {l : PySem.W.OpenLaw} {w : World} {K : PySem.W.Frag} {h : Heap} {mg : Str → Option Value} {fa : Addr} (X : K.In h) (G : h.Ns mainGlobals mg) (hfa : mg "law" = some (.ref fa))
    {f0 : Addr} {od0 an0 : Option Addr} {sl0 : Array (Option Value)} {oc0 kV0 dc0 pm0 cd0 ct0 : Value}
    (a0 : PySem.W.nsIn K mainGlobals "badness" = some (some (.ref f0))) (l0 : K.lookup f0 = some ⟨oc0, od0, .func (PySem.W.fnOf "badness" "badness" (defArgs s_badness) (defBody s_badness) (defScope s_badness) .none kV0 dc0 pm0 an0 cd0 ct0), sl0⟩) (c0 : PySem.W.codeIn K cd0 "badness" = true) (k0 : PySem.W.keepIn K (.ref f0) = true)
    {f1 : Addr} {od1 an1 : Option Addr} {sl1 : Array (Option Value)} {oc1 kV1 dc1 pm1 cd1 ct1 : Value}
    (a1 : PySem.W.nsIn K mainGlobals "line_class" = some (some (.ref f1))) (l1 : K.lookup f1 = some ⟨oc1, od1, .func (PySem.W.fnOf "line_class" "line_class" (defArgs s_line_class) (defBody s_line_class) (defScope s_line_class) .none kV1 dc1 pm1 an1 cd1 ct1), sl1⟩) (c1 : PySem.W.codeIn K cd1 "line_class" = true) (k1 : PySem.W.keepIn K (.ref f1) = true)
    {f2 : Addr} {od2 an2 : Option Addr} {sl2 : Array (Option Value)} {oc2 kV2 dc2 pm2 cd2 ct2 : Value}
    (a2 : PySem.W.nsIn K mainGlobals "_law_pool" = some (some (.ref f2))) (l2 : K.lookup f2 = some ⟨oc2, od2, .func (PySem.W.fnOf "_law_pool" "_law_pool" (defArgs s_law_pool) (defBody s_law_pool) (defScope s_law_pool) .none kV2 dc2 pm2 an2 cd2 ct2), sl2⟩) (c2 : PySem.W.codeIn K cd2 "_law_pool" = true) (k2 : PySem.W.keepIn K (.ref f2) = true)
    {f3 : Addr} {od3 an3 : Option Addr} {sl3 : Array (Option Value)} {oc3 kV3 dc3 pm3 cd3 ct3 : Value}
    (a3 : PySem.W.nsIn K mainGlobals "_law_draw" = some (some (.ref f3))) (l3 : K.lookup f3 = some ⟨oc3, od3, .func (PySem.W.fnOf "_law_draw" "_law_draw" (defArgs s_law_draw) (defBody s_law_draw) (defScope s_law_draw) .none kV3 dc3 pm3 an3 cd3 ct3), sl3⟩) (c3 : PySem.W.codeIn K cd3 "_law_draw" = true) (k3 : PySem.W.keepIn K (.ref f3) = true)
    {f4 : Addr} {od4 an4 : Option Addr} {sl4 : Array (Option Value)} {oc4 kV4 dc4 pm4 cd4 ct4 : Value}
    (a4 : PySem.W.nsIn K mainGlobals "_law_size" = some (some (.ref f4))) (l4 : K.lookup f4 = some ⟨oc4, od4, .func (PySem.W.fnOf "_law_size" "_law_size" (defArgs s_law_size) (defBody s_law_size) (defScope s_law_size) .none kV4 dc4 pm4 an4 cd4 ct4), sl4⟩) (c4 : PySem.W.codeIn K cd4 "_law_size" = true) (k4 : PySem.W.keepIn K (.ref f4) = true)
    {f5 : Addr} {od5 an5 : Option Addr} {sl5 : Array (Option Value)} {oc5 kV5 dc5 pm5 cd5 ct5 : Value}
    (a5 : PySem.W.nsIn K mainGlobals "_law_least_slack" = some (some (.ref f5))) (l5 : K.lookup f5 = some ⟨oc5, od5, .func (PySem.W.fnOf "_law_least_slack" "_law_least_slack" (defArgs s_law_least_slack) (defBody s_law_least_slack) (defScope s_law_least_slack) .none kV5 dc5 pm5 an5 cd5 ct5), sl5⟩) (c5 : PySem.W.codeIn K cd5 "_law_least_slack" = true) (k5 : PySem.W.keepIn K (.ref f5) = true)
    {f6 : Addr} {od6 an6 : Option Addr} {sl6 : Array (Option Value)} {oc6 kV6 dc6 pm6 cd6 ct6 : Value}
    (a6 : PySem.W.nsIn K mainGlobals "_law_pair" = some (some (.ref f6))) (l6 : K.lookup f6 = some ⟨oc6, od6, .func (PySem.W.fnOf "_law_pair" "_law_pair" (defArgs s_law_pair) (defBody s_law_pair) (defScope s_law_pair) .none kV6 dc6 pm6 an6 cd6 ct6), sl6⟩) (c6 : PySem.W.codeIn K cd6 "_law_pair" = true) (k6 : PySem.W.keepIn K (.ref f6) = true)
    {f7 : Addr} {od7 an7 : Option Addr} {sl7 : Array (Option Value)} {oc7 kV7 dc7 pm7 cd7 ct7 : Value}
    (a7 : PySem.W.nsIn K mainGlobals "_law_int" = some (some (.ref f7))) (l7 : K.lookup f7 = some ⟨oc7, od7, .func (PySem.W.fnOf "_law_int" "_law_int" (defArgs s_law_int) (defBody s_law_int) (defScope s_law_int) .none kV7 dc7 pm7 an7 cd7 ct7), sl7⟩) (c7 : PySem.W.codeIn K cd7 "_law_int" = true) (k7 : PySem.W.keepIn K (.ref f7) = true)
    {f8 : Addr} {od8 an8 : Option Addr} {sl8 : Array (Option Value)} {oc8 kV8 dc8 pm8 cd8 ct8 : Value}
    (a8 : PySem.W.nsIn K mainGlobals "_law_exact" = some (some (.ref f8))) (l8 : K.lookup f8 = some ⟨oc8, od8, .func (PySem.W.fnOf "_law_exact" "_law_exact" (defArgs s_law_exact) (defBody s_law_exact) (defScope s_law_exact) .none kV8 dc8 pm8 an8 cd8 ct8), sl8⟩) (c8 : PySem.W.codeIn K cd8 "_law_exact" = true) (k8 : PySem.W.keepIn K (.ref f8) = true)
    {f9 : Addr} {od9 an9 : Option Addr} {sl9 : Array (Option Value)} {oc9 kV9 dc9 pm9 cd9 ct9 : Value}
    (a9 : PySem.W.nsIn K mainGlobals "_law_classes" = some (some (.ref f9))) (l9 : K.lookup f9 = some ⟨oc9, od9, .func (PySem.W.fnOf "_law_classes" "_law_classes" (defArgs s_law_classes) (defBody s_law_classes) (defScope s_law_classes) .none kV9 dc9 pm9 an9 cd9 ct9), sl9⟩) (c9 : PySem.W.codeIn K cd9 "_law_classes" = true) (k9 : PySem.W.keepIn K (.ref f9) = true)
    {f10 : Addr} {od10 an10 : Option Addr} {sl10 : Array (Option Value)} {oc10 kV10 dc10 pm10 cd10 ct10 : Value}
    (a10 : PySem.W.nsIn K mainGlobals "law" = some (some (.ref f10))) (l10 : K.lookup f10 = some ⟨oc10, od10, .func (PySem.W.fnOf "law" "law" (defArgs s_law) (defBody s_law) (defScope s_law) .none kV10 dc10 pm10 an10 cd10 ct10), sl10⟩) (c10 : PySem.W.codeIn K cd10 "law" = true) (k10 : PySem.W.keepIn K (.ref f10) = true)
    (z_min : PySem.W.nsIn K mainGlobals "min" = some none)
    (z_list : PySem.W.nsIn K mainGlobals "list" = some none)
    (z_len : PySem.W.nsIn K mainGlobals "len" = some none)
    (z_abs : PySem.W.nsIn K mainGlobals "abs" = some none)
    (z_int : PySem.W.nsIn K mainGlobals "int" = some none)
    (z_range : PySem.W.nsIn K mainGlobals "range" = some none)
    (z_max : PySem.W.nsIn K mainGlobals "max" = some none)
    (z_isinstance : PySem.W.nsIn K mainGlobals "isinstance" = some none)
    (z_bool : PySem.W.nsIn K mainGlobals "bool" = some none)
    {t_MOST_BADNESS : Tok} (g_MOST_BADNESS : PySem.W.nsIn K mainGlobals "MOST_BADNESS" = some (some (.int 10000 t_MOST_BADNESS)))
    : ∃ fd : FuncData, (∀ (s : Shared) (v : Value), BindsTo s fd ⟨[v], []⟩ [("script", v)]) ∧ ∀ base : Heap, K.In base → base.Ns mainGlobals mg → FnOk l.prog w K mg base CX0 4 fa fd ["script"] (spLaw K) := by
  have e := hfa.symm.trans (PySem.W.mg_of X G a10)
  cases e
  have F0 := fun_mk (st := s_badness) l0 c0 k0
  have b0 := F0.binds (ps := ["slack", "room"]) fun _ _ _ _ _ _ us hl => match us, hl with | [_, _], _ => rfl
  have m0 := PySem.W.mg_of X G a0
  have F1 := fun_mk (st := s_line_class) l1 c1 k1
  have b1 := F1.binds (ps := ["slack", "bad"]) fun _ _ _ _ _ _ us hl => match us, hl with | [_, _], _ => rfl
  have m1 := PySem.W.mg_of X G a1
  have F2 := fun_mk (st := s_law_pool) l2 c2 k2
  have b2 := F2.binds (ps := ["script"]) fun _ _ _ _ _ _ us hl => match us, hl with | [_], _ => rfl
  have m2 := PySem.W.mg_of X G a2
  have F3 := fun_mk (st := s_law_draw) l3 c3 k3
  have b3 := F3.binds (ps := ["pool", "many"]) fun _ _ _ _ _ _ us hl => match us, hl with | [_, _], _ => rfl
  have m3 := PySem.W.mg_of X G a3
  have F4 := fun_mk (st := s_law_size) l4 c4 k4
  have b4 := F4.binds (ps := ["pool"]) fun _ _ _ _ _ _ us hl => match us, hl with | [_], _ => rfl
  have m4 := PySem.W.mg_of X G a4
  have F5 := fun_mk (st := s_law_least_slack) l5 c5 k5
  have b5 := F5.binds (ps := ["room", "bad"]) fun _ _ _ _ _ _ us hl => match us, hl with | [_, _], _ => rfl
  have m5 := PySem.W.mg_of X G a5
  have F6 := fun_mk (st := s_law_pair) l6 c6 k6
  have b6 := F6.binds (ps := ["pool"]) fun _ _ _ _ _ _ us hl => match us, hl with | [_], _ => rfl
  have m6 := PySem.W.mg_of X G a6
  have F7 := fun_mk (st := s_law_int) l7 c7 k7
  have b7 := F7.binds (ps := ["got"]) fun _ _ _ _ _ _ us hl => match us, hl with | [_], _ => rfl
  have m7 := PySem.W.mg_of X G a7
  have F8 := fun_mk (st := s_law_exact) l8 c8 k8
  have b8 := F8.binds (ps := ["got", "slack", "room"]) fun _ _ _ _ _ _ us hl => match us, hl with | [_, _, _], _ => rfl
  have m8 := PySem.W.mg_of X G a8
  have F9 := fun_mk (st := s_law_classes) l9 c9 k9
  have b9 := F9.binds (ps := ["slack", "bad"]) fun _ _ _ _ _ _ us hl => match us, hl with | [_, _], _ => rfl
  have m9 := PySem.W.mg_of X G a9
  have F10 := fun_mk (st := s_law) l10 c10 k10
  have b10 := F10.binds (ps := ["script"]) fun _ _ _ _ _ _ us hl => match us, hl with | [_], _ => rfl
  have m10 := PySem.W.mg_of X G a10
  have y_min := PySem.W.mg_none_of X G z_min
  have y_list := PySem.W.mg_none_of X G z_list
  have y_len := PySem.W.mg_none_of X G z_len
  have y_abs := PySem.W.mg_none_of X G z_abs
  have y_int := PySem.W.mg_none_of X G z_int
  have y_range := PySem.W.mg_none_of X G z_range
  have y_max := PySem.W.mg_none_of X G z_max
  have y_isinstance := PySem.W.mg_none_of X G z_isinstance
  have y_bool := PySem.W.mg_none_of X G z_bool
  have h_MOST_BADNESS := PySem.W.mg_of X G g_MOST_BADNESS
  refine ⟨PySem.W.fnOf "law" "law" (defArgs s_law) (defBody s_law) (defScope s_law) .none kV10 dc10 pm10 an10 cd10 ct10, fun s v => .of_eq rfl, fun base _ _ => law_imp ?_⟩
  have G0 := ok_badness (P := l.prog) (w := w) (mg := mg) (base := base) F0 y_min h_MOST_BADNESS
  have G1 := ok_line_class (P := l.prog) (w := w) (mg := mg) (base := base) F1
  have G2 := ok_law_pool (P := l.prog) (w := w) (mg := mg) (base := base) F2 y_list
  have G3 := ok_law_draw (P := l.prog) (w := w) (mg := mg) (base := base) F3 y_len y_abs y_int
  have G5 := ok_law_least_slack (P := l.prog) (w := w) (mg := mg) (base := base) F5 y_range
  have G7 := ok_law_int (P := l.prog) (w := w) (mg := mg) (base := base) F7 y_isinstance y_int y_bool
  have G4 := ok_law_size (P := l.prog) (w := w) (mg := mg) (base := base) F4 G3 m3 k3 b3
  have G8 := ok_law_exact (P := l.prog) (w := w) (mg := mg) (base := base) F8 G7 m7 k7 b7
  have G9 := ok_law_classes (P := l.prog) (w := w) (mg := mg) (base := base) F9 G1 m1 k1 b1 G7 m7 k7 b7 y_int
  have G6 := ok_law_pair (P := l.prog) (w := w) (mg := mg) (base := base) F6 G4 m4 k4 b4 G3 m3 k3 b3 G5 m5 k5 b5 y_max
  have G10 := ok_law (P := l.prog) (w := w) (mg := mg) (base := base) F10 G2 m2 k2 b2 G6 m6 k6 b6 G3 m3 k3 b3 G0 m0 k0 b0 G8 m8 k8 b8 G9 m9 k9 b9
  exact G10
end Gly
open PySem PySem.W PyProof.Rows in
set_option maxRecDepth 100000 in
set_option maxHeartbeats 0 in
theorem PySem.Challenge.cw_galleywork_k32_badness_and_class_holds : PySem.Challenge.rw_galleywork_k32_badness_and_class.Holds := by
  w_on; o_law; k_head; (case hw => w_witness2)
  k_fill
  refine L2.walk_of (l := PySem.Challenge.rw_galleywork_k32_badness_and_class) (n := 63) (k := 4) (x := "script") (CX := fun _ => L2.CX0) (sp := fun w => Pu.spLaw _) rfl (by decide) rfl ⟨rfl, by decide, by decide⟩ (fun w h Y => PySem.W.kIn_of Y) ?F (fun _ _ a ns hl _ hS => ⟨a, ns, rfl, hS, hl, fun _ => rfl⟩) (fun _ _ _ _ _ h => h)
  case F =>
    intro w mg fa h KX G hmg
    refine' Gly.all_mk KX G hmg ?a0 ?l0 ?c0 ?k0 ?a1 ?l1 ?c1 ?k1 ?a2 ?l2 ?c2 ?k2 ?a3 ?l3 ?c3 ?k3 ?a4 ?l4 ?c4 ?k4 ?a5 ?l5 ?c5 ?k5 ?a6 ?l6 ?c6 ?k6 ?a7 ?l7 ?c7 ?k7 ?a8 ?l8 ?c8 ?k8 ?a9 ?l9 ?c9 ?k9 ?a10 ?l10 ?c10 ?k10 ?z_min ?z_list ?z_len ?z_abs ?z_int ?z_range ?z_max ?z_isinstance ?z_bool ?g_MOST_BADNESS
    (case a0 => k_is)
    (case l0 => k_is)
    (case c0 => k_is)
    (case k0 => k_is)
    (case a1 => k_is)
    (case l1 => k_is)
    (case c1 => k_is)
    (case k1 => k_is)
    (case a2 => k_is)
    (case l2 => k_is)
    (case c2 => k_is)
    (case k2 => k_is)
    (case a3 => k_is)
    (case l3 => k_is)
    (case c3 => k_is)
    (case k3 => k_is)
    (case a4 => k_is)
    (case l4 => k_is)
    (case c4 => k_is)
    (case k4 => k_is)
    (case a5 => k_is)
    (case l5 => k_is)
    (case c5 => k_is)
    (case k5 => k_is)
    (case a6 => k_is)
    (case l6 => k_is)
    (case c6 => k_is)
    (case k6 => k_is)
    (case a7 => k_is)
    (case l7 => k_is)
    (case c7 => k_is)
    (case k7 => k_is)
    (case a8 => k_is)
    (case l8 => k_is)
    (case c8 => k_is)
    (case k8 => k_is)
    (case a9 => k_is)
    (case l9 => k_is)
    (case c9 => k_is)
    (case k9 => k_is)
    (case a10 => k_is)
    (case l10 => k_is)
    (case c10 => k_is)
    (case k10 => k_is)
    (case z_min => k_is)
    (case z_list => k_is)
    (case z_len => k_is)
    (case z_abs => k_is)
    (case z_int => k_is)
    (case z_range => k_is)
    (case z_max => k_is)
    (case z_isinstance => k_is)
    (case z_bool => k_is)
    (case g_MOST_BADNESS => k_is)
