import PyProof.Rows.All
import Wide.All
import OpenK.AllK
import Wide.FinOn
import HandS.ForMost
import HandS.Wide
import HandS.Walk
import HandS.IsInst
import HandS.TupAny
import HandS.SortInts
import HandS.Deep
import HandS.More
import HandS.SetFor
import HandS.Style
import HandS.Flow
import KE.GoesMore
import KE.GoesEnum
import HandS.StrMore
import HandS.Replace
import HandS.TupLe
import HandS.Star
import HandS.Codes
import HandS.Small
import HandS.Conv
import HandS.WordsDict
import HandS.OwnEq
import HandS.Property
import HandS.Iter
import HandS.Exc
import HandS.ExcInit
import HandS.ExcOwn
import HandS.ExcField
import HandS.ClsMeth
import HandS.FStr
import KE.KExcSuper
import KE.KSuper
import HandS.WordsExc
import HandS.ExcIs
import HandS.Rev
import PySem.Challenge.RW_galleywork_k00_tokens_of_a_text
set_option Elab.async false
set_option linter.all false
set_option maxRecDepth 100000
set_option maxHeartbeats 4000000
/-! The pure layer: Python values as plain data D; frozen heap and owned slots; readings over D. -/
namespace Pu
open PySem PySem.Spec L2

abbrev Fg := PySem.W.Frag

/-- plain data -/
inductive D where
  | non | bl (b : Bool) | int (i : Int) | str (s : Str)
  | tup (ds : List D) | lst (ds : List D) | klst (ds : List D) | ktup (ds : List D)
  | dK (ks : List Key) (ds : List D) | dT (ks : List (List Key)) (ds : List D)
  | ins (C : Addr) (ns : List Str) (ds : List D)
  | pool | rf (a : Addr) | at (a : Addr) (ds : List D)
  | exc (C : Addr) (ns : List Str) (ds : List D) | exo (a C e : Addr) (ns : List Str) (ds : List D)

/-- what is always true of an object that changes -/
abbrev InvP := HO → Prop
/-- what is frozen; what keeps an invariant -/
structure FS where
  fz : Hp
  iv : Addr → Option InvP

structure Fits (F : FS) (H : Hp) : Prop where
  fz : Same F.fz H
  iv : ∀ a φ, F.iv a = some φ → ∃ o, H a = some o ∧ φ o

structure Ext (O : Addr → Prop) (F : FS) (H : Hp) (F' : FS) (H' : Hp) : Prop where
  fz : Same F.fz F'.fz
  iv : ∀ a φ, F.iv a = some φ → F'.iv a = some φ
  fits : Fits F' H'
  nfz : ∀ a o, F'.fz a = some o → F.fz a = some o ∨ H a = none
  niv : ∀ a φ, F'.iv a = some φ → F.iv a = some φ ∨ H a = none
  keep : ∀ a o, H a = some o → O a ∨ (∃ φ, F.iv a = some φ) ∨ H' a = some o
  dom : ∀ a, H' a = none → H a = none

abbrev No : Addr → Prop := fun _ => False

theorem Ext.refl {O : Addr → Prop} {F : FS} {H : Hp} (f : Fits F H) : Ext O F H F H :=
  ⟨Same.refl _, fun _ _ h => h, f, fun _ _ h => .inl h, fun _ _ h => .inl h, fun _ _ h => .inr (.inr h), fun _ h => h⟩

theorem Ext.trans {O O' : Addr → Prop} {F F1 F2 : FS} {H H1 H2 : Hp} (x : Ext O F H F1 H1) (y : Ext O' F1 H1 F2 H2) (hO : ∀ a, O' a → O a ∨ H a = none) : Ext O F H F2 H2 where
  fz := x.fz.trans y.fz
  iv a φ h := y.iv a φ (x.iv a φ h)
  fits := y.fits
  nfz a o h := (y.nfz a o h).elim (fun q => x.nfz a o q) fun q => .inr (x.dom a q)
  niv a φ h := (y.niv a φ h).elim (fun q => x.niv a φ q) fun q => .inr (x.dom a q)
  keep a o h := by
    rcases x.keep a o h with q | q | q
    · exact .inl q
    · exact .inr (.inl q)
    · rcases y.keep a o q with q | ⟨φ, q⟩ | q
      · rcases hO a q with z | z
        · exact .inl z
        · rw [h] at z; cases z
      · rcases x.niv a φ q with z | z
        · exact .inr (.inl ⟨φ, z⟩)
        · rw [h] at z; cases z
      · exact .inr (.inr q)
  dom a h := x.dom a (y.dom a h)

theorem Ext.then0 {O : Addr → Prop} {F F1 F2 : FS} {H H1 H2 : Hp} (x : Ext O F H F1 H1) (y : Ext No F1 H1 F2 H2) : Ext O F H F2 H2 := x.trans y fun _ h => h.elim

theorem Ext.mono {O O' : Addr → Prop} {F F1 : FS} {H H1 : Hp} (x : Ext O F H F1 H1) (h : ∀ a, O a → O' a) : Ext O' F H F1 H1 :=
  { x with keep := fun a o e => (x.keep a o e).imp (h a) id }

/-! ### a value stands for a datum -/
def PoolI (l : Addr) (ns : List Int) : InvP := fun o => ∃ (c r q s : Int), o = .lst [.ref l, .int c, .int r, .int q, .int s] ∧ 0 ≤ c ∧ c ≤ ns.length ∧ 0 ≤ r
mutual
def Rep (K : Fg) (F : FS) : D → V → Prop
  | .non, v => v = .non
  | .bl b, v => v = .bl b
  | .int i, v => v = .int i
  | .str s, v => v = .str s
  | .tup ds, v => ∃ a vs, v = .ref a ∧ F.fz a = some (.tup vs) ∧ Reps K F ds vs
  | .lst ds, v => ∃ a vs, v = .ref a ∧ F.fz a = some (.lst vs) ∧ Reps K F ds vs
  | .klst ds, v => ∃ a vs, v = .ref a ∧ SqL K F.fz a vs ∧ Reps K F ds vs
  | .ktup ds, v => ∃ a vs, v = .ref a ∧ SqT K F.fz a vs ∧ Reps K F ds vs
  | .dK ks ds, v => ∃ a vs, v = .ref a ∧ F.fz a = some (.dK (ks.zip vs)) ∧ ks.length = ds.length ∧ Reps K F ds vs
  | .dT ks ds, v => ∃ a vs, v = .ref a ∧ F.fz a = some (.dT (ks.zip vs)) ∧ ks.length = ds.length ∧ Reps K F ds vs
  | .ins C ns ds, v => ∃ a dx vs, v = .ref a ∧ F.fz a = some (.ins C dx (ns.zip vs)) ∧ ns.length = ds.length ∧ Reps K F ds vs
  | .pool, v => ∃ a l ns, v = .ref a ∧ F.iv a = some (PoolI l ns) ∧ F.fz a = none ∧ F.fz l = some (.lst (ns.map V.int))
  | .rf a, v => v = .ref a
  | .at a ds, v => ∃ vs, v = .ref a ∧ F.fz a = some (.lst vs) ∧ Reps K F ds vs
  | .exc _ _ _, _ => False
  | .exo a _ e ns ds, v => ∃ vs, v = .ref a ∧ F.fz e = some (.xd (ns.zip vs)) ∧ ns.length = ds.length ∧ Reps K F ds vs
def Reps (K : Fg) (F : FS) : List D → List V → Prop
  | [], vs => vs = []
  | d :: ds, vs => ∃ v r, vs = v :: r ∧ Rep K F d v ∧ Reps K F ds r
end

section
variable {K : Fg} {F F' : FS} {H H' : Hp} {O : Addr → Prop}

theorem Same.seqT {H H' : Hp} {a : Addr} {xs : List V} (e : Same H H') (h : SqT K H a xs) : SqT K H' a xs := by
  rcases h with (h | ⟨o, h⟩) | h
  · exact .inl (.inl (e _ _ h))
  · exact .inl (.inr ⟨o, e _ _ h⟩)
  · exact .inr h

/-- F grows -/
structure Le (F F' : FS) : Prop where
  fz : Same F.fz F'.fz
  iv : ∀ a φ, F.iv a = some φ → F'.iv a = some φ
  nfz : ∀ a, F'.fz a ≠ none → F.iv a ≠ none → F.fz a ≠ none

mutual
theorem Rep.mono (h : Le F F') : ∀ {d : D} {v : V}, Rep K F d v → Rep K F' d v
  | .non, _, r => by simpa only [Rep] using r
  | .bl _, _, r => by simpa only [Rep] using r
  | .int _, _, r => by simpa only [Rep] using r
  | .str _, _, r => by simpa only [Rep] using r
  | .tup ds, v, r => by
    simp only [Rep] at r ⊢
    obtain ⟨a, vs, e, s, q⟩ := r
    exact ⟨a, vs, e, h.fz _ _ s, Reps.mono h q⟩
  | .lst ds, v, r => by
    simp only [Rep] at r ⊢
    obtain ⟨a, vs, e, s, q⟩ := r
    exact ⟨a, vs, e, h.fz _ _ s, Reps.mono h q⟩
  | .klst ds, v, r => by
    simp only [Rep] at r ⊢
    obtain ⟨a, vs, e, s, q⟩ := r
    exact ⟨a, vs, e, h.fz.seq s, Reps.mono h q⟩
  | .ktup ds, v, r => by
    simp only [Rep] at r ⊢
    obtain ⟨a, vs, e, s, q⟩ := r
    exact ⟨a, vs, e, Same.seqT h.fz s, Reps.mono h q⟩
  | .dK ks ds, v, r => by
    simp only [Rep] at r ⊢
    obtain ⟨a, vs, e, s, l, q⟩ := r
    exact ⟨a, vs, e, h.fz _ _ s, l, Reps.mono h q⟩
  | .dT ks ds, v, r => by
    simp only [Rep] at r ⊢
    obtain ⟨a, vs, e, s, l, q⟩ := r
    exact ⟨a, vs, e, h.fz _ _ s, l, Reps.mono h q⟩
  | .ins C ns ds, v, r => by
    simp only [Rep] at r ⊢
    obtain ⟨a, dx, vs, e, s, l, q⟩ := r
    exact ⟨a, dx, vs, e, h.fz _ _ s, l, Reps.mono h q⟩
  | .pool, v, r => by
    simp only [Rep] at r ⊢
    obtain ⟨a, l, ns, e, i, z, zl⟩ := r
    refine ⟨a, l, ns, e, h.iv _ _ i, ?_, h.fz _ _ zl⟩
    by_cases q : F'.fz a = none
    · exact q
    · exact absurd z (h.nfz a q (by rw [i]; intro z; cases z))
  | .rf _, _, r => by simpa only [Rep] using r
  | .at a ds, v, r => by
    simp only [Rep] at r ⊢
    obtain ⟨vs, e, s, q⟩ := r
    exact ⟨vs, e, h.fz _ _ s, Reps.mono h q⟩
  | .exc _ _ _, _, r => by
    simp only [Rep] at r
  | .exo a C e ns ds, v, r => by
    simp only [Rep] at r ⊢
    obtain ⟨vs, e, s, l, q⟩ := r
    exact ⟨vs, e, h.fz _ _ s, l, Reps.mono h q⟩
theorem Reps.mono (h : Le F F') : ∀ {ds : List D} {vs : List V}, Reps K F ds vs → Reps K F' ds vs
  | [], _, r => by simpa only [Reps] using r
  | d :: ds, _, r => by
    simp only [Reps] at r ⊢
    obtain ⟨v, q, e, h1, h2⟩ := r
    exact ⟨v, q, e, Rep.mono h h1, Reps.mono h h2⟩
end

theorem Ext.le (x : Ext O F H F' H') (f : Fits F H) : Le F F' :=
  ⟨x.fz, x.iv, fun a h1 h2 => by
    cases e : F'.fz a with
    | none => exact absurd e h1
    | some o =>
      rcases x.nfz a o e with q | q
      · rw [q]; intro z; cases z
      · cases e2 : F.iv a with
        | none => exact absurd e2 h2
        | some φ =>
          obtain ⟨o', h, _⟩ := f.iv a φ e2
          rw [q] at h; cases h⟩
theorem Rep.ext {d : D} {v : V} (r : Rep K F d v) (x : Ext O F H F' H') (f : Fits F H) : Rep K F' d v := Rep.mono (x.le f) r
theorem Reps.ext {d : List D} {v : List V} (r : Reps K F d v) (x : Ext O F H F' H') (f : Fits F H) : Reps K F' d v := Reps.mono (x.le f) r

theorem Reps.length : ∀ {ds : List D} {vs : List V}, Reps K F ds vs → vs.length = ds.length
  | [], _, r => by simp only [Reps] at r; rw [r]; rfl
  | d :: ds, _, r => by
    simp only [Reps] at r
    obtain ⟨v, q, e, _, h2⟩ := r
    rw [e, List.length_cons, List.length_cons, Reps.length h2]
theorem Reps.get : ∀ {ds : List D} {vs : List V} {i : Nat} {d : D}, Reps K F ds vs → ds[i]? = some d → ∃ v, vs[i]? = some v ∧ Rep K F d v
  | [], _, i, _, _, e => by simp at e
  | d :: ds, _, i, x, r, e => by
    simp only [Reps] at r
    obtain ⟨v, q, rfl, h1, h2⟩ := r
    cases i with
    | zero =>
      have : d = x := Option.some.inj e
      subst this
      exact ⟨v, rfl, h1⟩
    | succ i => exact Reps.get (i := i) h2 e
theorem Reps.get' {ds : List D} {vs : List V} {i : Nat} {v : V} (r : Reps K F ds vs) (e : vs[i]? = some v) : ∃ d, ds[i]? = some d ∧ Rep K F d v := by
  have hl := r.length
  have hi := (List.getElem?_eq_some_iff.mp e).1
  have h2 : ds[i]? = some ds[i] := List.getElem?_eq_getElem (by omega)
  obtain ⟨u, e1, r1⟩ := r.get h2
  rw [e] at e1
  cases e1
  exact ⟨_, h2, r1⟩
theorem Reps.append : ∀ {ds es : List D} {vs us : List V}, Reps K F ds vs → Reps K F es us → Reps K F (ds ++ es) (vs ++ us)
  | [], _, _, _, r, s => by simp only [Reps] at r; subst r; simpa using s
  | d :: ds, _, _, _, r, s => by
    simp only [Reps] at r
    obtain ⟨v, q, rfl, h1, h2⟩ := r
    simp only [List.cons_append, Reps]
    exact ⟨v, _, rfl, h1, Reps.append h2 s⟩
theorem Reps.one {d : D} {v : V} (r : Rep K F d v) : Reps K F [d] [v] := by
  simp only [Reps]
  exact ⟨v, [], rfl, r, rfl⟩
theorem Reps.nil : Reps K F [] [] := by simp only [Reps]
theorem Reps.cons {d : D} {v : V} {ds : List D} {vs : List V} (r : Rep K F d v) (s : Reps K F ds vs) : Reps K F (d :: ds) (v :: vs) := by
  simp only [Reps]
  exact ⟨v, vs, rfl, r, s⟩
theorem Reps.take : ∀ {ds : List D} {vs : List V} (n : Nat), Reps K F ds vs → Reps K F (ds.take n) (vs.take n)
  | _, _, 0, _ => by simpa using Reps.nil
  | [], _, _ + 1, r => by simp only [Reps] at r; subst r; simpa using Reps.nil
  | d :: ds, _, n + 1, r => by
    simp only [Reps] at r
    obtain ⟨v, q, rfl, h1, h2⟩ := r
    exact Reps.cons h1 (Reps.take n h2)
theorem Reps.drop : ∀ {ds : List D} {vs : List V} (n : Nat), Reps K F ds vs → Reps K F (ds.drop n) (vs.drop n)
  | _, _, 0, r => by simpa using r
  | [], _, _ + 1, r => by simp only [Reps] at r; subst r; simpa using Reps.nil
  | d :: ds, _, n + 1, r => by
    simp only [Reps] at r
    obtain ⟨v, q, rfl, h1, h2⟩ := r
    exact Reps.drop n h2
theorem Reps.set : ∀ {ds : List D} {vs : List V} {d : D} {v : V} (i : Nat), Reps K F ds vs → Rep K F d v → Reps K F (ds.set i d) (vs.set i v)
  | [], _, _, _, _, r, _ => by simp only [Reps] at r; subst r; simpa using Reps.nil
  | x :: ds, _, _, _, i, r, s => by
    simp only [Reps] at r
    obtain ⟨v, q, rfl, h1, h2⟩ := r
    cases i with
    | zero => exact Reps.cons s h2
    | succ i => exact Reps.cons h1 (Reps.set i h2 s)
theorem Reps.reverse {ds : List D} {vs : List V} (r : Reps K F ds vs) : Reps K F ds.reverse vs.reverse := by
  induction ds generalizing vs with
  | nil => simp only [Reps] at r; subst r; simpa using Reps.nil
  | cons d ds ih =>
    simp only [Reps] at r
    obtain ⟨v, q, rfl, h1, h2⟩ := r
    simp only [List.reverse_cons]
    exact (ih h2).append (Reps.one h1)
theorem Reps.eraseIdx : ∀ {ds : List D} {vs : List V} (i : Nat), Reps K F ds vs → Reps K F (ds.eraseIdx i) (vs.eraseIdx i)
  | [], _, _, r => by simp only [Reps] at r; subst r; simpa using Reps.nil
  | x :: ds, _, i, r => by
    simp only [Reps] at r
    obtain ⟨v, q, rfl, h1, h2⟩ := r
    cases i with
    | zero => exact h2
    | succ i => exact Reps.cons h1 (Reps.eraseIdx i h2)
theorem Reps.ints : ∀ {ns : List Int} {vs : List V}, Reps K F (ns.map D.int) vs → vs = ns.map V.int
  | [], _, r => by simpa only [List.map_nil, Reps] using r
  | n :: ns, _, r => by
    simp only [List.map_cons, Reps] at r
    obtain ⟨v, q, rfl, h1, h2⟩ := r
    simp only [Rep] at h1
    rw [h1, Reps.ints h2, List.map_cons]
theorem Reps.of_ints : ∀ (ns : List Int), Reps K F (ns.map D.int) (ns.map V.int)
  | [] => Reps.nil
  | n :: ns => Reps.cons (by simp only [Rep]) (Reps.of_ints ns)
theorem Reps.strs : ∀ {ns : List Str} {vs : List V}, Reps K F (ns.map D.str) vs → vs = ns.map V.str
  | [], _, r => by simpa only [List.map_nil, Reps] using r
  | n :: ns, _, r => by
    simp only [List.map_cons, Reps] at r
    obtain ⟨v, q, rfl, h1, h2⟩ := r
    simp only [Rep] at h1
    rw [h1, Reps.strs h2, List.map_cons]
theorem Reps.of_strs : ∀ (ns : List Str), Reps K F (ns.map D.str) (ns.map V.str)
  | [] => Reps.nil
  | n :: ns => Reps.cons (by simp only [Rep]) (Reps.of_strs ns)
theorem Reps.bls : ∀ {ns : List Bool} {vs : List V}, Reps K F (ns.map D.bl) vs → vs = ns.map V.bl
  | [], _, r => by simpa only [List.map_nil, Reps] using r
  | n :: ns, _, r => by
    simp only [List.map_cons, Reps] at r
    obtain ⟨v, q, rfl, h1, h2⟩ := r
    simp only [Rep] at h1
    rw [h1, Reps.bls h2, List.map_cons]

/-- a fresh address is frozen -/
def FS.add (F : FS) (a : Addr) (o : HO) : FS := ⟨upd F.fz a o, F.iv⟩
theorem Fits.none_fz (f : Fits F H) {a : Addr} (h : H a = none) : F.fz a = none := f.fz.free h
theorem Fits.none_iv (f : Fits F H) {a : Addr} (h : H a = none) : F.iv a = none := by
  cases e : F.iv a with
  | none => rfl
  | some φ =>
    obtain ⟨o, q, _⟩ := f.iv a φ e
    rw [h] at q; cases q
theorem Ext.new (f : Fits F H) {a : Addr} {o : HO} (h : H a = none) : Ext O F H (F.add a o) (upd H a o) := by
  have hz := f.none_fz h
  have hi := f.none_iv h
  have up : Same F.fz (upd F.fz a o) := fun b x e => by
    rw [upd_ne (fun z => by rw [z, hz] at e; cases e)]; exact e
  refine ⟨up, fun _ _ e => e, ⟨fun b x e => ?_, fun b φ e => ?_⟩, fun b x e => ?_, fun _ _ e => .inl e, fun b x e => .inr (.inr ?_), fun b e => ?_⟩
  · have e : upd F.fz a o b = some x := e
    by_cases q : b = a
    · subst q; rw [upd_same] at e ⊢; exact e
    · rw [upd_ne q] at e ⊢; exact f.fz _ _ e
  · have e : F.iv b = some φ := e
    obtain ⟨x, h1, h2⟩ := f.iv b φ e
    exact ⟨x, by rw [upd_ne (fun z => by rw [z, h] at h1; cases h1)]; exact h1, h2⟩
  · have e : upd F.fz a o b = some x := e
    by_cases q : b = a
    · subst q; exact .inr h
    · rw [upd_ne q] at e; exact .inl e
  · rw [upd_ne (fun z => by rw [z, h] at e; cases e)]; exact e
  · by_cases q : b = a
    · subst q; exact h
    · rw [upd_ne q] at e; exact e
/-- a fresh object that is not frozen -/
theorem Ext.newM (f : Fits F H) {a : Addr} {o : HO} (h : H a = none) : Ext O F H F (upd H a o) := by
  refine ⟨Same.refl _, fun _ _ e => e, ⟨fun b x e => ?_, fun b φ e => ?_⟩, fun b x e => .inl e, fun _ _ e => .inl e, fun b x e => .inr (.inr ?_), fun b e => ?_⟩
  · rw [upd_ne (fun z => by rw [z, f.none_fz h] at e; cases e)]; exact f.fz _ _ e
  · obtain ⟨x, h1, h2⟩ := f.iv b φ e
    exact ⟨x, by rw [upd_ne (fun z => by rw [z, h] at h1; cases h1)]; exact h1, h2⟩
  · rw [upd_ne (fun z => by rw [z, h] at e; cases e)]; exact e
  · by_cases q : b = a
    · subst q; exact h
    · rw [upd_ne q] at e; exact e
theorem FS.add_same {a : Addr} {o : HO} : (F.add a o).fz a = some o := upd_same
end
end Pu
namespace Pu
open PySem PySem.Spec L2

/-! ### slots -/
/-- the frame of an object with parts of its own -/
inductive Sk where
  | lst | dK (ks : List Key) | dT (ks : List (List Key)) | ins (C : Addr) (ns : List Str)
/-- o2: an owned object, of whose parts those that are told true are owned, too -/
inductive Sl where
  | sh (d : D) | ow (b : Bool) (d : D) | o2 (b : Bool) (sk : Sk) (cs : List (Bool × D))
abbrev Env := List (Option Sl)
abbrev DK := D → Prop

def OwnAt (K : Fg) (F : FS) (H : Hp) (a : Addr) : D → Prop
  | .lst ds => ∃ vs, H a = some (.lst vs) ∧ Reps K F ds vs
  | .dK ks ds => ∃ vs, H a = some (.dK (ks.zip vs)) ∧ ks.length = ds.length ∧ Reps K F ds vs
  | .dT ks ds => ∃ vs, H a = some (.dT (ks.zip vs)) ∧ ks.length = ds.length ∧ Reps K F ds vs
  | .ins C ns ds => ∃ dx vs, H a = some (.ins C dx (ns.zip vs)) ∧ ns.length = ds.length ∧ Reps K F ds vs
  | _ => False

def kids : HO → List V
  | .lst vs => vs
  | .dK kvs => kvs.map Prod.snd
  | .dT kvs => kvs.map Prod.snd
  | .ins _ _ fs => fs.map Prod.snd
  | _ => []
def Sk.is : Sk → HO → Prop
  | .lst, .lst _ => True
  | .dK ks, .dK kvs => kvs.map Prod.fst = ks
  | .dT ks, .dT kvs => kvs.map Prod.fst = ks
  | .ins C ns, .ins C' _ fs => C = C' ∧ fs.map Prod.fst = ns
  | _, _ => False
def KidOk (K : Fg) (N : Bool → Addr → Prop) (F : FS) (H : Hp) (a : Addr) (e : Bool) (d : D) (x : V) : Prop :=
  match e with
  | false => Rep K F d x
  | true => ∃ y, x = .ref y ∧ y ≠ a ∧ N true y ∧ F.fz y = none ∧ F.iv y = none ∧ OwnAt K F H y d
def SlotOk (K : Fg) (N : Bool → Addr → Prop) (F : FS) (H : Hp) (x : Option Sl) (ov : Option V) : Prop :=
  match x with
  | none => True
  | some (.sh d) => ∃ v, ov = some v ∧ Rep K F d v
  | some (.ow b d) => ∃ a, ov = some (.ref a) ∧ N b a ∧ F.fz a = none ∧ F.iv a = none ∧ OwnAt K F H a d
  | some (.o2 b sk cs) => ∃ a o, ov = some (.ref a) ∧ N b a ∧ F.fz a = none ∧ F.iv a = none ∧ H a = some o ∧ sk.is o ∧ (kids o).length = cs.length ∧
      (∀ (i : Nat) e d x, cs[i]? = some (e, d) → (kids o)[i]? = some x → KidOk K N F H a e d x) ∧
      ∀ (i j : Nat) d d' y, cs[i]? = some (true, d) → cs[j]? = some (true, d') → (kids o)[i]? = some (V.ref y) → (kids o)[j]? = some (V.ref y) → i = j
/-- what a slot owns -/
def Foot (H : Hp) (x : Option Sl) (ov : Option V) (y : Addr) : Prop :=
  match x with
  | some (.ow _ _) => ov = some (.ref y)
  | some (.o2 _ _ cs) => ov = some (.ref y) ∨ ∃ (a : Addr) (o : HO) (i : Nat) (d : D), ov = some (.ref a) ∧ H a = some o ∧ cs[i]? = some (true, d) ∧ (kids o)[i]? = some (V.ref y)
  | _ => False

structure Stt (K : Fg) (N : Bool → Addr → Prop) (F : FS) (ρ : Env) (σ : L2.St) (H : Hp) : Prop where
  fits : Fits F H
  len : ρ.length = σ.length
  slot : ∀ (i : Nat) x ov, ρ[i]? = some x → σ[i]? = some ov → SlotOk K N F H x ov
  disF : ∀ (i j : Nat) x x' ov ov' y, ρ[i]? = some x → σ[i]? = some ov → ρ[j]? = some x' → σ[j]? = some ov' → Foot H x ov y → Foot H x' ov' y → i = j

section
variable {K : Fg} {N : Bool → Addr → Prop} {O : Addr → Prop} {F F' : FS} {H H' : Hp} {ρ : Env} {σ : L2.St}
theorem OwnAt.there {a : Addr} {d : D} (h : OwnAt K F H a d) : H a ≠ none := by
  intro z
  cases d <;> simp only [OwnAt] at h
  · obtain ⟨_, q, _⟩ := h; rw [z] at q; cases q
  · obtain ⟨_, q, _⟩ := h; rw [z] at q; cases q
  · obtain ⟨_, q, _⟩ := h; rw [z] at q; cases q
  · obtain ⟨_, _, q, _⟩ := h; rw [z] at q; cases q
theorem OwnAt.mono {a : Addr} {d : D} (h : OwnAt K F H a d) (l : Le F F') (e : H' a = H a) : OwnAt K F' H' a d := by
  cases d <;> simp only [OwnAt] at h ⊢
  · obtain ⟨vs, q, r⟩ := h; exact ⟨vs, by rw [e, q], r.mono l⟩
  · obtain ⟨vs, q, z, r⟩ := h; exact ⟨vs, by rw [e, q], z, r.mono l⟩
  · obtain ⟨vs, q, z, r⟩ := h; exact ⟨vs, by rw [e, q], z, r.mono l⟩
  · obtain ⟨dx, vs, q, z, r⟩ := h; exact ⟨dx, vs, by rw [e, q], z, r.mono l⟩
theorem own_keep {a : Addr} {d : D} (h : OwnAt K F H a d) (hz : F.fz a = none) (hi : F.iv a = none) (x : Ext No F H F' H') (f : Fits F H) : OwnAt K F' H' a d ∧ F'.fz a = none ∧ F'.iv a = none := by
  have hs := h.there
  obtain ⟨o, eo⟩ : ∃ o, H a = some o := by
    cases e : H a with
    | none => exact absurd e hs
    | some o => exact ⟨o, rfl⟩
  refine ⟨h.mono (x.le f) ?_, ?_, ?_⟩
  · rcases x.keep a o eo with q | ⟨φ, q⟩ | q
    · exact q.elim
    · rw [hi] at q; cases q
    · rw [q, eo]
  · cases e : F'.fz a with
    | none => rfl
    | some o' =>
      rcases x.nfz a o' e with q | q
      · rw [hz] at q; cases q
      · rw [eo] at q; cases q
  · cases e : F'.iv a with
    | none => rfl
    | some o' =>
      rcases x.niv a o' e with q | q
      · rw [hi] at q; cases q
      · rw [eo] at q; cases q
theorem foot_ok {x : Option Sl} {ov : Option V} {y : Addr} (h : SlotOk K N F H x ov) (f : Foot H x ov y) : F.fz y = none ∧ F.iv y = none ∧ H y ≠ none ∧ ∃ b, N b y := by
  match x, h, f with
  | none, _, f => exact f.elim
  | some (.sh _), _, f => exact f.elim
  | some (.ow b d), ⟨a, e, n, hz, hi, o⟩, f =>
    have f : ov = some (.ref y) := f
    rw [e] at f; cases f
    exact ⟨hz, hi, o.there, b, n⟩
  | some (.o2 b sk cs), ⟨a, o, e, n, hz, hi, eo, is, hl, hk, hd⟩, f =>
    rcases f with f | ⟨a', o', i, d, f1, f2, f3, f4⟩
    · rw [e] at f; cases f
      exact ⟨hz, hi, by rw [eo]; simp, b, n⟩
    · rw [e] at f1; cases f1
      rw [eo] at f2; cases f2
      obtain ⟨y', ey, _, n', h1, h2, ow⟩ := hk i true d _ f3 f4
      cases ey
      exact ⟨h1, h2, ow.there, true, n'⟩
/-- a slot stays where what it owns stays -/
theorem slot_same {N' : Bool → Addr → Prop} {x : Option Sl} {ov : Option V} (h : SlotOk K N F H x ov) (l : Le F F') (q : ∀ y, Foot H x ov y → H' y = H y ∧ F'.fz y = none ∧ F'.iv y = none ∧ ∀ b, N b y → N' b y) :
    SlotOk K N' F' H' x ov ∧ ∀ y, Foot H' x ov y → Foot H x ov y := by
  match x, h, q with
  | none, _, _ => exact ⟨trivial, fun y f => f⟩
  | some (.sh d), ⟨v, e, r⟩, _ => exact ⟨⟨v, e, r.mono l⟩, fun y f => f⟩
  | some (.ow b d), ⟨a, e, n, hz, hi, o⟩, q =>
    obtain ⟨q1, q2, q3, q4⟩ := q a e
    exact ⟨⟨a, e, q4 _ n, q2, q3, o.mono l q1⟩, fun y f => f⟩
  | some (.o2 b sk cs), ⟨a, o, e, n, hz, hi, eo, is, hl, hk, hd⟩, q =>
    obtain ⟨q1, q2, q3, q4⟩ := q a (.inl e)
    refine ⟨⟨a, o, e, q4 _ n, q2, q3, by rw [q1, eo], is, hl, fun i c d x h1 h2 => ?_, hd⟩, fun y f => ?_⟩
    · have := hk i c d x h1 h2
      cases c with
      | false => exact Rep.mono l this
      | true =>
        obtain ⟨y, e1, e2, n', z1, z2, ow⟩ := this
        obtain ⟨p1, p2, p3, p4⟩ := q y (.inr ⟨a, o, i, d, e, eo, h1, by rw [h2, e1]⟩)
        exact ⟨y, e1, e2, p4 _ n', p2, p3, ow.mono l p1⟩
    · rcases f with f | ⟨a', o', i, d, f1, f2, f3, f4⟩
      · exact .inl f
      · refine .inr ⟨a', o', i, d, f1, ?_, f3, f4⟩
        rw [e] at f1; cases f1
        rw [q1] at f2; exact f2
theorem keep_at {a : Addr} (hs : H a ≠ none) (hz : F.fz a = none) (hi : F.iv a = none) (x : Ext No F H F' H') : H' a = H a ∧ F'.fz a = none ∧ F'.iv a = none := by
  obtain ⟨o, eo⟩ : ∃ o, H a = some o := by
    cases e : H a with
    | none => exact absurd e hs
    | some o => exact ⟨o, rfl⟩
  refine ⟨?_, ?_, ?_⟩
  · rcases x.keep a o eo with q | ⟨φ, q⟩ | q
    · exact q.elim
    · rw [hi] at q; cases q
    · rw [q, eo]
  · cases e : F'.fz a with
    | none => rfl
    | some o' =>
      rcases x.nfz a o' e with q | q
      · rw [hz] at q; cases q
      · rw [eo] at q; cases q
  · cases e : F'.iv a with
    | none => rfl
    | some o' =>
      rcases x.niv a o' e with q | q
      · rw [hi] at q; cases q
      · rw [eo] at q; cases q
theorem slot_ext {x : Option Sl} {ov : Option V} (h : SlotOk K N F H x ov) (e : Ext No F H F' H') (f : Fits F H) : SlotOk K N F' H' x ov ∧ ∀ y, Foot H' x ov y → Foot H x ov y :=
  slot_same h (e.le f) fun y fy => by
    obtain ⟨h1, h2, h3, _⟩ := foot_ok h fy
    obtain ⟨q1, q2, q3⟩ := keep_at h3 h1 h2 e
    exact ⟨q1, q2, q3, fun _ n => n⟩
theorem Stt.ext (s : Stt K N F ρ σ H) (e : Ext No F H F' H') : Stt K N F' ρ σ H' :=
  ⟨e.fits, s.len, fun i x ov h1 h2 => (slot_ext (s.slot i x ov h1 h2) e s.fits).1, fun i j x x' ov ov' y h1 h2 h3 h4 f1 f2 =>
    s.disF i j x x' ov ov' y h1 h2 h3 h4 ((slot_ext (s.slot i x ov h1 h2) e s.fits).2 y f1) ((slot_ext (s.slot j x' ov' h3 h4) e s.fits).2 y f2)⟩
theorem Stt.dis (s : Stt K N F ρ σ H) (i j : Nat) (b : Bool) (d : D) (b' : Bool) (e : D) (a : Addr) (h1 : ρ[i]? = some (some (.ow b d))) (h2 : ρ[j]? = some (some (.ow b' e))) (h3 : σ[i]? = some (some (.ref a))) (h4 : σ[j]? = some (some (.ref a))) : i = j :=
  s.disF i j _ _ _ _ a h1 h3 h2 h4 rfl rfl
theorem Stt.get (s : Stt K N F ρ σ H) {i : Nat} {d : D} (h : ρ[i]? = some (some (.sh d))) : ∃ v, σ[i]? = some (some v) ∧ Rep K F d v := by
  have hi := (List.getElem?_eq_some_iff.mp h).1
  have hi2 : i < σ.length := by rw [← s.len]; exact hi
  have h2 : σ[i]? = some σ[i] := List.getElem?_eq_getElem hi2
  obtain ⟨v, e, r⟩ := s.slot i _ _ h h2
  exact ⟨v, by rw [h2, e], r⟩
theorem Stt.geto (s : Stt K N F ρ σ H) {i : Nat} {b : Bool} {d : D} (h : ρ[i]? = some (some (.ow b d))) : ∃ a, σ[i]? = some (some (.ref a)) ∧ N b a ∧ F.fz a = none ∧ F.iv a = none ∧ OwnAt K F H a d := by
  have hi := (List.getElem?_eq_some_iff.mp h).1
  have hi2 : i < σ.length := by rw [← s.len]; exact hi
  have h2 : σ[i]? = some σ[i] := List.getElem?_eq_getElem hi2
  obtain ⟨a, e, r⟩ := s.slot i _ _ h h2
  exact ⟨a, by rw [h2, e], r⟩
theorem get_set {α : Type} {l : List α} {i j : Nat} {x y : α} (h : (l.set i x)[j]? = some y) : (i = j ∧ y = x) ∨ (i ≠ j ∧ l[j]? = some y) := by
  rw [List.getElem?_set] at h
  split at h
  · rename_i e
    subst e
    split at h
    · exact .inl ⟨rfl, (Option.some.inj h).symm⟩
    · cases h
  · exact .inr ⟨by assumption, h⟩
theorem Le.refl (F : FS) : Le F F := ⟨Same.refl _, fun _ _ h => h, fun _ h _ => h⟩
/-- one slot changes, the others stay -/
theorem Stt.put {N' : Bool → Addr → Prop} {σ' : L2.St} (s : Stt K N F ρ σ H) (i : Nat) (x' : Option Sl) (hl : σ'.length = σ.length) (hσ : ∀ j, j ≠ i → σ'[j]? = σ[j]?) (ft : Fits F' H') (le : Le F F')
    (old : ∀ j x ov y, j ≠ i → ρ[j]? = some x → σ[j]? = some ov → Foot H x ov y → H' y = H y ∧ F'.fz y = none ∧ F'.iv y = none ∧ ∀ b, N b y → N' b y)
    (new : ∀ ov, σ'[i]? = some ov → SlotOk K N' F' H' x' ov)
    (dis : ∀ ov y j x ov', σ'[i]? = some ov → Foot H' x' ov y → j ≠ i → ρ[j]? = some x → σ[j]? = some ov' → Foot H x ov' y → False) : Stt K N' F' (ρ.set i x') σ' H' := by
  have oth : ∀ j x ov, j ≠ i → ρ[j]? = some x → σ[j]? = some ov → SlotOk K N' F' H' x ov ∧ ∀ y, Foot H' x ov y → Foot H x ov y := fun j x ov nj h1 h2 =>
    slot_same (s.slot j x ov h1 h2) le fun y f => old j x ov y nj h1 h2 f
  refine ⟨ft, by rw [List.length_set, hl, s.len], fun j x ov h1 h2 => ?_, fun j k x1 x2 o1 o2 y h1 h2 h3 h4 f1 f2 => ?_⟩
  · rcases get_set h1 with ⟨e, g1⟩ | ⟨e, g1⟩
    · subst e; subst g1; exact new ov h2
    · rw [hσ j (Ne.symm e)] at h2
      exact (oth j x ov (Ne.symm e) g1 h2).1
  · rcases get_set h1 with ⟨e, g1⟩ | ⟨e, g1⟩
    · subst e; subst g1
      rcases get_set h3 with ⟨e', _⟩ | ⟨e', g3⟩
      · exact e'
      · rw [hσ k (Ne.symm e')] at h4
        exact (dis o1 y k x2 o2 h2 f1 (Ne.symm e') g3 h4 ((oth k x2 o2 (Ne.symm e') g3 h4).2 y f2)).elim
    · rw [hσ j (Ne.symm e)] at h2
      rcases get_set h3 with ⟨e', g3⟩ | ⟨e', g3⟩
      · subst e'; subst g3
        exact (dis o2 y j x1 o1 h4 f2 (Ne.symm e) g1 h2 ((oth j x1 o1 (Ne.symm e) g1 h2).2 y f1)).elim
      · rw [hσ k (Ne.symm e')] at h4
        exact s.disF j k x1 x2 o1 o2 y g1 h2 g3 h4 ((oth j x1 o1 (Ne.symm e) g1 h2).2 y f1) ((oth k x2 o2 (Ne.symm e') g3 h4).2 y f2)
theorem set_off (i : Nat) (ov : Option V) : ∀ j, j ≠ i → (σ.set i ov)[j]? = σ[j]? := fun j h => by rw [List.getElem?_set_ne (Ne.symm h)]
theorem set_on {i : Nat} {ov x : Option V} (h : (σ.set i ov)[i]? = some x) : x = ov := by
  rcases get_set h with ⟨_, q⟩ | ⟨q, _⟩
  · exact q
  · exact absurd rfl q
theorem Stt.foot (s : Stt K N F ρ σ H) {j : Nat} {x : Option Sl} {ov : Option V} {y : Addr} (h1 : ρ[j]? = some x) (h2 : σ[j]? = some ov) (f : Foot H x ov y) : F.fz y = none ∧ F.iv y = none ∧ H y ≠ none ∧ ∃ b, N b y := foot_ok (s.slot j x ov h1 h2) f
theorem Stt.set_sh (s : Stt K N F ρ σ H) {d : D} {v : V} (i : Nat) (r : Rep K F d v) : Stt K N F (ρ.set i (some (.sh d))) (σ.set i (some v)) H :=
  s.put i _ (by rw [List.length_set]) (set_off i _) s.fits (Le.refl F) (fun j x ov y _ h1 h2 f => by
    obtain ⟨q1, q2, _, _⟩ := s.foot h1 h2 f
    exact ⟨rfl, q1, q2, fun _ n => n⟩) (fun ov h => ⟨v, set_on h, r⟩) fun ov y j x ov' _ f => f.elim
/-- a slot is forgotten (whatever it then holds) -/
theorem Stt.drop (s : Stt K N F ρ σ H) (i : Nat) (ov : Option V) : Stt K N F (ρ.set i none) (σ.set i ov) H :=
  s.put i _ (by rw [List.length_set]) (set_off i _) s.fits (Le.refl F) (fun j x ov y _ h1 h2 f => by
    obtain ⟨q1, q2, _, _⟩ := s.foot h1 h2 f
    exact ⟨rfl, q1, q2, fun _ n => n⟩) (fun ov h => trivial) fun ov y j x ov' _ f => f.elim
/-- a new owned object -/
theorem Stt.set_ow (s : Stt K N F ρ σ H) {c : Bool} {d : D} {a : Addr} {o : HO} (i : Nat) (n : N c a) (hn : H a = none) (r : OwnAt K F (upd H a o) a d) : Stt K N F (ρ.set i (some (.ow c d))) (σ.set i (some (.ref a))) (upd H a o) := by
  have x : Ext No F H F (upd H a o) := Ext.newM s.fits hn
  refine s.put i _ (by rw [List.length_set]) (set_off i _) x.fits (Le.refl F) (fun j x ov y _ h1 h2 f => ?_) (fun ov h => ⟨a, set_on h, n, s.fits.none_fz hn, s.fits.none_iv hn, r⟩) fun ov y j x ov' h f _ h1 h2 f2 => ?_
  · obtain ⟨q1, q2, q3, _⟩ := s.foot h1 h2 f
    exact ⟨upd_ne (fun z => q3 (by rw [z]; exact hn)), q1, q2, fun _ n => n⟩
  · have f : ov = some (.ref y) := f
    rw [set_on h] at f; cases f
    exact (s.foot h1 h2 f2).2.2.1 hn
theorem fits_upd {a : Addr} {o : HO} (f : Fits F H) (hz : F.fz a = none) (hi : F.iv a = none) : Fits F (upd H a o) := ⟨fun b x z => by
      rw [upd_ne (fun w => by rw [w, hz] at z; cases z)]; exact f.fz _ _ z, fun b φ z => by
      obtain ⟨x, h1, h2⟩ := f.iv b φ z
      exact ⟨x, by rw [upd_ne (fun w => by rw [w, hi] at z; cases z)]; exact h1, h2⟩⟩
/-- an owned object changes -/
theorem Stt.own_upd (s : Stt K N F ρ σ H) {c : Bool} {d d' : D} {a : Addr} {o : HO} {i : Nat} (h : ρ[i]? = some (some (.ow c d))) (e : σ[i]? = some (some (.ref a))) (r : OwnAt K F (upd H a o) a d') : Stt K N F (ρ.set i (some (.ow c d'))) σ (upd H a o) := by
  obtain ⟨b, e', n, hz, hi, q⟩ := s.geto h
  rw [e] at e'
  cases e'
  refine s.put i _ rfl (fun _ _ => rfl) (fits_upd s.fits hz hi) (Le.refl F) (fun j x ov y nj h1 h2 f => ?_) (fun ov h' => ?_) fun ov y j x ov' h' f nj h1 h2 f2 => ?_
  · obtain ⟨q1, q2, q3, _⟩ := s.foot h1 h2 f
    exact ⟨upd_ne (fun z => nj (s.disF j i _ _ _ _ y h1 h2 h e f (by rw [z]; rfl))), q1, q2, fun _ n => n⟩
  · rw [e] at h'; cases h'
    exact ⟨a, rfl, n, hz, hi, r⟩
  · have f : ov = some (.ref y) := f
    rw [e] at h'; cases h'; cases f
    exact nj (s.disF j i _ _ _ _ a h1 h2 h e f2 rfl)
/-- an owned slot is frozen -/
def HO.of (o : HO) : HO := o
theorem Stt.freeze (s : Stt K N F ρ σ H) {c : Bool} {d : D} {a : Addr} {i : Nat} {o : HO} (h : ρ[i]? = some (some (.ow c d))) (e : σ[i]? = some (some (.ref a))) (ho : H a = some o) (hr : ∀ F', F'.fz a = some o → Le F F' → Rep K F' d (.ref a)) :
    Stt K N (F.add a o) (ρ.set i (some (.sh d))) σ H ∧ Le F (F.add a o) := by
  obtain ⟨b, e', n, hz, hi, q⟩ := s.geto h
  rw [e] at e'
  cases e'
  have le : Le F (F.add a o) := ⟨fun b x z => by
      show upd F.fz a o b = some x
      rw [upd_ne (fun w => by rw [w, hz] at z; cases z)]; exact z, fun _ _ q => q, fun b q1 q2 => by
      have q1 : upd F.fz a o b ≠ none := q1
      by_cases w : b = a
      · subst w; exact absurd hi q2
      · rw [upd_ne w] at q1; exact q1⟩
  refine ⟨s.put i _ rfl (fun _ _ => rfl) ⟨fun b x z => ?_, fun b φ z => let ⟨y, h1, h2⟩ := s.fits.iv b φ z; ⟨y, h1, h2⟩⟩ le (fun j x ov y nj h1 h2 f => ?_) (fun ov h' => ?_) (fun ov y j x ov' _ f => f.elim), le⟩
  · have z : upd F.fz a o b = some x := z
    by_cases w : b = a
    · subst w; rw [upd_same] at z; rw [ho]; exact z
    · rw [upd_ne w] at z; exact s.fits.fz _ _ z
  · obtain ⟨q1, q2, q3, _⟩ := s.foot h1 h2 f
    refine ⟨rfl, ?_, q2, fun _ n => n⟩
    show upd F.fz a o y = none
    rw [upd_ne (fun z => nj (s.disF j i _ _ _ _ y h1 h2 h e f (by rw [z]; rfl)))]; exact q1
  · rw [e] at h'; cases h'
    exact ⟨_, rfl, hr _ FS.add_same le⟩
theorem wipe_get {vs : List Nat} {i : Nat} {ov : Option V} (h : (wipe σ vs)[i]? = some ov) : (i ∈ vs ∧ ov = none) ∨ (i ∉ vs ∧ σ[i]? = some ov) := by
  induction vs with
  | nil => exact .inr ⟨by simp, h⟩
  | cons v vs ih =>
    have h : ((wipe σ vs).set v none)[i]? = some ov := h
    rcases get_set h with ⟨e, q⟩ | ⟨e, q⟩
    · subst e; exact .inl ⟨by simp, q⟩
    · rcases ih q with ⟨m, z⟩ | ⟨m, z⟩
      · exact .inl ⟨by simp [m], z⟩
      · exact .inr ⟨by simp [m, Ne.symm e], z⟩
def wipeE (ρ : Env) : List Nat → Env
  | [] => ρ
  | v :: vs => (wipeE ρ vs).set v none
theorem Stt.wipe (s : Stt K N F ρ σ H) : ∀ (vs : List Nat), Stt K N F (wipeE ρ vs) (wipe σ vs) H
  | [] => s
  | v :: vs => Stt.drop (Stt.wipe s vs) v none
end
end Pu
namespace Pu
open PySem PySem.Spec L2

/-! ### readings over plain data -/
abbrev PTE := Env → DK → Prop
abbrev PTT := Env → (Bool → Prop) → Prop
abbrev PTA := Env → (List D → Prop) → Prop

/-- read: a frozen value, or an owned object itself -/
def RepT (K : Fg) (F : FS) (H : Hp) (d : D) (v : V) : Prop := Rep K F d v ∨ ∃ a, v = .ref a ∧ F.fz a = none ∧ F.iv a = none ∧ OwnAt K F H a d
def RepTs (K : Fg) (F : FS) (H : Hp) : List D → List V → Prop
  | [], vs => vs = []
  | d :: ds, vs => ∃ v r, vs = v :: r ∧ RepT K F H d v ∧ RepTs K F H ds r

def L (K : Fg) (p : PTE) : TE := fun σ H Q => ∃ N F ρ P, Stt K N F ρ σ H ∧ p ρ P ∧ ∀ d v F' H', P d → Ext No F H F' H' → Rep K F' d v → Q v H'
def Lr (K : Fg) (p : PTE) : TE := fun σ H Q => ∃ N F ρ P, Stt K N F ρ σ H ∧ p ρ P ∧ ∀ d v F' H', P d → Ext No F H F' H' → RepT K F' H' d v → Q v H'
def LT (K : Fg) (p : PTT) : TT := fun σ H Q => ∃ N F ρ P, Stt K N F ρ σ H ∧ p ρ P ∧ ∀ b F' H', P b → Ext No F H F' H' → Q b H'
def LA (K : Fg) (p : PTA) : TA := fun σ H Q => ∃ N F ρ P, Stt K N F ρ σ H ∧ p ρ P ∧ ∀ ds vs F' H', P ds → Ext No F H F' H' → Reps K F' ds vs → Q vs H'
def LAr (K : Fg) (p : PTA) : TA := fun σ H Q => ∃ N F ρ P, Stt K N F ρ σ H ∧ p ρ P ∧ ∀ ds vs F' H', P ds → Ext No F H F' H' → RepTs K F' H' ds vs → Q vs H'

def pe (X : Cx) (e : Expr) (p : PTE) : Prop := PE X e (L X.K p)
def pr (X : Cx) (e : Expr) (p : PTE) : Prop := PE X e (Lr X.K p)
def pt (X : Cx) (e : Expr) (p : PTT) : Prop := PT X e (LT X.K p)
def pw (X : Cx) (e : Expr) (p : PTT) : Prop := PW X e (LT X.K p)
def pa (X : Cx) (es : List Expr) (p : PTA) : Prop := PA X es (LA X.K p)
def par (X : Cx) (es : List Expr) (p : PTA) : Prop := PA X es (LAr X.K p)

section
variable {K : Fg} {F F' : FS} {H H' : Hp} {X : Cx}
theorem PE_weak {e : Expr} {t t' : TE} (h : PE X e t) (w : ∀ σ H Q, t' σ H Q → t σ H Q) : PE X e t' := ⟨fun pins s σ H Q I q => h.run pins s σ H Q I (w _ _ _ q)⟩
theorem PT_weak {e : Expr} {t t' : TT} (h : PT X e t) (w : ∀ σ H Q, t' σ H Q → t σ H Q) : PT X e t' := ⟨fun pins s σ H Q I q => h.run pins s σ H Q I (w _ _ _ q)⟩
theorem PW_weak {e : Expr} {t t' : TT} (h : PW X e t) (w : ∀ σ H Q, t' σ H Q → t σ H Q) : PW X e t' := ⟨fun wh pins s σ H Q I q => h.run wh pins s σ H Q I (w _ _ _ q)⟩
theorem PA_weak {e : List Expr} {t t' : TA} (h : PA X e t) (w : ∀ σ H Q, t' σ H Q → t σ H Q) : PA X e t' := ⟨fun pos pins s σ H Q I q => h.run pos pins s σ H Q I (w _ _ _ q)⟩

theorem RepT.ext {d : D} {v : V} (r : RepT K F H d v) (x : Ext No F H F' H') (f : Fits F H) : RepT K F' H' d v := by
  rcases r with r | ⟨a, e, hz, hi, o⟩
  · exact .inl (r.ext x f)
  · obtain ⟨r1, r2, r3⟩ := own_keep o hz hi x f
    exact .inr ⟨a, e, r2, r3, r1⟩
theorem RepTs.ext (x : Ext No F H F' H') (f : Fits F H) : ∀ {ds : List D} {vs : List V}, RepTs K F H ds vs → RepTs K F' H' ds vs
  | [], _, r => r
  | d :: ds, _, ⟨v, q, e, h1, h2⟩ => ⟨v, q, e, h1.ext x f, RepTs.ext x f h2⟩
theorem Reps.T : ∀ {ds : List D} {vs : List V}, Reps K F ds vs → RepTs K F H ds vs
  | [], _, r => by simpa only [Reps, RepTs] using r
  | d :: ds, _, r => by
    simp only [Reps] at r
    obtain ⟨v, q, e, h1, h2⟩ := r
    exact ⟨v, q, e, .inl h1, Reps.T h2⟩
theorem RepT.non {v : V} (r : RepT K F H .non v) : v = .non := by
  rcases r with r | ⟨a, e, _, _, o⟩
  · simpa only [Rep] using r
  · exact o.elim
theorem RepT.bl {b : Bool} {v : V} (r : RepT K F H (.bl b) v) : v = .bl b := by
  rcases r with r | ⟨a, e, _, _, o⟩
  · simpa only [Rep] using r
  · exact o.elim
theorem RepT.int {i : Int} {v : V} (r : RepT K F H (.int i) v) : v = .int i := by
  rcases r with r | ⟨a, e, _, _, o⟩
  · simpa only [Rep] using r
  · exact o.elim
theorem RepT.str {i : Str} {v : V} (r : RepT K F H (.str i) v) : v = .str i := by
  rcases r with r | ⟨a, e, _, _, o⟩
  · simpa only [Rep] using r
  · exact o.elim
theorem RepT.lst {ds : List D} {v : V} (r : RepT K F H (.lst ds) v) (f : Fits F H) : ∃ a vs, v = .ref a ∧ H a = some (.lst vs) ∧ Reps K F ds vs := by
  rcases r with r | ⟨a, e, _, _, o⟩
  · simp only [Rep] at r
    obtain ⟨a, vs, e, h, q⟩ := r
    exact ⟨a, vs, e, f.fz _ _ h, q⟩
  · obtain ⟨vs, h, q⟩ := o
    exact ⟨a, vs, e, h, q⟩
theorem RepT.klst {ds : List D} {v : V} (r : RepT K F H (.klst ds) v) (f : Fits F H) : ∃ a vs, v = .ref a ∧ SqL K H a vs ∧ Reps K F ds vs := by
  rcases r with r | ⟨a, e, _, _, o⟩
  · simp only [Rep] at r
    obtain ⟨a, vs, e, h, q⟩ := r
    exact ⟨a, vs, e, f.fz.seq h, q⟩
  · exact o.elim
theorem RepT.tup {ds : List D} {v : V} (r : RepT K F H (.tup ds) v) (f : Fits F H) : ∃ a vs, v = .ref a ∧ SqT K H a vs ∧ Reps K F ds vs := by
  rcases r with r | ⟨a, e, _, _, o⟩
  · simp only [Rep] at r
    obtain ⟨a, vs, e, h, q⟩ := r
    exact ⟨a, vs, e, Same.seqT f.fz (.inl (.inl h)), q⟩
  · exact o.elim
theorem RepT.ktup {ds : List D} {v : V} (r : RepT K F H (.ktup ds) v) (f : Fits F H) : ∃ a vs, v = .ref a ∧ SqT K H a vs ∧ Reps K F ds vs := by
  rcases r with r | ⟨a, e, _, _, o⟩
  · simp only [Rep] at r
    obtain ⟨a, vs, e, h, q⟩ := r
    exact ⟨a, vs, e, Same.seqT f.fz h, q⟩
  · exact o.elim
theorem RepT.dK {ks : List Key} {ds : List D} {v : V} (r : RepT K F H (.dK ks ds) v) (f : Fits F H) : ∃ a vs, v = .ref a ∧ H a = some (.dK (ks.zip vs)) ∧ ks.length = ds.length ∧ Reps K F ds vs := by
  rcases r with r | ⟨a, e, _, _, o⟩
  · simp only [Rep] at r
    obtain ⟨a, vs, e, h, q⟩ := r
    exact ⟨a, vs, e, f.fz _ _ h, q⟩
  · obtain ⟨vs, h, q⟩ := o
    exact ⟨a, vs, e, h, q⟩
theorem RepT.dT {ks : List (List Key)} {ds : List D} {v : V} (r : RepT K F H (.dT ks ds) v) (f : Fits F H) : ∃ a vs, v = .ref a ∧ H a = some (.dT (ks.zip vs)) ∧ ks.length = ds.length ∧ Reps K F ds vs := by
  rcases r with r | ⟨a, e, _, _, o⟩
  · simp only [Rep] at r
    obtain ⟨a, vs, e, h, q⟩ := r
    exact ⟨a, vs, e, f.fz _ _ h, q⟩
  · obtain ⟨vs, h, q⟩ := o
    exact ⟨a, vs, e, h, q⟩
theorem RepT.ins {C : Addr} {ns : List Str} {ds : List D} {v : V} (r : RepT K F H (.ins C ns ds) v) (f : Fits F H) : ∃ a dx vs, v = .ref a ∧ H a = some (.ins C dx (ns.zip vs)) ∧ ns.length = ds.length ∧ Reps K F ds vs := by
  rcases r with r | ⟨a, e, _, _, o⟩
  · simp only [Rep] at r
    obtain ⟨a, dx, vs, e, h, q⟩ := r
    exact ⟨a, dx, vs, e, f.fz _ _ h, q⟩
  · obtain ⟨dx, vs, h, q⟩ := o
    exact ⟨a, dx, vs, e, h, q⟩
theorem rep_non : Rep K F .non .non := by simp only [Rep]
theorem rep_bl {b : Bool} : Rep K F (.bl b) (.bl b) := by simp only [Rep]
theorem rep_int {b : Int} : Rep K F (.int b) (.int b) := by simp only [Rep]
theorem rep_str {b : Str} : Rep K F (.str b) (.str b) := by simp only [Rep]
theorem rep_lst {ds : List D} {a : Addr} {vs : List V} (h : F.fz a = some (.lst vs)) (r : Reps K F ds vs) : Rep K F (.lst ds) (.ref a) := by
  simp only [Rep]; exact ⟨a, vs, rfl, h, r⟩
theorem rep_tup {ds : List D} {a : Addr} {vs : List V} (h : F.fz a = some (.tup vs)) (r : Reps K F ds vs) : Rep K F (.tup ds) (.ref a) := by
  simp only [Rep]; exact ⟨a, vs, rfl, h, r⟩
theorem rep_tup' {ds : List D} {a : Addr} {vs : List V} (h : SqT K F.fz a vs) (r : Reps K F ds vs) : Rep K F (.ktup ds) (.ref a) := by
  simp only [Rep]; exact ⟨a, vs, rfl, h, r⟩

/-! ### the outcome of a step, in short -/
/-- what a continuation wants: Q at every value of a datum of P in a grown heap -/
def Kont (K : Fg) (F : FS) (H : Hp) (P : DK) (Q : VK) : Prop := ∀ d v F' H', P d → Ext No F H F' H' → Rep K F' d v → Q v H'
theorem Kont.here {P : DK} {Q : VK} (k : Kont K F H P Q) (f : Fits F H) {d : D} {v : V} (p : P d) (r : Rep K F d v) : Q v H := k d v F H p (Ext.refl f) r
theorem Kont.int {P : DK} {Q : VK} (k : Kont K F H P Q) (f : Fits F H) {i : Int} (p : P (.int i)) : Q (.int i) H := k.here f p rep_int
theorem Kont.bl {P : DK} {Q : VK} (k : Kont K F H P Q) (f : Fits F H) {i : Bool} (p : P (.bl i)) : Q (.bl i) H := k.here f p rep_bl
theorem Kont.str {P : DK} {Q : VK} (k : Kont K F H P Q) (f : Fits F H) {i : Str} (p : P (.str i)) : Q (.str i) H := k.here f p rep_str
theorem Kont.non {P : DK} {Q : VK} (k : Kont K F H P Q) (f : Fits F H) (p : P .non) : Q .non H := k.here f p rep_non
theorem Kont.lst {P : DK} {Q : VK} (k : Kont K F H P Q) (f : Fits F H) {ds : List D} {vs : List V} (p : P (.lst ds)) (r : Reps K F ds vs) : ∀ a, H a = none → Q (.ref a) (upd H a (.lst vs)) := fun a ha => by
  have x : Ext No F H (F.add a (.lst vs)) (upd H a (.lst vs)) := Ext.new f ha
  exact k _ _ _ _ p x (rep_lst FS.add_same (r.ext x f))
theorem Kont.tup {P : DK} {Q : VK} (k : Kont K F H P Q) (f : Fits F H) {ds : List D} {vs : List V} (p : P (.tup ds)) (r : Reps K F ds vs) : ∀ a, H a = none → Q (.ref a) (upd H a (.tup vs)) := fun a ha => by
  have x : Ext No F H (F.add a (.tup vs)) (upd H a (.tup vs)) := Ext.new f ha
  exact k _ _ _ _ p x (rep_tup FS.add_same (r.ext x f))
theorem Kont.ext {P : DK} {Q : VK} (k : Kont K F H P Q) (x : Ext No F H F' H') : Kont K F' H' P Q := fun d v F2 H2 p y r => k d v F2 H2 p (x.then0 y) r

/-! ### names, constants -/
def atSh (P : DK) : Option (Option Sl) → Prop
  | some (some (.sh d)) => P d
  | _ => False
def atAny (P : DK) : Option (Option Sl) → Prop
  | some (some (.sh d)) => P d
  | some (some (.ow _ d)) => P d
  | _ => False
def pVar (i : Nat) : PTE := fun ρ P => atSh P ρ[i]?
def pVarR (i : Nat) : PTE := fun ρ P => atAny P ρ[i]?
theorem atSh_inv {P : DK} {x : Option (Option Sl)} (h : atSh P x) : ∃ d, x = some (some (.sh d)) ∧ P d := by
  match x, h with
  | some (some (.sh d)), h => exact ⟨d, rfl, h⟩
theorem atAny_inv {P : DK} {x : Option (Option Sl)} (h : atAny P x) : ∃ d, (x = some (some (.sh d)) ∨ ∃ b, x = some (some (.ow b d))) ∧ P d := by
  match x, h with
  | some (some (.sh d)), h => exact ⟨d, .inl rfl, h⟩
  | some (some (.ow b d)), h => exact ⟨d, .inr ⟨b, rfl⟩, h⟩
def pC (d : D) : PTE := fun _ P => P d
theorem pe.r {e : Expr} {p : PTE} (h : pe X e p) : pr X e p := PE_weak h fun σ H Q ⟨N, F, ρ, P, s, q, k⟩ => ⟨N, F, ρ, P, s, q, fun d v F' H' a b c => k d v F' H' a b (.inl c)⟩
theorem pa.r {e : List Expr} {p : PTA} (h : pa X e p) : par X e p := PA_weak h fun σ H Q ⟨N, F, ρ, P, s, q, k⟩ => ⟨N, F, ρ, P, s, q, fun d v F' H' a b c => k d v F' H' a b c.T⟩
theorem e_var (i : Nat) {x : Str} {pos : Pos} (hN : X.N[i]? = some x := by rfl) (hv : Vis X.env.scope x := by first | exact Or.inl rfl | exact Or.inr (Or.inl rfl) | exact Or.inr (Or.inr rfl)) (hd : (x == ("__debug__" : Str)) = false := by decide)
    (hcd : (x == ("__classdict__" : Str)) = false := by decide) : pe X (.Name x pos) (pVar i) :=
  PE_weak (pe_var hN hv hd hcd) fun σ H Q ⟨N, F, ρ, P, s, q, k⟩ => by
    obtain ⟨d, e, p⟩ := atSh_inv q
    obtain ⟨v, e2, r⟩ := s.get e
    exact ⟨v, e2, k d v F H p (Ext.refl s.fits) r⟩
theorem r_var (i : Nat) {x : Str} {pos : Pos} (hN : X.N[i]? = some x := by rfl) (hv : Vis X.env.scope x := by first | exact Or.inl rfl | exact Or.inr (Or.inl rfl) | exact Or.inr (Or.inr rfl)) (hd : (x == ("__debug__" : Str)) = false := by decide)
    (hcd : (x == ("__classdict__" : Str)) = false := by decide) : pr X (.Name x pos) (pVarR i) :=
  PE_weak (pe_var hN hv hd hcd) fun σ H Q ⟨N, F, ρ, P, s, q, k⟩ => by
    obtain ⟨d, e, p⟩ := atAny_inv q
    rcases e with e | e
    · obtain ⟨v, e2, r⟩ := s.get e
      exact ⟨v, e2, k d v F H p (Ext.refl s.fits) (.inl r)⟩
    · obtain ⟨b, e⟩ := e
      obtain ⟨a, e2, _, r1, r2, r3⟩ := s.geto e
      exact ⟨.ref a, e2, k d _ F H p (Ext.refl s.fits) (.inr ⟨a, rfl, r1, r2, r3⟩)⟩
theorem e_const {e : Expr} {v : V} {d : D} (h : PE X e (tC v)) (r : ∀ F, Rep X.K F d v) : pe X e (pC d) :=
  PE_weak h fun σ H Q ⟨N, F, ρ, P, s, p, k⟩ => k d v F H p (Ext.refl s.fits) (r F)
theorem e_int {i j pos} : pe X (.Constant (.int i) j pos) (pC (.int i)) := e_const pe_int fun _ => rep_int
theorem e_bl {b j pos} : pe X (.Constant (.bool b) j pos) (pC (.bl b)) := e_const pe_bl fun _ => rep_bl
theorem e_non {j pos} : pe X (.Constant .none j pos) (pC .non) := e_const pe_non fun _ => rep_non
theorem e_str {x j pos} : pe X (.Constant (.str x) j pos) (pC (.str x)) := e_const pe_str fun _ => rep_str
/-- a module's constant: an int, a text, a tuple .. -/
theorem e_glob {x : Str} {v : V} {u : Value} {d : D} {pos : Pos} (hg : Gl X x) (hm : X.mg x = some u) (r : RelV v u) (q : ∀ F, Rep X.K F d v) (hd : (x == ("__debug__" : Str)) = false := by decide) : pe X (.Name x pos) (pC d) := e_const (pe_glob hg hm r hd) q

/-! ### two operands -/
def pOp (w : D → D → DK → Prop) (pa pb : PTE) : PTE := fun ρ P => pa ρ fun d => pb ρ fun e => w d e P
def opS (X : Cx) (f : Value → Value → Sem Value) (w : D → D → DK → Prop) : Prop :=
  ∃ r, OpR X f r ∧ ∀ d e x y F H P Q, Fits F H → RepT X.K F H d x → RepT X.K F H e y → w d e P → Kont X.K F H P Q → r x y H Q
theorem two {a b : Expr} {pa pb : PTE} {w : D → D → DK → Prop} {r : R2} (hr : ∀ d e x y F H P Q, Fits F H → RepT X.K F H d x → RepT X.K F H e y → w d e P → Kont X.K F H P Q → r x y H Q) :
    ∀ σ H Q, L X.K (pOp w pa pb) σ H Q → tOp r (Lr X.K pa) (Lr X.K pb) σ H Q := fun σ H Q ⟨N, F, ρ, P, s, p, k⟩ =>
  ⟨N, F, ρ, _, s, p, fun d v F1 H1 p1 x1 r1 => ⟨N, F1, ρ, _, s.ext x1, p1, fun e u F2 H2 p2 x2 r2 =>
    hr d e v u F2 H2 P Q x2.fits (r1.ext x2 x1.fits) r2 p2 fun d' v' F' H' a b c => k d' v' F' H' a ((x1.then0 x2).then0 b) c⟩⟩
theorem e_bin {a b : Expr} {pa pb : PTE} {op : Operator} {w : D → D → DK → Prop} {pos : Pos} (ho : opS X (binaryOp op) w) (ha : pr X a pa) (hb : pr X b pb) : pe X (.BinOp a op b pos) (pOp w pa pb) := by
  obtain ⟨r, h, hr⟩ := ho
  exact PE_weak (pe_op h ha hb) (two (a := a) (b := b) hr)
theorem e_cmp {a b : Expr} {pa pb : PTE} {op : CmpOp} {w : D → D → DK → Prop} {pos : Pos} (ho : opS X (compareOp op) w) (ha : pr X a pa) (hb : pr X b pb) (hm : behindInMarks op b = false := by first | exact nomark _ | rfl | with_unfolding_all rfl) : pe X (.Compare a [op] [b] pos) (pOp w pa pb) := by
  obtain ⟨r, h, hr⟩ := ho
  exact PE_weak (pe_cmpR h ha hb hm) (two (a := a) (b := b) hr)

/-! ### ints -/
def addW : D → D → DK → Prop
  | .int i, .int j, P => P (.int (i + j))
  | .int i, .bl k, P => P (.int (i + PyProof.Rows.b2i k))
  | .str i, .str j, P => i.length + j.length ≤ sizeLine ∧ P (.str (i ++ j))
  | .lst a, .lst b, P => a.length + b.length ≤ sizeLine ∧ P (.lst (a ++ b))
  | .tup a, .tup b, P => a.length + b.length ≤ sizeLine ∧ P (.tup (a ++ b))
  | _, _, _ => False
theorem o_add : opS X (binaryOp .Add) addW := by
  refine ⟨_, (((OpR.or op_add op_add_ib).or op_add_str).or op_cat).or op_catA, fun d e x y F H P Q f r1 r2 h k => ?_⟩
  cases d <;> try exact h.elim
  · cases e <;> try exact h.elim
    · exact .inl (.inl (.inl (.inr ⟨_, _, r1.int, r2.bl, k.int f h⟩)))
    · exact .inl (.inl (.inl (.inl ⟨_, _, r1.int, r2.int, k.int f h⟩)))
  · cases e <;> try exact h.elim
    exact .inl (.inl (.inr ⟨_, _, r1.str, r2.str, h.1, k.str f h.2⟩))
  · cases e <;> try exact h.elim
    rename_i d1 d2
    obtain ⟨a, vs, rfl, h1, q1⟩ := r1.tup f
    obtain ⟨b, us, rfl, h2, q2⟩ := r2.tup f
    have z1 : RepT X.K F H (.tup d1) (.ref a) := r1
    refine .inr ⟨a, b, vs, us, rfl, rfl, h1, h2, by rw [q1.length, q2.length]; exact h.1, fun e => ?_, fun e e2 => ?_, fun _ _ => k.tup f h.2 (q1.append q2)⟩
    · have : d1 = [] := by have := q1.length; rw [e] at this; exact List.length_eq_zero_iff.mp this.symm
      subst this
      rcases r2 with r2 | ⟨_, _, _, _, o⟩
      · exact k.here f h.2 r2
      · exact o.elim
    · have : d2 = [] := by have := q2.length; rw [e2] at this; exact List.length_eq_zero_iff.mp this.symm
      subst this
      rcases r1 with r1 | ⟨_, _, _, _, o⟩
      · exact k.here f h.2 (by rw [List.append_nil]; exact r1)
      · exact o.elim
  · cases e <;> try exact h.elim
    obtain ⟨a, vs, rfl, h1, q1⟩ := r1.lst f
    obtain ⟨b, us, rfl, h2, q2⟩ := r2.lst f
    refine .inl (.inr ⟨a, b, vs, us, rfl, rfl, h1, h2, by rw [q1.length, q2.length]; exact h.1, k.lst f h.2 (q1.append q2)⟩)
def intW (g : Int → Int → DK → Prop) : D → D → DK → Prop
  | .int i, .int j, P => g i j P
  | _, _, _ => False
theorem o_int {fo : Value → Value → Sem Value} {C : Int → Int → Prop} {g : Int → Int → Int} (h : OpR X fo (rI C fun i j => .int (g i j))) : opS X fo (intW fun i j P => C i j ∧ P (.int (g i j))) := by
  refine ⟨_, h, fun d e x y F H P Q f r1 r2 h k => ?_⟩
  cases d <;> try exact h.elim
  cases e <;> try exact h.elim
  exact ⟨_, _, r1.int, r2.int, h.1, k.int f h.2⟩
theorem o_int0 {fo : Value → Value → Sem Value} {g : Int → Int → Int} (h : OpR X fo (rI0 fun i j => .int (g i j))) : opS X fo (intW fun i j P => P (.int (g i j))) := by
  refine ⟨_, h, fun d e x y F H P Q f r1 r2 h k => ?_⟩
  cases d <;> try exact h.elim
  cases e <;> try exact h.elim
  exact ⟨_, _, r1.int, r2.int, k.int f h⟩
theorem o_intB {fo : Value → Value → Sem Value} {g : Int → Int → Bool} (h : OpR X fo (rI0 fun i j => .bl (g i j))) : opS X fo (intW fun i j P => P (.bl (g i j))) := by
  refine ⟨_, h, fun d e x y F H P Q f r1 r2 h k => ?_⟩
  cases d <;> try exact h.elim
  cases e <;> try exact h.elim
  exact ⟨_, _, r1.int, r2.int, k.bl f h⟩
def subW : D → D → DK → Prop := intW fun i j P => P (.int (i - j))
def fdivW : D → D → DK → Prop := intW fun i j P => CDivW i j ∧ P (.int (i / j))
def modW : D → D → DK → Prop := intW fun i j P => 0 < j ∧ P (.int (i % j))
def powW : D → D → DK → Prop := intW fun i j P => CPow i j ∧ P (.int (i ^ j.toNat))
def ltW : D → D → DK → Prop := intW fun i j P => P (.bl (decide (i < j)))
def leW : D → D → DK → Prop := intW fun i j P => P (.bl (decide (i ≤ j)))
def gtW : D → D → DK → Prop := intW fun i j P => P (.bl (decide (j < i)))
def geW : D → D → DK → Prop := intW fun i j P => P (.bl (decide (j ≤ i)))
theorem o_sub : opS X (binaryOp .Sub) subW := o_int0 op_sub
theorem o_fdiv : opS X (binaryOp .FloorDiv) fdivW := o_int op_fdivW
theorem o_mod : opS X (binaryOp .Mod) modW := o_int op_mod
theorem o_pow : opS X (binaryOp .Pow) powW := o_int op_pow
theorem o_lt : opS X (compareOp .Lt) ltW := o_intB op_lt
theorem o_le : opS X (compareOp .LtE) leW := o_intB op_le
theorem o_gt : opS X (compareOp .Gt) gtW := o_intB op_gt
theorem o_ge : opS X (compareOp .GtE) geW := o_intB op_ge
/-- a product of two ints (their bits together below a million, or one of them small); a list times an int -/
def MulOk (i j : Int) : Prop := CMul i j ∨ CMulW i j
def mulW : D → D → DK → Prop
  | .int i, .int j, P => MulOk i j ∧ P (.int (i * j))
  | .lst a, .int k, P => -(2 ^ 63) ≤ k ∧ k < 2 ^ 63 ∧ a.length * k.toNat ≤ sizeLine ∧ P (.lst (List.replicate k.toNat a).flatten)
  | _, _, _ => False
theorem Reps.rep {ds : List D} {vs : List V} (r : Reps K F ds vs) : ∀ n : Nat, Reps K F (List.replicate n ds).flatten (List.replicate n vs).flatten
  | 0 => by simpa using Reps.nil
  | n + 1 => by
    rw [List.replicate_succ, List.flatten_cons, List.replicate_succ, List.flatten_cons]
    exact r.append (Reps.rep r n)
theorem o_mul : opS X (binaryOp .Mult) mulW := by
  refine ⟨_, (op_mul.or op_mulW).or op_rep, fun d e x y F H P Q f r1 r2 h k => ?_⟩
  cases d <;> try exact h.elim
  · cases e <;> try exact h.elim
    rcases h.1 with h1 | h1
    · exact .inl (.inl ⟨_, _, r1.int, r2.int, h1, k.int f h.2⟩)
    · exact .inl (.inr ⟨_, _, r1.int, r2.int, h1, k.int f h.2⟩)
  · cases e <;> try exact h.elim
    obtain ⟨a, vs, rfl, h1, q1⟩ := r1.lst f
    exact .inr ⟨a, _, vs, rfl, r2.int, h1, h.1, h.2.1, by rw [q1.length]; exact h.2.2.1, k.lst f h.2.2.2 (q1.rep _)⟩

/-! ### == -/
mutual
def D.py : D → PyData
  | .non => .none
  | .bl b => .bool b
  | .int i => .int i
  | .str s => .str s
  | .tup ds => .tuple (D.pys ds)
  | .lst ds => .list (D.pys ds)
  | .klst ds => .list (D.pys ds)
  | .ktup ds => .tuple (D.pys ds)
  | .dK _ _ => .dict []
  | .dT _ _ => .dict []
  | .ins _ _ _ => .dict []
  | .pool => .dict []
  | .rf _ => .dict []
  | .at _ _ => .dict []
  | .exc _ _ _ => .dict []
  | .exo _ _ _ _ _ => .dict []
def D.pys : List D → List PyData
  | [] => []
  | d :: ds => d.py :: D.pys ds
end
mutual
/-- data alone: no dict, no object within -/
def D.plain : D → Bool
  | .non => true
  | .bl _ => true
  | .int _ => true
  | .str _ => true
  | .tup ds => D.plains ds
  | .lst ds => D.plains ds
  | .klst ds => D.plains ds
  | .ktup ds => D.plains ds
  | _ => false
def D.plains : List D → Bool
  | [] => true
  | d :: ds => d.plain && D.plains ds
end
mutual
theorem Rep.dp (f : Same F.fz H) : ∀ {d : D} {v : V}, Rep K F d v → d.plain = true → Dp K H v d.py
  | .non, _, r, _ => by simp only [Rep] at r; subst r; exact .non
  | .bl _, _, r, _ => by simp only [Rep] at r; subst r; exact .bl _
  | .int _, _, r, _ => by simp only [Rep] at r; subst r; exact .int _
  | .str _, _, r, _ => by simp only [Rep] at r; subst r; exact .str _
  | .tup ds, v, r, h => by
    simp only [Rep] at r
    obtain ⟨a, vs, rfl, s, q⟩ := r
    simp only [D.py]
    exact .tup (.inl (.inl (f _ _ s))) (Reps.dp f q (by simpa only [D.plain] using h))
  | .lst ds, v, r, h => by
    simp only [Rep] at r
    obtain ⟨a, vs, rfl, s, q⟩ := r
    simp only [D.py]
    exact .lst (.inl (.inl (f _ _ s))) (Reps.dp f q (by simpa only [D.plain] using h))
  | .klst ds, v, r, h => by
    simp only [Rep] at r
    obtain ⟨a, vs, rfl, s, q⟩ := r
    simp only [D.py]
    exact .lst (f.seq s) (Reps.dp f q (by simpa only [D.plain] using h))
  | .ktup ds, v, r, h => by
    simp only [Rep] at r
    obtain ⟨a, vs, rfl, s, q⟩ := r
    simp only [D.py]
    exact .tup (Same.seqT f s) (Reps.dp f q (by simpa only [D.plain] using h))
  | .dK _ _, _, _, h => by simp [D.plain] at h
  | .dT _ _, _, _, h => by simp [D.plain] at h
  | .ins _ _ _, _, _, h => by simp [D.plain] at h
  | .pool, _, _, h => by simp [D.plain] at h
  | .rf _, _, _, h => by simp [D.plain] at h
  | .exc _ _ _, _, _, h => by simp [D.plain] at h
  | .exo _ _ _ _ _, _, _, h => by simp [D.plain] at h
theorem Reps.dp (f : Same F.fz H) : ∀ {ds : List D} {vs : List V}, Reps K F ds vs → D.plains ds = true → DpAll K H vs (D.pys ds)
  | [], _, r, _ => by simp only [Reps] at r; subst r; simp only [D.pys]; exact .nil
  | d :: ds, _, r, h => by
    simp only [Reps] at r
    obtain ⟨v, q, rfl, h1, h2⟩ := r
    simp only [D.plains, Bool.and_eq_true] at h
    simp only [D.pys]
    exact .cons (Rep.dp f h1 h.1) (Reps.dp f h2 h.2)
end
theorem RepT.dp {d : D} {v : V} (r : RepT K F H d v) (f : Fits F H) (h : d.plain = true) : Dp K H v d.py := by
  rcases r with r | ⟨a, rfl, _, _, o⟩
  · exact r.dp f.fz h
  · cases d <;> simp only [OwnAt] at o
    · obtain ⟨vs, h1, q⟩ := o
      simp only [D.py]
      exact .lst (.inl (.inl h1)) (Reps.dp f.fz q (by simpa only [D.plain] using h))
    · simp [D.plain] at h
    · simp [D.plain] at h
    · simp [D.plain] at h
/-- fit for == : data, depth and texts within the library's bounds -/
def D.ok (d : D) : Prop := d.plain = true ∧ SeqAt.shaped d.py = true
def D.eqv (d e : D) : Bool := PyData.eqv d.py e.py
def eqW : D → D → DK → Prop
  | .int i, .int j, P => P (.bl (decide (i = j)))
  | .str i, .str j, P => P (.bl (decide (i = j)))
  | .bl i, .bl j, P => P (.bl (decide (i = j)))
  | .non, .non, P => P (.bl true)
  | .non, .int _, P => P (.bl false)
  | .int _, .non, P => P (.bl false)
  | .non, .str _, P => P (.bl false)
  | .str _, .non, P => P (.bl false)
  | .int _, .str _, P => P (.bl false)
  | .str _, .int _, P => P (.bl false)
  | d, e, P => d.ok ∧ e.ok ∧ P (.bl (d.eqv e))
def neW : D → D → DK → Prop
  | .int i, .int j, P => P (.bl (!decide (i = j)))
  | .str i, .str j, P => P (.bl (!decide (i = j)))
  | .bl i, .bl j, P => P (.bl (!decide (i = j)))
  | .non, .non, P => P (.bl false)
  | .non, .int _, P => P (.bl true)
  | .int _, .non, P => P (.bl true)
  | .non, .str _, P => P (.bl true)
  | .str _, .non, P => P (.bl true)
  | .int _, .str _, P => P (.bl true)
  | .str _, .int _, P => P (.bl true)
  | d, e, P => d.ok ∧ e.ok ∧ P (.bl (!d.eqv e))
theorem dec_V_int {i j : Int} : decide (V.int i = V.int j) = decide (i = j) := by simp
theorem dec_V_str {i j : Str} : decide (V.str i = V.str j) = decide (i = j) := by simp
theorem dec_V_bl {i j : Bool} : decide (V.bl i = V.bl j) = decide (i = j) := by simp
theorem o_eq (hu : X.A.units + 64 < cLine) : opS X (compareOp .Eq) eqW := by
  refine ⟨_, op_eq.or (op_eqD hu), fun d e x y F H P Q f r1 r2 h k => ?_⟩
  have deep : d.ok ∧ e.ok ∧ P (.bl (d.eqv e)) → (rEq x y H Q ∨ rEqD X.K x y H Q) := fun ⟨h1, h2, h3⟩ =>
    .inr ⟨_, _, r1.dp f h1.1, r2.dp f h2.1, h1.2, h2.2, k.bl f h3⟩
  cases d <;> cases e <;> first
    | exact deep h
    | (have e1 := r1.int; have e2 := r2.int; subst e1; subst e2; refine .inl ⟨rfl, ?_⟩; rw [dec_V_int]; exact k.bl f h)
    | (have e1 := r1.str; have e2 := r2.str; subst e1; subst e2; refine .inl ⟨rfl, ?_⟩; rw [dec_V_str]; exact k.bl f h)
    | (have e1 := r1.bl; have e2 := r2.bl; subst e1; subst e2; refine .inl ⟨rfl, ?_⟩; rw [dec_V_bl]; exact k.bl f h)
    | (have e1 := r1.non; have e2 := r2.non; subst e1; subst e2; exact .inl ⟨rfl, k.bl f h⟩)
    | (have e1 := r1.non; have e2 := r2.int; subst e1; subst e2; exact .inl ⟨rfl, k.bl f h⟩)
    | (have e1 := r1.int; have e2 := r2.non; subst e1; subst e2; exact .inl ⟨rfl, k.bl f h⟩)
    | (have e1 := r1.non; have e2 := r2.str; subst e1; subst e2; exact .inl ⟨rfl, k.bl f h⟩)
    | (have e1 := r1.str; have e2 := r2.non; subst e1; subst e2; exact .inl ⟨rfl, k.bl f h⟩)
    | (have e1 := r1.int; have e2 := r2.str; subst e1; subst e2; exact .inl ⟨rfl, k.bl f h⟩)
    | (have e1 := r1.str; have e2 := r2.int; subst e1; subst e2; exact .inl ⟨rfl, k.bl f h⟩)
theorem o_ne (hu : X.A.units + 64 < cLine) : opS X (compareOp .NotEq) neW := by
  refine ⟨_, op_ne.or (op_neD hu), fun d e x y F H P Q f r1 r2 h k => ?_⟩
  have deep : d.ok ∧ e.ok ∧ P (.bl (!d.eqv e)) → (rNe x y H Q ∨ rNeD X.K x y H Q) := fun ⟨h1, h2, h3⟩ =>
    .inr ⟨_, _, r1.dp f h1.1, r2.dp f h2.1, h1.2, h2.2, k.bl f h3⟩
  cases d <;> cases e <;> first
    | exact deep h
    | (have e1 := r1.int; have e2 := r2.int; subst e1; subst e2; refine .inl ⟨rfl, ?_⟩; rw [dec_V_int]; exact k.bl f h)
    | (have e1 := r1.str; have e2 := r2.str; subst e1; subst e2; refine .inl ⟨rfl, ?_⟩; rw [dec_V_str]; exact k.bl f h)
    | (have e1 := r1.bl; have e2 := r2.bl; subst e1; subst e2; refine .inl ⟨rfl, ?_⟩; rw [dec_V_bl]; exact k.bl f h)
    | (have e1 := r1.non; have e2 := r2.non; subst e1; subst e2; exact .inl ⟨rfl, k.bl f h⟩)
    | (have e1 := r1.non; have e2 := r2.int; subst e1; subst e2; exact .inl ⟨rfl, k.bl f h⟩)
    | (have e1 := r1.int; have e2 := r2.non; subst e1; subst e2; exact .inl ⟨rfl, k.bl f h⟩)
    | (have e1 := r1.non; have e2 := r2.str; subst e1; subst e2; exact .inl ⟨rfl, k.bl f h⟩)
    | (have e1 := r1.str; have e2 := r2.non; subst e1; subst e2; exact .inl ⟨rfl, k.bl f h⟩)
    | (have e1 := r1.int; have e2 := r2.str; subst e1; subst e2; exact .inl ⟨rfl, k.bl f h⟩)
    | (have e1 := r1.str; have e2 := r2.int; subst e1; subst e2; exact .inl ⟨rfl, k.bl f h⟩)
end
end Pu
namespace Pu
open PySem PySem.Spec L2
section
variable {K : Fg} {F F' : FS} {H H' : Hp} {X : Cx}

/-! ### tests -/
def isBl (P : Bool → Prop) : D → Prop
  | .bl k => P k
  | _ => False
theorem isBl_inv {P : Bool → Prop} {z : D} (h : isBl P z) : ∃ k, z = .bl k ∧ P k := by
  cases z <;> first | exact h.elim | exact ⟨_, rfl, h⟩
def tst (p : PTE) : PTT := fun ρ P => p ρ (isBl P)
def pAndT (p q : PTT) : PTT := fun ρ P => p ρ fun c => if c = true then q ρ P else P false
def pOrT (p q : PTT) : PTT := fun ρ P => p ρ fun c => if c = true then P true else q ρ P
def pNotT (p : PTT) : PTT := fun ρ P => p ρ fun c => P (!c)
def truW : D → (Bool → Prop) → Prop
  | .non, P => P false
  | .bl b, P => P b
  | .int i, P => P (i != 0)
  | .str s, P => s.length ≤ sizeLine ∧ P ((s.length : Int) != 0)
  | .lst ds, P => P (!ds.isEmpty)
  | .klst ds, P => P (!ds.isEmpty)
  | .ktup ds, P => P (!ds.isEmpty)
  | .tup ds, P => P (!ds.isEmpty)
  | _, _ => False
def pTru (p : PTE) : PTT := fun ρ P => p ρ fun d => truW d P
theorem Reps.isEmpty {ds : List D} {vs : List V} (r : Reps K F ds vs) : vs.isEmpty = ds.isEmpty := by
  have := r.length
  cases ds <;> cases vs <;> simp_all
theorem truW_ok {d : D} {x : V} {P : Bool → Prop} (f : Fits F H) (r : RepT K F H d x) (h : truW d P) : ∃ k, TruV K x H k ∧ P k := by
  cases d <;> try exact h.elim
  · have e := r.non; subst e; exact ⟨_, rfl, h⟩
  · have e := r.bl; subst e; exact ⟨_, rfl, h⟩
  · have e := r.int; subst e; exact ⟨_, rfl, h⟩
  · have e := r.str; subst e; exact ⟨_, ⟨h.1, rfl⟩, h.2⟩
  · obtain ⟨a, vs, rfl, h1, q⟩ := r.tup f; exact ⟨_, .inr (.inl ⟨vs, h1, by rw [q.isEmpty]⟩), h⟩
  · obtain ⟨a, vs, rfl, h1, q⟩ := r.lst f; exact ⟨_, .inl ⟨vs, SqL.of h1, by rw [q.isEmpty]⟩, h⟩
  · obtain ⟨a, vs, rfl, h1, q⟩ := r.klst f; exact ⟨_, .inl ⟨vs, h1, by rw [q.isEmpty]⟩, h⟩
  · obtain ⟨a, vs, rfl, h1, q⟩ := r.ktup f; exact ⟨_, .inr (.inl ⟨vs, h1, by rw [q.isEmpty]⟩), h⟩
theorem t_tru {e : Expr} {p : PTE} (h : pr X e p) (he : ∀ whole, isTrue e X.env whole = (do let v ← whole; standAt e.pos; holding [v] (truthy v)) := by intro _; rfl) : pt X e (pTru p) :=
  PT_weak (pt_truth h he) fun σ H Q ⟨N, F, ρ, P, s, q, k⟩ => ⟨N, F, ρ, _, s, q, fun d v F' H' a b c => by
    obtain ⟨k', h1, h2⟩ := truW_ok b.fits c a
    exact ⟨k', h1, k _ _ _ h2 b⟩⟩
theorem t_cmp {a b : Expr} {pa pb : PTE} {op : CmpOp} {w : D → D → DK → Prop} {pos : Pos} (ho : opS X (compareOp op) w) (ha : pr X a pa) (hb : pr X b pb) (hm : behindInMarks op b = false := by first | exact nomark _ | rfl | with_unfolding_all rfl) :
    pt X (.Compare a [op] [b] pos) (tst (pOp w pa pb)) := by
  obtain ⟨r, h, hr⟩ := ho
  refine PT_weak (pt_cmpR h ha hb hm) fun σ H Q ⟨N, F, ρ, P, s, q, k⟩ => ?_
  refine two (a := a) (b := b) hr σ H _ ⟨N, F, ρ, _, s, q, fun d v F' H' p x r => ?_⟩
  obtain ⟨b, rfl, z⟩ := isBl_inv p
  simp only [Rep] at r
  subst r
  exact ⟨b, rfl, k _ _ _ z x⟩
theorem w_and1 {a : Expr} {p : PTT} {pos : Pos} (ha : pt X a p) : pw X (.BoolOp .And [a] pos) p := pw_and1 ha
theorem w_or1 {a : Expr} {p : PTT} {pos : Pos} (ha : pt X a p) : pw X (.BoolOp .Or [a] pos) p := pw_or1 ha
theorem w_and {a b : Expr} {rest : List Expr} {p q : PTT} {pos : Pos} (ha : pt X a p) (hb : pw X (.BoolOp .And (b :: rest) pos) q) : pw X (.BoolOp .And (a :: b :: rest) pos) (pAndT p q) :=
  PW_weak (pw_and ha hb) fun σ H Q ⟨N, F, ρ, P, s, h, k⟩ => ⟨N, F, ρ, _, s, h, fun b F1 H1 p1 x1 => by
    cases b with
    | true => exact ⟨N, F1, ρ, P, s.ext x1, p1, fun c F2 H2 p2 x2 => k _ _ _ p2 (x1.then0 x2)⟩
    | false => exact k _ _ _ p1 x1⟩
theorem w_or {a b : Expr} {rest : List Expr} {p q : PTT} {pos : Pos} (ha : pt X a p) (hb : pw X (.BoolOp .Or (b :: rest) pos) q) : pw X (.BoolOp .Or (a :: b :: rest) pos) (pOrT p q) :=
  PW_weak (pw_or ha hb) fun σ H Q ⟨N, F, ρ, P, s, h, k⟩ => ⟨N, F, ρ, _, s, h, fun b F1 H1 p1 x1 => by
    cases b with
    | true => exact k _ _ _ p1 x1
    | false => exact ⟨N, F1, ρ, P, s.ext x1, p1, fun c F2 H2 p2 x2 => k _ _ _ p2 (x1.then0 x2)⟩⟩
theorem t_bool {e : Expr} {p : PTT} (h : pw X e p) : pt X e p := h.pt
theorem t_not {a : Expr} {p : PTT} {pos : Pos} (ha : pt X a p) : pt X (.UnaryOp .Not a pos) (pNotT p) :=
  PT_weak (pt_not ha) fun σ H Q ⟨N, F, ρ, P, s, h, k⟩ => ⟨N, F, ρ, _, s, h, fun b F1 H1 p1 x1 => k _ _ _ p1 x1⟩

/-! ### and, or, not as values (of bools); if .. else -/
def pAnd (p q : PTE) : PTE := fun ρ P => p ρ (isBl fun c => if c = true then q ρ P else P (.bl false))
def pOr (p q : PTE) : PTE := fun ρ P => p ρ (isBl fun c => if c = true then P (.bl true) else q ρ P)
def pNot (p : PTE) : PTE := fun ρ P => p ρ (isBl fun c => P (.bl (!c)))
def pIf (t : PTT) (p q : PTE) : PTE := fun ρ P => t ρ fun c => if c = true then p ρ P else q ρ P
theorem e_one {a : Expr} {op} {p : PTE} {pos : Pos} (h : pe X a p) : pe X (.BoolOp op [a] pos) p := pe_one h
theorem e_and {a b : Expr} {rest : List Expr} {p q : PTE} {pos : Pos} (ha : pe X a p) (hb : pe X (.BoolOp .And (b :: rest) pos) q) : pe X (.BoolOp .And (a :: b :: rest) pos) (pAnd p q) :=
  PE_weak (pe_and ha hb) fun σ H Q ⟨N, F, ρ, P, s, h, k⟩ => ⟨N, F, ρ, _, s, h, fun d v F1 H1 p1 x1 r1 => by
    obtain ⟨c, rfl, p1⟩ := isBl_inv p1
    simp only [Rep] at r1
    refine ⟨c, r1, ?_⟩
    cases c with
    | true => exact ⟨N, F1, ρ, P, s.ext x1, p1, fun d v F2 H2 p2 x2 r2 => k _ _ _ _ p2 (x1.then0 x2) r2⟩
    | false => exact k _ _ _ _ p1 x1 rep_bl⟩
theorem e_or {a b : Expr} {rest : List Expr} {p q : PTE} {pos : Pos} (ha : pe X a p) (hb : pe X (.BoolOp .Or (b :: rest) pos) q) : pe X (.BoolOp .Or (a :: b :: rest) pos) (pOr p q) :=
  PE_weak (pe_or ha hb) fun σ H Q ⟨N, F, ρ, P, s, h, k⟩ => ⟨N, F, ρ, _, s, h, fun d v F1 H1 p1 x1 r1 => by
    obtain ⟨c, rfl, p1⟩ := isBl_inv p1
    simp only [Rep] at r1
    refine ⟨c, r1, ?_⟩
    cases c with
    | true => exact k _ _ _ _ p1 x1 rep_bl
    | false => exact ⟨N, F1, ρ, P, s.ext x1, p1, fun d v F2 H2 p2 x2 r2 => k _ _ _ _ p2 (x1.then0 x2) r2⟩⟩
theorem e_not {a : Expr} {p : PTE} {pos : Pos} (ha : pe X a p) : pe X (.UnaryOp .Not a pos) (pNot p) :=
  PE_weak (pe_not ha) fun σ H Q ⟨N, F, ρ, P, s, h, k⟩ => ⟨N, F, ρ, _, s, h, fun d v F1 H1 p1 x1 r1 => by
    obtain ⟨c, rfl, p1⟩ := isBl_inv p1
    simp only [Rep] at r1
    exact ⟨c, r1, k _ _ _ _ p1 x1 rep_bl⟩⟩
theorem e_if {c a b : Expr} {t : PTT} {p q : PTE} {pos : Pos} (hc : pt X c t) (ha : pe X a p) (hb : pe X b q) : pe X (.IfExp c a b pos) (pIf t p q) :=
  PE_weak (pe_ifExp hc ha hb) fun σ H Q ⟨N, F, ρ, P, s, h, k⟩ => ⟨N, F, ρ, _, s, h, fun b F1 H1 p1 x1 => by
    cases b with
    | true => exact ⟨N, F1, ρ, P, s.ext x1, p1, fun d v F2 H2 p2 x2 r2 => k _ _ _ _ p2 (x1.then0 x2) r2⟩
    | false => exact ⟨N, F1, ρ, P, s.ext x1, p1, fun d v F2 H2 p2 x2 r2 => k _ _ _ _ p2 (x1.then0 x2) r2⟩⟩
/-! ### one operand -/
def pUn (w : D → DK → Prop) (pa : PTE) : PTE := fun ρ P => pa ρ fun d => w d P
def unS (X : Cx) (f : Value → Sem Value) (w : D → DK → Prop) : Prop :=
  ∃ r, UnR X f r ∧ ∀ d x F H P Q, Fits F H → RepT X.K F H d x → w d P → Kont X.K F H P Q → r x H Q
theorem e_un {a : Expr} {p : PTE} {op : UnaryOp} {w : D → DK → Prop} {pos : Pos} (ho : unS X (unaryOp op) w) (ha : pr X a p) : pe X (.UnaryOp op a pos) (pUn w p) := by
  obtain ⟨r, h, hr⟩ := ho
  exact PE_weak (pe_un h ha) fun σ H Q ⟨N, F, ρ, P, s, h, k⟩ => ⟨N, F, ρ, _, s, h, fun d v F1 H1 p1 x1 r1 => hr d v F1 H1 P Q x1.fits r1 p1 fun d' v' F' H' a b c => k d' v' F' H' a (x1.then0 b) c⟩
def negW : D → DK → Prop
  | .int i, P => P (.int (-i))
  | _, _ => False
theorem u_neg : unS X (unaryOp .USub) negW := ⟨_, un_neg, fun d x F H P Q f r h k => by
  cases d <;> try exact h.elim
  exact ⟨_, r.int, k.int f h⟩⟩
/-! ### is None, is not None -/
def D.isNon : D → Bool
  | .non => true
  | _ => false
def pIsN (b : Bool) (pa : PTE) : PTE := fun ρ P => pa ρ fun d => P (.bl (d.isNon == b))
theorem Rep.non_iff {d : D} {v : V} (r : RepT K F H d v) (f : Fits F H) : decide (v = .non) = d.isNon := by
  cases d with
  | non => rw [r.non]; rfl
  | bl b => rw [r.bl]; rfl
  | int b => rw [r.int]; rfl
  | str b => rw [r.str]; rfl
  | lst ds => obtain ⟨a, vs, rfl, _⟩ := r.lst f; rfl
  | klst ds => obtain ⟨a, vs, rfl, _⟩ := r.klst f; rfl
  | ktup ds => obtain ⟨a, vs, rfl, _⟩ := r.ktup f; rfl
  | tup ds => obtain ⟨a, vs, rfl, _⟩ := r.tup f; rfl
  | dK ks ds => obtain ⟨a, vs, rfl, _⟩ := r.dK f; rfl
  | dT ks ds => obtain ⟨a, vs, rfl, _⟩ := r.dT f; rfl
  | ins C ns ds => obtain ⟨a, dx, vs, rfl, _⟩ := r.ins f; rfl
  | pool =>
    rcases r with r | ⟨a, _, _, _, o⟩
    · simp only [Rep] at r
      obtain ⟨a, _, _, rfl, _⟩ := r; rfl
    · exact o.elim
  | rf a =>
    rcases r with r | ⟨a, _, _, _, o⟩
    · simp only [Rep] at r
      subst r; rfl
    · exact o.elim
  | «at» a ds =>
    rcases r with r | ⟨a, _, _, _, o⟩
    · simp only [Rep] at r
      obtain ⟨_, rfl, _⟩ := r; rfl
    · exact o.elim
  | exc C ns ds =>
    rcases r with r | ⟨a, _, _, _, o⟩
    · simp only [Rep] at r
    · exact o.elim
  | exo a C e ns ds =>
    rcases r with r | ⟨a, _, _, _, o⟩
    · simp only [Rep] at r
      obtain ⟨_, rfl, _⟩ := r; rfl
    · exact o.elim
theorem e_isN {a : Expr} {p : PTE} {j pos pos'} (ha : pr X a p) : pe X (.Compare a [.Is] [.Constant .none j pos'] pos) (pIsN true p) :=
  PE_weak (pe_cmp (pc_isN ha)) fun σ H Q ⟨N, F, ρ, P, s, h, k⟩ => ⟨N, F, ρ, _, s, h, fun d v F1 H1 p1 x1 r1 => by
    show Q (V.bl (decide (v = V.non))) H1
    rw [Rep.non_iff r1 x1.fits]
    exact k _ _ _ _ p1 x1 (by rw [beq_true]; exact rep_bl)⟩
theorem e_notN {a : Expr} {p : PTE} {j pos pos'} (ha : pr X a p) : pe X (.Compare a [.IsNot] [.Constant .none j pos'] pos) (pIsN false p) :=
  PE_weak (pe_cmp (pc_notN ha)) fun σ H Q ⟨N, F, ρ, P, s, h, k⟩ => ⟨N, F, ρ, _, s, h, fun d v F1 H1 p1 x1 r1 => by
    show Q (V.bl (!decide (v = V.non))) H1
    rw [Rep.non_iff r1 x1.fits]
    exact k _ _ _ _ p1 x1 (by rw [beq_false]; exact rep_bl)⟩
theorem t_isN {a : Expr} {p : PTE} {j pos pos'} (ha : pr X a p) : pt X (.Compare a [.Is] [.Constant .none j pos'] pos) (tst (pIsN true p)) :=
  PT_weak (pt_cmp (pc_isN ha)) fun σ H Q ⟨N, F, ρ, P, s, h, k⟩ => ⟨N, F, ρ, _, s, h, fun d v F1 H1 p1 x1 r1 => by
    obtain ⟨b, e, z⟩ := isBl_inv p1
    rw [Rep.non_iff r1 x1.fits]
    rw [beq_true] at e
    cases e
    exact ⟨_, rfl, k _ _ _ z x1⟩⟩
theorem t_notN {a : Expr} {p : PTE} {j pos pos'} (ha : pr X a p) : pt X (.Compare a [.IsNot] [.Constant .none j pos'] pos) (tst (pIsN false p)) :=
  PT_weak (pt_cmp (pc_notN ha)) fun σ H Q ⟨N, F, ρ, P, s, h, k⟩ => ⟨N, F, ρ, _, s, h, fun d v F1 H1 p1 x1 r1 => by
    obtain ⟨b, e, z⟩ := isBl_inv p1
    rw [Rep.non_iff r1 x1.fits]
    rw [beq_false] at e
    cases e
    exact ⟨_, rfl, k _ _ _ z x1⟩⟩
/-! ### a < b < c -/
def pChain (w w' : D → D → DK → Prop) (pa pb pc : PTE) : PTE := fun ρ P => pa ρ fun d => pb ρ fun e => w d e (isBl fun k => if k = true then pc ρ fun g => w' e g P else P (.bl false))
theorem chain_ok {a b c : Expr} {pa pb pc : PTE} {w w' : D → D → DK → Prop} {r r' : R2} (hr : ∀ d e x y F H P Q, Fits F H → RepT X.K F H d x → RepT X.K F H e y → w d e P → Kont X.K F H P Q → r x y H Q) (hr' : ∀ d e x y F H P Q, Fits F H → RepT X.K F H d x → RepT X.K F H e y → w' d e P → Kont X.K F H P Q → r' x y H Q) :
    ∀ σ H Q, L X.K (pChain w w' pa pb pc) σ H Q → tChain r r' (Lr X.K pa) (Lr X.K pb) (Lr X.K pc) σ H Q := fun σ H Q ⟨N, F, ρ, P, s, p, k⟩ =>
  ⟨N, F, ρ, _, s, p, fun d v F1 H1 p1 x1 r1 => ⟨N, F1, ρ, _, s.ext x1, p1, fun e u F2 H2 p2 x2 r2 => by
    refine hr d e v u F2 H2 _ _ x2.fits (r1.ext x2 x1.fits) r2 p2 fun d' v' F3 H3 p3 x3 r3 => ?_
    obtain ⟨b, rfl, p3⟩ := isBl_inv p3
    simp only [Rep] at r3
    refine ⟨b, r3, ?_⟩
    cases b with
    | true => exact ⟨N, F3, ρ, _, (s.ext x1).ext (x2.then0 x3), p3, fun g w F4 H4 p4 x4 r4 => hr' e g u w F4 H4 P Q x4.fits (r2.ext (x3.then0 x4) x2.fits) r4 p4 fun d' v' F' H' a b c => k d' v' F' H' a (((x1.then0 x2).then0 x3).then0 (x4.then0 b)) c⟩
    | false => exact k _ _ _ _ p3 ((x1.then0 x2).then0 x3) rep_bl⟩⟩
theorem e_chain {a b c : Expr} {pa pb pc : PTE} {op op' : CmpOp} {w w' : D → D → DK → Prop} {pos : Pos} (ho : opS X (compareOp op) w) (ho' : opS X (compareOp op') w') (ha : pr X a pa) (hb : pr X b pb) (hc : pr X c pc) (hm : lastMarks [op, op'] [b, c] = false := by with_unfolding_all rfl) :
    pe X (.Compare a [op, op'] [b, c] pos) (pChain w w' pa pb pc) := by
  obtain ⟨r, h, hr⟩ := ho
  obtain ⟨r', h', hr'⟩ := ho'
  exact PE_weak (pe_chain h h' ha hb hc hm) (chain_ok (a := a) (b := b) (c := c) hr hr')
theorem t_chain {a b c : Expr} {pa pb pc : PTE} {op op' : CmpOp} {w w' : D → D → DK → Prop} {pos : Pos} (ho : opS X (compareOp op) w) (ho' : opS X (compareOp op') w') (ha : pr X a pa) (hb : pr X b pb) (hc : pr X c pc) (hm : lastMarks [op, op'] [b, c] = false := by with_unfolding_all rfl) :
    pt X (.Compare a [op, op'] [b, c] pos) (tst (pChain w w' pa pb pc)) := by
  obtain ⟨r, h, hr⟩ := ho
  obtain ⟨r', h', hr'⟩ := ho'
  refine PT_weak (pt_chain h h' ha hb hc hm) fun σ H Q ⟨N, F, ρ, P, s, q, k⟩ => ?_
  refine chain_ok (a := a) (b := b) (c := c) hr hr' σ H _ ⟨N, F, ρ, _, s, q, fun d v F' H' p x r => ?_⟩
  obtain ⟨b, rfl, z⟩ := isBl_inv p
  simp only [Rep] at r
  subst r
  exact ⟨b, rfl, k _ _ _ z x⟩

/-! ### argument lists, displays -/
def pNil : PTA := fun _ P => P []
def pCons (p : PTE) (q : PTA) : PTA := fun ρ P => p ρ fun d => q ρ fun ds => P (d :: ds)
theorem a_nil : pa X [] pNil := PA_weak pa_nil fun σ H Q ⟨N, F, ρ, P, s, p, k⟩ => k [] [] F H p (Ext.refl s.fits) Reps.nil
theorem a_cons {e : Expr} {es : List Expr} {p : PTE} {q : PTA} (ha : pe X e p) (hr : pa X es q) (hs : starEach (e :: es) X.env = (false, eval e X.env) :: starEach es X.env := by rfl) : pa X (e :: es) (pCons p q) :=
  PA_weak (pa_cons ha hr hs) fun σ H Q ⟨N, F, ρ, P, s, p, k⟩ => ⟨N, F, ρ, _, s, p, fun d v F1 H1 p1 x1 r1 => ⟨N, F1, ρ, _, s.ext x1, p1, fun ds vs F2 H2 p2 x2 r2 => k _ _ _ _ p2 (x1.then0 x2) (Reps.cons (r1.ext x2 x1.fits) r2)⟩⟩
theorem ar_nil : par X [] pNil := a_nil.r
theorem ar_cons {e : Expr} {es : List Expr} {p : PTE} {q : PTA} (ha : pr X e p) (hr : par X es q) (hs : starEach (e :: es) X.env = (false, eval e X.env) :: starEach es X.env := by rfl) : par X (e :: es) (pCons p q) :=
  PA_weak (pa_cons ha hr hs) fun σ H Q ⟨N, F, ρ, P, s, p, k⟩ => ⟨N, F, ρ, _, s, p, fun d v F1 H1 p1 x1 r1 => ⟨N, F1, ρ, _, s.ext x1, p1, fun ds vs F2 H2 p2 x2 r2 => k _ _ _ _ p2 (x1.then0 x2) ⟨v, vs, rfl, r1.ext x2 x1.fits, r2⟩⟩⟩
def pTup (t : PTA) : PTE := fun ρ P => t ρ fun ds => ds.length ≤ sizeLine ∧ P (.tup ds)
def pLst (t : PTA) : PTE := fun ρ P => t ρ fun ds => ds.length ≤ sizeLine ∧ P (.lst ds)
theorem e_tup {es : List Expr} {p : PTA} {x1 pos} (h : pa X es p) : pe X (.Tuple es x1 pos) (pTup p) :=
  PE_weak (pe_tup h) fun σ H Q ⟨N, F, ρ, P, s, p, k⟩ => ⟨N, F, ρ, _, s, p, fun ds vs F1 H1 p1 x1 r1 => ⟨by rw [r1.length]; exact p1.1, Kont.tup (P := P) (fun d v F' H' a b c => k d v F' H' a (x1.then0 b) c) x1.fits p1.2 r1⟩⟩
theorem e_lst {es : List Expr} {p : PTA} {pos} (h : pa X es p) : pe X (.List es pos) (pLst p) :=
  PE_weak (pe_lst h) fun σ H Q ⟨N, F, ρ, P, s, p, k⟩ => ⟨N, F, ρ, _, s, p, fun ds vs F1 H1 p1 x1 r1 => ⟨by rw [r1.length]; exact p1.1, Kont.lst (P := P) (fun d v F' H' a b c => k d v F' H' a (x1.then0 b) c) x1.fits p1.2 r1⟩⟩

/-! ### built-in functions by values -/
def pCall (w : List D → DK → Prop) (t : PTA) : PTE := fun ρ P => t ρ fun ds => w ds P
def callS (X : Cx) (f : Value) (w : List D → DK → Prop) : Prop :=
  ∃ r, CallR X f r ∧ ∀ ds xs F H P Q, Fits F H → RepTs X.K F H ds xs → w ds P → Kont X.K F H P Q → r xs H Q
theorem e_callB {x : Str} {id : String} {e : Expr} {es : List Expr} {p pos : Pos} {w : List D → DK → Prop} {t : PTA} (hc : callS X (.builtin id) w) (hg : Gl X x) (hm : X.mg x = none) (hv : bootBuiltins x = some (.builtin id)) (ha : par X (e :: es) t) (hn : x ≠ "__name__" := by decide) (hdb : (x == ("__debug__" : Str)) = false := by decide)
    (he : starEach (e :: es) X.env = (false, eval e X.env) :: starEach es X.env := by rfl) (hpl : (backTo pos (starEach es X.env)).any (·.1) = false := by rfl) : pe X (.Call (.Name x p) (e :: es) [] pos) (pCall w t) := by
  obtain ⟨r, h, hr⟩ := hc
  exact PE_weak (pe_callB h hg hm hv ha hn hdb he hpl) fun σ H Q ⟨N, F, ρ, P, s, q, k⟩ => ⟨N, F, ρ, _, s, q, fun ds vs F1 H1 p1 x1 r1 => hr ds vs F1 H1 P Q x1.fits r1 p1 fun d' v' F' H' a b c => k d' v' F' H' a (x1.then0 b) c⟩
theorem e_callTy {x : Str} {T : String} {e : Expr} {es : List Expr} {p pos : Pos} {w : List D → DK → Prop} {t : PTA} (hc : callS X (.type T) w) (hg : Gl X x) (hm : X.mg x = none) (hv : bootBuiltins x = some (.type T)) (ha : par X (e :: es) t) (hn : x ≠ "__name__" := by decide) (hdb : (x == ("__debug__" : Str)) = false := by decide)
    (he : starEach (e :: es) X.env = (false, eval e X.env) :: starEach es X.env := by rfl) (hpl : (backTo pos (starEach es X.env)).any (·.1) = false := by rfl) : pe X (.Call (.Name x p) (e :: es) [] pos) (pCall w t) := by
  obtain ⟨r, h, hr⟩ := hc
  exact PE_weak (pe_callTy h hg hm hv ha hn hdb he hpl) fun σ H Q ⟨N, F, ρ, P, s, q, k⟩ => ⟨N, F, ρ, _, s, q, fun ds vs F1 H1 p1 x1 r1 => hr ds vs F1 H1 P Q x1.fits r1 p1 fun d' v' F' H' a b c => k d' v' F' H' a (x1.then0 b) c⟩
def on1 (w : D → DK → Prop) : List D → DK → Prop
  | [d], P => w d P
  | _, _ => False
def on2 (w : D → D → DK → Prop) : List D → DK → Prop
  | [d, e], P => w d e P
  | _, _ => False
theorem RepTs.nil_inv {xs : List V} (r : RepTs K F H [] xs) : xs = [] := r
theorem RepTs.cons_inv {d : D} {ds : List D} {xs : List V} (r : RepTs K F H (d :: ds) xs) : ∃ v vs, xs = v :: vs ∧ RepT K F H d v ∧ RepTs K F H ds vs := r
theorem on1_inv {w : D → DK → Prop} {ds : List D} {xs : List V} {P : DK} (h : on1 w ds P) (r : RepTs K F H ds xs) : ∃ d v, ds = [d] ∧ xs = [v] ∧ RepT K F H d v ∧ w d P := by
  cases ds with
  | nil => exact h.elim
  | cons d ds =>
    cases ds with
    | nil =>
      obtain ⟨v, vs, rfl, r1, r2⟩ := r.cons_inv
      cases r2.nil_inv
      exact ⟨d, v, rfl, rfl, r1, h⟩
    | cons _ _ => exact h.elim
theorem on2_inv {w : D → D → DK → Prop} {ds : List D} {xs : List V} {P : DK} (h : on2 w ds P) (r : RepTs K F H ds xs) : ∃ d e v u, ds = [d, e] ∧ xs = [v, u] ∧ RepT K F H d v ∧ RepT K F H e u ∧ w d e P := by
  cases ds with
  | nil => exact h.elim
  | cons d ds =>
    cases ds with
    | nil => exact h.elim
    | cons e ds =>
      cases ds with
      | nil =>
        obtain ⟨v, vs, rfl, r1, r2⟩ := r.cons_inv
        obtain ⟨u, us, rfl, r3, r4⟩ := r2.cons_inv
        cases r4.nil_inv
        exact ⟨d, e, v, u, rfl, rfl, r1, r3, h⟩
      | cons _ _ => exact h.elim
def absW : D → DK → Prop
  | .int i, P => P (.int (if i < 0 then -i else i))
  | _, _ => False
theorem c_abs : callS X (.builtin "abs") (on1 absW) := ⟨_, call_abs, fun ds xs F H P Q f r h k => by
  obtain ⟨d, v, rfl, rfl, r1, h⟩ := on1_inv h r
  cases d <;> try exact h.elim
  exact ⟨_, by rw [r1.int], k.int f h⟩⟩
def intfW : D → DK → Prop
  | .int i, P => P (.int i)
  | .bl b, P => P (.int (if b then 1 else 0))
  | _, _ => False
theorem c_int : callS X (.type "int") (on1 intfW) := ⟨_, call_int1, fun ds xs F H P Q f r h k => by
  obtain ⟨d, v, rfl, rfl, r1, h⟩ := on1_inv h r
  cases d <;> try exact h.elim
  · exact .inr ⟨_, by rw [r1.bl], k.int f h⟩
  · exact .inl ⟨_, by rw [r1.int], k.int f h⟩⟩
theorem RepT.at_ {a : Addr} {ds : List D} {v : V} (r : RepT K F H (.at a ds) v) : ∃ vs, v = .ref a ∧ F.fz a = some (.lst vs) ∧ Reps K F ds vs := by
  rcases r with r | ⟨a, _, _, _, o⟩
  · simpa only [Rep] using r
  · exact o.elim
def lenW : D → DK → Prop
  | .str s, P => s.length ≤ sizeLine ∧ P (.int s.length)
  | .lst ds, P => P (.int ds.length)
  | .klst ds, P => P (.int ds.length)
  | .ktup ds, P => P (.int ds.length)
  | .tup ds, P => P (.int ds.length)
  | .at _ ds, P => P (.int ds.length)
  | _, _ => False
theorem c_len : callS X (.builtin "len") (on1 lenW) := ⟨_, call_len_seq.or call_len_str, fun ds xs F H P Q f r h k => by
  obtain ⟨d, v, rfl, rfl, r1, h⟩ := on1_inv h r
  cases d <;> try exact h.elim
  · exact .inr ⟨_, by rw [r1.str], h.1, k.int f h.2⟩
  · obtain ⟨a, vs, rfl, h1, q⟩ := r1.tup f
    exact .inl ⟨a, vs, rfl, .inr h1, k.int f (by rw [q.length]; exact h)⟩
  · obtain ⟨a, vs, rfl, h1, q⟩ := r1.lst f
    exact .inl ⟨a, vs, rfl, .inl (SqL.of h1), k.int f (by rw [q.length]; exact h)⟩
  · obtain ⟨a, vs, rfl, h1, q⟩ := r1.klst f
    exact .inl ⟨a, vs, rfl, .inl h1, k.int f (by rw [q.length]; exact h)⟩
  · obtain ⟨a, vs, rfl, h1, q⟩ := r1.ktup f
    exact .inl ⟨a, vs, rfl, .inr h1, k.int f (by rw [q.length]; exact h)⟩
  · obtain ⟨vs, rfl, h1, q⟩ := r1.at_
    exact .inl ⟨_, vs, rfl, .inl (SqL.of (f.fz _ _ h1)), k.int f (by rw [q.length]; exact h)⟩⟩
def max2W : D → D → DK → Prop
  | .int i, .int j, P => P (.int (if j > i then j else i))
  | _, _, _ => False
def min2W : D → D → DK → Prop
  | .int i, .int j, P => P (.int (if j < i then j else i))
  | _, _, _ => False
theorem c_max2 (hc : X.calm = true) : callS X (.builtin "max") (on2 max2W) := ⟨_, call_max2 hc, fun ds xs F H P Q f r h k => by
  obtain ⟨d, e, v, u, rfl, rfl, r1, r2, h⟩ := on2_inv h r
  cases d <;> try exact h.elim
  cases e <;> try exact h.elim
  exact ⟨_, _, by rw [r1.int, r2.int], k.int f h⟩⟩
theorem c_min2 (hc : X.calm = true) : callS X (.builtin "min") (on2 min2W) := ⟨_, call_min2 hc, fun ds xs F H P Q f r h k => by
  obtain ⟨d, e, v, u, rfl, rfl, r1, r2, h⟩ := on2_inv h r
  cases d <;> try exact h.elim
  cases e <;> try exact h.elim
  exact ⟨_, _, by rw [r1.int, r2.int], k.int f h⟩⟩
def asList : D → Option (List D)
  | .lst ds => some ds
  | .klst ds => some ds
  | .ktup ds => some ds
  | .tup ds => some ds
  | _ => none
theorem RepT.seq {d : D} {ds : List D} {v : V} (r : RepT K F H d v) (f : Fits F H) (h : asList d = some ds) : ∃ a vs, v = .ref a ∧ (SqL K H a vs ∨ SqT K H a vs) ∧ Reps K F ds vs := by
  cases d <;> cases h
  · obtain ⟨a, vs, rfl, h1, q⟩ := r.tup f; exact ⟨a, vs, rfl, .inr h1, q⟩
  · obtain ⟨a, vs, rfl, h1, q⟩ := r.lst f; exact ⟨a, vs, rfl, .inl (SqL.of h1), q⟩
  · obtain ⟨a, vs, rfl, h1, q⟩ := r.klst f; exact ⟨a, vs, rfl, .inl h1, q⟩
  · obtain ⟨a, vs, rfl, h1, q⟩ := r.ktup f; exact ⟨a, vs, rfl, .inr h1, q⟩
def isSome {α : Type} (P : α → Prop) : Option α → Prop
  | some x => P x
  | none => False
theorem isSome_inv {α : Type} {P : α → Prop} {o : Option α} (h : isSome P o) : ∃ x, o = some x ∧ P x := by
  cases o with
  | none => exact h.elim
  | some x => exact ⟨x, rfl, h⟩
def listW : D → DK → Prop := fun d P => isSome (fun ds => P (.lst ds)) (asList d)
/-- a tuple of the module itself -/
def D.isK : D → Bool
  | .ktup _ => true
  | _ => false
def tupleW : D → DK → Prop := fun d P => d.isK = false ∧ isSome (fun ds => P (.tup ds)) (asList d)
theorem c_list : callS X (.type "list") (on1 listW) := ⟨_, call_list_of, fun ds xs F H P Q f r h k => by
  obtain ⟨d, v, rfl, rfl, r1, h⟩ := on1_inv h r
  obtain ⟨ds, h1, h2⟩ := isSome_inv h
  obtain ⟨a, vs, rfl, q1, q⟩ := r1.seq f h1
  exact ⟨a, vs, rfl, q1, k.lst f h2 q⟩⟩
theorem c_tuple : callS X (.type "tuple") (on1 tupleW) := ⟨_, call_tuple_of, fun ds xs F H P Q f r h k => by
  obtain ⟨d, v, rfl, rfl, r1, h⟩ := on1_inv h r
  obtain ⟨hk, h⟩ := h
  obtain ⟨ds, h1, h2⟩ := isSome_inv h
  cases d <;> cases h1
  · rcases r1 with r1 | ⟨_, _, _, _, o⟩
    · have r1' := r1
      simp only [Rep] at r1
      obtain ⟨a, vs, rfl, s, q⟩ := r1
      exact ⟨a, vs, rfl, .inr ⟨Same.seqT f.fz (.inl (.inl s)), k.here f h2 r1'⟩⟩
    · exact o.elim
  · obtain ⟨a, vs, rfl, q1, q⟩ := r1.lst f
    exact ⟨a, vs, rfl, .inl ⟨SqL.of q1, k.tup f h2 q⟩⟩
  · obtain ⟨a, vs, rfl, q1, q⟩ := r1.klst f
    exact ⟨a, vs, rfl, .inl ⟨q1, k.tup f h2 q⟩⟩
  · cases hk⟩
/-! ### isinstance by a built-in class -/
def tyN : D → Option String
  | .non => some "NoneType"
  | .bl _ => some "bool"
  | .int _ => some "int"
  | .str _ => some "str"
  | .tup _ => some "tuple"
  | .ktup _ => some "tuple"
  | .lst _ => some "list"
  | .dK _ _ => some "dict"
  | .dT _ _ => some "dict"
  | _ => none
def subT (t n : String) : Bool := decide (t = n) || (decide (t = "bool") && decide (n = "int"))
def pIsi (n : String) (p : PTE) : PTE := fun ρ P => p ρ fun d => isSome (fun t => P (.bl (subT t n))) (tyN d)
theorem tyX {d : D} {v : V} {t : String} (r : RepT K F H d v) (f : Fits F H) (h : tyN d = some t) : TyX K H v (.type t) := by
  cases d <;> cases h
  · rw [r.non]; exact .base .non
  · rw [r.bl]; exact .base (.bl _)
  · rw [r.int]; exact .base (.int _)
  · rw [r.str]; exact .base (.str _)
  · obtain ⟨a, vs, rfl, h1, q⟩ := r.tup f
    rcases h1 with (h1 | ⟨o, h1⟩) | ⟨o, its, n, h1, h2, _⟩
    · exact .base (.tup h1)
    · exact .fTuple h1
    · exact .kTuple h1 h2
  · obtain ⟨a, vs, rfl, h1, q⟩ := r.lst f; exact .base (.lst h1)
  · obtain ⟨a, vs, rfl, h1, q⟩ := r.ktup f
    rcases h1 with (h1 | ⟨o, h1⟩) | ⟨o, its, n, h1, h2, _⟩
    · exact .base (.tup h1)
    · exact .fTuple h1
    · exact .kTuple h1 h2
  · obtain ⟨a, vs, rfl, h1, _, q⟩ := r.dK f; exact .base (.dK h1)
  · obtain ⟨a, vs, rfl, h1, _, q⟩ := r.dT f; exact .base (.dT h1)
def tyNs : List String := ["NoneType", "bool", "int", "str", "tuple", "list", "dict"]
theorem tyN_mem {d : D} {t : String} (h : tyN d = some t) : t ∈ tyNs := by
  cases d <;> cases h <;> decide
theorem e_isi {n : String} {x : Str} {a : Expr} {pa : PTE} {p p2 pos : Pos} (ha : pr X a pa) (hg : Gl X "isinstance") (hm : X.mg "isinstance" = none) (hg2 : Gl X x) (hm2 : X.mg x = none) (hv2 : bootBuiltins x = some (.type n)) (hk : tyNs.all (fun t => decide (kitB t n = some (subT t n))) = true) (hn2 : x ≠ "__name__" := by decide) (hd2 : (x == ("__debug__" : Str)) = false := by decide)
    (hs2 : starEach [.Name x p2] X.env = [(false, eval (.Name x p2) X.env)] := by rfl) (he : starEach [a, .Name x p2] X.env = (false, eval a X.env) :: starEach [.Name x p2] X.env := by rfl) (hpl : (backTo pos (starEach [.Name x p2] X.env)).any (·.1) = false := by rfl) : pe X (.Call (.Name "isinstance" p) [a, .Name x p2] [] pos) (pIsi n pa) := by
  refine PE_weak (pe_callB call_isi hg hm PyProof.Rows.boot_isinstance (pa_cons ha (pa_cons (pe_bltn (v := .ty n) hg2 hm2 hv2 rfl hn2 hd2) pa_nil hs2) he) (by decide) (by decide) he hpl) fun σ H Q ⟨N, F, ρ, P, s, q, k⟩ => ?_
  refine ⟨N, F, ρ, _, s, q, fun d v F1 H1 p1 x1 r1 => ?_⟩
  obtain ⟨t, h1, h2⟩ := isSome_inv p1
  have hk' := of_decide_eq_true (List.all_eq_true.mp hk t (tyN_mem h1))
  exact ⟨v, .ty n, .type t, .type n, _, rfl, .ty n, tyX r1 x1.fits h1, kit_ty hk', k _ _ _ _ h2 x1 rep_bl⟩

/-! ### items -/
def itemW : D → D → DK → Prop
  | .str z, .int i, P => z.length ≤ sizeLine ∧ isSome (fun c => P (.str ⟨#[c]⟩)) (atI z.cps.toList i)
  | .lst ds, .int i, P => isSome P (atI ds i)
  | .klst ds, .int i, P => isSome P (atI ds i)
  | .ktup ds, .int i, P => isSome P (atI ds i)
  | .tup ds, .int i, P => isSome P (atI ds i)
  | .at _ ds, .int i, P => isSome P (atI ds i)
  | _, _, _ => False
theorem Reps.atI {ds : List D} {vs : List V} {i : Int} {d : D} (r : Reps K F ds vs) (h : atI ds i = some d) : ∃ v, atI vs i = some v ∧ Rep K F d v := by
  unfold L2.atI at h ⊢
  rw [r.length]
  cases e : ixN ds.length i with
  | none => rw [e] at h; cases h
  | some j =>
    rw [e] at h
    exact r.get h
theorem e_ix {a b : Expr} {pa pb : PTE} {pos : Pos} (ha : pr X a pa) (hb : pr X b pb) (hs : PlainIx b := by exact fun _ _ => rfl) : pe X (.Subscript a b pos) (pOp itemW pa pb) :=
  PE_weak (pe_ix ix_seq ha hb hs) (two (a := a) (b := b) fun d e x y F H P Q f r1 r2 h k => by
    cases e <;> try (cases d <;> exact h.elim)
    have e2 := r2.int
    subst e2
    cases d <;> try exact h.elim
    · have e1 := r1.str
      subst e1
      obtain ⟨c, h1, h2⟩ := isSome_inv h.2
      exact .inr (.inr ⟨_, _, c, rfl, rfl, h.1, h1, k.str f h2⟩)
    · obtain ⟨e, h1, h2⟩ := isSome_inv h
      obtain ⟨a, vs, rfl, h3, q⟩ := r1.tup f
      obtain ⟨v, h4, h5⟩ := q.atI h1
      exact .inr (.inl ⟨a, vs, _, v, rfl, rfl, h3, h4, k.here f h2 h5⟩)
    · obtain ⟨e, h1, h2⟩ := isSome_inv h
      obtain ⟨a, vs, rfl, h3, q⟩ := r1.lst f
      obtain ⟨v, h4, h5⟩ := q.atI h1
      exact .inl ⟨a, vs, _, v, rfl, rfl, SqL.of h3, h4, k.here f h2 h5⟩
    · obtain ⟨e, h1, h2⟩ := isSome_inv h
      obtain ⟨a, vs, rfl, h3, q⟩ := r1.klst f
      obtain ⟨v, h4, h5⟩ := q.atI h1
      exact .inl ⟨a, vs, _, v, rfl, rfl, h3, h4, k.here f h2 h5⟩
    · obtain ⟨e, h1, h2⟩ := isSome_inv h
      obtain ⟨a, vs, rfl, h3, q⟩ := r1.ktup f
      obtain ⟨v, h4, h5⟩ := q.atI h1
      exact .inr (.inl ⟨a, vs, _, v, rfl, rfl, h3, h4, k.here f h2 h5⟩)
    · obtain ⟨e, h1, h2⟩ := isSome_inv h
      obtain ⟨vs, rfl, h3, q⟩ := r1.at_
      obtain ⟨v, h4, h5⟩ := q.atI h1
      exact .inl ⟨_, vs, _, v, rfl, rfl, SqL.of (f.fz _ _ h3), h4, k.here f h2 h5⟩)
end
end Pu
namespace Pu
open PySem PySem.Spec L2

/-! ### new objects that may still change -/
def Lf (K : Fg) (p : PTE) : TE := fun σ H Q => ∃ N F ρ P, Stt K N F ρ σ H ∧ p ρ P ∧ ∀ d a F' H', P d → Ext No F H F' H' → H a = none → F'.fz a = none → F'.iv a = none → OwnAt K F' H' a d → Q (.ref a) H'
def pf (X : Cx) (e : Expr) (p : PTE) : Prop := PE X e (Lf X.K p)

section
variable {K : Fg} {F F' : FS} {H H' : Hp} {X : Cx}
theorem OwnAt.rep {a : Addr} {d : D} {o : HO} (h : OwnAt K F H a d) (e : H a = some o) {F' : FS} (hz : F'.fz a = some o) (l : Le F F') : Rep K F' d (.ref a) := by
  cases d <;> simp only [OwnAt] at h
  · obtain ⟨vs, q, r⟩ := h
    rw [e] at q; cases q
    simp only [Rep]; exact ⟨a, vs, rfl, hz, r.mono l⟩
  · obtain ⟨vs, q, z, r⟩ := h
    rw [e] at q; cases q
    simp only [Rep]; exact ⟨a, vs, rfl, hz, z, r.mono l⟩
  · obtain ⟨vs, q, z, r⟩ := h
    rw [e] at q; cases q
    simp only [Rep]; exact ⟨a, vs, rfl, hz, z, r.mono l⟩
  · obtain ⟨dx, vs, q, z, r⟩ := h
    rw [e] at q; cases q
    simp only [Rep]; exact ⟨a, dx, vs, rfl, hz, z, r.mono l⟩
/-- what is new may be frozen -/
theorem Ext.frz {O : Addr → Prop} (x : Ext O F H F' H') {a : Addr} {o : HO} (hn : H a = none) (hz : F'.fz a = none) (e : H' a = some o) : Ext O F H (F'.add a o) H' := by
  have up : Same F'.fz (upd F'.fz a o) := fun b y q => by
    rw [upd_ne (fun z => by rw [z, hz] at q; cases q)]; exact q
  refine ⟨x.fz.trans up, x.iv, ⟨fun b y q => ?_, fun b φ z => let ⟨y, h1, h2⟩ := x.fits.iv b φ z; ⟨y, h1, h2⟩⟩, fun b y q => ?_, x.niv, x.keep, x.dom⟩
  · have q : upd F'.fz a o b = some y := q
    by_cases z : b = a
    · subst z; rw [upd_same] at q; rw [e]; exact q
    · rw [upd_ne z] at q; exact x.fits.fz _ _ q
  · have q : upd F'.fz a o b = some y := q
    by_cases z : b = a
    · subst z; exact .inr hn
    · rw [upd_ne z] at q; exact x.nfz _ _ q
theorem Le.add {a : Addr} {o : HO} (hz : F.fz a = none) (hi : F.iv a = none) : Le F (F.add a o) :=
  ⟨fun b x z => by
      show upd F.fz a o b = some x
      rw [upd_ne (fun w => by rw [w, hz] at z; cases z)]; exact z, fun _ _ q => q, fun b q1 q2 => by
      have q1 : upd F.fz a o b ≠ none := q1
      by_cases w : b = a
      · subst w; exact absurd hi q2
      · rw [upd_ne w] at q1; exact q1⟩
theorem some_of_ne {o : Option HO} (h : o ≠ none) : ∃ x, o = some x := by
  cases o with
  | none => exact absurd rfl h
  | some x => exact ⟨x, rfl⟩
theorem pf.e {e : Expr} {p : PTE} (h : pf X e p) : pe X e p := PE_weak h fun σ H Q ⟨N, F, ρ, P, s, q, k⟩ => ⟨N, F, ρ, P, s, q, fun d a F' H' p1 x1 hn hz hi ow => by
  obtain ⟨o, eo⟩ := some_of_ne ow.there
  exact k d _ (F'.add a o) H' p1 (x1.frz hn hz eo) (ow.rep eo FS.add_same (Le.add hz hi))⟩
theorem f_lst {es : List Expr} {p : PTA} {pos} (h : pa X es p) : pf X (.List es pos) (pLst p) :=
  PE_weak (pe_lst h) fun σ H Q ⟨N, F, ρ, P, s, p, k⟩ => ⟨N, F, ρ, _, s, p, fun ds vs F1 H1 p1 x1 r1 => ⟨by rw [r1.length]; exact p1.1, fun a ha =>
    k _ a F1 _ p1.2 (x1.then0 (Ext.newM x1.fits ha)) (x1.dom _ ha) (x1.fits.none_fz ha) (x1.fits.none_iv ha) ⟨vs, upd_same, r1⟩⟩⟩
end

/-! ### statements -/
structure PEnds where
  nx : Env → Prop
  rt : D → Env → Prop
  bk : Env → Prop
  ct : Env → Prop
  rn : D → Env → Prop
  xr : Addr → List Str → List D → Env → Prop
abbrev PTS := PEnds → Env → Prop
/-- where a def's run began: what it may change of what stood, what was frozen, the heap -/
structure Bas where
  O : Addr → Prop
  F0 : FS
  H0 : Hp
def Bas.N (B : Bas) : Bool → Addr → Prop
  | true, a => B.H0 a = none
  | false, a => B.O a
structure FSt (K : Fg) (B : Bas) (F : FS) (ρ : Env) (σ : L2.St) (H : Hp) : Prop where
  ext : Ext B.O B.F0 B.H0 F H
  st : Stt K B.N F ρ σ H
theorem FSt.go {K : Fg} {B : Bas} {F F' : FS} {ρ : Env} {σ : L2.St} {H H' : Hp} (s : FSt K B F ρ σ H) (x : Ext No F H F' H') : FSt K B F' ρ σ H' := ⟨s.ext.then0 x, s.st.ext x⟩
theorem Le.trans {F F1 F2 : FS} (x : Le F F1) (y : Le F1 F2) : Le F F2 := ⟨x.fz.trans y.fz, fun a φ h => y.iv a φ (x.iv a φ h), fun a h1 h2 => by
  cases e : F.iv a with
  | none => exact absurd e h2
  | some φ => exact x.nfz a (y.nfz a h1 (by rw [x.iv a φ e]; intro z; cases z)) h2⟩
/-- what an exception that leaves the code must be -/
def xW (X : Cx) : WX := fun cls d σ H => ∀ u s', XE X (fun c' d' σ' H' => c' = cls ∧ d' = d ∧ σ' = σ ∧ H' = H) u s' → X.xe u s'
theorem takes_xW {X : Cx} : Takes X (xW X) := fun u s' ⟨a, B, sI, pins, σ, H, cls, d, e, I, nb, up, sky, na, os, ag, w⟩ => w u s' ⟨a, B, sI, pins, σ, H, cls, d, e, I, nb, up, sky, na, os, ag, rfl, rfl, rfl, rfl⟩
theorem xW_of {X : Cx} {W : WX} {cls : Value} {d : Option Addr} {σ : L2.St} {H : Hp} (t : Takes X W) (h : W cls d σ H) : xW X cls d σ H := fun u s' ⟨a, B, sI, pins, σ', H', cls', d', e, I, nb, up, sky, na, os, ag, w⟩ => by
  obtain ⟨rfl, rfl, rfl, rfl⟩ := w
  exact t u s' ⟨a, B, sI, pins, σ', H', cls', d', e, I, nb, up, sky, na, os, ag, h⟩
structure EndsOk (W : WX) (K : Fg) (B : Bas) (F : FS) (PD : PEnds) (E : Ends) : Prop where
  nx : ∀ F' ρ σ H, FSt K B F' ρ σ H → Le F F' → PD.nx ρ → E.nx σ H
  rt : ∀ F' ρ σ H d v, FSt K B F' ρ σ H → Le F F' → PD.rt d ρ → Rep K F' d v → E.rt v H
  bk : ∀ F' ρ σ H, FSt K B F' ρ σ H → Le F F' → PD.bk ρ → E.bk σ H
  ct : ∀ F' ρ σ H, FSt K B F' ρ σ H → Le F F' → PD.ct ρ → E.ct σ H
  rn : ∀ F' ρ σ H d a, FSt K B F' ρ σ H → Le F F' → PD.rn d ρ → B.H0 a = none → F'.fz a = none → F'.iv a = none → OwnAt K F' H a d → E.rt (.ref a) H
  ex : ∀ F' ρ σ H C ns ds dd vs, FSt K B F' ρ σ H → Le F F' → PD.xr C ns ds ρ → F'.fz dd = some (.xd (ns.zip vs)) → ns.length = ds.length → Reps K F' ds vs → W (.ref C) (some dd) σ H
theorem EndsOk.up {W : WX} {K : Fg} {B : Bas} {F F1 : FS} {PD : PEnds} {E : Ends} (e : EndsOk W K B F PD E) (l : Le F F1) : EndsOk W K B F1 PD E :=
  ⟨fun F' ρ σ H s l' => e.nx F' ρ σ H s (l.trans l'), fun F' ρ σ H d v s l' => e.rt F' ρ σ H d v s (l.trans l'), fun F' ρ σ H s l' => e.bk F' ρ σ H s (l.trans l'), fun F' ρ σ H s l' => e.ct F' ρ σ H s (l.trans l'), fun F' ρ σ H d a s l' => e.rn F' ρ σ H d a s (l.trans l'), fun F' ρ σ H C ns ds dd vs s l' => e.ex F' ρ σ H C ns ds dd vs s (l.trans l')⟩
def LS (W : WX) (K : Fg) (p : PTS) : TS := fun E σ H => ∃ B F ρ PD, FSt K B F ρ σ H ∧ p PD ρ ∧ EndsOk W K B F PD E
def ps (X : Cx) (st : Stmt) (p : PTS) : Prop := PS X st (LS (xW X) X.K p)
def pss (X : Cx) (st : List Stmt) (p : PTS) : Prop := PSs X st (LS (xW X) X.K p)

def qSeq (p q : PTS) : PTS := fun PD ρ => p { PD with nx := q PD } ρ
def qNext : PTS := fun PD ρ => PD.nx ρ
def qBreak : PTS := fun PD ρ => PD.bk ρ
def qCont : PTS := fun PD ρ => PD.ct ρ
def qNever : PTS := fun _ _ => False
def qDrop (p : PTE) : PTS := fun PD ρ => p ρ fun _ => PD.nx ρ
def qRet (p : PTE) : PTS := fun PD ρ => p ρ fun d => PD.rt d ρ
def qRetN : PTS := fun PD ρ => PD.rt .non ρ
def qSet (i : Nat) (p : PTE) : PTS := fun PD ρ => p ρ fun d => PD.nx (ρ.set i (some (.sh d)))
def qSetN (i : Nat) (p : PTE) : PTS := fun PD ρ => p ρ fun d => PD.nx (ρ.set i (some (.ow true d)))
def qIf (t : PTT) (p q : PTS) : PTS := fun PD ρ => t ρ fun c => if c = true then p PD ρ else q PD ρ
def atOwT (P : DK) : Option (Option Sl) → Prop
  | some (some (.ow true d)) => P d
  | _ => False
theorem atOwT_inv {P : DK} {x : Option (Option Sl)} (h : atOwT P x) : ∃ d, x = some (some (.ow true d)) ∧ P d := by
  match x, h with
  | some (some (.ow true d)), h => exact ⟨d, rfl, h⟩
def atOwL (P : Bool → List D → Prop) : Option (Option Sl) → Prop
  | some (some (.ow b (.lst ds))) => P b ds
  | _ => False
theorem atOwL_inv {P : Bool → List D → Prop} {x : Option (Option Sl)} (h : atOwL P x) : ∃ b ds, x = some (some (.ow b (.lst ds))) ∧ P b ds := by
  match x, h with
  | some (some (.ow b (.lst ds))), h => exact ⟨b, ds, rfl, h⟩
def qFrz (i : Nat) (q : PTS) : PTS := fun PD ρ => atOwT (fun d => q PD (ρ.set i (some (.sh d)))) ρ[i]?
/-- a cut: what is known behind -/
def PEnds.to (PD : PEnds) (I : Env → Prop) : PEnds := { PD with nx := I }

section
variable {K : Fg} {X : Cx} {pos : Pos}
theorem PS_weak {st : Stmt} {t t' : TS} (h : PS X st t) (w : ∀ E σ H, t' E σ H → t E σ H) : PS X st t' := ⟨fun pins s σ H E I q => h.run pins s σ H E I (w _ _ _ q)⟩
theorem PSs_weak {st : List Stmt} {t t' : TS} (h : PSs X st t) (w : ∀ E σ H, t' E σ H → t E σ H) : PSs X st t' := ⟨fun pins s σ H E I q => h.run pins s σ H E I (w _ _ _ q)⟩
theorem s_nil : pss X [] qNext := PSs_weak pss_nil fun E σ H ⟨B, F, ρ, PD, s, p, e⟩ => e.nx F ρ σ H s (Le.refl F) p
theorem s_one {st : Stmt} {p : PTS} (h : ps X st p) : pss X [st] p := pss_one h
theorem s_cons {st : Stmt} {rest : List Stmt} {p q : PTS} (h : ps X st p) (h2 : pss X rest q) : pss X (st :: rest) (qSeq p q) :=
  PSs_weak (pss_cons h h2) fun E σ H ⟨B, F, ρ, PD, s, p, e⟩ => ⟨B, F, ρ, _, s, p, ⟨fun F1 ρ1 σ1 H1 s1 l1 p1 => ⟨B, F1, ρ1, PD, s1, p1, e.up l1⟩, e.rt, e.bk, e.ct, e.rn, e.ex⟩⟩
theorem s_never {st : Stmt} : ps X st qNever := PS_weak ps_never fun E σ H ⟨B, F, ρ, PD, s, p, e⟩ => p.elim
theorem s_nevers {st : List Stmt} : pss X st qNever := PSs_weak pss_never fun E σ H ⟨B, F, ρ, PD, s, p, e⟩ => p.elim
theorem s_pass : ps X (.Pass pos) qNext := PS_weak ps_pass fun E σ H ⟨B, F, ρ, PD, s, p, e⟩ => e.nx F ρ σ H s (Le.refl F) p
theorem s_break : ps X (.Break pos) qBreak := PS_weak ps_break fun E σ H ⟨B, F, ρ, PD, s, p, e⟩ => e.bk F ρ σ H s (Le.refl F) p
theorem s_cont : ps X (.Continue pos) qCont := PS_weak ps_continue fun E σ H ⟨B, F, ρ, PD, s, p, e⟩ => e.ct F ρ σ H s (Le.refl F) p
theorem s_doc {x j pos pos'} : ps X (.Expr (.Constant (.str x) j pos) pos') qNext := PS_weak ps_doc fun E σ H ⟨B, F, ρ, PD, s, p, e⟩ => e.nx F ρ σ H s (Le.refl F) p
theorem s_expr {e : Expr} {p : PTE} (he : pe X e p) (hs : swapsWith e none pos.line X.env = pure false := by rfl) : ps X (.Expr e pos) (qDrop p) :=
  PS_weak (ps_expr he hs) fun E σ H ⟨B, F, ρ, PD, s, p, e⟩ => ⟨B.N, F, ρ, _, s.st, p, fun d v F1 H1 p1 x1 r1 => e.nx F1 ρ σ H1 (s.go x1) (x1.le s.ext.fits) p1⟩
theorem s_ret {e : Expr} {p : PTE} (he : pe X e p) : ps X (.Return (some e) pos) (qRet p) :=
  PS_weak (ps_ret he) fun E σ H ⟨B, F, ρ, PD, s, p, e⟩ => ⟨B.N, F, ρ, _, s.st, p, fun d v F1 H1 p1 x1 r1 => e.rt F1 ρ σ H1 d v (s.go x1) (x1.le s.ext.fits) p1 r1⟩
theorem s_retN : ps X (.Return none pos) qRetN := PS_weak ps_retN fun E σ H ⟨B, F, ρ, PD, s, p, e⟩ => e.rt F ρ σ H .non .non s (Le.refl F) p rep_non
theorem s_if {c : Expr} {a b : List Stmt} {t : PTT} {p q : PTS} (hc : pt X c t) (ha : pss X a p) (hb : pss X b q) : ps X (.If c a b pos) (qIf t p q) :=
  PS_weak (ps_if hc ha hb) fun E σ H ⟨B, F, ρ, PD, s, p, e⟩ => ⟨B.N, F, ρ, _, s.st, p, fun b F1 H1 p1 x1 => by
    cases b with
    | true => exact ⟨B, F1, ρ, PD, s.go x1, p1, e.up (x1.le s.ext.fits)⟩
    | false => exact ⟨B, F1, ρ, PD, s.go x1, p1, e.up (x1.le s.ext.fits)⟩⟩
theorem s_set {i : Nat} {x : Str} {e : Expr} {p : PTE} {pos' : Pos} (hN : X.N.Nodup) (he : pe X e p) (hi : X.N[i]? = some x := by rfl) (hx : Loc X.env.scope x := by first | exact Or.inl rfl | exact Or.inr rfl) (hs : swapsWith e (some (.Name x pos')) pos.line X.env = pure false := by rfl)
    (hf : X.fn x = true ∨ X.env.scope.names.lookup x = some .local := by first | exact .inl rfl | exact .inr rfl | assumption) : ps X (.Assign [.Name x pos'] e pos) (qSet i p) :=
  PS_weak (ps_set hN hi hx he hs hf) fun E σ H ⟨B, F, ρ, PD, s, p, e⟩ => ⟨B.N, F, ρ, _, s.st, p, fun d v F1 H1 p1 x1 r1 => e.nx F1 _ _ H1 ⟨(s.go x1).ext, (s.go x1).st.set_sh i r1⟩ (x1.le s.ext.fits) p1⟩
theorem Stt.adopt {N : Bool → Addr → Prop} {F F' : FS} {H H' : Hp} {ρ : Env} {σ : L2.St} (s : Stt K N F ρ σ H) (x : Ext No F H F' H') {c : Bool} {d : D} {a : Addr} (i : Nat) (n : N c a) (hn : H a = none) (hz : F'.fz a = none) (hi : F'.iv a = none) (r : OwnAt K F' H' a d) :
    Stt K N F' (ρ.set i (some (.ow c d))) (σ.set i (some (.ref a))) H' := by
  refine s.put i _ (by rw [List.length_set]) (set_off i _) x.fits (x.le s.fits) (fun j y ov b _ h1 h2 f => ?_) (fun ov h => ⟨a, set_on h, n, hz, hi, r⟩) fun ov b j y ov' h f _ h1 h2 f2 => ?_
  · obtain ⟨q1, q2, q3, _⟩ := s.foot h1 h2 f
    obtain ⟨z1, z2, z3⟩ := keep_at q3 q1 q2 x
    exact ⟨z1, z2, z3, fun _ n => n⟩
  · have f : ov = some (.ref b) := f
    rw [set_on h] at f; cases f
    exact (s.foot h1 h2 f2).2.2.1 hn
/-- x = a new list, dict ..: it is the slot's own -/
theorem s_setN {i : Nat} {x : Str} {e : Expr} {p : PTE} {pos' : Pos} (hN : X.N.Nodup) (he : pf X e p) (hi : X.N[i]? = some x := by rfl) (hx : Loc X.env.scope x := by first | exact Or.inl rfl | exact Or.inr rfl) (hs : swapsWith e (some (.Name x pos')) pos.line X.env = pure false := by rfl)
    (hf : X.fn x = true ∨ X.env.scope.names.lookup x = some .local := by first | exact .inl rfl | exact .inr rfl | assumption) : ps X (.Assign [.Name x pos'] e pos) (qSetN i p) :=
  PS_weak (ps_set hN hi hx he hs hf) fun E σ H ⟨B, F, ρ, PD, s, p, e⟩ => ⟨B.N, F, ρ, _, s.st, p, fun d a F1 H1 p1 x1 hn hz hv r1 => e.nx F1 _ _ H1 ⟨(s.go x1).ext, s.st.adopt x1 (c := true) i (s.ext.dom _ hn) hn hz hv r1⟩ (x1.le s.ext.fits) p1⟩
theorem FSt.freeze {B : Bas} {F : FS} {ρ : Env} {σ : L2.St} {H : Hp} (s : FSt K B F ρ σ H) {i : Nat} {d : D} (h : ρ[i]? = some (some (.ow true d))) : ∃ F', FSt K B F' (ρ.set i (some (.sh d))) σ H ∧ Le F F' := by
  obtain ⟨a, e, n, hz, hi, q⟩ := s.st.geto h
  obtain ⟨o, eo⟩ := some_of_ne q.there
  obtain ⟨s1, l1⟩ := s.st.freeze h e eo fun F' h1 h2 => q.rep eo h1 h2
  exact ⟨_, ⟨s.ext.frz n hz eo, s1⟩, l1⟩
theorem s_frz (i : Nat) {st : List Stmt} {q : PTS} (h : pss X st q) : pss X st (qFrz i q) :=
  PSs_weak h fun E σ H ⟨B, F, ρ, PD, s, q, e⟩ => by
    obtain ⟨d, hd, p⟩ := atOwT_inv q
    obtain ⟨F', s', l'⟩ := s.freeze hd
    exact ⟨B, F', _, PD, s', p, e.up l'⟩

/-! ### an owned list changes -/
theorem FSt.own {B : Bas} {F : FS} {ρ : Env} {σ : L2.St} {H : Hp} (s : FSt K B F ρ σ H) {c : Bool} {i : Nat} {d d' : D} {a : Addr} {o : HO} (h : ρ[i]? = some (some (.ow c d))) (e : σ[i]? = some (some (.ref a))) (r : OwnAt K F (upd H a o) a d') : FSt K B F (ρ.set i (some (.ow c d'))) σ (upd H a o) := by
  obtain ⟨b, e', n, hz, hi, q⟩ := s.st.geto h
  rw [e] at e'
  cases e'
  have s1 := s.st.own_upd h e r
  refine ⟨⟨s.ext.fz, s.ext.iv, s1.fits, s.ext.nfz, s.ext.niv, fun b x eb => ?_, fun b eb => ?_⟩, s1⟩
  · by_cases z : b = a
    · subst z
      cases c with
      | true =>
        have n : B.H0 b = none := n
        rw [eb] at n; cases n
      | false => exact .inl n
    · rw [upd_ne z]; exact s.ext.keep b x eb
  · by_cases z : b = a
    · subst z; rw [upd_same] at eb; cases eb
    · rw [upd_ne z] at eb; exact s.ext.dom b eb
def qApp (i : Nat) (p : PTE) : PTS := fun PD ρ => atOwL (fun c ds => p ρ fun d => ds.length < sizeLine ∧ PD.nx (ρ.set i (some (.ow c (.lst (ds ++ [d])))))) ρ[i]?
theorem own_lst {N : Bool → Addr → Prop} {F : FS} {ρ : Env} {σ : L2.St} {H : Hp} (s : Stt K N F ρ σ H) {i : Nat} {c : Bool} {ds : List D} (h : ρ[i]? = some (some (.ow c (.lst ds)))) : ∃ a vs, σ[i]? = some (some (.ref a)) ∧ H a = some (.lst vs) ∧ Reps K F ds vs := by
  obtain ⟨a, e, _, _, _, vs, q1, q2⟩ := s.geto h
  exact ⟨a, vs, e, q1, q2⟩
theorem s_app {i : Nat} {call : Expr} {p : PTE} (h : PE X call (tBM X.K "list" rAppend (tVar i) (tCons (L X.K p) tNil))) (hs : swapsWith call none pos.line X.env = pure false := by rfl) : ps X (.Expr call pos) (qApp i p) := by
  refine PS_weak (ps_expr h hs) ?_
  rintro E σ H ⟨B, F, ρ, PD, s, q, e⟩
  obtain ⟨c, ds, h1, p⟩ := atOwL_inv q
  obtain ⟨a, vs, q1, q2, q3⟩ := own_lst s.st h1
  refine ⟨.ref a, q1, .inl ⟨rfl, vs, SqL.of q2⟩, B.N, F, ρ, _, s.st, p, fun d v F1 H1 p1 x1 r1 => ?_⟩
  have s1 := s.go x1
  obtain ⟨a', vs', q1', q2', q3'⟩ := own_lst s1.st h1
  rw [q1] at q1'
  cases q1'
  exact ⟨a, vs', v, rfl, rfl, q2', by rw [q3'.length]; exact p1.1, e.nx F1 _ σ _ (s1.own (d' := .lst (ds ++ [d])) h1 q1 ⟨_, upd_same, q3'.append (Reps.one r1)⟩) (x1.le s.ext.fits) p1.2⟩
end
end Pu
namespace Pu
open PySem PySem.Spec L2

/-! ### targets -/
abbrev PTG := D → Env → (Env → Prop) → Prop
abbrev PTGs := List D → Env → (Env → Prop) → Prop
/-- a target stores into slots of is alone -/
def LG (K : Fg) (is : List Nat) (g : PTG) : TG := fun v σ H Q => ∃ N F ρ d P, Stt K N F ρ σ H ∧ Rep K F d v ∧ g d ρ P ∧ ∀ ρ' σ', Stt K N F ρ' σ' H → P ρ' → (∀ vs : List Nat, (∀ i ∈ is, i ∈ vs) → wipe σ' vs = wipe σ vs) → Q σ' H
def LGs (K : Fg) (is : List Nat) (g : PTGs) : TGs := fun vs σ H Q => ∃ N F ρ ds P, Stt K N F ρ σ H ∧ Reps K F ds vs ∧ g ds ρ P ∧ ∀ ρ' σ', Stt K N F ρ' σ' H → P ρ' → (∀ vs : List Nat, (∀ i ∈ is, i ∈ vs) → wipe σ' vs = wipe σ vs) → Q σ' H
structure pg (X : Cx) (tg : Expr) (is : List Nat) (g : PTG) : Prop where
  h : PG X tg (LG X.K is g)
structure pgs (X : Cx) (tg : List Expr) (is : List Nat) (g : PTGs) : Prop where
  h : PGs X tg (LGs X.K is g)
def gN (i : Nat) : PTG := fun d ρ Q => Q (ρ.set i (some (.sh d)))
def gT (n : Nat) (g : PTGs) : PTG
  | .tup ds, ρ, Q => ds.length = n ∧ g ds ρ Q
  | .ktup ds, ρ, Q => ds.length = n ∧ g ds ρ Q
  | _, _, _ => False
def gNilP : PTGs := fun ds ρ Q => ds = [] ∧ Q ρ
def gConsP (g : PTG) (h : PTGs) : PTGs
  | d :: r, ρ, Q => g d ρ fun ρ' => h r ρ' Q
  | [], _, _ => False
section
variable {K : Fg} {F F' : FS} {H H' : Hp} {X : Cx} {pos : Pos}
theorem PG_weak {e : Expr} {t t' : TG} (h : PG X e t) (w : ∀ v σ H Q, t' v σ H Q → t v σ H Q) : PG X e t' := ⟨fun pins s σ H v u Q I r q => h.run pins s σ H v u Q I r (w _ _ _ _ q)⟩
theorem PGs_weak {e : List Expr} {t t' : TGs} (h : PGs X e t) (w : ∀ v σ H Q, t' v σ H Q → t v σ H Q) : PGs X e t' := ⟨fun pins s σ H v u Q I r q => h.run pins s σ H v u Q I r (w _ _ _ _ q)⟩
theorem wipe_at {σ : L2.St} : ∀ {vs : List Nat} {j : Nat}, (wipe σ vs)[j]? = if j ∈ vs then σ[j]?.map (fun _ => none) else σ[j]?
  | [], j => by simp [wipe]
  | v :: vs, j => by
    have ih := wipe_at (σ := σ) (vs := vs) (j := j)
    show ((wipe σ vs).set v none)[j]? = _
    rw [List.getElem?_set]
    by_cases h : v = j
    · subst h
      rw [if_pos rfl, if_pos (show v ∈ v :: vs by simp), wipe_length]
      by_cases hl : v < σ.length
      · rw [if_pos hl, List.getElem?_eq_getElem hl]; rfl
      · rw [if_neg hl, List.getElem?_eq_none (Nat.le_of_not_lt hl)]; rfl
    · rw [if_neg h, ih]
      by_cases h2 : j ∈ vs
      · rw [if_pos h2, if_pos (show j ∈ v :: vs by simp [h2])]
      · rw [if_neg h2, if_neg (show ¬ j ∈ v :: vs by simp [h2, Ne.symm h])]
theorem wipe_set {σ : L2.St} {vs : List Nat} {i : Nat} {x : Option V} (h : i ∈ vs) : wipe (σ.set i x) vs = wipe σ vs := by
  apply List.ext_getElem?
  intro j
  rw [wipe_at, wipe_at]
  by_cases hj : j ∈ vs
  · rw [if_pos hj, if_pos hj, List.getElem?_set]
    by_cases e : i = j
    · subst e
      rw [if_pos rfl]
      by_cases hl : i < σ.length
      · rw [if_pos hl, List.getElem?_eq_getElem hl]; rfl
      · rw [if_neg hl, List.getElem?_eq_none (Nat.le_of_not_lt hl)]
    · rw [if_neg e]
  · have hne : i ≠ j := fun e => hj (by rw [← e]; exact h)
    rw [if_neg hj, if_neg hj, List.getElem?_set, if_neg hne]
theorem g_name {i : Nat} {x : Str} (hN : X.N.Nodup) (hi : X.N[i]? = some x := by rfl) (hx : Loc X.env.scope x := by first | exact Or.inl rfl | exact Or.inr rfl) (hf : X.fn x = true ∨ X.env.scope.names.lookup x = some .local := by first | exact .inl rfl | exact .inr rfl | assumption) : pg X (.Name x pos) [i] (gN i) :=
  ⟨PG_weak (pg_name hN hi hx hf) fun v σ H Q ⟨N, F, ρ, d, P, s, r, p, k⟩ => k _ _ (s.set_sh i r) p fun vs h => wipe_set (h i (by simp))⟩
theorem gs_nil : pgs X [] [] gNilP := ⟨PGs_weak pgs_nil fun v σ H Q ⟨N, F, ρ, d, P, s, r, p, k⟩ => by
  obtain ⟨rfl, p⟩ := p
  simp only [Reps] at r
  exact ⟨r, k _ _ s p fun _ _ => rfl⟩⟩
theorem gs_cons {e : Expr} {es : List Expr} {is js : List Nat} {g : PTG} {h : PTGs} (h1 : pg X e is g) (h2 : pgs X es js h)
    (hs : (assignEach (e :: es) X.env).map (·.2) = assign e X.env :: (assignEach es X.env).map (·.2) := by rfl) : pgs X (e :: es) (is ++ js) (gConsP g h) :=
  ⟨PGs_weak (pgs_cons h1.h h2.h hs) fun v σ H Q ⟨N, F, ρ, ds, P, s, r, p, k⟩ => by
    cases ds with
    | nil => exact p.elim
    | cons d r' =>
    simp only [Reps] at r
    obtain ⟨v, vs, rfl, r1, r2⟩ := r
    exact ⟨v, vs, rfl, N, F, ρ, d, _, s, r1, p, fun ρ' σ' s' p' w' => ⟨N, F, ρ', r', P, s', r2, p', fun ρ2 σ2 s2 p2 w2 => k ρ2 σ2 s2 p2 fun us hu => (w2 us fun i hi => hu i (by simp [hi])).trans (w' us fun i hi => hu i (by simp [hi]))⟩⟩⟩
theorem g_tup {es : List Expr} {is : List Nat} {kk : Nat} {g : PTGs} (hc : X.calm = true) (h : pgs X es is g) (hst : (assignEach es X.env).findIdx? (·.1) = none := by rfl) (n : Nat) (hn : (assignEach es X.env).length = n := by rfl) :
    pg X (.Tuple es kk pos) is (gT n g) :=
  ⟨PG_weak (pg_tup hc h.h hn hst) fun v σ H Q ⟨N, F, ρ, d, P, s, r, p, k⟩ => by
    cases d <;> try exact p.elim
    · rename_i ds
      obtain ⟨hl, p⟩ := p
      simp only [Rep] at r
      obtain ⟨a, vs, rfl, h1, q⟩ := r
      exact ⟨a, vs, rfl, Same.seqT s.fits.fz (.inl (.inl h1)), by rw [q.length]; exact hl, N, F, ρ, ds, P, s, q, p, k⟩
    · rename_i ds
      obtain ⟨hl, p⟩ := p
      simp only [Rep] at r
      obtain ⟨a, vs, rfl, h1, q⟩ := r
      exact ⟨a, vs, rfl, Same.seqT s.fits.fz h1, by rw [q.length]; exact hl, N, F, ρ, ds, P, s, q, p, k⟩⟩

/-! ### what is walked -/
def WalkD (K : Fg) (F : FS) (J : It) (ds : List D) : Prop := ∃ G Y, Walk J ds.length G Y ∧ (∀ F' H', Le F F' → Fits F' H' → G H') ∧ (∀ i H1 x H2 F1, Le F F1 → Fits F1 H1 → Y i H1 x H2 → ∃ d F2, ds[i]? = some d ∧ Ext No F1 H1 F2 H2 ∧ Rep K F2 d x)
def WalkE (K : Fg) (F : FS) (H : Hp) (J : It) (ds : List D) : Prop := ∃ G Y, Walk J ds.length G Y ∧ (∀ F' H', Ext No F H F' H' → G H') ∧ (∀ i H1 x H2 F1, Ext No F H F1 H1 → Y i H1 x H2 → ∃ d F2, ds[i]? = some d ∧ Ext No F1 H1 F2 H2 ∧ Rep K F2 d x)
theorem WalkD.e {J : It} {ds : List D} (w : WalkD K F J ds) (f : Fits F H) : WalkE K F H J ds := by
  obtain ⟨G, Y, h1, h2, h3⟩ := w
  exact ⟨G, Y, h1, fun F' H' x => h2 F' H' (x.le f) x.fits, fun i H1 x H2 F1 e => h3 i H1 x H2 F1 (e.le f) e.fits⟩
def LI (K : Fg) (w : PTA) : TI := fun σ H R => ∃ N F ρ P, Stt K N F ρ σ H ∧ w ρ P ∧ ∀ ds J F' H', P ds → Ext No F H F' H' → WalkD K F' J ds → R J H'
def LIr (K : Fg) (w : PTA) : TI := fun σ H R => ∃ N F ρ P, Stt K N F ρ σ H ∧ w ρ P ∧ ∀ ds J F' H', P ds → Ext No F H F' H' → WalkE K F' H' J ds → R J H'
def pi (X : Cx) (tg iter : Expr) (w : PTA) : Prop := PI X tg iter (LI X.K w)
def pir (X : Cx) (tg iter : Expr) (w : PTA) : Prop := PI X tg iter (LIr X.K w)
theorem PI_weak {tg e : Expr} {t t' : TI} (h : PI X tg e t) (w : ∀ σ H R, t' σ H R → t σ H R) : PI X tg e t' := ⟨fun pins s σ H R I q => h.run pins s σ H R I (w _ _ _ q)⟩
theorem pi.r {tg e : Expr} {w : PTA} (h : pi X tg e w) : pir X tg e w := PI_weak h fun σ H R ⟨N, F, ρ, P, s, p, k⟩ => ⟨N, F, ρ, P, s, p, fun ds J F' H' a b c => k ds J F' H' a b (c.e b.fits)⟩
theorem walkD_list {a : Addr} {vs : List V} {ds : List D} (h : SqL K F.fz a vs) (r : Reps K F ds vs) : WalkD K F (Itl K a) ds :=
  ⟨_, _, by rw [← r.length]; exact walk_list, fun F' H' l f => f.fz.seq (l.fz.seq h), fun i H1 x H2 F1 l f y => by
    obtain ⟨rfl, e⟩ := y
    obtain ⟨d, e1, r1⟩ := r.get' e
    exact ⟨d, F1, e1, Ext.refl f, r1.mono l⟩⟩
theorem walkD_tup {a : Addr} {vs : List V} {ds : List D} (h : SqT K F.fz a vs) (r : Reps K F ds vs) : WalkD K F (Itt K a) ds :=
  ⟨_, _, by rw [← r.length]; exact walk_tup, fun F' H' l f => Same.seqT f.fz (Same.seqT l.fz h), fun i H1 x H2 F1 l f y => by
    obtain ⟨rfl, e⟩ := y
    obtain ⟨d, e1, r1⟩ := r.get' e
    exact ⟨d, F1, e1, Ext.refl f, r1.mono l⟩⟩
theorem walkD_range (lo : Int) (n : Nat) : WalkD K F (Itr lo n) ((List.range n).map fun (k : Nat) => .int (lo + k)) :=
  ⟨fun _ => True, fun i H1 x H2 => i < n ∧ H2 = H1 ∧ x = .int (lo + i), by
    rw [List.length_map, List.length_range]
    exact ⟨fun _ _ hi _ => hi, fun _ _ => Nat.le_refl _, fun i _ _ _ hi _ y => ⟨hi, y⟩⟩, fun _ _ _ _ => trivial, fun i H1 x H2 F1 l f ⟨hi, e1, e2⟩ => by
    subst e1; subst e2
    exact ⟨.int (lo + i), F1, by rw [List.getElem?_map, List.getElem?_range hi]; rfl, Ext.refl f, rep_int⟩⟩
/-- a list or a tuple, as it comes -/
theorem pi_seq {tg l : Expr} {tl : TE} (hl : PE X l tl) : PI X tg l (fun σ H R => tl σ H fun x H1 => ∃ a, x = .ref a ∧ (((∃ xs, SqL X.K H1 a xs) ∧ R (Itl X.K a) H1) ∨ ((∃ xs, SqT X.K H1 a xs) ∧ R (Itt X.K a) H1))) := by
  constructor
  intro pins s σ H R I h
  refine thn (hl.run pins s σ H _ I h) ?_
  rintro v s1 ⟨x, H1, I1, r1, a, rfl, ⟨⟨xs, hq⟩, q⟩ | ⟨⟨xs, hq⟩, q⟩⟩
  · cases r1
    obtain ⟨its, _, p, _⟩ := I1.list hq
    exact wpAny_pyIter_list p.isList (pi_one I1 _ (turn_list a _) ⟨_, Heap.get?_push_size _ rfl, rfl, rfl⟩ q)
  · cases r1
    obtain ⟨its, _, p, _⟩ := I1.tuple hq
    exact wpAny_pyIter_tuple (show s1.heap.IsTuple a its.toArray from p) (pi_one I1 _ (turn_tuple a _) ⟨_, Heap.get?_push_size _ rfl, rfl, rfl⟩ q)
def pSeq (p : PTE) : PTA := fun ρ P => p ρ fun d => isSome P (asList d)
theorem i_seq {tg l : Expr} {p : PTE} (h : pe X l p) : pi X tg l (pSeq p) :=
  PI_weak (pi_seq h) fun σ H R ⟨N, F, ρ, P, s, p, k⟩ => ⟨N, F, ρ, _, s, p, fun d v F1 H1 p1 x1 r1 => by
    obtain ⟨ds, e, p1⟩ := isSome_inv p1
    cases d <;> cases e
    · simp only [Rep] at r1
      obtain ⟨a, vs, rfl, h1, q⟩ := r1
      exact ⟨a, rfl, .inr ⟨⟨vs, Same.seqT x1.fits.fz (.inl (.inl h1))⟩, k _ _ _ _ p1 x1 (walkD_tup (.inl (.inl h1)) q)⟩⟩
    · simp only [Rep] at r1
      obtain ⟨a, vs, rfl, h1, q⟩ := r1
      exact ⟨a, rfl, .inl ⟨⟨vs, SqL.of (x1.fits.fz _ _ h1)⟩, k _ _ _ _ p1 x1 (walkD_list (SqL.of h1) q)⟩⟩
    · simp only [Rep] at r1
      obtain ⟨a, vs, rfl, h1, q⟩ := r1
      exact ⟨a, rfl, .inl ⟨⟨vs, x1.fits.fz.seq h1⟩, k _ _ _ _ p1 x1 (walkD_list h1 q)⟩⟩
    · simp only [Rep] at r1
      obtain ⟨a, vs, rfl, h1, q⟩ := r1
      exact ⟨a, rfl, .inr ⟨⟨vs, Same.seqT x1.fits.fz h1⟩, k _ _ _ _ p1 x1 (walkD_tup h1 q)⟩⟩⟩
theorem walkE_own {a : Addr} {vs : List V} {ds : List D} (f : Fits F H) (h : H a = some (.lst vs)) (hz : F.fz a = none) (hi : F.iv a = none) (r : Reps K F ds vs) : WalkE K F H (Itl K a) ds :=
  ⟨_, _, by rw [← r.length]; exact walk_list, fun F' H' x => by
      rcases x.keep _ _ h with q | ⟨φ, q⟩ | q
      · exact q.elim
      · rw [hi] at q; cases q
      · exact SqL.of q, fun i H1 x H2 F1 l y => by
    obtain ⟨rfl, e⟩ := y
    obtain ⟨d, e1, r1⟩ := r.get' e
    exact ⟨d, F1, e1, Ext.refl l.fits, r1.ext l f⟩⟩
/-- walked within an expression: an owned list, too -/
theorem ir_seq {tg l : Expr} {p : PTE} (h : pr X l p) : pir X tg l (pSeq p) :=
  PI_weak (pi_seq h) fun σ H R ⟨N, F, ρ, P, s, p, k⟩ => ⟨N, F, ρ, _, s, p, fun d v F1 H1 p1 x1 r1 => by
    obtain ⟨ds, e, p1⟩ := isSome_inv p1
    rcases r1 with r1 | ⟨a, rfl, hz, hi, o⟩
    · cases d <;> cases e
      · simp only [Rep] at r1
        obtain ⟨a, vs, rfl, h1, q⟩ := r1
        exact ⟨a, rfl, .inr ⟨⟨vs, Same.seqT x1.fits.fz (.inl (.inl h1))⟩, k _ _ _ _ p1 x1 ((walkD_tup (.inl (.inl h1)) q).e x1.fits)⟩⟩
      · simp only [Rep] at r1
        obtain ⟨a, vs, rfl, h1, q⟩ := r1
        exact ⟨a, rfl, .inl ⟨⟨vs, SqL.of (x1.fits.fz _ _ h1)⟩, k _ _ _ _ p1 x1 ((walkD_list (SqL.of h1) q).e x1.fits)⟩⟩
      · simp only [Rep] at r1
        obtain ⟨a, vs, rfl, h1, q⟩ := r1
        exact ⟨a, rfl, .inl ⟨⟨vs, x1.fits.fz.seq h1⟩, k _ _ _ _ p1 x1 ((walkD_list h1 q).e x1.fits)⟩⟩
      · simp only [Rep] at r1
        obtain ⟨a, vs, rfl, h1, q⟩ := r1
        exact ⟨a, rfl, .inr ⟨⟨vs, Same.seqT x1.fits.fz h1⟩, k _ _ _ _ p1 x1 ((walkD_tup h1 q).e x1.fits)⟩⟩
    · cases d <;> cases e
      · exact o.elim
      · obtain ⟨vs, h1, q⟩ := o
        exact ⟨a, rfl, .inl ⟨⟨vs, SqL.of h1⟩, k _ _ _ _ p1 x1 (walkE_own x1.fits h1 hz hi q)⟩⟩
      · exact o.elim
      · exact o.elim⟩
def isInt (P : Int → Prop) : D → Prop
  | .int i => P i
  | _ => False
theorem isInt_inv {P : Int → Prop} {d : D} (h : isInt P d) : ∃ i, d = .int i ∧ P i := by
  cases d <;> first | exact h.elim | exact ⟨_, rfl, h⟩
def rangeD (lo : Int) (n : Nat) : List D := (List.range n).map fun (k : Nat) => .int (lo + k)
def pRange1 (p : PTE) : PTA := fun ρ P => p ρ (isInt fun n => -(2 ^ 62) ≤ n ∧ n < 2 ^ 62 ∧ P (rangeD 0 n.toNat))
theorem i_range1 {tg a : Expr} {q : PTE} {p pos : Pos} (ha : pr X a q) (hg : Gl X "range") (hm : X.mg "range" = none) (hs1 : starEach [a] X.env = [(false, eval a X.env)] := by rfl) : pi X tg (.Call (.Name "range" p) [a] [] pos) (pRange1 q) :=
  PI_weak (pi_range1 hg hm (pa_cons ha pa_nil hs1) hs1) fun σ H R ⟨N, F, ρ, P, s, p, k⟩ => ⟨N, F, ρ, _, s, p, fun d v F1 H1 p1 x1 r1 => by
    obtain ⟨n, rfl, h1, h2, p1⟩ := isInt_inv p1
    exact ⟨n, by rw [r1.int], h1, h2, k _ _ _ _ p1 x1 (walkD_range 0 n.toNat)⟩⟩
def pRange2 (p q : PTE) : PTA := fun ρ P => p ρ (isInt fun i => q ρ (isInt fun j => (-(2 ^ 62) ≤ i ∧ i < 2 ^ 62 ∧ -(2 ^ 62) ≤ j ∧ j < 2 ^ 62) ∧ P (rangeD i (j - i).toNat)))
theorem i_range2 {tg a b : Expr} {q q2 : PTE} {p pos : Pos} (ha : pr X a q) (hb : pr X b q2) (hg : Gl X "range") (hm : X.mg "range" = none) (hs : starEach [a, b] X.env = [(false, eval a X.env), (false, eval b X.env)] := by rfl) (hs2 : starEach [b] X.env = [(false, eval b X.env)] := by rfl) : pi X tg (.Call (.Name "range" p) [a, b] [] pos) (pRange2 q q2) :=
  PI_weak (pi_range2 hg hm (pa_cons ha (pa_cons hb pa_nil hs2) (by rw [hs, hs2])) hs hs2) fun σ H R ⟨N, F, ρ, P, s, p, k⟩ => ⟨N, F, ρ, _, s, p, fun d v F1 H1 p1 x1 r1 => by
    obtain ⟨i, rfl, p1⟩ := isInt_inv p1
    refine ⟨N, F1, ρ, _, s.ext x1, p1, fun e u F2 H2 p2 x2 r2 => ?_⟩
    obtain ⟨j, rfl, h1, p2⟩ := isInt_inv p2
    exact ⟨i, j, by rw [r1.int, r2.int], h1, k _ _ _ _ p2 (x1.then0 x2) (walkD_range i (j - i).toNat)⟩⟩

/-! ### for -/
def forW (g : PTG) (body : PTS) (PD : PEnds) : List D → Env → Prop
  | [], ρ => PD.nx ρ
  | d :: ds, ρ => g d ρ fun ρ' => body { nx := forW g body PD ds, rt := PD.rt, ct := forW g body PD ds, bk := PD.nx, rn := PD.rn, xr := PD.xr } ρ'
/-- a for by what holds of the rest and the slots -/
def forI (g : PTG) (body : PTS) (PD : PEnds) (ds : List D) (ρ : Env) : Prop :=
  ∃ I : List D → Env → Prop, I ds ρ ∧ (∀ d ds ρ, I (d :: ds) ρ → g d ρ fun ρ' => body { nx := I ds, rt := PD.rt, ct := I ds, bk := PD.nx, rn := PD.rn, xr := PD.xr } ρ') ∧ ∀ ρ, I [] ρ → PD.nx ρ
theorem forI_unroll {g : PTG} {body : PTS} {PD : PEnds} {ds : List D} {ρ : Env} (h : forW g body PD ds ρ) : forI g body PD ds ρ := ⟨fun ds ρ => forW g body PD ds ρ, h, fun _ _ _ h => h, fun _ h => h⟩
theorem forI_inv {g : PTG} {body : PTS} {PD : PEnds} {ds : List D} {ρ : Env} (I : List D → Env → Prop) (h0 : I ds ρ) (hs : ∀ d ds ρ, I (d :: ds) ρ → g d ρ fun ρ' => body { nx := I ds, rt := PD.rt, ct := I ds, bk := PD.nx, rn := PD.rn, xr := PD.xr } ρ') (hd : ∀ ρ, I [] ρ → PD.nx ρ) : forI g body PD ds ρ := ⟨I, h0, hs, hd⟩
def qFor (w : PTA) (g : PTG) (body : PTS) : PTS := fun PD ρ => w ρ fun ds => forI g body PD ds ρ
theorem s_for {tg iter : Expr} {body : List Stmt} {is : List Nat} {w : PTA} {g : PTG} {p : PTS} (hp : PassesOwn (model X.prog X.w) X.A X.env X.xe) (hc : X.calm = true) (hi : pi X tg iter w) (hg : pg X tg is g) (hb : pss X body p)
    (hs : ∀ x, foldedSetIterable iter X.env x = pure x := by intro _; rfl) : ps X (.For tg iter body [] pos) (qFor w g p) :=
  PS_weak (ps_for hp hc hi hg.h hb hs) fun E σ H ⟨B, F, ρ, PD, s, q, e⟩ => ⟨B.N, F, ρ, _, s.st, q, fun ds J F1 H1 p1 x1 wk => by
    obtain ⟨G, Y, wk, hG, hY⟩ := wk
    obtain ⟨I, p1, hst, hdn⟩ := p1
    have s1 := s.go x1
    refine for_it wk (fun i σ' H' => ∃ F' ρ', FSt X.K B F' ρ' σ' H' ∧ Le F1 F' ∧ I (ds.drop i) ρ') ⟨F1, ρ, s1, Le.refl F1, by simpa using p1⟩ (fun i σ' H' _ ⟨F', ρ', s', l', _⟩ => hG F' H' l' s'.ext.fits) ?_ ?_
    · rintro i x σ' H' H2 hi' ⟨F', ρ', s', l', q'⟩ y
      obtain ⟨d, F2, hd, x2, r2⟩ := hY i H' x H2 F' l' s'.ext.fits y
      have hdr : ds.drop i = d :: ds.drop (i + 1) := by
        obtain ⟨h1, h2⟩ := List.getElem?_eq_some_iff.mp hd
        rw [List.drop_eq_getElem_cons h1, h2]
      rw [hdr] at q'
      have q' := hst _ _ _ q'
      have s2 := s'.go x2
      have l2 : Le F1 F2 := l'.trans (x2.le s'.ext.fits)
      have e2 := (e.up (x1.le s.ext.fits)).up l2
      refine ⟨B.N, F2, ρ', d, _, s2.st, r2, q', fun ρ3 σ3 st3 q3 _ => ⟨B, F2, ρ3, _, ⟨s2.ext, st3⟩, q3, ⟨fun F4 ρ4 σ4 H4 s4 l4 q4 => ⟨F4, ρ4, s4, l2.trans l4, q4⟩, e2.rt, fun F4 ρ4 σ4 H4 s4 l4 q4 => e2.nx F4 ρ4 σ4 H4 s4 l4 q4, fun F4 ρ4 σ4 H4 s4 l4 q4 => ⟨F4, ρ4, s4, l2.trans l4, q4⟩, e2.rn, e2.ex⟩⟩⟩
    · rintro σ' H' ⟨F', ρ', s', l', q'⟩
      rw [List.drop_length] at q'
      exact e.nx F' ρ' σ' H' s' ((x1.le s.ext.fits).trans l') (hdn _ q')⟩

/-! ### while -/
def whileW (t : PTT) (body : PTS) (PD : PEnds) : Nat → Env → Prop
  | 0, _ => False
  | n + 1, ρ => t ρ fun c => if c = true then body { nx := whileW t body PD n, rt := PD.rt, ct := whileW t body PD n, bk := PD.nx, rn := PD.rn, xr := PD.xr } ρ else PD.nx ρ
def whileI (t : PTT) (body : PTS) (PD : PEnds) (ρ : Env) : Prop :=
  ∃ I : Nat → Env → Prop, (∃ n, I n ρ) ∧ ∀ n ρ, I n ρ → t ρ fun c => if c = true then body { nx := fun ρ => ∃ m, m < n ∧ I m ρ, rt := PD.rt, ct := fun ρ => ∃ m, m < n ∧ I m ρ, bk := PD.nx, rn := PD.rn, xr := PD.xr } ρ else PD.nx ρ
theorem whileI_inv {t : PTT} {body : PTS} {PD : PEnds} {ρ : Env} (I : Nat → Env → Prop) (n : Nat) (h0 : I n ρ) (hs : ∀ n ρ, I n ρ → t ρ fun c => if c = true then body { nx := fun ρ => ∃ m, m < n ∧ I m ρ, rt := PD.rt, ct := fun ρ => ∃ m, m < n ∧ I m ρ, bk := PD.nx, rn := PD.rn, xr := PD.xr } ρ else PD.nx ρ) : whileI t body PD ρ := ⟨I, ⟨n, h0⟩, hs⟩
def qWhile (t : PTT) (body : PTS) : PTS := fun PD ρ => whileI t body PD ρ
theorem s_while {c : Expr} {body : List Stmt} {t : PTT} {p : PTS} (hp : PassesOwn (model X.prog X.w) X.A X.env X.xe) (hc : pt X c t) (hb : pss X body p) : ps X (.While c body [] pos) (qWhile t p) :=
  PS_weak (ps_while hp hc hb) fun E σ H ⟨B, F, ρ, PD, s, ⟨I, ⟨n, q⟩, hst⟩, e⟩ => by
    refine ⟨fun m σ' H' => ∃ F' ρ', FSt X.K B F' ρ' σ' H' ∧ Le F F' ∧ I m ρ', ⟨n, F, ρ, s, Le.refl F, q⟩, ?_⟩
    rintro m σ' H' ⟨F', ρ', s', l', q'⟩
    · have q' := hst _ _ q'
      refine ⟨B.N, F', ρ', _, s'.st, q', fun b F1 H1 p1 x1 => ?_⟩
      have l1 := l'.trans (x1.le s'.ext.fits)
      have e1 := e.up l1
      cases b with
      | true =>
        refine ⟨fun σ2 H2 => ∃ F2 ρ2, FSt X.K B F2 ρ2 σ2 H2 ∧ Le F F2 ∧ ∃ m', m' < m ∧ I m' ρ2, fun σ2 H2 ⟨F2, ρ2, h1, h2, m', h3, h4⟩ => ⟨m', h3, F2, ρ2, h1, h2, h4⟩, ?_⟩
        exact ⟨B, F1, ρ', _, s'.go x1, p1, ⟨fun F4 ρ4 σ4 H4 s4 l4 q4 => ⟨F4, ρ4, s4, l1.trans l4, q4⟩, e1.rt, fun F4 ρ4 σ4 H4 s4 l4 q4 => e1.nx F4 ρ4 σ4 H4 s4 l4 q4, fun F4 ρ4 σ4 H4 s4 l4 q4 => ⟨F4, ρ4, s4, l1.trans l4, q4⟩, e1.rn, e1.ex⟩⟩
      | false => exact e1.nx F1 ρ' σ' H1 (s'.go x1) (Le.refl F1) p1

/-! ### comprehensions -/
def compW (vs : List Nat) (g : PTG) (t : PTT) (e : PTE) (ρ : Env) (P : DK) : List D → List D → Prop
  | [], acc => P (.lst acc)
  | d :: ds, acc => g d (wipeE ρ vs) fun ρ' => t ρ' fun b => if b = true then e ρ' fun y => acc.length < sizeLine ∧ compW vs g t e ρ P ds (acc ++ [y]) else compW vs g t e ρ P ds acc
def compI (vs : List Nat) (g : PTG) (t : PTT) (e : PTE) (ρ : Env) (P : DK) (ds : List D) : Prop :=
  ∃ I : List D → List D → Prop, I ds [] ∧ (∀ d ds acc, I (d :: ds) acc → g d (wipeE ρ vs) fun ρ' => t ρ' fun b => if b = true then e ρ' fun y => acc.length < sizeLine ∧ I ds (acc ++ [y]) else I ds acc) ∧ ∀ acc, I [] acc → P (.lst acc)
theorem compI_unroll {vs : List Nat} {g : PTG} {t : PTT} {e : PTE} {ρ : Env} {P : DK} {ds : List D} (h : compW vs g t e ρ P ds []) : compI vs g t e ρ P ds := ⟨fun ds acc => compW vs g t e ρ P ds acc, h, fun _ _ _ h => h, fun _ h => h⟩
theorem compI_inv {vs : List Nat} {g : PTG} {t : PTT} {e : PTE} {ρ : Env} {P : DK} {ds : List D} (I : List D → List D → Prop) (h0 : I ds []) (hs : ∀ d ds acc, I (d :: ds) acc → g d (wipeE ρ vs) fun ρ' => t ρ' fun b => if b = true then e ρ' fun y => acc.length < sizeLine ∧ I ds (acc ++ [y]) else I ds acc) (hd : ∀ acc, I [] acc → P (.lst acc)) : compI vs g t e ρ P ds := ⟨I, h0, hs, hd⟩
def pComp (vs : List Nat) (w : PTA) (g : PTG) (t : PTT) (e : PTE) : PTE := fun ρ P => w ρ fun ds => compI vs g t e ρ P ds
def pYes : PTT := fun _ P => P true
def pts (X : Cx) (ifs : List Expr) (p : PTT) : Prop := PTs X ifs (LT X.K p)
theorem PTs_weak {e : List Expr} {t t' : TT} (h : PTs X e t) (w : ∀ σ H Q, t' σ H Q → t σ H Q) : PTs X e t' := ⟨fun pins s σ H Q I q => h.run pins s σ H Q I (w _ _ _ q)⟩
theorem ts_nil : pts X [] pYes := PTs_weak L2.pts_nil fun σ H Q ⟨N, F, ρ, P, s, p, k⟩ => k true F H p (Ext.refl s.fits)
theorem ts_one {c : Expr} {p : PTT} (h : pt X c p) : pts X [c] p := L2.pts_one h
theorem Ext.newobj {O : Addr → Prop} (x : Ext O F H F' H') {a : Addr} {o : HO} (hn : H a = none) (hz : F'.fz a = none) (hi : F'.iv a = none) (he : H' a ≠ none) : Ext O F H F' (upd H' a o) := by
  refine ⟨x.fz, x.iv, ⟨fun b y q => ?_, fun b φ q => ?_⟩, x.nfz, x.niv, fun b y q => ?_, fun b q => ?_⟩
  · rw [upd_ne (fun z => by rw [z, hz] at q; cases q)]; exact x.fits.fz _ _ q
  · obtain ⟨y, h1, h2⟩ := x.fits.iv b φ q
    exact ⟨y, by rw [upd_ne (fun z => by rw [z, hi] at q; cases q)]; exact h1, h2⟩
  · rcases x.keep b y q with h | h | h
    · exact .inl h
    · exact .inr (.inl h)
    · exact .inr (.inr (by rw [upd_ne (fun z => by rw [z, hn] at q; cases q)]; exact h))
  · by_cases z : b = a
    · subst z; rw [upd_same] at q; cases q
    · rw [upd_ne z] at q; exact x.dom b q
theorem comp_ok {own : List (Str × Nat)} {is : List Nat} {w : PTA} {g : PTG} {t : PTT} {e : PTE} (hsub : ∀ i ∈ is, i ∈ own.map (·.2)) : ∀ σ H Q, Lf X.K (pComp (own.map (·.2)) w g t e) σ H Q → tLc (LIr X.K w) (LG X.K is g) (LT X.K t) (L X.K e) (own.map (·.2)) σ H Q :=
  fun σ H Q ⟨N, F, ρ, P, s, q, k⟩ => ⟨N, F, ρ, _, s, q, fun ds J F1 H1 p1 x1 wk D0 hD => by
    obtain ⟨G, Y, wk, hG, hY⟩ := wk
    obtain ⟨I, p1, hst, hdn⟩ := p1
    have hz1 := x1.fits.none_fz hD
    have hi1 := x1.fits.none_iv hD
    refine lc_it wk (fun i H' => ∃ F' acc vs, Ext No F1 H1 F' H' ∧ F'.fz D0 = none ∧ F'.iv D0 = none ∧ H' D0 = some (.lst vs) ∧ Reps X.K F' acc vs ∧ I (ds.drop i) acc)
      ⟨F1, [], [], Ext.newM x1.fits hD, hz1, hi1, upd_same, Reps.nil, by simpa using p1⟩ (fun i H' _ ⟨F', _, _, x', _⟩ => hG F' H' x') ?_ ?_
    · rintro i x H' H2 hi' ⟨F', acc, vs, x', hz, hv, hl, rs, q'⟩ y
      obtain ⟨d, F2, hd, x2, r2⟩ := hY i H' x H2 F' x' y
      have hdr : ds.drop i = d :: ds.drop (i + 1) := by
        obtain ⟨h1, h2⟩ := List.getElem?_eq_some_iff.mp hd
        rw [List.drop_eq_getElem_cons h1, h2]
      rw [hdr] at q'
      have q' := hst _ _ _ q'
      have st2 := ((s.ext x1).ext (x'.then0 x2)).wipe (own.map (·.2))
      have ow : OwnAt X.K F' H' D0 (.lst acc) := ⟨vs, hl, rs⟩
      refine ⟨N, F2, _, d, _, st2, r2, q', fun ρ3 σ3 st3 q3 w3 => ⟨?_, N, F2, ρ3, _, st3, q3, fun b F3 H3 p3 x3 => ?_⟩⟩
      · rw [w3 _ hsub]
        apply List.ext_getElem?
        intro j
        rw [wipe_at]
        by_cases hj : j ∈ own.map (·.2)
        · rw [if_pos hj, wipe_at, if_pos hj]
          cases σ[j]? <;> rfl
        · rw [if_neg hj]
      · have x23 := x2.then0 x3
        cases b with
        | false =>
          obtain ⟨o1, o2, o3⟩ := own_keep ow hz hv x23 x'.fits
          obtain ⟨vs', h1, h2⟩ := o1
          exact ⟨F3, acc, vs', x'.then0 x23, o2, o3, h1, h2, p3⟩
        | true =>
          refine ⟨N, F3, ρ3, _, st3.ext x3, p3, fun z v F4 H4 p4 x4 r4 => ?_⟩
          obtain ⟨o1, o2, o3⟩ := own_keep ow hz hv (x23.then0 x4) x'.fits
          obtain ⟨vs', h1, h2⟩ := o1
          refine ⟨vs', h1, by rw [h2.length]; exact p4.1, F4, acc ++ [z], vs' ++ [v], (x'.then0 (x23.then0 x4)).newobj hD o2 o3 (by rw [h1]; intro z; cases z), o2, o3, upd_same, h2.append (Reps.one r4), p4.2⟩
    · rintro H' ⟨F', acc, vs, x', hz, hv, hl, rs, q'⟩
      rw [List.drop_length] at q'
      exact k _ D0 F' H' (hdn _ q') (x1.then0 x') (x1.dom _ hD) hz hv ⟨vs, hl, rs⟩⟩
theorem f_comp {elt tg iter : Expr} {ifs : List Expr} {scope : Scope} {own : List (Str × Nat)} {is : List Nat} {w : PTA} {g : PTG} {t : PTT} {e : PTE} (hc : X.calm = true) (hN : X.N.Nodup) (hi : pir X tg iter w) (ok : BlkOk X.N X.env.scope scope own)
    (hg : ∀ (s : Shared) (H : Hp) (C : Addr) (cl : List (Str × Addr)) (fp : List Addr), pg (X.blk s H scope (compEnvC scope cl C X.env) fp) tg is g) (ht : ∀ (s : Shared) (H : Hp) (C : Addr) (cl : List (Str × Addr)) (fp : List Addr), pts (X.blk s H scope (compEnvC scope cl C X.env) fp) ifs t)
    (he : ∀ (s : Shared) (H : Hp) (C : Addr) (cl : List (Str × Addr)) (fp : List Addr), pe (X.blk s H scope (compEnvC scope cl C X.env) fp) elt e) (hs : ∀ x, foldedSetIterable iter X.env x = pure x := by intro _; rfl) (hsub : ∀ i ∈ is, i ∈ own.map (·.2) := by decide) :
    pf X (.ListComp elt [⟨tg, iter, ifs, 0⟩] scope pos) (pComp (own.map (·.2)) w g t e) :=
  PE_weak (pe_lc (g := LG X.K is g) (tt := LT X.K t) (te := L X.K e) hc hN hi ok (fun a b c d e => (hg a b c d e).h) ht he hs) (comp_ok hsub)
end
end Pu
namespace Pu
open PySem PySem.Spec L2

/-! ### promises over plain data -/
abbrev Pr := List D → DK → Prop
def spOf (K : Fg) (c : Pr) : Sp := fun vs H Q _ => ∃ F ds P, Fits F H ∧ Reps K F ds vs ∧ c ds P ∧ Kont K F H P Q
/-- the first argument is an object that the def changes -/
abbrev PrIo := D → List D → (D → D → Prop) → Prop
def spIo (K : Fg) (c : PrIo) : Sp := fun vs H Q _ => ∃ F a vs' d0 ds P, vs = .ref a :: vs' ∧ Fits F H ∧ F.fz a = none ∧ F.iv a = none ∧ OwnAt K F H a d0 ∧ Reps K F ds vs' ∧ c d0 ds P ∧
  ∀ d d1 v F' H', P d d1 → Ext (fun b => b = a) F H F' H' → F'.fz a = none → F'.iv a = none → OwnAt K F' H' a d1 → Rep K F' d v → Q v H'
def startE (N : List Str) (ds : List D) : Env := ds.map (fun d => some (.sh d)) ++ List.replicate (N.length - ds.length) none
def startIo (N : List Str) (d0 : D) (ds : List D) : Env := some (.ow false d0) :: (ds.map (fun d => some (.sh d)) ++ List.replicate (N.length - (ds.length + 1)) none)
def endOf (P : DK) : PEnds := { nx := fun _ => P .non, rt := fun d _ => P d, bk := fun _ => False, ct := fun _ => False, rn := fun d _ => P d, xr := fun _ _ _ _ => False }
/-- a def that hands back a new object -/
def endNw (P : DK) : PEnds := { nx := fun _ => False, rt := fun _ _ => False, bk := fun _ => False, ct := fun _ => False, rn := fun d _ => P d, xr := fun _ _ _ _ => False }
def KontN (K : Fg) (F : FS) (H : Hp) (P : DK) (Q : VK) : Prop := ∀ d a F' H', P d → Ext No F H F' H' → H a = none → F'.fz a = none → F'.iv a = none → OwnAt K F' H' a d → Q (.ref a) H'
def spNw (K : Fg) (c : Pr) : Sp := fun vs H Q _ => ∃ F ds P, Fits F H ∧ Reps K F ds vs ∧ c ds P ∧ KontN K F H P Q
def atOwF (P : DK) : Option (Option Sl) → Prop
  | some (some (.ow false d)) => P d
  | _ => False
theorem atOwF_inv {P : DK} {x : Option (Option Sl)} (h : atOwF P x) : ∃ d, x = some (some (.ow false d)) ∧ P d := by
  match x, h with
  | some (some (.ow false d)), h => exact ⟨d, rfl, h⟩
def endIo (P : D → D → Prop) : PEnds := { nx := fun ρ => atOwF (P .non) ρ[0]?, rt := fun d ρ => atOwF (P d) ρ[0]?, bk := fun _ => False, ct := fun _ => False, rn := fun _ _ => False, xr := fun _ _ _ _ => False }
section
variable {P : Program} {w : World} {K : Fg} {mg : Str → Option Value} {base : Heap} {F F' : FS} {H H' : Hp}
theorem Reps.at : ∀ {ds : List D} {vs : List V} {i : Nat} {x : Option Sl} {ov : Option V} {n : Nat} {N : Bool → Addr → Prop}, Reps K F ds vs →
    (ds.map (fun d => some (Sl.sh d)) ++ List.replicate n none)[i]? = some x → (vs.map some ++ List.replicate n none)[i]? = some ov → SlotOk K N F H x ov
  | [], _, i, x, ov, n, N, r, h1, h2 => by
    simp only [Reps] at r
    subst r
    simp only [List.map_nil, List.nil_append, List.getElem?_replicate] at h1
    split at h1
    · cases h1; trivial
    · cases h1
  | d :: ds, _, i, x, ov, n, N, r, h1, h2 => by
    simp only [Reps] at r
    obtain ⟨v, q, rfl, r1, r2⟩ := r
    cases i with
    | zero =>
      simp only [List.map_cons, List.cons_append, List.getElem?_cons_zero] at h1 h2
      cases h1; cases h2
      exact ⟨v, rfl, r1⟩
    | succ i =>
      simp only [List.map_cons, List.cons_append, List.getElem?_cons_succ] at h1 h2
      exact Reps.at (i := i) r2 h1 h2
theorem no_foot {ds : List D} {n i : Nat} {x : Option Sl} {ov : Option V} {y : Addr} (h : (ds.map (fun d => some (Sl.sh d)) ++ List.replicate n none)[i]? = some x) (f : Foot H x ov y) : False := by
  induction ds generalizing i with
  | nil =>
    simp only [List.map_nil, List.nil_append, List.getElem?_replicate] at h
    split at h
    · cases h; exact f.elim
    · cases h
  | cons e ds ih =>
    cases i with
    | zero => simp only [List.map_cons, List.cons_append, List.getElem?_cons_zero] at h; cases h; exact f.elim
    | succ i => simp only [List.map_cons, List.cons_append, List.getElem?_cons_succ] at h; exact ih h
theorem start_st {N : List Str} {ds : List D} {vs : List V} {Nn : Bool → Addr → Prop} (f : Fits F H) (r : Reps K F ds vs) : Stt K Nn F (startE N ds) (L2.start N vs) H := by
  have hl := r.length
  refine ⟨f, ?_, fun i x ov h1 h2 => ?_, fun i j x x' ov ov' a h1 h2 h3 h4 f1 f2 => (no_foot h1 f1).elim⟩
  · simp only [startE, L2.start, List.length_append, List.length_map, List.length_replicate, hl]
  · unfold L2.start at h2
    rw [hl] at h2
    exact Reps.at r h1 h2
theorem start_io {N : List Str} {d0 : D} {ds : List D} {vs : List V} {a : Addr} {Nn : Bool → Addr → Prop} (f : Fits F H) (r : Reps K F ds vs) (n : Nn false a) (hz : F.fz a = none) (hi : F.iv a = none) (o : OwnAt K F H a d0) :
    Stt K Nn F (startIo N d0 ds) (L2.start N (.ref a :: vs)) H := by
  have hl := r.length
  have e : L2.start N (V.ref a :: vs) = some (V.ref a) :: (vs.map some ++ List.replicate (N.length - (ds.length + 1)) none) := by
    simp only [L2.start, List.map_cons, List.cons_append, List.length_cons, hl]
  rw [e]
  refine ⟨f, ?_, fun i x ov h1 h2 => ?_, fun i j x x' ov ov' a' h1 h2 h3 h4 f1 f2 => ?_⟩
  · simp only [startIo, List.length_cons, List.length_append, List.length_map, List.length_replicate, hl]
  · cases i with
    | zero =>
      simp only [startIo, List.getElem?_cons_zero] at h1 h2
      cases h1; cases h2
      exact ⟨a, rfl, n, hz, hi, o⟩
    | succ i =>
      simp only [startIo, List.getElem?_cons_succ] at h1 h2
      exact Reps.at r h1 h2
  · cases i with
    | zero =>
      cases j with
      | zero => rfl
      | succ j => simp only [startIo, List.getElem?_cons_succ] at h3; exact (no_foot h3 f2).elim
    | succ i => simp only [startIo, List.getElem?_cons_succ] at h1; exact (no_foot h1 f1).elim
/-- THE RULE for a def -/
theorem fn_ok {x qual : Str} {st : Stmt} {f : Addr} {fd : FuncData} {N ps : List Str} {k : Nat} {c : Pr} (G : Fun K x qual st f fd) (S : FnScope N ps (defScope st)) (hlen : ∀ ds P, c ds P → ds.length = ps.length)
    (hbody : ∀ (cdv : Value) (A : Around) (outer : List PySem.Env) (s : Shared) (H : Hp) (E : XK), Room k (A.deeper (PyProof.Rows.envOfC qual (defScope st) s.heap.objs.size f cdv)) →
      ∃ p, pss (cxOf CX0 P w K mg base N qual (defScope st) f cdv A outer s H E).nox (defBody st) p ∧ ∀ ds R, c ds R → p (endOf R) (startE N ds)) : FnOk P w K mg base CX0 (k + 1) f fd ps (spOf K c) := by
  refine G.ok S (fun vs H Q E ⟨F, ds, R, _, r, h, _⟩ => by rw [r.length]; exact hlen ds R h) (fun cdv A outer s H vs Q E hr ⟨F, ds, R, ft, r, h, k⟩ => ?_)
  obtain ⟨p, hp, hq⟩ := hbody cdv A outer s H E hr
  have s0 : FSt K ⟨No, F, H⟩ F (startE N ds) (L2.start N vs) H := ⟨Ext.refl ft, start_st ft r⟩
  refine ⟨_, hp, ⟨No, F, H⟩, F, startE N ds, endOf R, s0, hq ds R h, ⟨fun F' ρ σ H' s' _ q => k _ _ F' H' q s'.ext rep_non, fun F' ρ σ H' d v s' _ q r' => k d v F' H' q s'.ext r', fun F' ρ σ H' s' _ q => q.elim, fun F' ρ σ H' s' _ q => q.elim, fun F' ρ σ H' d a s' _ q hn hz hi ow => by
    obtain ⟨o, eo⟩ := some_of_ne ow.there
    exact k d (.ref a) (F'.add a o) H' q (s'.ext.frz hn hz eo) (ow.rep eo FS.add_same (Le.add hz hi)), fun F' ρ σ H' C ns ds dd vs s' _ q => q.elim⟩⟩
theorem fn_okN {x qual : Str} {st : Stmt} {f : Addr} {fd : FuncData} {N ps : List Str} {k : Nat} {c : Pr} (G : Fun K x qual st f fd) (S : FnScope N ps (defScope st)) (hlen : ∀ ds P, c ds P → ds.length = ps.length)
    (hbody : ∀ (cdv : Value) (A : Around) (outer : List PySem.Env) (s : Shared) (H : Hp) (E : XK), Room k (A.deeper (PyProof.Rows.envOfC qual (defScope st) s.heap.objs.size f cdv)) →
      ∃ p, pss (cxOf CX0 P w K mg base N qual (defScope st) f cdv A outer s H E).nox (defBody st) p ∧ ∀ ds R, c ds R → p (endNw R) (startE N ds)) : FnOk P w K mg base CX0 (k + 1) f fd ps (spNw K c) := by
  refine G.ok S (fun vs H Q E ⟨F, ds, R, _, r, h, _⟩ => by rw [r.length]; exact hlen ds R h) (fun cdv A outer s H vs Q E hr ⟨F, ds, R, ft, r, h, k⟩ => ?_)
  obtain ⟨p, hp, hq⟩ := hbody cdv A outer s H E hr
  have s0 : FSt K ⟨No, F, H⟩ F (startE N ds) (L2.start N vs) H := ⟨Ext.refl ft, start_st ft r⟩
  exact ⟨_, hp, ⟨No, F, H⟩, F, startE N ds, endNw R, s0, hq ds R h, ⟨fun F' ρ σ H' s' _ q => q.elim, fun F' ρ σ H' d v s' _ q r' => q.elim, fun F' ρ σ H' s' _ q => q.elim, fun F' ρ σ H' s' _ q => q.elim, fun F' ρ σ H' d a s' _ q hn hz hi ow => k d a F' H' q s'.ext hn hz hi ow, fun F' ρ σ H' C ns ds dd vs s' _ q => q.elim⟩⟩
theorem fn_okIo {x qual : Str} {st : Stmt} {f : Addr} {fd : FuncData} {N ps : List Str} {k : Nat} {c : PrIo} (G : Fun K x qual st f fd) (S : FnScope N ps (defScope st)) (hlen : ∀ d0 ds P, c d0 ds P → ds.length + 1 = ps.length)
    (hbody : ∀ (cdv : Value) (A : Around) (outer : List PySem.Env) (s : Shared) (H : Hp) (E : XK), Room k (A.deeper (PyProof.Rows.envOfC qual (defScope st) s.heap.objs.size f cdv)) →
      ∃ p, pss (cxOf CX0 P w K mg base N qual (defScope st) f cdv A outer s H E).nox (defBody st) p ∧ ∀ d0 ds R, c d0 ds R → p (endIo R) (startIo N d0 ds)) : FnOk P w K mg base CX0 (k + 1) f fd ps (spIo K c) := by
  refine G.ok S (fun vs H Q E ⟨F, a, vs', d0, ds, R, e, _, _, _, _, r, h, _⟩ => by rw [e, List.length_cons, r.length]; exact hlen d0 ds R h) (fun cdv A outer s H vs Q E hr ⟨F, a, vs', d0, ds, R, e, ft, hz, hi, o, r, h, k⟩ => ?_)
  subst e
  obtain ⟨p, hp, hq⟩ := hbody cdv A outer s H E hr
  have s0 : FSt K ⟨fun b => b = a, F, H⟩ F (startIo N d0 ds) (L2.start N (.ref a :: vs')) H := ⟨Ext.refl ft, start_io ft r (Nn := (Bas.mk (fun b => b = a) F H).N) rfl hz hi o⟩
  have fin : ∀ F' ρ σ H' d v d1, FSt K ⟨fun b => b = a, F, H⟩ F' ρ σ H' → ρ[0]? = some (some (Sl.ow false d1)) → R d d1 → Rep K F' d v → Q v H' := fun F' ρ σ H' d v d1 s' e q r' => by
    obtain ⟨b, e1, n, z1, z2, o1⟩ := s'.st.geto e
    have n : b = a := n
    subst n
    exact k d d1 v F' H' q s'.ext z1 z2 o1 r'
  exact ⟨_, hp, ⟨fun b => b = a, F, H⟩, F, startIo N d0 ds, endIo R, s0, hq d0 ds R h, ⟨fun F' ρ σ H' s' _ h => let ⟨d1, e, q⟩ := atOwF_inv h; fin F' ρ σ H' _ _ d1 s' e q rep_non, fun F' ρ σ H' d v s' _ h r' => let ⟨d1, e, q⟩ := atOwF_inv h; fin F' ρ σ H' d v d1 s' e q r', fun F' ρ σ H' s' _ q => q.elim, fun F' ρ σ H' s' _ q => q.elim, fun F' ρ σ H' d a s' _ q => q.elim, fun F' ρ σ H' C ns ds dd vs s' _ q => q.elim⟩⟩
end

/-! ### calls -/
def pCallD (c : Pr) (dds : List D) (t : PTA) : PTE := fun ρ P => t ρ fun ds => c (ds ++ dds) P
def pMake (C : Addr) (c : PrIo) (dds : List D) (t : PTA) : PTE := fun ρ P => t ρ fun ds => c (.ins C [] []) (ds ++ dds) fun d d1 => d = .non ∧ P d1
section
variable {X : Cx} {k : Nat} {f C : Addr} {fd : FuncData} {ps : List Str} {c : Pr} {ci : PrIo} {dvs : List V} {dds : List D} {ds : List Value} {x m : Str} {p pos apos : Pos} {e o : Expr} {es : List Expr} {t : PTA} {F F' : FS} {H H' : Hp}
theorem call_ok : ∀ σ H Q, (∀ F, Reps X.K F dds dvs) → L X.K (pCallD c dds t) σ H Q → tCall (spOf X.K c) dvs E0 (LA X.K t) σ H Q := fun σ H Q hd ⟨N, F, ρ, P, s, q, k⟩ =>
  ⟨N, F, ρ, _, s, q, fun ds vs F1 H1 p1 x1 r1 => ⟨F1, ds ++ dds, P, x1.fits, r1.append (hd F1), p1, fun d v F' H' a b c => k d v F' H' a (x1.then0 b) c⟩⟩
theorem e_call (G : FnOk X.prog X.w X.K X.mg X.base CX0 k f fd ps (spOf X.K c)) (hr : Room k X.A) (hm : X.mg x = some (.ref f)) (hk : PySem.W.keepIn X.K (.ref f) = true) (hb : Binds X.K fd ps ds) (ha : pa X (e :: es) t) (hg : Gl X x := by rfl) (hd : Vals dvs ds := by exact Paired.nil) (hdd : ∀ F, Reps X.K F dds dvs := by exact fun _ => Reps.nil)
    (hdb : (x == ("__debug__" : Str)) = false := by decide) (he : starEach (e :: es) X.env = (false, eval e X.env) :: starEach es X.env := by rfl) (hpl : (backTo pos (starEach es X.env)).any (·.1) = false := by rfl) : pe X (.Call (.Name x p) (e :: es) [] pos) (pCallD c dds t) :=
  PE_weak (pe_call G hr hg hm hk hb hd pass0 ha hdb he hpl) fun σ H Q h => call_ok σ H Q hdd h
theorem e_call0 (G : FnOk X.prog X.w X.K X.mg X.base CX0 k f fd ps (spOf X.K c)) (hr : Room k X.A) (hm : X.mg x = some (.ref f)) (hk : PySem.W.keepIn X.K (.ref f) = true) (hb : Binds X.K fd ps ds) (hg : Gl X x := by rfl) (hd : Vals dvs ds := by exact Paired.nil) (hdd : ∀ F, Reps X.K F dds dvs := by exact fun _ => Reps.nil)
    (hdb : (x == ("__debug__" : Str)) = false := by decide) : pe X (.Call (.Name x p) [] [] pos) (pCallD c dds pNil) :=
  PE_weak (pe_call0 G hr hg hm hk hb hd pass0 hdb) fun σ H Q h => call_ok σ H Q hdd (t := pNil) h |> fun ⟨N, F, ρ, P, s, q, k⟩ => k [] [] F H q (Ext.refl s.fits) Reps.nil
theorem make_ok : ∀ σ H Q, (∀ F, Reps X.K F dds dvs) → Lf X.K (pMake C ci dds t) σ H Q → tMake C (spIo X.K ci) dvs E0 (LA X.K t) σ H Q := fun σ H Q hd ⟨N, F, ρ, P, s, q, k⟩ =>
  ⟨N, F, ρ, _, s, q, fun ds vs F1 H1 p1 x1 r1 x dx nx nd ne => by
    have f1 := x1.fits
    have y1 : Ext No F1 H1 F1 (upd H1 dx (.own x)) := Ext.newM f1 nd
    have nx2 : (upd H1 dx (.own x)) x = none := by rw [upd_ne (Ne.symm ne)]; exact nx
    have y2 : Ext No F1 (upd H1 dx (.own x)) F1 (upd (upd H1 dx (.own x)) x (.ins C dx [])) := Ext.newM y1.fits nx2
    have hz := f1.none_fz nx
    have hi := f1.none_iv nx
    refine ⟨F1, x, vs ++ dvs, .ins C [] [], ds ++ dds, _, rfl, y2.fits, hz, hi, ⟨dx, [], upd_same, rfl, Reps.nil⟩, r1.append (hd F1), p1, ?_⟩
    rintro d d1 v F' H' ⟨rfl, p2⟩ y3 hz' hi' ow r'
    simp only [Rep] at r'
    subst r'
    refine ⟨rfl, ?_⟩
    have y : Ext No F1 H1 F' H' := ((y1.then0 y2).mono (fun _ h => h)).trans y3 fun b hb => by subst hb; exact .inr nx
    exact k d1 x F' H' p2 (x1.then0 y) (x1.dom _ nx) hz' hi' ow⟩
theorem f_make (M : Mk X.K C f) (G : FnOk X.prog X.w X.K X.mg X.base CX0 k f fd ps (spIo X.K ci)) (hr : Room (k + 1) X.A) (hm : X.mg x = some (.ref C)) (hb : Binds X.K fd ps ds) (ha : pa X (e :: es) t) (hg : Gl X x := by rfl) (hd : Vals dvs ds := by exact Paired.nil) (hdd : ∀ F, Reps X.K F dds dvs := by exact fun _ => Reps.nil)
    (hdb : (x == ("__debug__" : Str)) = false := by decide) (he : starEach (e :: es) X.env = (false, eval e X.env) :: starEach es X.env := by rfl) (hpl : (backTo pos (starEach es X.env)).any (·.1) = false := by rfl) : pf X (.Call (.Name x p) (e :: es) [] pos) (pMake C ci dds t) :=
  PE_weak (pe_make M G hr hg hm hb hd pass0 ha hdb he hpl) fun σ H Q h => make_ok σ H Q hdd h
/-- o.m(e, ..): a def of o's class; o comes first -/
def isIns (P : Addr → List Str → List D → Prop) : D → Prop
  | .ins C ns fs => P C ns fs
  | _ => False
theorem isIns_inv {P : Addr → List Str → List D → Prop} {d : D} (h : isIns P d) : ∃ C ns fs, d = .ins C ns fs ∧ P C ns fs := by
  cases d <;> first | exact h.elim | exact ⟨_, _, _, rfl, h⟩
def pMeth (C : Addr) (m : Str) (c : Pr) (dds : List D) (po : PTE) (t : PTA) : PTE := fun ρ P => po ρ fun d => isIns (fun C' ns _ => C' = C ∧ ns.contains m = false ∧ (t ρ fun ds => c (d :: (ds ++ dds)) P)) d
theorem lookup_zip {m : Str} : ∀ {ns : List Str} {vs : List V}, ns.contains m = false → (ns.zip vs).lookup m = none
  | [], _, _ => rfl
  | n :: ns, [], _ => rfl
  | n :: ns, v :: vs, h => by
    simp only [List.contains_cons, Bool.or_eq_false_iff] at h
    rw [List.zip_cons_cons, List.lookup_cons, h.1]
    exact lookup_zip h.2
theorem meth_ok {po : PTE} : ∀ σ H Q, (∀ F, Reps X.K F dds dvs) → L X.K (pMeth C m c dds po t) σ H Q → tMeth C m (spOf X.K c) dvs E0 (L X.K po) (LA X.K t) σ H Q := fun σ H Q hd ⟨N, F, ρ, P, s, q, k⟩ =>
  ⟨N, F, ρ, _, s, q, fun d v F1 H1 p1 x1 r1 => by
    obtain ⟨C', ns, fs, rfl, rfl, hm, p1⟩ := isIns_inv p1
    have r1' := r1
    simp only [Rep] at r1
    obtain ⟨a, dx, vs, rfl, h1, h2, h3⟩ := r1
    refine ⟨a, dx, _, rfl, x1.fits.fz _ _ h1, lookup_zip hm, N, F1, ρ, _, s.ext x1, p1, fun ds us F2 H2 p2 x2 r2 => ?_⟩
    exact ⟨F2, _, P, x2.fits, Reps.cons (r1'.ext x2 x1.fits) (r2.append (hd F2)), p2, fun d v F' H' a b c => k d v F' H' a ((x1.then0 x2).then0 b) c⟩⟩
theorem e_meth {po : PTE} {pl : Pos} (ho : pe X o po) (cl : Cls X.K C) (hm : Meth X.K C m f) (G : FnOk X.prog X.w X.K X.mg X.base CX0 k f fd ps (spOf X.K c)) (hr : Room k X.A) (hb : Binds X.K fd ps ds) (t' : TA) (h : PE X (.Call (.Attribute o m apos) (e :: es) [] pos) (tMeth C m (spOf X.K c) dvs E0 (L X.K po) (LA X.K t))) (hdd : ∀ F, Reps X.K F dds dvs := by exact fun _ => Reps.nil) :
    pe X (.Call (.Attribute o m apos) (e :: es) [] pos) (pMeth C m c dds po t) := PE_weak h fun σ H Q h => meth_ok σ H Q hdd h
end
end Pu
namespace Pu
open PySem PySem.Spec L2

/-! ### xs[i] = e, xs an owned list -/
def qSetIx (i : Nat) (pi p : PTE) : PTS := fun PD ρ => atOwL (fun c ds => p ρ fun d => pi ρ (isInt fun n => isSome (fun j => PD.nx (ρ.set i (some (.ow c (.lst (ds.set j d)))))) (ixN ds.length n))) ρ[i]?
section
variable {X : Cx} {pos : Pos}
theorem s_setix {i : Nat} {tg e : Expr} {pi p : PTE} (h : PS X (.Assign [tg] e pos) (tAsg (L X.K p) (gSub (tVar i) (Lr X.K pi) rSetL))) : ps X (.Assign [tg] e pos) (qSetIx i pi p) := by
  refine PS_weak h ?_
  rintro E σ H ⟨B, F, ρ, PD, s, q, e⟩
  obtain ⟨c, ds, h1, q⟩ := atOwL_inv q
  refine ⟨B.N, F, ρ, _, s.st, q, fun d v F1 H1 p1 x1 r1 => ?_⟩
  obtain ⟨a, vs, q1, q2, q3⟩ := own_lst s.st h1
  refine ⟨.ref a, q1, B.N, F1, ρ, _, (s.go x1).st, p1, fun k u F2 H2 p2 x2 r2 => ?_⟩
  obtain ⟨n, rfl, p2⟩ := isInt_inv p2
  obtain ⟨j, hj, p3⟩ := isSome_inv p2
  have s2 := (s.go x1).go x2
  obtain ⟨a', vs', q1', q2', q3'⟩ := own_lst s2.st h1
  rw [q1] at q1'
  cases q1'
  exact ⟨a, vs', n, j, rfl, r2.int, q2', by rw [q3'.length]; exact hj, e.nx F2 _ σ _ (s2.own (d' := .lst (ds.set j d)) h1 q1 ⟨_, upd_same, q3'.set j (r1.ext x2 x1.fits)⟩) ((x1.then0 x2).le s.ext.fits) p3⟩
end

/-! ### the law's pool -/
def poolC : Pr := fun ds P => ∃ ns : List Int, ds = [.klst (ns.map .int)] ∧ ns.length ≤ 1000 ∧ P .pool
def drawC : Pr := fun ds P => ∃ m : Int, ds = [.pool, .int m] ∧ 0 < m ∧ m.natAbs.log2 < 9000 ∧ ∀ r : Int, 0 ≤ r → r < m → P (.int r)
def poolD (l : Addr) (ns : List Int) (c r q s : Int) : D := .lst [.at l (ns.map .int), .int c, .int r, .int q, .int s]
def drawIo : PrIo := fun d0 ds P => ∃ (l : Addr) (ns : List Int) (c r q s m : Int), d0 = poolD l ns c r q s ∧ ds = [.int m] ∧ 0 ≤ c ∧ c ≤ ns.length ∧ 0 ≤ r ∧ 0 < m ∧ m.natAbs.log2 < 9000 ∧
  ∀ v c' r' q' s' : Int, 0 ≤ v → v < m → 0 ≤ c' → c' ≤ ns.length → 0 ≤ r' → P (.int v) (poolD l ns c' r' q' s')
section
variable {P : Program} {w : World} {K : Fg} {mg : Str → Option Value} {base : Heap} {F F' : FS} {H H' : Hp}
theorem poolD_inv {l : Addr} {ns : List Int} {c r q s : Int} {vs : List V} (h : Reps K F [.at l (ns.map .int), .int c, .int r, .int q, .int s] vs) : vs = [.ref l, .int c, .int r, .int q, .int s] ∧ F.fz l = some (.lst (ns.map V.int)) := by
  simp only [Reps, Rep] at h
  obtain ⟨v0, r0, rfl, ⟨us, rfl, hl, hu⟩, v1, r1, rfl, rfl, v2, r2, rfl, rfl, v3, r3, rfl, rfl, v4, r4, rfl, rfl, rfl⟩ := h
  cases Reps.ints hu
  exact ⟨rfl, hl⟩
theorem rep_at {l : Addr} {ds : List D} {vs : List V} (h : F.fz l = some (.lst vs)) (r : Reps K F ds vs) : Rep K F (.at l ds) (.ref l) := by
  simp only [Rep, true_and]; exact ⟨vs, h, r⟩
theorem draw_imp {k : Nat} {f : Addr} {fd : FuncData} {ps : List Str} (G : FnOk P w K mg base CX0 k f fd ps (spIo K drawIo)) : FnOk P w K mg base CX0 k f fd ps (spOf K drawC) := by
  refine G.imp fun vs H Q E ⟨F, ds, R, ft, rs, ⟨m, e, m0, mb, hR⟩, kk⟩ => ?_
  subst e
  simp only [Reps, Rep] at rs
  obtain ⟨v0, q0, rfl, ⟨a, l, ns, rfl, hi, hz, hl⟩, v1, q1, rfl, rfl, rfl⟩ := rs
  obtain ⟨o, ho, c, r, q, s, rfl, c0, c1, r0⟩ := ft.iv a _ hi
  have hla : l ≠ a := fun z => by rw [z, hz] at hl; cases hl
  let F1 : FS := ⟨F.fz, fun b => if b = a then none else F.iv b⟩
  have f1 : Fits F1 H := ⟨ft.fz, fun b φ hb => by
    have hb : (if b = a then none else F.iv b) = some φ := hb
    split at hb
    · cases hb
    · exact ft.iv b φ hb⟩
  refine ⟨F1, a, [.int m], poolD l ns c r q s, [.int m], fun d d1 => R d ∧ ∃ c' r' q' s' : Int, d1 = poolD l ns c' r' q' s' ∧ 0 ≤ c' ∧ c' ≤ ns.length ∧ 0 ≤ r', rfl, f1, hz, if_pos rfl, ⟨_, ho, ?_⟩, Reps.one rep_int, ⟨l, ns, c, r, q, s, m, rfl, rfl, c0, c1, r0, m0, mb, fun v c' r' q' s' v0 v1 h1 h2 h3 => ⟨hR v v0 v1, c', r', q', s', rfl, h1, h2, h3⟩⟩, ?_⟩
  · exact Reps.cons (rep_at hl (Reps.of_ints ns)) (Reps.cons rep_int (Reps.cons rep_int (Reps.cons rep_int (Reps.one rep_int))))
  · rintro d d1 v F' H' ⟨hd, c', r', q', s', rfl, h1, h2, h3⟩ x hz' hi' ow rv
    obtain ⟨us, ho', ru⟩ := ow
    obtain ⟨rfl, hl'⟩ := poolD_inv ru
    let F2 : FS := ⟨F'.fz, fun b => if b = a then some (PoolI l ns) else F'.iv b⟩
    have up : Le F' F2 := ⟨Same.refl _, fun b φ hb => by
      show (if b = a then some (PoolI l ns) else F'.iv b) = some φ
      rw [if_neg (fun z => by rw [z, hi'] at hb; cases hb)]; exact hb, fun b hb _ => hb⟩
    refine kk d v F2 H' hd ⟨x.fz, fun b φ hb => ?_, ⟨x.fits.fz, fun b φ hb => ?_⟩, x.nfz, fun b φ hb => ?_, fun b o hb => ?_, x.dom⟩ (rv.mono up)
    · show (if b = a then some (PoolI l ns) else F'.iv b) = some φ
      by_cases z : b = a
      · subst z; rw [if_pos rfl, ← hi, hb]
      · rw [if_neg z]; exact x.iv b φ (by show (if b = a then none else F.iv b) = some φ; rw [if_neg z]; exact hb)
    · have hb : (if b = a then some (PoolI l ns) else F'.iv b) = some φ := hb
      by_cases z : b = a
      · subst z
        rw [if_pos rfl] at hb
        cases hb
        exact ⟨_, ho', c', r', q', s', rfl, h1, h2, h3⟩
      · rw [if_neg z] at hb; exact x.fits.iv b φ hb
    · have hb : (if b = a then some (PoolI l ns) else F'.iv b) = some φ := hb
      by_cases z : b = a
      · subst z
        rw [if_pos rfl] at hb
        cases hb
        exact .inl hi
      · rw [if_neg z] at hb
        rcases x.niv b φ hb with q | q
        · have q : (if b = a then none else F.iv b) = some φ := q
          rw [if_neg z] at q; exact .inl q
        · exact .inr q
    · rcases x.keep b o hb with q | ⟨φ, q⟩ | q
      · subst q; exact .inr (.inl ⟨_, hi⟩)
      · have q : (if b = a then none else F.iv b) = some φ := q
        split at q
        · cases q
        · exact .inr (.inl ⟨φ, q⟩)
      · exact .inr (.inr q)
/-- _law_pool -/
theorem pool_ok {x qual : Str} {st : Stmt} {f : Addr} {fd : FuncData} {k : Nat} (G : Fun K x qual st f fd) (S : FnScope ["script"] ["script"] (defScope st))
    (hbody : ∀ (cdv : Value) (A : Around) (outer : List PySem.Env) (s : Shared) (H : Hp) (E : XK), Room k (A.deeper (PyProof.Rows.envOfC qual (defScope st) s.heap.objs.size f cdv)) →
      PSs (cxOf CX0 P w K mg base ["script"] qual (defScope st) f cdv A outer s H E).nox (defBody st) (tRet (tLst (tCons (tCB (fun xs H Q => ∃ p ys, xs = [.ref p] ∧ (SqL K H p ys ∨ SqT K H p ys) ∧ ∀ l, H l = none → Q (.ref l) (upd H l (.lst ys))) (tCons (tVar 0) tNil)) (tCons (tC (.int 0)) (tCons (tC (.int 0)) (tCons (tC (.int 0)) (tCons (tC (.int 1)) tNil)))))))) : FnOk P w K mg base CX0 (k + 1) f fd ["script"] (spOf K poolC) := by
  refine G.ok S (fun vs H Q E ⟨F, ds, R, _, r, ⟨ns, e, _⟩, _⟩ => by rw [r.length, e]; rfl) (fun cdv A outer s H vs Q E hr ⟨F, ds, R, ft, r, ⟨ns, e, hn, hR⟩, kk⟩ => ?_)
  refine ⟨_, hbody cdv A outer s H E hr, ?_⟩
  subst e
  simp only [Reps, Rep] at r
  obtain ⟨v0, r0, rfl, ⟨a, us, rfl, hS, ru⟩, rfl⟩ := r
  cases Reps.ints ru
  refine ⟨.ref a, rfl, a, ns.map V.int, rfl, .inl (ft.fz.seq hS), fun l hl => ?_⟩
  have x1 : Ext No F H (F.add l (.lst (ns.map V.int))) (upd H l (.lst (ns.map V.int))) := Ext.new ft hl
  refine ⟨by show 5 ≤ sizeLine; rw [sizeLine_eq]; omega, fun p hp => ?_⟩
  have f1 := x1.fits
  have hz := f1.none_fz hp
  have hi := f1.none_iv hp
  have x2 : Ext No _ _ _ (upd (upd H l (.lst (ns.map V.int))) p (.lst [.ref l, .int 0, .int 0, .int 0, .int 1])) := Ext.newM f1 hp
  let F2 : FS := ⟨(F.add l (.lst (ns.map V.int))).fz, fun b => if b = p then some (PoolI l ns) else F.iv b⟩
  have hpl : p ≠ l := fun z => by subst z; rw [upd_same] at hp; cases hp
  have hp0 : H p = none := by rw [upd_ne hpl] at hp; exact hp
  refine kk .pool _ F2 _ hR ⟨x1.fz, fun b φ hb => ?_, ⟨x2.fits.fz, fun b φ hb => ?_⟩, fun b o hb => ?_, fun b φ hb => ?_, fun b o hb => ?_, fun b hb => x1.dom b (x2.dom b hb)⟩ (by simp only [Rep]; exact ⟨p, l, ns, rfl, if_pos rfl, hz, FS.add_same⟩)
  · show (if b = p then some (PoolI l ns) else F.iv b) = some φ
    rw [if_neg (fun z => by have hi : F.iv p = none := hi; rw [z, hi] at hb; cases hb)]; exact hb
  · have hb : (if b = p then some (PoolI l ns) else F.iv b) = some φ := hb
    by_cases z : b = p
    · subst z
      rw [if_pos rfl] at hb
      cases hb
      exact ⟨_, upd_same, 0, 0, 0, 1, rfl, by omega, by omega, by omega⟩
    · rw [if_neg z] at hb
      exact x2.fits.iv b φ hb
  · exact x1.nfz b o hb
  · have hb : (if b = p then some (PoolI l ns) else F.iv b) = some φ := hb
    by_cases z : b = p
    · subst z; exact .inr hp0
    · rw [if_neg z] at hb; exact .inl hb
  · rcases x1.keep b o hb with q | q | q
    · exact q.elim
    · exact .inr (.inl q)
    · rcases x2.keep b o q with q | q | q
      · exact q.elim
      · exact .inr (.inl q)
      · exact .inr (.inr q)
/-- the law itself -/
def lawC : Pr := fun ds P => ∃ ns : List Int, ds = [.klst (ns.map .int)] ∧ ns.length ≤ 63 ∧ P (.bl true)
def spLaw (K : Fg) : Sp := fun vs H Q _ => ∃ (a : Addr) (ns : List Int), vs = [.ref a] ∧ SqL K H a (ns.map V.int) ∧ ns.length ≤ 63 ∧ ∀ H', Q (.bl true) H'
theorem law_imp {k : Nat} {f : Addr} {fd : FuncData} {ps : List Str} (G : FnOk P w K mg base CX0 k f fd ps (spOf K lawC)) : FnOk P w K mg base CX0 k f fd ps (spLaw K) := by
  refine G.imp fun vs H Q E ⟨a, ns, e, hS, hl, hQ⟩ => ?_
  subst e
  refine ⟨⟨H, fun _ => none⟩, [.klst (ns.map .int)], fun d => d = .bl true, ⟨Same.refl _, fun _ _ h => by cases h⟩, Reps.one (by simp only [Rep]; exact ⟨a, _, rfl, hS, Reps.of_ints ns⟩), ⟨ns, rfl, hl, rfl⟩, fun d v F' H' e _ r => ?_⟩
  subst e
  simp only [Rep] at r
  subst r
  exact hQ H'
end
end Pu
namespace Pu
open PySem PySem.Spec L2
section
variable {X : Cx} {pos : Pos} {K : Fg} {F F' : FS} {H H' : Hp}
/-- target = e, any target -/
def qAsg (p : PTE) (g : PTG) : PTS := fun PD ρ => p ρ fun d => g d ρ PD.nx
theorem s_asg {tg e : Expr} {is : List Nat} {p : PTE} {g : PTG} (he : pe X e p) (hg : pg X tg is g) (hs : swapsWithSole [tg] e pos.line X.env = pure false := by rfl) (hw : swappedStores [tg] e X.env = pure none := by rfl) (h1 : (assignEach [tg] X.env).map (·.2) = [assign tg X.env] := by rfl) : ps X (.Assign [tg] e pos) (qAsg p g) :=
  PS_weak (ps_asg he hg.h hs hw h1) fun E σ H ⟨B, F, ρ, PD, s, q, e⟩ => ⟨B.N, F, ρ, _, s.st, q, fun d v F1 H1 p1 x1 r1 => ⟨B.N, F1, ρ, d, _, (s.go x1).st, r1, p1, fun ρ' σ' s' p' _ => e.nx F1 ρ' σ' H1 ⟨(s.go x1).ext, s'⟩ (x1.le s.ext.fits) p'⟩⟩
/-- x op= e, x a shared name -/
def qAug (i : Nat) (w : D → D → DK → Prop) (p : PTE) : PTS := fun PD ρ => atSh (fun d => p ρ fun e => w d e fun z => PD.nx (ρ.set i (some (.sh z)))) ρ[i]?
theorem s_aug {i : Nat} {x : Str} {e : Expr} {p : PTE} {op : Operator} {w : D → D → DK → Prop} {pos' : Pos} (hN : X.N.Nodup) (ho : opS X (inplaceOp op) w) (he : pr X e p) (hi : X.N[i]? = some x := by rfl) (hx : Loc X.env.scope x := by first | exact Or.inl rfl | exact Or.inr rfl)
    (hf : X.fn x = true ∨ X.env.scope.names.lookup x = some .local := by first | exact .inl rfl | exact .inr rfl | assumption) : ps X (.AugAssign (.Name x pos') op e pos) (qAug i w p) := by
  obtain ⟨r, h, hr⟩ := ho
  refine PS_weak (ps_aug (ti := r) hN hi hx he h hf) ?_
  rintro E σ H ⟨B, F, ρ, PD, s, q, e⟩
  obtain ⟨d, h1, q⟩ := atSh_inv q
  obtain ⟨v, e1, r1⟩ := s.st.get h1
  refine ⟨v, e1, B.N, F, ρ, _, s.st, q, fun e' u F1 H1 p1 x1 r2 => ?_⟩
  refine hr d e' v u F1 H1 _ _ x1.fits (.inl (r1.ext x1 s.ext.fits)) r2 p1 fun d' v' F2 H2 p2 x2 r3 => ?_
  have s2 := (s.go x1).go x2
  exact e.nx F2 _ _ H2 ⟨s2.ext, s2.st.set_sh i r3⟩ ((x1.then0 x2).le s.ext.fits) p2
def iaddW : D → D → DK → Prop
  | .int i, .int j, P => P (.int (i + j))
  | .str i, .str j, P => i.length + j.length ≤ sizeLine ∧ P (.str (i ++ j))
  | _, _, _ => False
theorem io_add : opS X (inplaceOp .Add) iaddW := by
  refine ⟨_, iop_add.or iop_add_str, fun d e x y F H P Q f r1 r2 h k => ?_⟩
  cases d <;> try exact h.elim
  · cases e <;> try exact h.elim
    exact .inl ⟨_, _, r1.int, r2.int, k.int f h⟩
  · cases e <;> try exact h.elim
    exact .inr ⟨_, _, r1.str, r2.str, h.1, k.str f h.2⟩
theorem io_sub : opS X (inplaceOp .Sub) subW := o_int0 iop_sub
/-- y = [..] on one line -/
theorem s_setLc {i : Nat} {y : Str} {py : Pos} {elt tg iter : Expr} {ifs : List Expr} {scope : Scope} {own : List (Str × Nat)} {is : List Nat} {pos spos : Pos} {w : PTA} {g : PTG} {t : PTT} {e : PTE} (hc : X.calm = true) (hN : X.N.Nodup) (hi : pir X tg iter w) (ok : BlkOk X.N X.env.scope scope own)
    (hg : ∀ (s : Shared) (H : Hp) (C : Addr) (cl : List (Str × Addr)) (fp : List Addr), pg (X.blk s H scope (compEnvC scope cl C X.env) fp) tg is g) (ht : ∀ (s : Shared) (H : Hp) (C : Addr) (cl : List (Str × Addr)) (fp : List Addr), pts (X.blk s H scope (compEnvC scope cl C X.env) fp) ifs t)
    (he : ∀ (s : Shared) (H : Hp) (C : Addr) (cl : List (Str × Addr)) (fp : List Addr), pe (X.blk s H scope (compEnvC scope cl C X.env) fp) elt e)
    (hsw : swapsWith (.ListComp elt [⟨tg, iter, ifs, 0⟩] scope pos) (some (.Name y py)) spos.line X.env = pure true) (hy : X.N[i]? = some y := by rfl) (hyl : X.env.scope.names.lookup y = some .local := by rfl) (hs : ∀ x, foldedSetIterable iter X.env x = pure x := by intro _; rfl) (hsub : ∀ i ∈ is, i ∈ own.map (·.2) := by decide) :
    ps X (.Assign [.Name y py] (.ListComp elt [⟨tg, iter, ifs, 0⟩] scope pos) spos) (qSetN i (pComp (own.map (·.2)) w g t e)) :=
  PS_weak (ps_setLc (g := LG X.K is g) (tt := LT X.K t) (te := L X.K e) hc hN hy hyl hsw hi ok (fun a b c d e => (hg a b c d e).h) ht he hs) fun E σ H ⟨B, F, ρ, PD, s, q, e⟩ =>
    comp_ok hsub σ H _ ⟨B.N, F, ρ, _, s.st, q, fun d a F1 H1 p1 x1 hn hz hv r1 => e.nx F1 _ _ H1 ⟨(s.go x1).ext, s.st.adopt x1 (c := true) i (s.ext.dom _ hn) hn hz hv r1⟩ (x1.le s.ext.fits) p1⟩
end
end Pu
namespace Pu
open PySem PySem.Spec L2
/-- a continuation's mark: what hangs on it is not looked into while the rest is worked out -/
inductive Tg {α : Type} (P : α) : Type
  | mk
inductive TgP (P : Prop) : Type
  | mk : TgP P
def atShD (P : DK) (_ : Tg P) (x : Option (Option Sl)) : Prop := atSh P x
def atAnyD (P : DK) (_ : Tg P) (x : Option (Option Sl)) : Prop := atAny P x
def atOwTD (P : DK) (_ : Tg P) (x : Option (Option Sl)) : Prop := atOwT P x
def atOwFD (P : DK) (_ : Tg P) (x : Option (Option Sl)) : Prop := atOwF P x
def atOwLD (P : Bool → List D → Prop) (_ : Tg P) (x : Option (Option Sl)) : Prop := atOwL P x
def isSomeD {α : Type} (P : α → Prop) (_ : Tg P) (x : Option α) : Prop := isSome P x
theorem e_globI {X : Cx} {x : Str} {i : Int} {t : Tok} {pos : Pos} (hm : X.mg x = some (.int i t)) (hg : Gl X x := by rfl) (hd : (x == ("__debug__" : Str)) = false := by decide) : pe X (.Name x pos) (pC (.int i)) := e_glob (v := .int i) hg hm ⟨t, rfl⟩ (fun _ => rep_int) hd
theorem e_globS {X : Cx} {x : Str} {i : Str} {t : Tok} {pos : Pos} (hm : X.mg x = some (.str i t)) (hg : Gl X x := by rfl) (hd : (x == ("__debug__" : Str)) = false := by decide) : pe X (.Name x pos) (pC (.str i)) := e_glob (v := .str i) hg hm ⟨t, rfl⟩ (fun _ => rep_str) hd
/-! ### what the readings come to, by the kinds of the data -/
section
variable {P : DK} {PB : Bool → Prop} {PI : Int → Prop} {PL : Bool → List D → Prop} {i j : Int} {b c : Bool} {s t : Str} {ds es : List D} {d e : D} {C : Addr} {ns : List Str} {ks : List Key} {kt : List (List Key)}
theorem atSh_sh : atSh P (some (some (.sh d))) = P d := id rfl
theorem atSh_shD {t : Tg P} : atShD P t (some (some (.sh d))) = P d := id rfl
theorem atAny_sh : atAny P (some (some (.sh d))) = P d := id rfl
theorem atAny_shD {t : Tg P} : atAnyD P t (some (some (.sh d))) = P d := id rfl
theorem atAny_ow : atAny P (some (some (.ow b d))) = P d := id rfl
theorem atAny_owD {t : Tg P} : atAnyD P t (some (some (.ow b d))) = P d := id rfl
theorem atOwT_ow : atOwT P (some (some (.ow true d))) = P d := id rfl
theorem atOwT_owD {t : Tg P} : atOwTD P t (some (some (.ow true d))) = P d := id rfl
theorem atOwF_ow : atOwF P (some (some (.ow false d))) = P d := id rfl
theorem atOwF_owD {t : Tg P} : atOwFD P t (some (some (.ow false d))) = P d := id rfl
theorem atOwL_ow : atOwL PL (some (some (.ow b (.lst ds)))) = PL b ds := id rfl
theorem atOwL_owD {t : Tg PL} : atOwLD PL t (some (some (.ow b (.lst ds)))) = PL b ds := id rfl
theorem isBl_bl : isBl PB (.bl b) = PB b := id rfl
theorem isInt_int : isInt PI (.int i) = PI i := id rfl
theorem isSome_some {α : Type} {Q : α → Prop} {x : α} : isSome Q (some x) = Q x := id rfl
theorem isSome_someD {α : Type} {Q : α → Prop} {t : Tg Q} {x : α} : isSomeD Q t (some x) = Q x := id rfl
theorem isSome_none {α : Type} {Q : α → Prop} : isSome Q none = False := id rfl
theorem isSome_noneD {α : Type} {Q : α → Prop} {t : Tg Q} : isSomeD Q t none = False := id rfl
theorem isIns_ins {Q : Addr → List Str → List D → Prop} : isIns Q (.ins C ns ds) = Q C ns ds := id rfl
theorem on1_1 {w : D → DK → Prop} : on1 w [d] P = w d P := id rfl
theorem on2_2 {w : D → D → DK → Prop} : on2 w [d, e] P = w d e P := id rfl
theorem addW_int : addW (.int i) (.int j) P = P (.int (i + j)) := id rfl
theorem addW_ib : addW (.int i) (.bl b) P = P (.int (i + PyProof.Rows.b2i b)) := id rfl
theorem addW_str : addW (.str s) (.str t) P = (s.length + t.length ≤ sizeLine ∧ P (.str (s ++ t))) := id rfl
theorem addW_lst : addW (.lst ds) (.lst es) P = (ds.length + es.length ≤ sizeLine ∧ P (.lst (ds ++ es))) := id rfl
theorem iaddW_int : iaddW (.int i) (.int j) P = P (.int (i + j)) := id rfl
theorem iaddW_str : iaddW (.str s) (.str t) P = (s.length + t.length ≤ sizeLine ∧ P (.str (s ++ t))) := id rfl
theorem intW_int {g : Int → Int → DK → Prop} : intW g (.int i) (.int j) P = g i j P := id rfl
theorem subW_int : subW (.int i) (.int j) P = P (.int (i - j)) := id rfl
theorem fdivW_int : fdivW (.int i) (.int j) P = (CDivW i j ∧ P (.int (i / j))) := id rfl
theorem modW_int : modW (.int i) (.int j) P = (0 < j ∧ P (.int (i % j))) := id rfl
theorem powW_int : powW (.int i) (.int j) P = (CPow i j ∧ P (.int (i ^ j.toNat))) := id rfl
theorem ltW_int : ltW (.int i) (.int j) P = P (.bl (decide (i < j))) := id rfl
theorem leW_int : leW (.int i) (.int j) P = P (.bl (decide (i ≤ j))) := id rfl
theorem gtW_int : gtW (.int i) (.int j) P = P (.bl (decide (j < i))) := id rfl
theorem geW_int : geW (.int i) (.int j) P = P (.bl (decide (j ≤ i))) := id rfl
theorem mulW_int : mulW (.int i) (.int j) P = (MulOk i j ∧ P (.int (i * j))) := id rfl
theorem mulW_lst : mulW (.lst ds) (.int j) P = (-(2 ^ 63) ≤ j ∧ j < 2 ^ 63 ∧ ds.length * j.toNat ≤ sizeLine ∧ P (.lst (List.replicate j.toNat ds).flatten)) := id rfl
theorem eqW_int : eqW (.int i) (.int j) P = P (.bl (decide (i = j))) := id rfl
theorem eqW_str : eqW (.str s) (.str t) P = P (.bl (decide (s = t))) := id rfl
theorem eqW_bl : eqW (.bl b) (.bl c) P = P (.bl (decide (b = c))) := id rfl
theorem eqW_nn : eqW .non .non P = P (.bl true) := id rfl
theorem eqW_ni : eqW .non (.int i) P = P (.bl false) := id rfl
theorem eqW_in : eqW (.int i) .non P = P (.bl false) := id rfl
theorem eqW_is : eqW (.int i) (.str s) P = P (.bl false) := id rfl
theorem eqW_si : eqW (.str s) (.int i) P = P (.bl false) := id rfl
theorem eqW_tt : eqW (.tup ds) (.tup es) P = ((D.tup ds).ok ∧ (D.tup es).ok ∧ P (.bl ((D.tup ds).eqv (.tup es)))) := id rfl
theorem eqW_ll : eqW (.lst ds) (.lst es) P = ((D.lst ds).ok ∧ (D.lst es).ok ∧ P (.bl ((D.lst ds).eqv (.lst es)))) := id rfl
theorem neW_int : neW (.int i) (.int j) P = P (.bl (!decide (i = j))) := id rfl
theorem neW_str : neW (.str s) (.str t) P = P (.bl (!decide (s = t))) := id rfl
theorem neW_bl : neW (.bl b) (.bl c) P = P (.bl (!decide (b = c))) := id rfl
theorem neW_nn : neW .non .non P = P (.bl false) := id rfl
theorem neW_ni : neW .non (.int i) P = P (.bl true) := id rfl
theorem neW_in : neW (.int i) .non P = P (.bl true) := id rfl
theorem neW_is : neW (.int i) (.str s) P = P (.bl true) := id rfl
theorem neW_si : neW (.str s) (.int i) P = P (.bl true) := id rfl
theorem neW_tt : neW (.tup ds) (.tup es) P = ((D.tup ds).ok ∧ (D.tup es).ok ∧ P (.bl (!(D.tup ds).eqv (.tup es)))) := id rfl
theorem neW_ll : neW (.lst ds) (.lst es) P = ((D.lst ds).ok ∧ (D.lst es).ok ∧ P (.bl (!(D.lst ds).eqv (.lst es)))) := id rfl
theorem negW_int : negW (.int i) P = P (.int (-i)) := id rfl
theorem absW_int : absW (.int i) P = P (.int (if i < 0 then -i else i)) := id rfl
theorem intfW_int : intfW (.int i) P = P (.int i) := id rfl
theorem intfW_bl : intfW (.bl b) P = P (.int (if b then 1 else 0)) := id rfl
theorem lenW_str : lenW (.str s) P = (s.length ≤ sizeLine ∧ P (.int s.length)) := id rfl
theorem lenW_lst : lenW (.lst ds) P = P (.int ds.length) := id rfl
theorem lenW_ktup : lenW (.ktup ds) P = P (.int ds.length) := id rfl
theorem lenW_klst : lenW (.klst ds) P = P (.int ds.length) := id rfl
theorem lenW_at {a : Addr} : lenW (.at a ds) P = P (.int ds.length) := id rfl
theorem itemW_at {a : Addr} : itemW (.at a ds) (.int i) P = isSome P (atI ds i) := id rfl
theorem lenW_tup : lenW (.tup ds) P = P (.int ds.length) := id rfl
theorem max2W_int : max2W (.int i) (.int j) P = P (.int (if j > i then j else i)) := id rfl
theorem min2W_int : min2W (.int i) (.int j) P = P (.int (if j < i then j else i)) := id rfl
theorem itemW_lst : itemW (.lst ds) (.int i) P = isSome P (atI ds i) := id rfl
theorem itemW_lstD : itemW (.lst ds) (.int i) P = isSomeD P Tg.mk (atI ds i) := id rfl
theorem itemW_klst : itemW (.klst ds) (.int i) P = isSome P (atI ds i) := id rfl
theorem itemW_ktupD : itemW (.ktup ds) (.int i) P = isSomeD P Tg.mk (atI ds i) := id rfl
theorem itemW_klstD : itemW (.klst ds) (.int i) P = isSomeD P Tg.mk (atI ds i) := id rfl
theorem itemW_tup : itemW (.tup ds) (.int i) P = isSome P (atI ds i) := id rfl
theorem itemW_tupD : itemW (.tup ds) (.int i) P = isSomeD P Tg.mk (atI ds i) := id rfl
theorem itemW_str : itemW (.str s) (.int i) P = (s.length ≤ sizeLine ∧ isSome (fun c => P (.str ⟨#[c]⟩)) (atI s.cps.toList i)) := id rfl
theorem itemW_strD : itemW (.str s) (.int i) P = (s.length ≤ sizeLine ∧ isSomeD (fun c => P (.str ⟨#[c]⟩)) Tg.mk (atI s.cps.toList i)) := id rfl
theorem asList_lst : asList (.lst ds) = some ds := id rfl
theorem asList_ktup : asList (.ktup ds) = some ds := id rfl
theorem asList_klst : asList (.klst ds) = some ds := id rfl
theorem asList_tup : asList (.tup ds) = some ds := id rfl
theorem tyN_non : tyN .non = some "NoneType" := id rfl
theorem tyN_bl : tyN (.bl b) = some "bool" := id rfl
theorem tyN_int : tyN (.int i) = some "int" := id rfl
theorem tyN_str : tyN (.str s) = some "str" := id rfl
theorem tyN_ktup : tyN (.ktup ds) = some "tuple" := id rfl
theorem tyN_tup : tyN (.tup ds) = some "tuple" := id rfl
theorem tyN_lst : tyN (.lst ds) = some "list" := id rfl
theorem tyN_dK : tyN (.dK ks ds) = some "dict" := id rfl
theorem tyN_dT : tyN (.dT kt ds) = some "dict" := id rfl
theorem truW_non : truW .non PB = PB false := id rfl
theorem truW_bl : truW (.bl b) PB = PB b := id rfl
theorem truW_int : truW (.int i) PB = PB (i != 0) := id rfl
theorem truW_str : truW (.str s) PB = (s.length ≤ sizeLine ∧ PB ((s.length : Int) != 0)) := id rfl
theorem truW_lst : truW (.lst ds) PB = PB (!ds.isEmpty) := id rfl
theorem truW_klst : truW (.klst ds) PB = PB (!ds.isEmpty) := id rfl
theorem truW_ktup : truW (.ktup ds) PB = PB (!ds.isEmpty) := id rfl
theorem truW_tup : truW (.tup ds) PB = PB (!ds.isEmpty) := id rfl
theorem isNon_non : D.isNon .non = true := id rfl
theorem isNon_bl : D.isNon (.bl b) = false := id rfl
theorem isNon_int : D.isNon (.int i) = false := id rfl
theorem isNon_str : D.isNon (.str s) = false := id rfl
theorem isNon_tup : D.isNon (.tup ds) = false := id rfl
theorem isNon_lst : D.isNon (.lst ds) = false := id rfl
theorem isNon_ktup : D.isNon (.ktup ds) = false := id rfl
theorem isK_tup : D.isK (.tup ds) = false := id rfl
theorem isK_lst : D.isK (.lst ds) = false := id rfl
theorem isK_klst : D.isK (.klst ds) = false := id rfl
theorem isNon_klst : D.isNon (.klst ds) = false := id rfl
theorem isNon_ins : D.isNon (.ins C ns ds) = false := id rfl
theorem isNon_dK : D.isNon (.dK ks ds) = false := id rfl
theorem gT_ktup {n : Nat} {g : PTGs} {ρ : Env} {Q : Env → Prop} : gT n g (.ktup ds) ρ Q = (ds.length = n ∧ g ds ρ Q) := id rfl
theorem gT_tup {n : Nat} {g : PTGs} {ρ : Env} {Q : Env → Prop} : gT n g (.tup ds) ρ Q = (ds.length = n ∧ g ds ρ Q) := id rfl
theorem gConsP_cons {g : PTG} {h : PTGs} {ρ : Env} {Q : Env → Prop} : gConsP g h (d :: ds) ρ Q = g d ρ fun ρ' => h ds ρ' Q := id rfl
theorem gNilP_nil {ρ : Env} {Q : Env → Prop} : gNilP [] ρ Q = Q ρ := by simp [gNilP]
theorem forW_nil {g : PTG} {body : PTS} {PD : PEnds} {ρ : Env} : forW g body PD [] ρ = PD.nx ρ := id rfl
theorem forW_cons {g : PTG} {body : PTS} {PD : PEnds} {ρ : Env} : forW g body PD (d :: ds) ρ = g d ρ fun ρ' => body { nx := forW g body PD ds, rt := PD.rt, ct := forW g body PD ds, bk := PD.nx, rn := PD.rn, xr := PD.xr } ρ' := id rfl
theorem compW_nil {vs : List Nat} {g : PTG} {t : PTT} {e : PTE} {ρ : Env} {acc : List D} : compW vs g t e ρ P [] acc = P (.lst acc) := id rfl
theorem compW_cons {vs : List Nat} {g : PTG} {t : PTT} {e : PTE} {ρ : Env} {acc : List D} : compW vs g t e ρ P (d :: ds) acc = g d (wipeE ρ vs) fun ρ' => t ρ' fun b => if b = true then e ρ' fun y => acc.length < sizeLine ∧ compW vs g t e ρ P ds (acc ++ [y]) else compW vs g t e ρ P ds acc := id rfl
theorem wipeE_nil {ρ : Env} : wipeE ρ [] = ρ := id rfl
theorem wipeE_cons {ρ : Env} {v : Nat} {vs : List Nat} : wipeE ρ (v :: vs) = (wipeE ρ vs).set v none := id rfl
end
theorem atI_cast {α : Type} (xs : List α) (k : Nat) : atI xs (k : Int) = xs[k]? := by
  unfold atI ixN
  rw [if_pos (Int.natCast_nonneg k)]
  by_cases h : k < xs.length
  · rw [if_pos (by omega)]; simp
  · rw [if_neg (by omega), List.getElem?_eq_none (by omega)]; rfl
theorem atI_of {α : Type} {xs : List α} {i : Int} (h : 0 ≤ i) : atI xs i = xs[i.toNat]? := by
  have := atI_cast xs i.toNat
  rwa [Int.toNat_of_nonneg h] at this
theorem atI_neg {α : Type} (xs : List α) (k : Nat) (h : k < xs.length) : atI xs (-((k : Int) + 1)) = xs[xs.length - 1 - k]? := by
  unfold atI ixN
  rw [if_neg (by omega), if_pos (by omega)]
  show xs[(-((k : Int) + 1) + xs.length).toNat]? = _
  congr 1
  omega
section
variable {α : Type} {xs : List α}
theorem atI_0 : atI xs 0 = xs[0]? := atI_cast xs 0
theorem atI_1 : atI xs 1 = xs[1]? := atI_cast xs 1
theorem atI_2 : atI xs 2 = xs[2]? := atI_cast xs 2
theorem atI_3 : atI xs 3 = xs[3]? := atI_cast xs 3
theorem atI_4 : atI xs 4 = xs[4]? := atI_cast xs 4
theorem atI_5 : atI xs 5 = xs[5]? := atI_cast xs 5
theorem atI_6 : atI xs 6 = xs[6]? := atI_cast xs 6
theorem atI_7 : atI xs 7 = xs[7]? := atI_cast xs 7
theorem atI_8 : atI xs 8 = xs[8]? := atI_cast xs 8
theorem atI_9 : atI xs 9 = xs[9]? := atI_cast xs 9
end
theorem ixN_cast (n k : Nat) : ixN n (k : Int) = if k < n then some k else none := by
  unfold ixN
  rw [if_pos (Int.natCast_nonneg k)]
  by_cases h : k < n
  · rw [if_pos (by omega), if_pos h]; simp
  · rw [if_neg (by omega), if_neg h]
theorem ixN_of {n : Nat} {i : Int} (h : 0 ≤ i) (h2 : i < n) : ixN n i = some i.toNat := by
  unfold ixN
  rw [if_pos h, if_pos h2]
theorem ixN_0 {n : Nat} : ixN n 0 = if 0 < n then some 0 else none := ixN_cast n 0
theorem ixN_1 {n : Nat} : ixN n 1 = if 1 < n then some 1 else none := ixN_cast n 1
theorem ixN_2 {n : Nat} : ixN n 2 = if 2 < n then some 2 else none := ixN_cast n 2
theorem ixN_3 {n : Nat} : ixN n 3 = if 3 < n then some 3 else none := ixN_cast n 3
theorem ixN_4 {n : Nat} : ixN n 4 = if 4 < n then some 4 else none := ixN_cast n 4
theorem div_s {i j : Int} (h : 0 < j) (h2 : j.natAbs < 2 ^ 64 := by omega) : CDivW i j := wide_div h h2 (by decide) (by decide)
theorem pow_s {i j : Int} (h : 0 ≤ j := by decide) (h2 : j ≤ 1000000 := by decide) (h3 : i.natAbs < 2 ^ 64 := by decide) : CPow i j := ⟨h, h2, h3⟩
theorem mul_s {i j : Int} (h : -(2 ^ 64) < j ∧ j < 2 ^ 64 := by constructor <;> omega) : MulOk i j := .inl (.inr h)
theorem mul_l {i j : Int} (h : -(2 ^ 64) < i ∧ i < 2 ^ 64 := by constructor <;> omega) : MulOk i j := .inl (.inl h)
theorem mul_b {i j : Int} (a b : Nat) (ha : i.natAbs < 2 ^ a) (hb : j.natAbs < 2 ^ b) (h0 : 0 < a := by decide) (h1 : 0 < b := by decide) (h : a + b ≤ 1000000 := by decide) : MulOk i j := .inr (wide_mul ha hb h0 h1 h)
end Pu
namespace Pu
open PySem PySem.Spec L2
local macro_rules | `(tactic| walk_at "pu") => `(tactic| simp only [qSeq, qNext, qBreak, qCont, qRet, qRetN, qSet, qSetN, qAsg, qAug, qApp, qFrz, qIf, qDrop, qSetIx, qFor, qWhile, tst, pOp, pUn, pC, pVar, pVarR, pCall, pCallD, pCons, pNil, pAndT, pOrT, pNotT, pTru, pAnd, pOr, pNot, pIf, pIsN, pChain, pTup, pLst, pIsi, pSeq, pRange1, pRange2, pComp, pYes, gN, listW, tupleW, ltW_int, leW_int, gtW_int, geW_int, subW_int, fdivW_int, modW_int, powW_int, endOf, endIo, atSh_sh, atAny_sh, atAny_ow, atOwT_ow, atOwL_ow, atOwF_ow, isBl_bl, isInt_int, isSome_some, isSome_none, isIns_ins, on1_1, on2_2, addW_int, addW_ib, addW_str, addW_lst, iaddW_int, iaddW_str, mulW_int, mulW_lst, eqW_int, eqW_str, eqW_bl, eqW_nn, eqW_ni, eqW_in, eqW_is, eqW_si, eqW_tt, eqW_ll, neW_int, neW_str, neW_bl, neW_nn, neW_ni, neW_in, neW_is, neW_si, neW_tt, neW_ll, negW_int, absW_int, intfW_int, intfW_bl, lenW_str, lenW_lst, lenW_klst, lenW_tup, lenW_at, max2W_int, min2W_int, itemW_lst, itemW_klst, itemW_tup, itemW_at, itemW_str, asList_lst, asList_klst, asList_tup, tyN_non, tyN_bl, tyN_int, tyN_str, tyN_tup, tyN_lst, tyN_dK, tyN_dT, truW_non, truW_bl, truW_int, truW_str, truW_lst, truW_klst, truW_tup, isNon_non, isNon_bl, isNon_int, isNon_str, isNon_tup, isNon_lst, isNon_klst, isNon_ins, isNon_dK, gT_tup, gConsP_cons, gNilP_nil, wipeE_nil, wipeE_cons, atI_0, atI_1, atI_2, atI_3, atI_4, atI_5, atI_6, atI_7, atI_8, atI_9, ixN_0, ixN_1, ixN_2, ixN_3, ixN_4, List.getElem?_cons_zero, List.getElem?_cons_succ, List.getElem?_nil, List.set_cons_zero, List.set_cons_succ, List.length_cons, List.length_nil, List.length_map, Nat.reduceAdd, Nat.reduceLT, Nat.lt_irrefl, List.append_nil, List.nil_append, decide_eq_true_eq, decide_eq_false_iff_not, Bool.not_eq_true', Bool.not_true, Bool.not_false, ite_true, ite_false, if_true, if_false, Bool.false_eq_true, Bool.true_eq_false, reduceIte, and_true, true_and, subT, String.reduceEq, decide_true, decide_false, Bool.or_false, Bool.false_or, Bool.or_true, Bool.true_or, Bool.and_true, Bool.and_false, Bool.true_and, Bool.false_and, Bool.or_self, Bool.and_self])
local macro_rules | `(tactic| walk_at "pul") => `(tactic| simp only [forW_nil, forW_cons, compW_nil, compW_cons, List.cons_append, qSeq, qNext, qBreak, qCont, qRet, qRetN, qSet, qSetN, qAsg, qAug, qApp, qFrz, qIf, qDrop, qSetIx, qFor, qWhile, tst, pOp, pUn, pC, pVar, pVarR, pCall, pCallD, pCons, pNil, pAndT, pOrT, pNotT, pTru, pAnd, pOr, pNot, pIf, pIsN, pChain, pTup, pLst, pIsi, pSeq, pRange1, pRange2, pComp, pYes, gN, listW, tupleW, ltW_int, leW_int, gtW_int, geW_int, subW_int, fdivW_int, modW_int, powW_int, endOf, endIo, atSh_sh, atAny_sh, atAny_ow, atOwT_ow, atOwL_ow, atOwF_ow, isBl_bl, isInt_int, isSome_some, isSome_none, isIns_ins, on1_1, on2_2, addW_int, addW_ib, addW_str, addW_lst, iaddW_int, iaddW_str, mulW_int, mulW_lst, eqW_int, eqW_str, eqW_bl, eqW_nn, eqW_ni, eqW_in, eqW_is, eqW_si, eqW_tt, eqW_ll, neW_int, neW_str, neW_bl, neW_nn, neW_ni, neW_in, neW_is, neW_si, neW_tt, neW_ll, negW_int, absW_int, intfW_int, intfW_bl, lenW_str, lenW_lst, lenW_klst, lenW_tup, lenW_at, max2W_int, min2W_int, itemW_lst, itemW_klst, itemW_tup, itemW_at, itemW_str, asList_lst, asList_klst, asList_tup, tyN_non, tyN_bl, tyN_int, tyN_str, tyN_tup, tyN_lst, tyN_dK, tyN_dT, truW_non, truW_bl, truW_int, truW_str, truW_lst, truW_klst, truW_tup, isNon_non, isNon_bl, isNon_int, isNon_str, isNon_tup, isNon_lst, isNon_klst, isNon_ins, isNon_dK, gT_tup, gConsP_cons, gNilP_nil, wipeE_nil, wipeE_cons, atI_0, atI_1, atI_2, atI_3, atI_4, atI_5, atI_6, atI_7, atI_8, atI_9, ixN_0, ixN_1, ixN_2, ixN_3, ixN_4, List.getElem?_cons_zero, List.getElem?_cons_succ, List.getElem?_nil, List.set_cons_zero, List.set_cons_succ, List.length_cons, List.length_nil, List.length_map, Nat.reduceAdd, Nat.reduceLT, Nat.lt_irrefl, List.append_nil, List.nil_append, decide_eq_true_eq, decide_eq_false_iff_not, Bool.not_eq_true', Bool.not_true, Bool.not_false, ite_true, ite_false, if_true, if_false, Bool.false_eq_true, Bool.true_eq_false, reduceIte, and_true, true_and, subT, String.reduceEq, decide_true, decide_false, Bool.or_false, Bool.false_or, Bool.or_true, Bool.true_or, Bool.and_true, Bool.and_false, Bool.true_and, Bool.false_and, Bool.or_self, Bool.and_self])
/-! ### _law_draw -/
abbrev N_draw : List Str := ["pool", "many", "cell", "got", "one"]
def q_draw : PTS := qSeq (qSetIx 0 (pC (.int 3)) (pOp addW (pOp itemW (pVarR 0) (pC (.int 3))) (pC (.int 1))))
  (qSeq (qIf (pAndT (tst (pOp eqW (pOp itemW (pVarR 0) (pC (.int 2))) (pC (.int 0)))) (tst (pOp ltW (pOp itemW (pVarR 0) (pC (.int 1))) (pCall (on1 lenW) (pCons (pOp itemW (pVarR 0) (pC (.int 0))) pNil))))) (qSeq (qSet 2 (pOp itemW (pOp itemW (pVarR 0) (pC (.int 0))) (pOp itemW (pVarR 0) (pC (.int 1)))))
  (qSeq (qSetIx 0 (pC (.int 1)) (pOp addW (pOp itemW (pVarR 0) (pC (.int 1))) (pC (.int 1))))
  (qIf (tst (pOp geW (pCall (on1 absW) (pCons (pVarR 2) pNil)) (pOp powW (pC (.int 10)) (pC (.int 18))))) (qSetIx 0 (pC (.int 2)) (pCall (on1 absW) (pCons (pVarR 2) pNil))) (qSetIx 0 (pC (.int 4)) (pOp modW (pCall (on1 intfW) (pCons (pOp addW (pOp addW (pOp mulW (pOp itemW (pVarR 0) (pC (.int 4))) (pC (.int 16807))) (pOp mulW (pVarR 2) (pC (.int 48271)))) (pC (.int 1))) pNil)) (pC (.int 2147483647))))))) (qNext))
  (qSeq (qIf (tst (pOp gtW (pOp itemW (pVarR 0) (pC (.int 2))) (pC (.int 0)))) (qSeq (qSet 3 (pOp modW (pCall (on1 intfW) (pCons (pOp itemW (pVarR 0) (pC (.int 2))) pNil)) (pVarR 1)))
  (qSeq (qSetIx 0 (pC (.int 2)) (pOp fdivW (pOp itemW (pVarR 0) (pC (.int 2))) (pVarR 1)))
  (qRet (pVar 3)))) (qNext))
  (qSeq (qSet 4 (pOp modW (pCall (on1 intfW) (pCons (pOp addW (pOp itemW (pVarR 0) (pC (.int 4))) (pOp mulW (pOp itemW (pVarR 0) (pC (.int 3))) (pC (.int 69621)))) pNil)) (pC (.int 2147483629))))
  (qSeq (qSet 4 (pOp modW (pCall (on1 intfW) (pCons (pOp addW (pOp addW (pOp mulW (pVarR 4) (pVarR 4)) (pOp mulW (pOp itemW (pVarR 0) (pC (.int 3))) (pC (.int 40692)))) (pC (.int 7))) pNil)) (pC (.int 2147483587))))
  (qSeq (qSet 4 (pOp modW (pCall (on1 intfW) (pCons (pOp addW (pOp addW (pOp mulW (pVarR 4) (pVarR 4)) (pOp itemW (pVarR 0) (pC (.int 4)))) (pC (.int 11))) pNil)) (pC (.int 2147483579))))
  (qRet (pOp modW (pCall (on1 intfW) (pCons (pOp fdivW (pVarR 4) (pC (.int 3))) pNil)) (pVarR 1))))))))
theorem st_draw (d0 d1 : D) : startIo N_draw d0 [d1] = [some (.ow false d0), some (.sh d1), none, none, none] := rfl
theorem len_draw (d0 : D) (ds : List D) (R : D → D → Prop) (h : drawIo d0 ds R) : ds.length + 1 = 2 := by
  obtain ⟨_, _, _, _, _, _, _, _, rfl, _⟩ := h
  rfl
theorem pure_draw (d0 : D) (ds : List D) (R : D → D → Prop) (h : drawIo d0 ds R) : q_draw (endIo R) (startIo N_draw d0 ds) := by
  obtain ⟨l, ns, c, r, q, s, m, rfl, rfl, c0, c1, r0, m0, mb, h⟩ := h
  rw [st_draw]
  unfold q_draw poolD
  walk_at "pu"
  have leaf : ∀ (v c' r' q' s' : Int), 0 ≤ v → v < m → 0 ≤ c' → c' ≤ ns.length → 0 ≤ r' → R (.int v) (.lst [.at l (ns.map .int), .int c', .int r', .int q', .int s']) := h
  clear h
  have em : ∀ x : Int, 0 ≤ x % m := fun x => Int.emod_nonneg _ (by omega)
  have el : ∀ x : Int, x % m < m := fun x => Int.emod_lt_of_pos _ m0
  have eq : ∀ x : Int, 0 ≤ x → 0 ≤ x / m := fun x hx => Int.ediv_nonneg hx (by omega)
  split
  · split
    · rename_i hr hc
      rw [atI_of c0, List.getElem?_map, List.getElem?_eq_getElem (by omega)]
      generalize ns[c.toNat]'(by omega) = n
      simp only [Option.map_some]
      walk_at "pu"
      refine ⟨pow_s, ?_⟩
      have e18 : (10 : Int) ^ Int.toNat 18 = 1000000000000000000 := by decide
      rw [e18]
      have hn : 0 ≤ (if n < 0 then -n else n) := by split <;> omega
      generalize (if n < 0 then -n else n) = a at hn ⊢
      split
      · split
        · exact ⟨m0, ⟨m0, mb⟩, leaf _ _ _ _ _ (em _) (el _) (by omega) (by omega) (eq _ hn)⟩
        · exact ⟨mul_s, by omega, mul_s, mul_s, by omega, mul_s, by omega, div_s (by omega), m0, leaf _ _ _ _ _ (em _) (el _) (by omega) (by omega) hn⟩
      · refine ⟨mul_s, mul_s, by omega, ?_⟩
        split
        · omega
        · exact ⟨mul_s, by omega, mul_s, mul_s, by omega, mul_s, by omega, div_s (by omega), m0, leaf _ _ _ _ _ (em _) (el _) (by omega) (by omega) r0⟩
    · split
      · exact ⟨m0, ⟨m0, mb⟩, leaf _ _ _ _ _ (em _) (el _) c0 c1 (eq _ r0)⟩
      · exact ⟨mul_s, by omega, mul_s, mul_s, by omega, mul_s, by omega, div_s (by omega), m0, leaf _ _ _ _ _ (em _) (el _) c0 c1 r0⟩
  · split
    · exact ⟨m0, ⟨m0, mb⟩, leaf _ _ _ _ _ (em _) (el _) c0 c1 (eq _ r0)⟩
    · exact ⟨mul_s, by omega, mul_s, mul_s, by omega, mul_s, by omega, div_s (by omega), m0, leaf _ _ _ _ _ (em _) (el _) c0 c1 r0⟩
end Pu
namespace Pu
open PySem PySem.Spec L2
section
variable {X : Cx} {pos : Pos} {K : Fg} {F F' : FS} {H H' : Hp} {i : Int} {b : Bool} {s : Str} {ds es : List D} {d e : D} {P : DK} {C : Addr} {ns : List Str}

/-! ### is True, is False -/
def isTW (k : Bool) : D → DK → Prop
  | .bl b, P => P (.bl (b == k))
  | .rf _, _ => False
  | _, P => P (.bl false)
def isV : V → Prop
  | .bl _ => True
  | .non => True
  | .int _ => True
  | .str _ => True
  | .ref _ => True
  | _ => False
theorem op_isB (k : Bool) : OpR X (compareOp .Is) (fun x y H Q => y = .bl k ∧ isV x ∧ Q (.bl (decide (x = .bl k))) H) := by
  intro pins s σ H x y v u Q I rx ry h
  obtain ⟨rfl, hx, q⟩ := h
  cases (show u = Value.bool k from ry)
  cases x with
  | bl b =>
    cases (show v = Value.bool b from rx)
    by_cases e : b = k
    · subst e
      exact wpAny_is_self rfl ⟨V.bl true, H, I, rfl, by simpa using q⟩
    · exact wpAny_is_other rfl (fun z => e (Value.bool.inj z)) ⟨V.bl false, H, I, rfl, by simpa [e] using q⟩
  | non =>
    cases (show v = Value.none from rx)
    exact wpAny_is_other rfl (fun z => by cases z) ⟨V.bl false, H, I, rfl, by simpa using q⟩
  | int i =>
    obtain ⟨t, rfl⟩ := (show ∃ t, v = Value.int i t from rx)
    exact wpAny_is_other rfl (fun z => by cases z) ⟨V.bl false, H, I, rfl, by simpa using q⟩
  | str i =>
    obtain ⟨t, rfl⟩ := (show ∃ t, v = Value.str i t from rx)
    exact wpAny_is_other rfl (fun z => by cases z) ⟨V.bl false, H, I, rfl, by simpa using q⟩
  | ref a =>
    cases (show v = Value.ref a from rx)
    exact wpAny_is_other rfl (fun z => by cases z) ⟨V.bl false, H, I, rfl, by simpa using q⟩
  | byt _ => exact hx.elim
  | flt _ => exact hx.elim
  | ty _ => exact hx.elim
def pUnD (w : D → DK → Prop) (pa : PTE) : PTE := fun ρ P => pa ρ fun d => w d P
theorem isTW_ok {k : Bool} {d : D} {x : V} {P : DK} {Q : VK} (f : Fits F H) (r : RepT K F H d x) (h : isTW k d P) (kk : Kont K F H P Q) : isV x ∧ Q (.bl (decide (x = .bl k))) H := by
  cases d with
  | bl b =>
    have e := r.bl
    subst e
    refine ⟨trivial, ?_⟩
    have : decide (V.bl b = V.bl k) = (b == k) := by cases b <;> cases k <;> rfl
    rw [this]
    exact kk.bl f h
  | non => have e := r.non; subst e; exact ⟨trivial, by simpa using kk.bl f h⟩
  | int _ => have e := r.int; subst e; exact ⟨trivial, by simpa using kk.bl f h⟩
  | str _ => have e := r.str; subst e; exact ⟨trivial, by simpa using kk.bl f h⟩
  | tup _ => obtain ⟨a, _, rfl, _⟩ := r.tup f; exact ⟨trivial, by simpa using kk.bl f h⟩
  | lst _ => obtain ⟨a, _, rfl, _⟩ := r.lst f; exact ⟨trivial, by simpa using kk.bl f h⟩
  | klst _ => obtain ⟨a, _, rfl, _⟩ := r.klst f; exact ⟨trivial, by simpa using kk.bl f h⟩
  | ktup _ => obtain ⟨a, _, rfl, _⟩ := r.ktup f; exact ⟨trivial, by simpa using kk.bl f h⟩
  | dK _ _ => obtain ⟨a, _, rfl, _⟩ := r.dK f; exact ⟨trivial, by simpa using kk.bl f h⟩
  | dT _ _ => obtain ⟨a, _, rfl, _⟩ := r.dT f; exact ⟨trivial, by simpa using kk.bl f h⟩
  | ins _ _ _ => obtain ⟨a, _, _, rfl, _⟩ := r.ins f; exact ⟨trivial, by simpa using kk.bl f h⟩
  | pool =>
    rcases r with r | ⟨a, _, _, _, o⟩
    · simp only [Rep] at r
      obtain ⟨a, _, _, rfl, _⟩ := r
      exact ⟨trivial, by simpa using kk.bl f h⟩
    · exact o.elim
  | rf _ => exact h.elim
  | «at» _ _ => obtain ⟨_, rfl, _⟩ := r.at_; exact ⟨trivial, by simpa using kk.bl f h⟩
  | exc _ _ _ =>
    rcases r with r | ⟨_, _, _, _, o⟩
    · simp only [Rep] at r
    · exact o.elim
  | exo _ _ _ _ _ =>
    rcases r with r | ⟨_, _, _, _, o⟩
    · simp only [Rep] at r
      obtain ⟨_, rfl, _⟩ := r
      exact ⟨trivial, by simpa using kk.bl f h⟩
    · exact o.elim
theorem isB_ok {k : Bool} {a : Expr} {p : PTE} : ∀ σ H Q, L X.K (pUnD (isTW k) p) σ H Q → tOp (fun x y H Q => y = .bl k ∧ isV x ∧ Q (.bl (decide (x = .bl k))) H) (Lr X.K p) (tC (.bl k)) σ H Q := fun σ H Q ⟨N, F, ρ, P, s, q, kk⟩ =>
  ⟨N, F, ρ, _, s, q, fun d v F1 H1 p1 x1 r1 => ⟨rfl, isTW_ok x1.fits r1 p1 fun d' v' F' H' a b c => kk d' v' F' H' a (x1.then0 b) c⟩⟩
theorem e_isB {k : Bool} {a : Expr} {p : PTE} {j pos'} (ha : pr X a p) : pe X (.Compare a [.Is] [.Constant (.bool k) j pos'] pos) (pUnD (isTW k) p) :=
  PE_weak (pe_cmpR (op_isB k) ha pe_bl (nomark _)) (isB_ok (a := a))
theorem t_isB {k : Bool} {a : Expr} {p : PTE} {j pos'} (ha : pr X a p) : pt X (.Compare a [.Is] [.Constant (.bool k) j pos'] pos) (tst (pUnD (isTW k) p)) := by
  refine PT_weak (pt_cmpR (op_isB k) ha pe_bl (nomark _)) fun σ H Q ⟨N, F, ρ, P, s, q, kk⟩ => ?_
  refine isB_ok (a := a) σ H _ ⟨N, F, ρ, _, s, q, fun d v F' H' p x r => ?_⟩
  obtain ⟨b, rfl, z⟩ := isBl_inv p
  simp only [Rep] at r
  subst r
  exact ⟨b, rfl, kk _ _ _ z x⟩
/-! ### in, not in -/
def D.flat : D → Bool
  | .non => true
  | .bl _ => true
  | .int _ => true
  | .str _ => true
  | _ => false
def D.toV : D → V
  | .bl b => .bl b
  | .int i => .int i
  | .str s => .str s
  | _ => .non
theorem flat_rep {v : V} (h : d.flat = true) (r : RepT K F H d v) : v = d.toV ∧ flatV v = true := by
  cases d <;> try (cases h; done)
  · rw [r.non]; exact ⟨rfl, rfl⟩
  · rw [r.bl]; exact ⟨rfl, rfl⟩
  · rw [r.int]; exact ⟨rfl, rfl⟩
  · rw [r.str]; exact ⟨rfl, rfl⟩
theorem flats_rep {vs : List V} : ∀ {ds : List D}, ds.all D.flat = true → Reps K F ds vs → vs = ds.map D.toV ∧ vs.all flatV = true
  | [], _, r => by simp only [Reps] at r; subst r; exact ⟨rfl, rfl⟩
  | d :: ds, h, r => by
    simp only [Reps] at r
    obtain ⟨v, q, rfl, r1, r2⟩ := r
    simp only [List.all_cons, Bool.and_eq_true] at h
    obtain ⟨e1, f1⟩ := flat_rep (H := F.fz) h.1 (.inl r1)
    obtain ⟨e2, f2⟩ := flats_rep h.2 r2
    exact ⟨by rw [List.map_cons, ← e1, ← e2], by simp [f1, f2]⟩
def inSeqW (neg : Bool) (d : D) (es : List D) (P : DK) : Prop :=
  (d.flat = true ∧ es.all D.flat = true ∧ P (.bl (neg != inV d.toV (es.map D.toV)))) ∨ (d.ok ∧ (D.lst es).ok ∧ P (.bl (neg != es.any fun z => z.eqv d)))
def inW (neg : Bool) : D → D → DK → Prop
  | d, .lst es, P => inSeqW neg d es P
  | d, .klst es, P => inSeqW neg d es P
  | d, .tup es, P => d.flat = true ∧ es.all D.flat = true ∧ P (.bl (neg != inV d.toV (es.map D.toV)))
  | d, .ktup es, P => d.flat = true ∧ es.all D.flat = true ∧ P (.bl (neg != inV d.toV (es.map D.toV)))
  | .str c, .str z, P => ∃ k, c = ⟨#[k]⟩ ∧ P (.bl (neg != decide (k ∈ z.cps.toList)))
  | _, _, _ => False
theorem D.pys_eq : ∀ es : List D, D.pys es = es.map D.py
  | [] => rfl
  | e :: es => by simp only [D.pys, List.map_cons]; rw [D.pys_eq es]
theorem o_in (hu : X.A.units + 65 < cLine) : opS X (compareOp .In) (inW false) := by
  refine ⟨_, (op_in_seq.or (op_inD hu)).or op_in_sign, fun d e x y F H P Q f r1 r2 h k => ?_⟩
  have seq : ∀ (es : List D) (a : Addr) (vs : List V), y = .ref a → (SqL X.K H a vs ∨ SqT X.K H a vs) → Reps X.K F es vs → d.flat = true ∧ es.all D.flat = true ∧ P (.bl (false != inV d.toV (es.map D.toV))) → rIn X.K false x y H Q := fun es a vs ey hs hr ⟨h1, h2, h3⟩ => by
    obtain ⟨e1, f1⟩ := flat_rep h1 r1
    obtain ⟨e2, f2⟩ := flats_rep h2 hr
    subst e1
    exact ⟨a, vs, ey, hs, f1, f2, by rw [e2]; exact k.bl f (by simpa using h3)⟩
  have deep : ∀ (es : List D), e.py = .list (D.pys es) → e.plain = true → d.ok ∧ (D.lst es).ok ∧ P (.bl (false != es.any fun z => z.eqv d)) → rInD X.K x y H Q := fun es ee ep ⟨h1, h2, h3⟩ => by
    refine ⟨d.py, D.pys es, r1.dp f h1.1, ee ▸ r2.dp f ep, h1.2, by simpa only [D.py] using h2.2, ?_⟩
    rw [D.pys_eq, List.any_map]
    exact k.bl f (by simpa [Function.comp_def, D.eqv] using h3)
  cases e with
  | lst es =>
    obtain ⟨a, vs, ey, h1, q⟩ := r2.lst f
    rcases (show inSeqW false d es P by cases d <;> exact h) with h | h
    · exact .inl (.inl (seq es a vs ey (.inl (SqL.of h1)) q h))
    · exact .inl (.inr (deep es (by simp only [D.py]) (by have := h.2.1.1; simpa only [D.plain] using this) h))
  | klst es =>
    obtain ⟨a, vs, ey, h1, q⟩ := r2.klst f
    rcases (show inSeqW false d es P by cases d <;> exact h) with h | h
    · exact .inl (.inl (seq es a vs ey (.inl h1) q h))
    · exact .inl (.inr (deep es (by simp only [D.py]) (by have := h.2.1.1; simpa only [D.plain] using this) h))
  | tup es =>
    obtain ⟨a, vs, ey, h1, q⟩ := r2.tup f
    exact .inl (.inl (seq es a vs ey (.inr h1) q (by cases d <;> exact h)))
  | ktup es =>
    obtain ⟨a, vs, ey, h1, q⟩ := r2.ktup f
    exact .inl (.inl (seq es a vs ey (.inr h1) q (by cases d <;> exact h)))
  | str z =>
    cases d <;> try exact h.elim
    obtain ⟨c, rfl, h⟩ := h
    exact .inr ⟨c, z, r1.str, r2.str, k.bl f (by simpa using h)⟩
  | non => cases d <;> exact h.elim
  | bl _ => cases d <;> exact h.elim
  | int _ => cases d <;> exact h.elim
  | dK _ _ => cases d <;> exact h.elim
  | dT _ _ => cases d <;> exact h.elim
  | ins _ _ _ => cases d <;> exact h.elim
  | pool => cases d <;> exact h.elim
  | rf _ => cases d <;> exact h.elim
  | «at» _ _ => cases d <;> exact h.elim
  | exc _ _ _ => cases d <;> exact h.elim
  | exo _ _ _ _ _ => cases d <;> exact h.elim
theorem o_notin (hu : X.A.units + 65 < cLine) : opS X (compareOp .NotIn) (inW true) := by
  refine ⟨_, (op_notIn_seq.or (op_notInD hu)).or op_notIn_sign, fun d e x y F H P Q f r1 r2 h k => ?_⟩
  have seq : ∀ (es : List D) (a : Addr) (vs : List V), y = .ref a → (SqL X.K H a vs ∨ SqT X.K H a vs) → Reps X.K F es vs → d.flat = true ∧ es.all D.flat = true ∧ P (.bl (true != inV d.toV (es.map D.toV))) → rIn X.K true x y H Q := fun es a vs ey hs hr ⟨h1, h2, h3⟩ => by
    obtain ⟨e1, f1⟩ := flat_rep h1 r1
    obtain ⟨e2, f2⟩ := flats_rep h2 hr
    subst e1
    exact ⟨a, vs, ey, hs, f1, f2, by rw [e2]; exact k.bl f (by simpa using h3)⟩
  have deep : ∀ (es : List D), e.py = .list (D.pys es) → e.plain = true → d.ok ∧ (D.lst es).ok ∧ P (.bl (true != es.any fun z => z.eqv d)) → rNotInD X.K x y H Q := fun es ee ep ⟨h1, h2, h3⟩ => by
    refine ⟨d.py, D.pys es, r1.dp f h1.1, ee ▸ r2.dp f ep, h1.2, by simpa only [D.py] using h2.2, ?_⟩
    rw [D.pys_eq, List.any_map]
    exact k.bl f (by simpa [Function.comp_def, D.eqv] using h3)
  cases e with
  | lst es =>
    obtain ⟨a, vs, ey, h1, q⟩ := r2.lst f
    rcases (show inSeqW true d es P by cases d <;> exact h) with h | h
    · exact .inl (.inl (seq es a vs ey (.inl (SqL.of h1)) q h))
    · exact .inl (.inr (deep es (by simp only [D.py]) (by have := h.2.1.1; simpa only [D.plain] using this) h))
  | klst es =>
    obtain ⟨a, vs, ey, h1, q⟩ := r2.klst f
    rcases (show inSeqW true d es P by cases d <;> exact h) with h | h
    · exact .inl (.inl (seq es a vs ey (.inl h1) q h))
    · exact .inl (.inr (deep es (by simp only [D.py]) (by have := h.2.1.1; simpa only [D.plain] using this) h))
  | tup es =>
    obtain ⟨a, vs, ey, h1, q⟩ := r2.tup f
    exact .inl (.inl (seq es a vs ey (.inr h1) q (by cases d <;> exact h)))
  | ktup es =>
    obtain ⟨a, vs, ey, h1, q⟩ := r2.ktup f
    exact .inl (.inl (seq es a vs ey (.inr h1) q (by cases d <;> exact h)))
  | str z =>
    cases d <;> try exact h.elim
    obtain ⟨c, rfl, h⟩ := h
    exact .inr ⟨c, z, r1.str, r2.str, k.bl f (by simpa using h)⟩
  | non => cases d <;> exact h.elim
  | bl _ => cases d <;> exact h.elim
  | int _ => cases d <;> exact h.elim
  | dK _ _ => cases d <;> exact h.elim
  | dT _ _ => cases d <;> exact h.elim
  | ins _ _ _ => cases d <;> exact h.elim
  | pool => cases d <;> exact h.elim
  | rf _ => cases d <;> exact h.elim
  | «at» _ _ => cases d <;> exact h.elim
  | exc _ _ _ => cases d <;> exact h.elim
  | exo _ _ _ _ _ => cases d <;> exact h.elim

/-! ### sums, greatest, least, all, any, sorted of lists -/
def intsOf : List D → Option (List Int)
  | [] => some []
  | .int i :: ds => (intsOf ds).map (i :: ·)
  | _ => none
theorem intsOf_eq : ∀ {ds : List D} {ns : List Int}, intsOf ds = some ns → ds = ns.map D.int
  | [], ns, h => by cases h; rfl
  | .int i :: ds, ns, h => by
    simp only [intsOf, Option.map_eq_some_iff] at h
    obtain ⟨m, h1, rfl⟩ := h
    rw [intsOf_eq h1]; rfl
theorem intsOf_map : ∀ ns : List Int, intsOf (ns.map D.int) = some ns
  | [] => rfl
  | n :: ns => by simp [intsOf, intsOf_map ns]
def blsOf : List D → Option (List Bool)
  | [] => some []
  | .bl i :: ds => (blsOf ds).map (i :: ·)
  | _ => none
theorem blsOf_eq : ∀ {ds : List D} {ns : List Bool}, blsOf ds = some ns → ds = ns.map D.bl
  | [], ns, h => by cases h; rfl
  | .bl i :: ds, ns, h => by
    simp only [blsOf, Option.map_eq_some_iff] at h
    obtain ⟨m, h1, rfl⟩ := h
    rw [blsOf_eq h1]; rfl
theorem blsOf_map : ∀ ns : List Bool, blsOf (ns.map D.bl) = some ns
  | [] => rfl
  | n :: ns => by simp [blsOf, blsOf_map ns]
def intLW (g : List Int → DK → Prop) : D → DK → Prop
  | .lst ds, P => isSome (fun ns => g ns P) (intsOf ds)
  | .klst ds, P => isSome (fun ns => g ns P) (intsOf ds)
  | _, _ => False
theorem intLW_inv {g : List Int → DK → Prop} {x : V} (f : Fits F H) (r : RepT K F H d x) (h : intLW g d P) : ∃ a ns, x = .ref a ∧ SqL K H a (ns.map V.int) ∧ g ns P := by
  cases d <;> try exact h.elim
  · obtain ⟨a, vs, rfl, h1, q⟩ := r.lst f
    obtain ⟨ns, e, hh⟩ := isSome_inv h
    cases intsOf_eq e
    cases q.ints
    exact ⟨a, ns, rfl, SqL.of h1, hh⟩
  · obtain ⟨a, vs, rfl, h1, q⟩ := r.klst f
    obtain ⟨ns, e, hh⟩ := isSome_inv h
    cases intsOf_eq e
    cases q.ints
    exact ⟨a, ns, rfl, h1, hh⟩
def sumG (ns : List Int) (P : DK) : Prop := P (.int ns.sum)
def maxG (ns : List Int) (P : DK) : Prop := 0 < ns.length ∧ ∀ m, m ∈ ns → (∀ y, y ∈ ns → y ≤ m) → P (.int m)
def minG (ns : List Int) (P : DK) : Prop := 0 < ns.length ∧ ∀ m, m ∈ ns → (∀ y, y ∈ ns → m ≤ y) → P (.int m)
theorem c_sum (hc : X.calm = true) : callS X (.builtin "sum") (on1 (intLW sumG)) := ⟨_, cr_sum hc, fun ds xs F H P Q f r h k => by
  obtain ⟨d, v, rfl, rfl, r1, h⟩ := on1_inv h r
  obtain ⟨a, ns, rfl, h1, h2⟩ := intLW_inv f r1 h
  exact ⟨a, ns, rfl, h1, k.int f h2⟩⟩
theorem c_max1 (hc : X.calm = true) : callS X (.builtin "max") (on1 (intLW maxG)) := ⟨_, cr_max hc, fun ds xs F H P Q f r h k => by
  obtain ⟨d, v, rfl, rfl, r1, h⟩ := on1_inv h r
  obtain ⟨a, ns, rfl, h1, h2⟩ := intLW_inv f r1 h
  exact ⟨a, ns, rfl, h1, h2.1, fun m hm hle => k.int f (h2.2 m hm hle)⟩⟩
theorem c_min1 (hc : X.calm = true) : callS X (.builtin "min") (on1 (intLW minG)) := ⟨_, cr_min hc, fun ds xs F H P Q f r h k => by
  obtain ⟨d, v, rfl, rfl, r1, h⟩ := on1_inv h r
  obtain ⟨a, ns, rfl, h1, h2⟩ := intLW_inv f r1 h
  exact ⟨a, ns, rfl, h1, h2.1, fun m hm hle => k.int f (h2.2 m hm hle)⟩⟩
def blLW (g : List Bool → Bool) : D → DK → Prop
  | .lst ds, P => isSome (fun bs => P (.bl (g bs))) (blsOf ds)
  | _, _ => False
theorem blLW_inv {g : List Bool → Bool} {x : V} (f : Fits F H) (r : RepT K F H d x) (h : blLW g d P) : ∃ a bs, x = .ref a ∧ SqL K H a (bs.map V.bl) ∧ P (.bl (g bs)) := by
  cases d <;> try exact h.elim
  obtain ⟨a, vs, rfl, h1, q⟩ := r.lst f
  obtain ⟨ns, e, hh⟩ := isSome_inv h
  cases blsOf_eq e
  cases q.bls
  exact ⟨a, ns, rfl, SqL.of h1, hh⟩
theorem c_all (hc : X.calm = true) : callS X (.builtin "all") (on1 (blLW fun bs => bs.all id)) := ⟨_, cr_all hc, fun ds xs F H P Q f r h k => by
  obtain ⟨d, v, rfl, rfl, r1, h⟩ := on1_inv h r
  obtain ⟨a, ns, rfl, h1, h2⟩ := blLW_inv f r1 h
  exact ⟨a, ns, rfl, h1, k.bl f h2⟩⟩
theorem c_any (hc : X.calm = true) : callS X (.builtin "any") (on1 (blLW fun bs => bs.any id)) := ⟨_, cr_any hc, fun ds xs F H P Q f r h k => by
  obtain ⟨d, v, rfl, rfl, r1, h⟩ := on1_inv h r
  obtain ⟨a, ns, rfl, h1, h2⟩ := blLW_inv f r1 h
  exact ⟨a, ns, rfl, h1, k.bl f h2⟩⟩
def sortedG (ns : List Int) (P : DK) : Prop := ∀ ms : List Int, ms.Perm ns → ms.Pairwise (· ≤ ·) → P (.lst (ms.map D.int))
theorem c_sorted : callS X (.builtin "sorted") (on1 (intLW sortedG)) := ⟨_, cr_sortedI, fun ds xs F H P Q f r h k => by
  obtain ⟨d, v, rfl, rfl, r1, h⟩ := on1_inv h r
  obtain ⟨a, ns, rfl, h1, h2⟩ := intLW_inv f r1 h
  exact ⟨a, ns, rfl, h1, fun ms p hp ho hn => k.lst f (h2 ms hp ho) (Reps.of_ints ms) p hn⟩⟩
end
end Pu
namespace Pu
open PySem PySem.Spec L2
section
variable {X : Cx} {pos : Pos} {K : Fg} {F F' : FS} {H H' : Hp} {d e : D} {P : DK} {ds es : List D}

/-! ### new lists by operators and calls -/
theorem KontN.lst {Q : VK} (k : KontN K F H P Q) (f : Fits F H) {vs : List V} (p : P (.lst ds)) (r : Reps K F ds vs) : ∀ a, H a = none → Q (.ref a) (upd H a (.lst vs)) := fun a ha =>
  k _ a F _ p (Ext.newM f ha) ha (f.none_fz ha) (f.none_iv ha) ⟨vs, upd_same, r⟩
theorem KontN.ext {Q : VK} (k : KontN K F H P Q) (x : Ext No F H F' H') : KontN K F' H' P Q := fun d a F2 H2 p y hn hz hi r => k d a F2 H2 p (x.then0 y) (x.dom _ hn) hz hi r
def catF : D → D → DK → Prop
  | .lst a, .lst b, P => a.length + b.length ≤ sizeLine ∧ P (.lst (a ++ b))
  | _, _, _ => False
theorem f_cat {a b : Expr} {pa pb : PTE} (ha : pr X a pa) (hb : pr X b pb) : pf X (.BinOp a .Add b pos) (pOp catF pa pb) :=
  PE_weak (pe_op op_cat ha hb) fun σ H Q ⟨N, F, ρ, P, s, p, k⟩ => ⟨N, F, ρ, _, s, p, fun d v F1 H1 p1 x1 r1 => ⟨N, F1, ρ, _, s.ext x1, p1, fun e u F2 H2 p2 x2 r2 => by
    cases d <;> try exact p2.elim
    cases e <;> try exact p2.elim
    obtain ⟨a, vs, rfl, h1, q1⟩ := (r1.ext x2 x1.fits).lst x2.fits
    obtain ⟨b, us, rfl, h2, q2⟩ := r2.lst x2.fits
    exact ⟨a, b, vs, us, rfl, rfl, h1, h2, by rw [q1.length, q2.length]; exact p2.1, KontN.lst (P := P) (KontN.ext k (x1.then0 x2)) x2.fits p2.2 (q1.append q2)⟩⟩⟩
def repF : D → D → DK → Prop
  | .lst a, .int k, P => -(2 ^ 63) ≤ k ∧ k < 2 ^ 63 ∧ a.length * k.toNat ≤ sizeLine ∧ P (.lst (List.replicate k.toNat a).flatten)
  | _, _, _ => False
theorem f_rep {a b : Expr} {pa pb : PTE} (ha : pr X a pa) (hb : pr X b pb) : pf X (.BinOp a .Mult b pos) (pOp repF pa pb) :=
  PE_weak (pe_op op_rep ha hb) fun σ H Q ⟨N, F, ρ, P, s, p, k⟩ => ⟨N, F, ρ, _, s, p, fun d v F1 H1 p1 x1 r1 => ⟨N, F1, ρ, _, s.ext x1, p1, fun e u F2 H2 p2 x2 r2 => by
    cases d <;> try exact p2.elim
    cases e <;> try exact p2.elim
    obtain ⟨a, vs, rfl, h1, q1⟩ := (r1.ext x2 x1.fits).lst x2.fits
    exact ⟨a, _, vs, rfl, r2.int, h1, p2.1, p2.2.1, by rw [q1.length]; exact p2.2.2.1, KontN.lst (P := P) (KontN.ext k (x1.then0 x2)) x2.fits p2.2.2.2 (q1.rep _)⟩⟩⟩
/-- a built-in that hands back a new list -/
def callN (X : Cx) (f : Value) (w : List D → DK → Prop) : Prop :=
  ∃ r, CallR X f r ∧ ∀ ds xs F H P Q, Fits F H → RepTs X.K F H ds xs → w ds P → KontN X.K F H P Q → r xs H Q
theorem f_callTy {x : Str} {T : String} {e : Expr} {es : List Expr} {p pos : Pos} {w : List D → DK → Prop} {t : PTA} (hc : callN X (.type T) w) (hg : Gl X x) (hm : X.mg x = none) (hv : bootBuiltins x = some (.type T)) (ha : par X (e :: es) t) (hn : x ≠ "__name__" := by decide) (hdb : (x == ("__debug__" : Str)) = false := by decide)
    (he : starEach (e :: es) X.env = (false, eval e X.env) :: starEach es X.env := by rfl) (hpl : (backTo pos (starEach es X.env)).any (·.1) = false := by rfl) : pf X (.Call (.Name x p) (e :: es) [] pos) (pCall w t) := by
  obtain ⟨r, h, hr⟩ := hc
  exact PE_weak (pe_callTy h hg hm hv ha hn hdb he hpl) fun σ H Q ⟨N, F, ρ, P, s, q, k⟩ => ⟨N, F, ρ, _, s, q, fun ds vs F1 H1 p1 x1 r1 => hr ds vs F1 H1 P Q x1.fits r1 p1 (KontN.ext k x1)⟩
theorem f_callB {x : Str} {id : String} {e : Expr} {es : List Expr} {p pos : Pos} {w : List D → DK → Prop} {t : PTA} (hc : callN X (.builtin id) w) (hg : Gl X x) (hm : X.mg x = none) (hv : bootBuiltins x = some (.builtin id)) (ha : par X (e :: es) t) (hn : x ≠ "__name__" := by decide) (hdb : (x == ("__debug__" : Str)) = false := by decide)
    (he : starEach (e :: es) X.env = (false, eval e X.env) :: starEach es X.env := by rfl) (hpl : (backTo pos (starEach es X.env)).any (·.1) = false := by rfl) : pf X (.Call (.Name x p) (e :: es) [] pos) (pCall w t) := by
  obtain ⟨r, h, hr⟩ := hc
  exact PE_weak (pe_callB h hg hm hv ha hn hdb he hpl) fun σ H Q ⟨N, F, ρ, P, s, q, k⟩ => ⟨N, F, ρ, _, s, q, fun ds vs F1 H1 p1 x1 r1 => hr ds vs F1 H1 P Q x1.fits r1 p1 (KontN.ext k x1)⟩
theorem n_list : callN X (.type "list") (on1 listW) := ⟨_, call_list_of, fun ds xs F H P Q f r h k => by
  obtain ⟨d, v, rfl, rfl, r1, h⟩ := on1_inv h r
  obtain ⟨ds, h1, h2⟩ := isSome_inv h
  obtain ⟨a, vs, rfl, q1, q⟩ := r1.seq f h1
  exact ⟨a, vs, rfl, q1, k.lst f h2 q⟩⟩
theorem n_sorted : callN X (.builtin "sorted") (on1 (intLW sortedG)) := ⟨_, cr_sortedI, fun ds xs F H P Q f r h k => by
  obtain ⟨d, v, rfl, rfl, r1, h⟩ := on1_inv h r
  obtain ⟨a, ns, rfl, h1, h2⟩ := intLW_inv f r1 h
  exact ⟨a, ns, rfl, h1, fun ms p hp ho hn => k.lst f (h2 ms hp ho) (Reps.of_ints ms) p hn⟩⟩

/-! ### slices -/
abbrev PTO := Env → (Option Int → Prop) → Prop
def LO (K : Fg) (p : PTO) : TO := fun σ H Q => ∃ N F ρ P, Stt K N F ρ σ H ∧ p ρ P ∧ ∀ o F' H', P o → Ext No F H F' H' → Q o H'
def po (X : Cx) (e : Option Expr) (p : PTO) : Prop := PO X e (LO X.K p)
theorem PO_weak {e : Option Expr} {t t' : TO} (h : PO X e t) (w : ∀ σ H Q, t' σ H Q → t σ H Q) : PO X e t' := ⟨fun pins s σ H Q I q => h.run pins s σ H Q I (w _ _ _ q)⟩
def pNoPart : PTO := fun _ P => P none
def pPart (p : PTE) : PTO := fun ρ P => p ρ (isInt fun i => P (some i))
theorem o_none : po X none pNoPart := PO_weak po_none fun σ H Q ⟨N, F, ρ, P, s, p, k⟩ => k none F H p (Ext.refl s.fits)
theorem o_some {e : Expr} {p : PTE} (h : pr X e p) : po X (some e) (pPart p) := PO_weak (po_some h) fun σ H Q ⟨N, F, ρ, P, s, p, k⟩ => ⟨N, F, ρ, _, s, p, fun d v F1 H1 p1 x1 r1 => by
  obtain ⟨i, rfl, h⟩ := isInt_inv p1
  exact ⟨i, r1.int, k _ _ _ h x1⟩⟩
def cutL {α : Type} (xs : List α) (lo hi : Option Int) : List α := (xs.drop (HT.sIx xs.length 0 lo)).take (HT.sIx xs.length xs.length hi - HT.sIx xs.length 0 lo)
theorem Reps.cut {vs : List V} (r : Reps K F ds vs) (lo hi : Option Int) : Reps K F (cutL ds lo hi) (cutV vs lo hi) := by
  unfold cutL cutV
  rw [r.length]
  exact (r.drop _).take _
def sliceW : D → Option Int → Option Int → DK → Prop
  | .lst ds, lo, hi, P => P (.lst (cutL ds lo hi))
  | .klst ds, lo, hi, P => P (.lst (cutL ds lo hi))
  | .tup ds, lo, hi, P => P (.tup (cutL ds lo hi))
  | .str z, lo, hi, P => z.length ≤ sizeLine ∧ P (.str (cutS z lo hi))
  | _, _, _, _ => False
def pSlice (w : D → Option Int → Option Int → DK → Prop) (p : PTE) (l h : PTO) : PTE := fun ρ P => p ρ fun d => l ρ fun lo => h ρ fun hi => w d lo hi P
theorem cut_all {α : Type} (xs : List α) (lo hi : Option Int) (h : HT.sIx xs.length 0 lo = 0 ∧ HT.sIx xs.length xs.length hi = xs.length) : cutL xs lo hi = xs := by
  unfold cutL
  rw [h.1, h.2]
  simp
theorem e_slice {a : Expr} {lo hi : Option Expr} {p2 : Pos} {p : PTE} {l h : PTO} (ha : pr X a p) (hl : po X lo l) (hh : po X hi h) : pe X (.Subscript a (.Slice lo hi none p2) pos) (pSlice sliceW p l h) :=
  PE_weak (pe_slice ((sl_list.or sl_tupA).or sl_str) ha hl hh) fun σ H Q ⟨N, F, ρ, P, s, q, k⟩ => ⟨N, F, ρ, _, s, q, fun d v F1 H1 p1 x1 r1 => ⟨N, F1, ρ, _, s.ext x1, p1, fun lo F2 H2 p2 x2 => ⟨N, F2, ρ, _, (s.ext x1).ext x2, p2, fun hi F3 H3 p3 x3 => by
    have r3 := (r1.ext x2 x1.fits).ext x3 x2.fits
    have k3 : Kont X.K F3 H3 P Q := fun d' v' F' H' a b c => k d' v' F' H' a (((x1.then0 x2).then0 x3).then0 b) c
    cases d <;> try exact p3.elim
    · exact .inr ⟨_, r3.str, p3.1, k3.str x3.fits p3.2⟩
    · rename_i ds
      obtain ⟨a, vs, rfl, h1, q1⟩ := r3.tup x3.fits
      refine .inl (.inr ⟨a, vs, rfl, h1, fun hw => ?_, fun _ => k3.tup x3.fits p3 (q1.cut lo hi)⟩)
      rw [q1.length] at hw
      have p3 : P (.tup (cutL ds lo hi)) := p3
      rw [cut_all ds lo hi hw] at p3
      rcases r3 with r3 | ⟨_, _, _, _, o⟩
      · exact k3.here x3.fits p3 r3
      · exact o.elim
    · obtain ⟨a, vs, rfl, h1, q1⟩ := r3.lst x3.fits
      exact .inl (.inl ⟨a, vs, rfl, SqL.of h1, k3.lst x3.fits p3 (q1.cut lo hi)⟩)
    · obtain ⟨a, vs, rfl, h1, q1⟩ := r3.klst x3.fits
      exact .inl (.inl ⟨a, vs, rfl, h1, k3.lst x3.fits p3 (q1.cut lo hi)⟩)⟩⟩⟩
def sliceF : D → Option Int → Option Int → DK → Prop
  | .lst ds, lo, hi, P => P (.lst (cutL ds lo hi))
  | .klst ds, lo, hi, P => P (.lst (cutL ds lo hi))
  | _, _, _, _ => False
theorem f_slice {a : Expr} {lo hi : Option Expr} {p2 : Pos} {p : PTE} {l h : PTO} (ha : pr X a p) (hl : po X lo l) (hh : po X hi h) : pf X (.Subscript a (.Slice lo hi none p2) pos) (pSlice sliceF p l h) :=
  PE_weak (pe_slice sl_list ha hl hh) fun σ H Q ⟨N, F, ρ, P, s, q, k⟩ => ⟨N, F, ρ, _, s, q, fun d v F1 H1 p1 x1 r1 => ⟨N, F1, ρ, _, s.ext x1, p1, fun lo F2 H2 p2 x2 => ⟨N, F2, ρ, _, (s.ext x1).ext x2, p2, fun hi F3 H3 p3 x3 => by
    have r3 := (r1.ext x2 x1.fits).ext x3 x2.fits
    have k3 : KontN X.K F3 H3 P Q := KontN.ext k ((x1.then0 x2).then0 x3)
    cases d <;> try exact p3.elim
    · obtain ⟨a, vs, rfl, h1, q1⟩ := r3.lst x3.fits
      exact ⟨a, vs, rfl, SqL.of h1, k3.lst x3.fits p3 (q1.cut lo hi)⟩
    · obtain ⟨a, vs, rfl, h1, q1⟩ := r3.klst x3.fits
      exact ⟨a, vs, rfl, h1, k3.lst x3.fits p3 (q1.cut lo hi)⟩⟩⟩⟩

/-! ### o.f, and self.f = e of an owned object -/
def lookN (f : Str) : List Str → List D → Option D
  | n :: ns, d :: ds => if f = n then some d else lookN f ns ds
  | _, _ => none
def pFld (C : Addr) (f : Str) (p : PTE) : PTE := fun ρ P => p ρ (isIns fun C' ns ds => C' = C ∧ isSome P (lookN f ns ds))
theorem lookN_ok {f : Str} : ∀ {ns : List Str} {ds : List D} {vs : List V} {d : D}, Reps K F ds vs → lookN f ns ds = some d → ∃ v, (ns.zip vs).lookup f = some v ∧ Rep K F d v
  | [], _, _, _, _, h => by simp [lookN] at h
  | n :: ns, [], _, _, _, h => by simp [lookN] at h
  | n :: ns, e :: es, _, d, r, h => by
    simp only [Reps] at r
    obtain ⟨v, q, rfl, r1, r2⟩ := r
    simp only [lookN] at h
    rw [List.zip_cons_cons, List.lookup_cons]
    by_cases hf : f = n
    · rw [if_pos hf] at h
      cases h
      subst hf
      exact ⟨v, by simp, r1⟩
    · rw [if_neg hf] at h
      rw [show (f == n) = false by simpa using hf]
      exact lookN_ok r2 h
theorem e_fld {C : Addr} {f : Str} {e : Expr} {p : PTE} (cl : Cls X.K C) (na : NoAttr X.K C f) (he : pr X e p) (hb : attributeBase e f X.env (eval e X.env) = eval e X.env := by rfl) : pe X (.Attribute e f pos) (pFld C f p) :=
  PE_weak (pe_fld he hb) fun σ H Q ⟨N, F, ρ, P, s, q, k⟩ => ⟨N, F, ρ, _, s, q, fun d v F1 H1 p1 x1 r1 => by
    obtain ⟨C', ns, fs, rfl, rfl, h⟩ := isIns_inv p1
    obtain ⟨x, h1, h2⟩ := isSome_inv h
    obtain ⟨a, dx, vs, rfl, h3, h4, h5⟩ := r1.ins x1.fits
    obtain ⟨u, h6, h7⟩ := lookN_ok h5 h1
    exact ⟨a, C', dx, _, u, rfl, h3, cl, na, h6, k _ _ _ _ h2 x1 h7⟩⟩
def putNs (f : Str) (ns : List Str) : List Str := if ns.contains f then ns else ns ++ [f]
def putDs (f : Str) (x : D) : List Str → List D → List D
  | n :: ns, d :: ds => if n = f then x :: ds else d :: putDs f x ns ds
  | _, _ => [x]
theorem putF_zip {f : Str} {y : V} {x : D} (hx : Rep K F x y) : ∀ {ns : List Str} {ds : List D} {vs : List V}, Reps K F ds vs → ns.length = ds.length →
    ∃ us, putF f y (ns.zip vs) = (putNs f ns).zip us ∧ (putNs f ns).length = (putDs f x ns ds).length ∧ Reps K F (putDs f x ns ds) us
  | [], ds, vs, r, hl => by
    have : ds = [] := List.length_eq_zero_iff.mp hl.symm
    subst this
    simp only [Reps] at r
    subst r
    exact ⟨[y], rfl, rfl, Reps.one hx⟩
  | n :: ns, [], _, _, hl => by cases hl
  | n :: ns, d :: ds, _, r, hl => by
    simp only [Reps] at r
    obtain ⟨v, q, rfl, r1, r2⟩ := r
    rw [List.zip_cons_cons]
    simp only [putF, putDs]
    by_cases hn : n = f
    · subst hn
      have e : putNs n (n :: ns) = n :: ns := by unfold putNs; rw [if_pos (by simp)]
      rw [if_pos rfl, if_pos rfl, e]
      exact ⟨y :: q, rfl, hl, Reps.cons hx r2⟩
    · obtain ⟨us, e1, e2, e3⟩ := putF_zip (f := f) hx (ns := ns) r2 (by simpa using hl)
      rw [if_neg hn, if_neg hn]
      have e : putNs f (n :: ns) = n :: putNs f ns := by
        unfold putNs
        have : (n :: ns).contains f = ns.contains f := by
          rw [List.contains_cons, show (f == n) = false by simpa using Ne.symm hn, Bool.false_or]
        rw [this]
        split <;> simp
      rw [e]
      exact ⟨v :: us, by rw [e1]; rfl, by simp [e2], Reps.cons r1 e3⟩
def atIo (P : Bool → Addr → List Str → List D → Prop) : Option (Option Sl) → Prop
  | some (some (.ow b (.ins C ns ds))) => P b C ns ds
  | _ => False
theorem atIo_inv {P : Bool → Addr → List Str → List D → Prop} {x : Option (Option Sl)} (h : atIo P x) : ∃ b C ns ds, x = some (some (.ow b (.ins C ns ds))) ∧ P b C ns ds := by
  match x, h with
  | some (some (.ow b (.ins C ns ds))), h => exact ⟨b, C, ns, ds, rfl, h⟩
def qFld (i : Nat) (C : Addr) (f : Str) (p : PTE) : PTS := fun PD ρ => atIo (fun b C' ns ds => C' = C ∧ ns.length < 1000 ∧ p ρ fun x => PD.nx (ρ.set i (some (.ow b (.ins C (putNs f ns) (putDs f x ns ds)))))) ρ[i]?
theorem s_fld {i : Nat} {C : Addr} {f : Str} {o value : Expr} {pos' : Pos} {p : PTE} (cl : Cls X.K C) (na : NoAttr X.K C f) (ho : PE X o (tVar i)) (hv : pe X value p) (hs : swapsWith value (some (.Attribute o f pos')) pos.line X.env = pure false := by rfl) : ps X (.Assign [.Attribute o f pos'] value pos) (qFld i C f p) := by
  refine PS_weak (ps_fld ho hv hs) ?_
  rintro E σ H ⟨B, F, ρ, PD, s, q, e⟩
  obtain ⟨b, C', ns, ds, h1, rfl, hl, q⟩ := atIo_inv q
  refine ⟨B.N, F, ρ, _, s.st, q, fun d v F1 H1 p1 x1 r1 => ?_⟩
  have s1 := s.go x1
  obtain ⟨a, e1, n, hz, hi, dx, vs, h3, h4, h5⟩ := s1.st.geto h1
  obtain ⟨us, g1, g2, g3⟩ := putF_zip (f := f) r1 h5 h4
  refine ⟨.ref a, e1, a, C', dx, _, rfl, h3, cl, na, by rw [List.length_zip]; omega, ?_⟩
  rw [g1]
  exact e.nx F1 _ σ _ (s1.own (d' := .ins C' (putNs f ns) (putDs f d ns ds)) h1 e1 ⟨dx, us, upd_same, g2, g3⟩) (x1.le s.ext.fits) p1

/-! ### enumerate, zip, signs of a text -/
def enumD : Nat → List D → List D
  | _, [] => []
  | i, d :: ds => .tup [.int i, d] :: enumD (i + 1) ds
theorem enumD_get : ∀ {ds : List D} {n i : Nat} {d : D}, ds[i]? = some d → (enumD n ds)[i]? = some (.tup [.int ((n + i : Nat) : Int), d])
  | [], _, _, _, h => by simp at h
  | e :: ds, n, 0, d, h => by cases h; rfl
  | e :: ds, n, i + 1, d, h => by
    have := enumD_get (n := n + 1) (i := i) (ds := ds) h
    show (enumD (n + 1) ds)[i]? = _
    rw [this]
    congr 4
    omega
theorem enumD_length : ∀ (ds : List D) (n : Nat), (enumD n ds).length = ds.length
  | [], _ => rfl
  | _ :: ds, n => by simp [enumD, enumD_length ds]
theorem walkD_enum {a : Addr} {vs : List V} (h : SqL K F.fz a vs) (r : Reps K F ds vs) : WalkD K F (Ite K a) (enumD 0 ds) :=
  ⟨_, _, by rw [enumD_length, ← r.length]; exact walk_enum, fun F' H' l f => f.fz.seq (l.fz.seq h), fun i H1 x H2 F1 l f y => by
    obtain ⟨T, x1, x2, rfl, hT, rfl, e1, e2⟩ := y
    obtain ⟨d, hd, rd⟩ := r.get' e2
    cases e1
    have x3 : Ext No F1 H1 (F1.add T (.tup [.int (i : Nat), x2])) (upd H1 T (.tup [.int (i : Nat), x2])) := Ext.new f hT
    refine ⟨_, _, by simpa using enumD_get (n := 0) hd, x3, rep_tup FS.add_same ?_⟩
    exact Reps.cons rep_int (Reps.one ((rd.mono l).ext x3 f))⟩
def pEnum (p : PTE) : PTA := fun ρ P => p ρ fun d => isSome (fun ds => P (enumD 0 ds)) (match d with | .lst ds => some ds | .klst ds => some ds | _ => none)
theorem i_enum {elts : List Expr} {kk : Nat} {tpos p : Pos} {e : Expr} {q : PTE} (he : pe X e q) (hg : Gl X "enumerate") (hm : X.mg "enumerate" = none) (hs : starEach [e] X.env = [(false, eval e X.env)] := by rfl) :
    pi X (.Tuple elts kk tpos) (.Call (.Name "enumerate" p) [e] [] pos) (pEnum q) :=
  PI_weak (pi_enum hg hm (pa_cons he pa_nil hs) hs) fun σ H R ⟨N, F, ρ, P, s, p, k⟩ => ⟨N, F, ρ, _, s, p, fun d v F1 H1 p1 x1 r1 => by
    obtain ⟨ds, e, p1⟩ := isSome_inv p1
    cases d <;> cases e
    · simp only [Rep] at r1
      obtain ⟨a, vs, rfl, h1, q⟩ := r1
      exact ⟨a, vs, rfl, SqL.of (x1.fits.fz _ _ h1), k _ _ _ _ p1 x1 (walkD_enum (SqL.of h1) q)⟩
    · simp only [Rep] at r1
      obtain ⟨a, vs, rfl, h1, q⟩ := r1
      exact ⟨a, vs, rfl, x1.fits.fz.seq h1, k _ _ _ _ p1 x1 (walkD_enum h1 q)⟩⟩
def zipD (ds es : List D) : List D := (ds.zip es).map fun p => .tup [p.1, p.2]
theorem walkD_zip {a b : Addr} {vs us : List V} (h : SqL K F.fz a vs) (h2 : SqL K F.fz b us) (r : Reps K F ds vs) (r2 : Reps K F es us) : WalkD K F (Itz K a b) (zipD ds es) :=
  ⟨_, _, walk_zip (xs := vs) (ys := us) (by simp [zipD, r.length, r2.length]), fun F' H' l f => ⟨f.fz.seq (l.fz.seq h), f.fz.seq (l.fz.seq h2)⟩, fun i H1 x H2 F1 l f y => by
    obtain ⟨T, x1, x2, rfl, hT, rfl, e1, e2⟩ := y
    obtain ⟨d, hd, rd⟩ := r.get' e1
    obtain ⟨e, he, re⟩ := r2.get' e2
    have x3 : Ext No F1 H1 (F1.add T (.tup [x1, x2])) (upd H1 T (.tup [x1, x2])) := Ext.new f hT
    refine ⟨.tup [d, e], _, ?_, x3, rep_tup FS.add_same ?_⟩
    · unfold zipD
      have hz : (ds.zip es)[i]? = some (d, e) := by rw [List.getElem?_zip_eq_some]; exact ⟨hd, he⟩
      rw [List.getElem?_map, hz]
      rfl
    · exact Reps.cons ((rd.mono l).ext x3 f) (Reps.one ((re.mono l).ext x3 f))⟩
def asL : D → Option (List D)
  | .lst ds => some ds
  | .klst ds => some ds
  | _ => none
theorem asL_ok {d : D} {v : V} (r : Rep K F d v) (h : asL d = some ds) : ∃ a vs, v = .ref a ∧ SqL K F.fz a vs ∧ Reps K F ds vs := by
  cases d <;> cases h
  · simp only [Rep] at r
    obtain ⟨a, vs, rfl, h1, q⟩ := r
    exact ⟨a, vs, rfl, SqL.of h1, q⟩
  · simp only [Rep] at r
    exact r
def pZip (p q : PTE) : PTA := fun ρ P => p ρ fun d => q ρ fun e => isSome (fun ds => isSome (fun es => P (zipD ds es)) (asL e)) (asL d)
theorem i_zip {elts : List Expr} {kk : Nat} {tpos p : Pos} {e1 e2 : Expr} {q1 q2 : PTE} (h1 : pe X e1 q1) (h2 : pe X e2 q2) (hg : Gl X "zip") (hm : X.mg "zip" = none) (hs : starEach [e1, e2] X.env = (false, eval e1 X.env) :: starEach [e2] X.env := by rfl) (hs2 : starEach [e2] X.env = [(false, eval e2 X.env)] := by rfl) (hpl : (backTo pos (starEach [e2] X.env)).any (·.1) = false := by rfl) :
    pi X (.Tuple elts kk tpos) (.Call (.Name "zip" p) [e1, e2] [] pos) (pZip q1 q2) :=
  PI_weak (pi_zip hg hm (pa_cons h1 (pa_cons h2 pa_nil hs2) hs) hs hpl) fun σ H R ⟨N, F, ρ, P, s, p, k⟩ => ⟨N, F, ρ, _, s, p, fun d v F1 H1 p1 x1 r1 => ⟨N, F1, ρ, _, s.ext x1, p1, fun e u F2 H2 p2 x2 r2 => by
    obtain ⟨ds, ed, p2⟩ := isSome_inv p2
    obtain ⟨es, ee, p2⟩ := isSome_inv p2
    obtain ⟨a, vs, rfl, g1, g2⟩ := asL_ok (r1.ext x2 x1.fits) ed
    obtain ⟨b, us, rfl, g3, g4⟩ := asL_ok r2 ee
    exact ⟨a, b, vs, us, rfl, x2.fits.fz.seq g1, x2.fits.fz.seq g3, k _ _ _ _ p2 (x1.then0 x2) (walkD_zip g1 g3 g2 g4)⟩⟩⟩
def signsD (z : Str) : List D := z.cps.toList.map fun c => .str ⟨#[c]⟩
def pStr (p : PTE) : PTA := fun ρ P => p ρ fun d => match d with
  | .str z => P (signsD z)
  | _ => False
theorem walkD_str (z : Str) : WalkD K F (Its z) (signsD z) :=
  ⟨_, _, by simp only [signsD, List.length_map, Array.length_toList]; exact walk_str, fun _ _ _ _ => trivial, fun i H1 x H2 F1 l f y => by
    obtain ⟨rfl, c, e, rfl⟩ := y
    refine ⟨.str ⟨#[c]⟩, F1, ?_, Ext.refl f, rep_str⟩
    unfold signsD
    rw [List.getElem?_map, Array.getElem?_toList, e]
    rfl⟩
theorem i_str {tg e : Expr} {p : PTE} (h : pr X e p) : pi X tg e (pStr p) :=
  PI_weak (pi_str h) fun σ H R ⟨N, F, ρ, P, s, p, k⟩ => ⟨N, F, ρ, _, s, p, fun d v F1 H1 p1 x1 r1 => by
    cases d <;> try exact p1.elim
    exact ⟨_, r1.str, k _ _ _ _ p1 x1 (walkD_str _)⟩⟩
end
end Pu
namespace Pu
open PySem PySem.Spec L2
section
variable {X : Cx} {pos : Pos} {K : Fg} {F F' : FS} {H H' : Hp} {d e : D} {P : DK} {ds es : List D}
/-! ### an owned list by its methods -/
/-- xs.extend(ys) -/
def qExt (i : Nat) (p : PTE) : PTS := fun PD ρ => atOwL (fun c ds => p ρ fun d => match d with
  | .lst es => ds.length + es.length ≤ sizeLine ∧ PD.nx (ρ.set i (some (.ow c (.lst (ds ++ es)))))
  | _ => False) ρ[i]?
theorem s_ext {i : Nat} {call : Expr} {p : PTE} (h : PE X call (tBM X.K "list" rExtend (tVar i) (tCons (Lr X.K p) tNil))) (hs : swapsWith call none pos.line X.env = pure false := by rfl) : ps X (.Expr call pos) (qExt i p) := by
  refine PS_weak (ps_expr h hs) ?_
  rintro E σ H ⟨B, F, ρ, PD, s, q, e⟩
  obtain ⟨c, ds, h1, p⟩ := atOwL_inv q
  obtain ⟨a, vs, q1, q2, q3⟩ := own_lst s.st h1
  refine ⟨.ref a, q1, .inl ⟨rfl, vs, SqL.of q2⟩, B.N, F, ρ, _, s.st, p, fun d v F1 H1 p1 x1 r1 => ?_⟩
  cases d <;> try exact p1.elim
  rename_i es
  have s1 := s.go x1
  obtain ⟨a', vs', q1', q2', q3'⟩ := own_lst s1.st h1
  rw [q1] at q1'
  cases q1'
  obtain ⟨b, us, rfl, g1, g2⟩ := r1.lst x1.fits
  exact ⟨a, b, vs', us, rfl, rfl, q2', g1, by rw [q3'.length, g2.length]; exact p1.1, e.nx F1 _ σ _ (s1.own (d' := .lst (ds ++ es)) h1 q1 ⟨_, upd_same, q3'.append g2⟩) (x1.le s.ext.fits) p1.2⟩
/-- y = xs.pop() -/
def popW (i : Nat) (k : D → Env → Prop) (ρ : Env) : Prop := atOwL (fun c ds => isSome (fun d => k d (ρ.set i (some (.ow c (.lst ds.dropLast))))) ds.getLast?) ρ[i]?
theorem Reps.dropLast {vs : List V} (r : Reps K F ds vs) : Reps K F ds.dropLast vs.dropLast := by
  rw [List.dropLast_eq_take, List.dropLast_eq_take, r.length]
  exact r.take _
def qSetPop (j i : Nat) : PTS := fun PD ρ => popW i (fun d ρ' => PD.nx (ρ'.set j (some (.sh d)))) ρ
theorem s_setPop {j i : Nat} {x : Str} {pos' : Pos} {call : Expr} (h : PS X (.Assign [.Name x pos'] call pos) (tAsg (tBM0 X.K "list" rPop (tVar i)) (gName j))) : ps X (.Assign [.Name x pos'] call pos) (qSetPop j i) := by
  refine PS_weak h ?_
  rintro E σ H ⟨B, F, ρ, PD, s, q, e⟩
  obtain ⟨c, ds, h1, q⟩ := atOwL_inv q
  obtain ⟨d, hd, q⟩ := isSome_inv q
  obtain ⟨a, vs, q1, q2, q3⟩ := own_lst s.st h1
  have hd' : ds[ds.length - 1]? = some d := by rw [← List.getLast?_eq_getElem?]; exact hd
  obtain ⟨v, e1, r1⟩ := q3.get hd'
  refine ⟨.ref a, q1, .inl ⟨rfl, vs, SqL.of q2⟩, a, vs, v, rfl, rfl, q2, by rw [q3.length]; exact e1, ?_⟩
  have s1 := s.own (d' := .lst ds.dropLast) h1 q1 ⟨_, upd_same, q3.dropLast⟩
  exact e.nx F _ _ _ ⟨s1.ext, s1.st.set_sh j r1⟩ (Le.refl F) q
/-- xs.pop() alone -/
def qPop (i : Nat) : PTS := fun PD ρ => popW i (fun _ ρ' => PD.nx ρ') ρ
theorem s_pop {i : Nat} {call : Expr} (h : PE X call (tBM0 X.K "list" rPop (tVar i))) (hs : swapsWith call none pos.line X.env = pure false := by rfl) : ps X (.Expr call pos) (qPop i) := by
  refine PS_weak (ps_expr h hs) ?_
  rintro E σ H ⟨B, F, ρ, PD, s, q, e⟩
  obtain ⟨c, ds, h1, q⟩ := atOwL_inv q
  obtain ⟨d, hd, q⟩ := isSome_inv q
  obtain ⟨a, vs, q1, q2, q3⟩ := own_lst s.st h1
  have hd' : ds[ds.length - 1]? = some d := by rw [← List.getLast?_eq_getElem?]; exact hd
  obtain ⟨v, e1, r1⟩ := q3.get hd'
  refine ⟨.ref a, q1, .inl ⟨rfl, vs, SqL.of q2⟩, a, vs, v, rfl, rfl, q2, by rw [q3.length]; exact e1, ?_⟩
  exact e.nx F _ _ _ (s.own (d' := .lst ds.dropLast) h1 q1 ⟨_, upd_same, q3.dropLast⟩) (Le.refl F) q
/-- xs.reverse(), xs.clear() -/
def qRev (i : Nat) : PTS := fun PD ρ => atOwL (fun c ds => PD.nx (ρ.set i (some (.ow c (.lst ds.reverse))))) ρ[i]?
theorem s_rev {i : Nat} {call : Expr} (h : PE X call (tBM0 X.K "list" rReverse (tVar i))) (hs : swapsWith call none pos.line X.env = pure false := by rfl) : ps X (.Expr call pos) (qRev i) := by
  refine PS_weak (ps_expr h hs) ?_
  rintro E σ H ⟨B, F, ρ, PD, s, q, e⟩
  obtain ⟨c, ds, h1, q⟩ := atOwL_inv q
  obtain ⟨a, vs, q1, q2, q3⟩ := own_lst s.st h1
  exact ⟨.ref a, q1, .inl ⟨rfl, vs, SqL.of q2⟩, a, vs, rfl, rfl, q2, e.nx F _ _ _ (s.own (d' := .lst ds.reverse) h1 q1 ⟨_, upd_same, q3.reverse⟩) (Le.refl F) q⟩
def qClr (i : Nat) : PTS := fun PD ρ => atOwL (fun c _ => PD.nx (ρ.set i (some (.ow c (.lst []))))) ρ[i]?
theorem s_clr {i : Nat} {call : Expr} (h : PE X call (tBM0 X.K "list" rClear (tVar i))) (hs : swapsWith call none pos.line X.env = pure false := by rfl) : ps X (.Expr call pos) (qClr i) := by
  refine PS_weak (ps_expr h hs) ?_
  rintro E σ H ⟨B, F, ρ, PD, s, q, e⟩
  obtain ⟨c, ds, h1, q⟩ := atOwL_inv q
  obtain ⟨a, vs, q1, q2, q3⟩ := own_lst s.st h1
  exact ⟨.ref a, q1, .inl ⟨rfl, vs, SqL.of q2⟩, a, vs, rfl, rfl, q2, e.nx F _ _ _ (s.own (d' := .lst []) h1 q1 ⟨_, upd_same, Reps.nil⟩) (Le.refl F) q⟩
/-- xs.insert(i, e), i not below 0 -/
def rIns : V → List V → Hp → VK → Prop := fun x vs H Q => ∃ (l : Addr) (xs : List V) (i : Int) (y : V), x = .ref l ∧ vs = [.int i, y] ∧ H l = some (.lst xs) ∧ xs.length < sizeLine ∧ 0 ≤ i ∧ i < 2 ^ 63 ∧
    Q .non (upd H l (.lst (xs.take i.toNat ++ [y] ++ xs.drop i.toNat)))
theorem mt_ins : MtR X "list.insert" rIns := mt_insert
def qIns (i : Nat) (p q : PTE) : PTS := fun PD ρ => atOwL (fun c ds => p ρ (isInt fun k => q ρ fun d => ds.length < sizeLine ∧ 0 ≤ k ∧ k < 2 ^ 63 ∧ PD.nx (ρ.set i (some (.ow c (.lst (ds.take k.toNat ++ [d] ++ ds.drop k.toNat))))))) ρ[i]?
theorem s_ins {i : Nat} {call : Expr} {p q : PTE} (h : PE X call (tBM X.K "list" rIns (tVar i) (tCons (Lr X.K p) (tCons (L X.K q) tNil)))) (hs : swapsWith call none pos.line X.env = pure false := by rfl) : ps X (.Expr call pos) (qIns i p q) := by
  refine PS_weak (ps_expr h hs) ?_
  rintro E σ H ⟨B, F, ρ, PD, s, q, e⟩
  obtain ⟨c, ds, h1, p⟩ := atOwL_inv q
  obtain ⟨a, vs, q1, q2, q3⟩ := own_lst s.st h1
  refine ⟨.ref a, q1, .inl ⟨rfl, vs, SqL.of q2⟩, B.N, F, ρ, _, s.st, p, fun d v F1 H1 p1 x1 r1 => ?_⟩
  obtain ⟨k, rfl, p1⟩ := isInt_inv p1
  refine ⟨B.N, F1, ρ, _, (s.go x1).st, p1, fun d' v' F2 H2 p2 x2 r2 => ?_⟩
  have s2 := (s.go x1).go x2
  obtain ⟨a', vs', q1', q2', q3'⟩ := own_lst s2.st h1
  rw [q1] at q1'
  cases q1'
  exact ⟨a, vs', k, v', rfl, by rw [r1.int], q2', by rw [q3'.length]; exact p2.1, p2.2.1, p2.2.2.1, e.nx F2 _ σ _ (s2.own (d' := .lst (ds.take k.toNat ++ [d'] ++ ds.drop k.toNat)) h1 q1 ⟨_, upd_same, ((q3'.take _).append (Reps.one r2)).append (q3'.drop _)⟩) ((x1.then0 x2).le s.ext.fits) p2.2.2.2⟩
end

/-! ### helpers that most laws have -/
def c_rare (ds : List D) (P : DK) : Prop := ∃ m : Int, ds = [.pool, .int m] ∧ 0 < m ∧ m.natAbs.log2 < 9000 ∧ ∀ b : Bool, P (.bl b)
def c_few (ds : List D) (P : DK) : Prop := ∃ u m : Int, ds = [.pool, .int u, .int m] ∧ 0 ≤ u ∧ u < 2 ^ 60 ∧ 0 ≤ m ∧ m < 2 ^ 60 ∧ ∀ r : Int, 0 ≤ r → (r ≤ u ∨ r ≤ m) → P (.int r)
/-- what is picked from: a list, a tuple, the signs of a text -/
def pickL : D → Option (List D)
  | .tup es => some es
  | .lst es => some es
  | .klst es => some es
  | .str z => if z.length ≤ sizeLine then some (signsD z) else none
  | _ => none
def c_pick (ds : List D) (P : DK) : Prop := ∃ (d : D) (es : List D), ds = [.pool, d] ∧ pickL d = some es ∧ es ≠ [] ∧ es.length < 2 ^ 60 ∧ ∀ x ∈ es, P x
theorem drawI {m : Int} {P : DK} (h0 : 0 < m) (hb : m.natAbs.log2 < 9000) (h : ∀ r : Int, 0 ≤ r → r < m → P (.int r)) : drawC [.pool, .int m] P := ⟨m, rfl, h0, hb, h⟩
theorem nab {x : Int} {n : Nat} (h0 : 0 ≤ x) (h : x < 2 ^ n) : x.natAbs < 2 ^ n := by
  have h2 : ((x.natAbs : Nat) : Int) < ((2 ^ n : Nat) : Int) := by
    rw [Int.natAbs_of_nonneg h0]
    simpa using h
  exact Int.ofNat_lt.mp h2
theorem log_lt {m : Int} {n : Nat} (h0 : 0 ≤ m) (h : m < 2 ^ n) (hn : 0 < n := by decide) (h9 : n ≤ 9000 := by decide) : m.natAbs.log2 < 9000 := Nat.lt_of_lt_of_le (PySem.Flt.log2_lt_of hn (nab h0 h)) h9
/-- a draw below a small number -/
theorem drawS {m : Int} {P : DK} (h0 : 0 < m) (hb : m < 2 ^ 64) (h : ∀ r : Int, 0 ≤ r → r < m → P (.int r)) : drawC [.pool, .int m] P := drawI h0 (log_lt (n := 64) (by omega) hb) h
/-- a product, its bounds by powers of two -/
theorem bnd {x y : Int} {a b : Nat} (hx : 0 ≤ x) (hy : 0 ≤ y) (ha : x < 2 ^ a) (hb : y < 2 ^ b) : 0 ≤ x * y ∧ x * y < 2 ^ (a + b) := by
  refine ⟨Int.mul_nonneg hx hy, ?_⟩
  rw [Int.pow_add]
  by_cases h : y = 0
  · subst h
    rw [Int.mul_zero]
    exact Int.mul_pos (Int.pow_pos (by decide)) (Int.pow_pos (by decide))
  · exact Int.mul_lt_mul ha (Int.le_of_lt hb) (by omega) (Int.le_of_lt (Int.pow_pos (by decide)))
end Pu
namespace Pu
open PySem PySem.Spec L2
theorem u65 {k : Nat} {A : Around} (r : Room k A) : A.units + 65 < cLine := by have := r.un; omega
section
variable {X : Cx} {pos : Pos} {K : Fg} {F F' : FS} {H H' : Hp} {i j : Int} {b : Bool} {s t : Str} {ds es : List D} {d e : D} {P : DK} {C : Addr} {ns : List Str} {c : Char}
/-! ### is not True, is not False -/
def notTW (k : Bool) (d : D) (P : DK) : Prop := isTW k d (isBl fun b => P (.bl (!b)))
theorem op_notB (k : Bool) : OpR X (compareOp .IsNot) (fun x y H Q => y = .bl k ∧ isV x ∧ Q (.bl (!decide (x = .bl k))) H) := by
  intro pins s σ H x y v u Q I rx ry h
  obtain ⟨rfl, hx, q⟩ := h
  cases (show u = Value.bool k from ry)
  cases x with
  | bl b =>
    cases (show v = Value.bool b from rx)
    by_cases e : b = k
    · subst e
      exact wpAny_isNot_self rfl ⟨V.bl false, H, I, rfl, by simpa using q⟩
    · exact wpAny_isNot_other rfl (fun z => e (Value.bool.inj z)) ⟨V.bl true, H, I, rfl, by simpa [e] using q⟩
  | non =>
    cases (show v = Value.none from rx)
    exact wpAny_isNot_other rfl (fun z => by cases z) ⟨V.bl true, H, I, rfl, by simpa using q⟩
  | int i =>
    obtain ⟨t, rfl⟩ := (show ∃ t, v = Value.int i t from rx)
    exact wpAny_isNot_other rfl (fun z => by cases z) ⟨V.bl true, H, I, rfl, by simpa using q⟩
  | str i =>
    obtain ⟨t, rfl⟩ := (show ∃ t, v = Value.str i t from rx)
    exact wpAny_isNot_other rfl (fun z => by cases z) ⟨V.bl true, H, I, rfl, by simpa using q⟩
  | ref a =>
    cases (show v = Value.ref a from rx)
    exact wpAny_isNot_other rfl (fun z => by cases z) ⟨V.bl true, H, I, rfl, by simpa using q⟩
  | byt _ => exact hx.elim
  | flt _ => exact hx.elim
  | ty _ => exact hx.elim
theorem notB_ok {k : Bool} {a : Expr} {p : PTE} : ∀ σ H Q, L X.K (pUnD (notTW k) p) σ H Q → tOp (fun x y H Q => y = .bl k ∧ isV x ∧ Q (.bl (!decide (x = .bl k))) H) (Lr X.K p) (tC (.bl k)) σ H Q := fun σ H Q ⟨N, F, ρ, P, s, q, kk⟩ =>
  ⟨N, F, ρ, _, s, q, fun d v F1 H1 p1 x1 r1 => by
    have kk1 := Kont.ext kk x1
    have hh : isV v ∧ (fun z H => ∃ b, z = V.bl b ∧ Q (.bl (!b)) H) (.bl (decide (v = .bl k))) H1 := isTW_ok (Q := fun z H => ∃ b, z = V.bl b ∧ Q (.bl (!b)) H) x1.fits r1 p1 fun d' v' F' H' a b c => by
      obtain ⟨z, rfl, a⟩ := isBl_inv a
      simp only [Rep] at c
      subst c
      exact ⟨z, rfl, kk1 _ _ _ _ a b rep_bl⟩
    obtain ⟨z, e1, e2⟩ := hh.2
    cases e1
    exact ⟨rfl, hh.1, e2⟩⟩
theorem e_notB {k : Bool} {a : Expr} {p : PTE} {j pos'} (ha : pr X a p) : pe X (.Compare a [.IsNot] [.Constant (.bool k) j pos'] pos) (pUnD (notTW k) p) :=
  PE_weak (pe_cmpR (op_notB k) ha pe_bl (nomark _)) (notB_ok (a := a))
theorem t_notB {k : Bool} {a : Expr} {p : PTE} {j pos'} (ha : pr X a p) : pt X (.Compare a [.IsNot] [.Constant (.bool k) j pos'] pos) (tst (pUnD (notTW k) p)) := by
  refine PT_weak (pt_cmpR (op_notB k) ha pe_bl (nomark _)) fun σ H Q ⟨N, F, ρ, P, s, q, kk⟩ => ?_
  refine notB_ok (a := a) σ H _ ⟨N, F, ρ, _, s, q, fun d v F' H' p x r => ?_⟩
  obtain ⟨b, rfl, z⟩ := isBl_inv p
  simp only [Rep] at r
  subst r
  exact ⟨b, rfl, kk _ _ _ z x⟩
/-! ### more readings -/
theorem isTW_bl {k : Bool} : isTW k (.bl b) P = P (.bl (b == k)) := id rfl
theorem isTW_non {k : Bool} : isTW k .non P = P (.bl false) := id rfl
theorem isTW_int {k : Bool} : isTW k (.int i) P = P (.bl false) := id rfl
theorem isTW_str {k : Bool} : isTW k (.str s) P = P (.bl false) := id rfl
theorem isTW_ktup {k : Bool} : isTW k (.ktup ds) P = P (.bl false) := id rfl
theorem isTW_tup {k : Bool} : isTW k (.tup ds) P = P (.bl false) := id rfl
theorem isTW_lst {k : Bool} : isTW k (.lst ds) P = P (.bl false) := id rfl
theorem isTW_klst {k : Bool} : isTW k (.klst ds) P = P (.bl false) := id rfl
theorem notTW_bl {k : Bool} : notTW k (.bl b) P = P (.bl (!(b == k))) := id rfl
theorem notTW_non {k : Bool} : notTW k .non P = P (.bl true) := id rfl
theorem notTW_int {k : Bool} : notTW k (.int i) P = P (.bl true) := id rfl
theorem notTW_str {k : Bool} : notTW k (.str s) P = P (.bl true) := id rfl
theorem notTW_ktup {k : Bool} : notTW k (.ktup ds) P = P (.bl true) := id rfl
theorem notTW_tup {k : Bool} : notTW k (.tup ds) P = P (.bl true) := id rfl
theorem notTW_lst {k : Bool} : notTW k (.lst ds) P = P (.bl true) := id rfl
theorem notTW_klst {k : Bool} : notTW k (.klst ds) P = P (.bl true) := id rfl
theorem addW_tup : addW (.tup ds) (.tup es) P = (ds.length + es.length ≤ sizeLine ∧ P (.tup (ds ++ es))) := id rfl
theorem inW_ktup {k : Bool} : inW k d (.ktup es) P = (d.flat = true ∧ es.all D.flat = true ∧ P (.bl (k != inV d.toV (es.map D.toV)))) := by cases d <;> rfl
theorem inW_tup {k : Bool} : inW k d (.tup es) P = (d.flat = true ∧ es.all D.flat = true ∧ P (.bl (k != inV d.toV (es.map D.toV)))) := by cases d <;> rfl
theorem inW_lst {k : Bool} : inW k d (.lst es) P = inSeqW k d es P := by cases d <;> rfl
theorem inW_klst {k : Bool} : inW k d (.klst es) P = inSeqW k d es P := by cases d <;> rfl
theorem intLW_lst {g : List Int → DK → Prop} : intLW g (.lst ds) P = isSomeD (fun ns => g ns P) Tg.mk (intsOf ds) := id rfl
theorem intLW_klst {g : List Int → DK → Prop} : intLW g (.klst ds) P = isSomeD (fun ns => g ns P) Tg.mk (intsOf ds) := id rfl
theorem blLW_lst {g : List Bool → Bool} : blLW g (.lst ds) P = isSomeD (fun bs => P (.bl (g bs))) Tg.mk (blsOf ds) := id rfl
theorem sliceW_lst {lo hi : Option Int} : sliceW (.lst ds) lo hi P = P (.lst (cutL ds lo hi)) := id rfl
theorem sliceW_klst {lo hi : Option Int} : sliceW (.klst ds) lo hi P = P (.lst (cutL ds lo hi)) := id rfl
theorem sliceW_tup {lo hi : Option Int} : sliceW (.tup ds) lo hi P = P (.tup (cutL ds lo hi)) := id rfl
theorem sliceW_str {lo hi : Option Int} : sliceW (.str s) lo hi P = (s.length ≤ sizeLine ∧ P (.str (cutS s lo hi))) := id rfl
theorem sliceF_lst {lo hi : Option Int} : sliceF (.lst ds) lo hi P = P (.lst (cutL ds lo hi)) := id rfl
theorem sliceF_klst {lo hi : Option Int} : sliceF (.klst ds) lo hi P = P (.lst (cutL ds lo hi)) := id rfl
theorem catF_lst : catF (.lst ds) (.lst es) P = (ds.length + es.length ≤ sizeLine ∧ P (.lst (ds ++ es))) := id rfl
def atIoD (P : Bool → Addr → List Str → List D → Prop) (_ : Tg P) (x : Option (Option Sl)) : Prop := atIo P x
theorem atIo_ow {Q : Bool → Addr → List Str → List D → Prop} {t : Tg Q} : atIoD Q t (some (some (.ow b (.ins C ns ds)))) = Q b C ns ds := id rfl
theorem asL_lst : asL (.lst ds) = some ds := id rfl
theorem asL_klst : asL (.klst ds) = some ds := id rfl
theorem map_inj {α : Type} {f : α → D} (hf : ∀ x y, f x = f y → x = y) : ∀ {xs ys : List α}, xs.map f = ys.map f → xs = ys
  | [], [], _ => rfl
  | [], _ :: _, h => by cases h
  | _ :: _, [], h => by cases h
  | x :: xs, y :: ys, h => by
    simp only [List.map_cons, List.cons.injEq] at h
    rw [hf _ _ h.1, map_inj hf h.2]
end
/-! ### walks by what is done and what is left -/
theorem forI_list {α : Type} {g : PTG} {body : PTS} {PD : PEnds} {ds : List D} {ρ : Env} (inj : α → D) (xs : List α) (I : List α → List α → Env → Prop) (e : ds = xs.map inj) (h0 : I [] xs ρ)
    (hs : ∀ done x rest ρ, xs = done ++ x :: rest → I done (x :: rest) ρ → ∀ A : Env → Prop, (∀ ρ, I (done ++ [x]) rest ρ → A ρ) → g (inj x) ρ fun ρ' => body { nx := A, rt := PD.rt, ct := A, bk := PD.nx, rn := PD.rn, xr := PD.xr } ρ')
    (hd : ∀ ρ, I xs [] ρ → PD.nx ρ) : forI g body PD ds ρ := by
  refine ⟨fun es ρ => ∃ done rest, xs = done ++ rest ∧ es = rest.map inj ∧ I done rest ρ, ⟨[], xs, rfl, e, h0⟩, ?_, ?_⟩
  · rintro d es ρ ⟨done, rest, e1, e2, q⟩
    cases rest with
    | nil => cases e2
    | cons x rest =>
      simp only [List.map_cons, List.cons.injEq] at e2
      obtain ⟨rfl, rfl⟩ := e2
      exact hs done x rest ρ e1 q _ fun ρ h => ⟨done ++ [x], rest, by simp [e1], rfl, h⟩
  · rintro ρ ⟨done, rest, e1, e2, q⟩
    cases rest with
    | nil => rw [List.append_nil] at e1; subst e1; exact hd ρ q
    | cons x rest => cases e2
theorem rangeD_cons (lo : Int) (n : Nat) : rangeD lo (n + 1) = .int lo :: rangeD (lo + 1) n := by
  simp only [rangeD, List.range_succ_eq_map, List.map_cons, List.map_map]
  congr 1
  · simp
  · apply List.map_congr_left
    intro k _
    simp only [Function.comp, Nat.succ_eq_add_one, Int.natCast_add, Int.add_assoc]
    congr 2
    omega
/-- a for over a range, by the count of rounds done -/
theorem forI_range {g : PTG} {body : PTS} {PD : PEnds} {lo : Int} {n : Nat} {ρ : Env} (I : Nat → Env → Prop) (h0 : I 0 ρ)
    (hs : ∀ k ρ, k < n → I k ρ → ∀ A : Env → Prop, (∀ ρ, I (k + 1) ρ → A ρ) → g (.int (lo + k)) ρ fun ρ' => body { nx := A, rt := PD.rt, ct := A, bk := PD.nx, rn := PD.rn, xr := PD.xr } ρ') (hd : ∀ ρ, I n ρ → PD.nx ρ) : forI g body PD (rangeD lo n) ρ := by
  refine ⟨fun es ρ => ∃ k, k ≤ n ∧ es = rangeD (lo + k) (n - k) ∧ I k ρ, ⟨0, Nat.zero_le n, by simp, h0⟩, ?_, ?_⟩
  · rintro d es ρ ⟨k, hk, e, q⟩
    obtain ⟨m, hm⟩ : ∃ m, n - k = m + 1 := by
      cases h : n - k with
      | zero => rw [h] at e; cases e
      | succ m => exact ⟨m, rfl⟩
    rw [hm, rangeD_cons] at e
    simp only [List.cons.injEq] at e
    obtain ⟨rfl, rfl⟩ := e
    refine hs k ρ (by omega) q _ fun ρ h => ⟨k + 1, by omega, ?_, h⟩
    have : n - (k + 1) = m := by omega
    rw [this]
    congr 1
    omega
  · rintro ρ ⟨k, hk, e, q⟩
    have hl := congrArg List.length e
    simp only [rangeD, List.length_map, List.length_range, List.length_nil] at hl
    have : k = n := by omega
    subst this
    exact hd ρ q
/-- a comprehension: each element by a map, some left out -/
theorem compI_filt {α : Type} {vs : List Nat} {g : PTG} {t : PTT} {e : PTE} {ρ : Env} {P : DK} {ds : List D} (inj out : α → D) (keep : α → Bool) (xs : List α) (eq : ds = xs.map inj) (hl : xs.length ≤ sizeLine)
    (h : ∀ x, x ∈ xs → ∀ (Q : DK) (R : Prop), (if keep x = true then Q (out x) else R) → g (inj x) (wipeE ρ vs) fun ρ' => t ρ' fun b => if b = true then e ρ' Q else R)
    (hP : P (.lst ((xs.filter keep).map out))) : compI vs g t e ρ P ds := by
  refine ⟨fun es acc => ∃ done rest, xs = done ++ rest ∧ es = rest.map inj ∧ acc = (done.filter keep).map out, ⟨[], xs, rfl, eq, rfl⟩, ?_, ?_⟩
  · rintro d es acc ⟨done, rest, e1, e2, rfl⟩
    cases rest with
    | nil => cases e2
    | cons x rest =>
      simp only [List.map_cons, List.cons.injEq] at e2
      obtain ⟨rfl, rfl⟩ := e2
      have hlen : (done.filter keep).length < sizeLine := by
        have h1 := congrArg List.length e1
        have h2 := List.length_filter_le keep done
        simp at h1
        omega
      refine h x (by rw [e1]; simp) _ _ ?_
      split
      · rename_i hk
        exact ⟨by simpa using hlen, done ++ [x], rest, by simp [e1], rfl, by simp [hk]⟩
      · rename_i hk
        exact ⟨done ++ [x], rest, by simp [e1], rfl, by simp [hk]⟩
  · rintro acc ⟨done, rest, e1, e2, rfl⟩
    cases rest with
    | nil => rw [List.append_nil] at e1; subst e1; exact hP
    | cons x rest => cases e2
/-- a comprehension without an if: each element by a map -/
theorem compI_map {α : Type} {vs : List Nat} {g : PTG} {e : PTE} {ρ : Env} {P : DK} {ds : List D} (inj out : α → D) (xs : List α) (eq : ds = xs.map inj) (hl : xs.length ≤ sizeLine)
    (h : ∀ x, x ∈ xs → ∀ Q : DK, Q (out x) → g (inj x) (wipeE ρ vs) fun ρ' => e ρ' Q)
    (hP : P (.lst (xs.map out))) : compI vs g pYes e ρ P ds :=
  compI_filt inj out (fun _ => true) xs eq hl (fun x hx Q R q => by
    rw [if_pos rfl] at q
    exact h x hx Q q) (by
    have : xs.filter (fun _ => true) = xs := by simp
    rwa [this])
/-- what a comprehension draws: only what holds of each element -/
theorem compI_all {vs : List Nat} {g : PTG} {e : PTE} {ρ : Env} {P : DK} {ds : List D} (S : D → Prop) (hl : ds.length ≤ sizeLine)
    (h : ∀ d, d ∈ ds → ∀ Q : DK, (∀ y, S y → Q y) → g d (wipeE ρ vs) fun ρ' => e ρ' Q)
    (hP : ∀ acc : List D, acc.length = ds.length → (∀ y, y ∈ acc → S y) → P (.lst acc)) : compI vs g pYes e ρ P ds := by
  refine ⟨fun es acc => (∃ done, ds = done ++ es ∧ acc.length = done.length) ∧ ∀ y, y ∈ acc → S y, ⟨⟨[], rfl, rfl⟩, fun y h => by cases h⟩, ?_, ?_⟩
  · rintro d es acc ⟨⟨done, e1, e2⟩, q⟩
    have hlen : acc.length < sizeLine := by
      have h1 := congrArg List.length e1
      simp at h1
      omega
    refine h d (by rw [e1]; simp) _ fun y sy => ?_
    refine ⟨hlen, ⟨done ++ [d], by simp [e1], by simp [e2]⟩, fun z hz => ?_⟩
    rcases List.mem_append.mp hz with hz | hz
    · exact q z hz
    · cases List.mem_singleton.mp hz; exact sy
  · rintro acc ⟨⟨done, e1, e2⟩, q⟩
    rw [List.append_nil] at e1
    subst e1
    exact hP acc e2 q

def enumW (d : D) (P : List D → Prop) : Prop := isSome (fun ds => P (enumD 0 ds)) (asL d)
theorem r_pEnum {p : PTE} {ρ : Env} {P : List D → Prop} : pEnum p ρ P = (p ρ fun d => enumW d P) := by
  unfold pEnum enumW
  congr 1 <;> (funext d; cases d <;> rfl)
theorem enumW_lst {ds : List D} {P : List D → Prop} : enumW (.lst ds) P = P (enumD 0 ds) := id rfl
theorem enumW_klst {ds : List D} {P : List D → Prop} : enumW (.klst ds) P = P (enumD 0 ds) := id rfl
def strW : D → (List D → Prop) → Prop
  | .str z, P => P (signsD z)
  | _, _ => False
theorem r_pStr {p : PTE} {ρ : Env} {P : List D → Prop} : pStr p ρ P = (p ρ fun d => strW d P) := by
  unfold pStr
  congr 1 <;> (funext d; cases d <;> rfl)
theorem strW_str {z : Str} {P : List D → Prop} : strW (.str z) P = P (signsD z) := id rfl
def extW (i : Nat) (PD : PEnds) (ρ : Env) (c : Bool) (ds : List D) : D → Prop
  | .lst es => ds.length + es.length ≤ sizeLine ∧ PD.nx (ρ.set i (some (.ow c (.lst (ds ++ es)))))
  | _ => False
theorem r_qExt {i : Nat} {p : PTE} {PD : PEnds} {ρ : Env} : qExt i p PD ρ = atOwLD (fun c ds => p ρ fun d => extW i PD ρ c ds d) Tg.mk ρ[i]? := by
  show _ = atOwL _ _
  unfold qExt
  congr 1 <;> (funext c ds; congr 1 <;> (funext d; cases d <;> rfl))
theorem extW_lst {i : Nat} {PD : PEnds} {ρ : Env} {c : Bool} {ds es : List D} : extW i PD ρ c ds (.lst es) = (ds.length + es.length ≤ sizeLine ∧ PD.nx (ρ.set i (some (.ow c (.lst (ds ++ es)))))) := id rfl
/-! ### plain facts -/
theorem cutL_to {α : Type} (xs : List α) (k : Nat) : cutL xs none (some (k : Int)) = xs.take k := by
  unfold cutL
  rw [HT.sIx_none, HT.sIx_nat, List.drop_zero, Nat.sub_zero]
  by_cases h : k ≤ xs.length
  · rw [Nat.min_eq_left h]
  · rw [Nat.min_eq_right (by omega), List.take_of_length_le (by omega), List.take_of_length_le (by omega)]
theorem cutL_from {α : Type} (xs : List α) (k : Nat) : cutL xs (some (k : Int)) none = xs.drop k := by
  unfold cutL
  rw [HT.sIx_none, HT.sIx_nat]
  by_cases h : k ≤ xs.length
  · rw [Nat.min_eq_left h, List.take_of_length_le (by simp)]
  · rw [Nat.min_eq_right (by omega), List.drop_of_length_le (Nat.le_refl _), List.drop_of_length_le (by omega)]; simp
theorem decr {S : Prop} [Decidable S] {r : Bool} (h : r = true ↔ S) : decide S = r := by
  cases r <;> simp_all
open Classical in
/-- a comprehension of tests -/
theorem compI_bl {α : Type} {vs : List Nat} {g : PTG} {e : PTE} {ρ : Env} {P : DK} {ds : List D} (inj : α → D) (S : α → Prop) (xs : List α) (eq : ds = xs.map inj) (hl : xs.length ≤ sizeLine)
    (h : ∀ x, x ∈ xs → ∀ Q : DK, (∀ r : Bool, (r = true ↔ S x) → Q (.bl r)) → g (inj x) (wipeE ρ vs) fun ρ' => e ρ' Q)
    (hP : ∀ bs : List Bool, bs.length = xs.length → (bs.all id = true ↔ ∀ x, x ∈ xs → S x) → (bs.any id = true ↔ ∃ x, x ∈ xs ∧ S x) → P (.lst (bs.map .bl))) : compI vs g pYes e ρ P ds := by
  refine compI_map inj (fun x => .bl (decide (S x))) xs eq hl (fun x hx Q q => h x hx Q fun r hr => by rw [← decr hr]; exact q) ?_
  have := hP (xs.map fun x => decide (S x)) (by simp) (by simp) (by simp)
  rw [List.map_map] at this
  exact this
theorem iff_f {S : Prop} (h : ¬ S) : (false = true ↔ S) := ⟨fun z => (by cases z), fun z => (h z).elim⟩
theorem iff_t {S : Prop} (h : S) : (true = true ↔ S) := ⟨fun _ => h, fun _ => rfl⟩
theorem ls {n m : Nat} (h : n ≤ m) (h2 : m ≤ 16777216 := by decide) : n ≤ sizeLine := by rw [sizeLine_eq]; omega
theorem lt_ls {n m : Nat} (h : n ≤ m) (h2 : m < 16777216 := by decide) : n < sizeLine := by rw [sizeLine_eq]; omega
section
variable {i : Int} {b : Bool} {t : Str} {ds : List D}
theorem toV_str : (D.str t).toV = .str t := id rfl
theorem toV_int : (D.int i).toV = .int i := id rfl
theorem toV_bl : (D.bl b).toV = .bl b := id rfl
theorem toV_non : D.non.toV = .non := id rfl
theorem flat_str : (D.str t).flat = true := id rfl
theorem flat_int : (D.int i).flat = true := id rfl
theorem flat_bl : (D.bl b).flat = true := id rfl
theorem flat_non : D.non.flat = true := id rfl
theorem ne_ff : (false != b) = b := by cases b <;> rfl
theorem ne_tt : (true != b) = !b := by cases b <;> rfl
end
theorem lz0 : (0 ≤ sizeLine) = True := eq_true (ls (Nat.le_refl _))
theorem lz1 : (1 ≤ sizeLine) = True := eq_true (ls (Nat.le_refl _))
theorem lz2 : (2 ≤ sizeLine) = True := eq_true (ls (Nat.le_refl _))
theorem lz3 : (3 ≤ sizeLine) = True := eq_true (ls (Nat.le_refl _))
theorem lz4 : (4 ≤ sizeLine) = True := eq_true (ls (Nat.le_refl _))
theorem lz5 : (5 ≤ sizeLine) = True := eq_true (ls (Nat.le_refl _))
theorem lz6 : (6 ≤ sizeLine) = True := eq_true (ls (Nat.le_refl _))
theorem lz7 : (7 ≤ sizeLine) = True := eq_true (ls (Nat.le_refl _))
theorem lz8 : (8 ≤ sizeLine) = True := eq_true (ls (Nat.le_refl _))
theorem lz9 : (9 ≤ sizeLine) = True := eq_true (ls (Nat.le_refl _))
theorem lz10 : (10 ≤ sizeLine) = True := eq_true (ls (Nat.le_refl _))
theorem lz11 : (11 ≤ sizeLine) = True := eq_true (ls (Nat.le_refl _))
theorem lz12 : (12 ≤ sizeLine) = True := eq_true (ls (Nat.le_refl _))
theorem lz13 : (13 ≤ sizeLine) = True := eq_true (ls (Nat.le_refl _))
theorem lz14 : (14 ≤ sizeLine) = True := eq_true (ls (Nat.le_refl _))
theorem lz15 : (15 ≤ sizeLine) = True := eq_true (ls (Nat.le_refl _))
theorem lz16 : (16 ≤ sizeLine) = True := eq_true (ls (Nat.le_refl _))
theorem lw0 : (0 < sizeLine) = True := eq_true (lt_ls (Nat.le_refl _))
theorem lw1 : (1 < sizeLine) = True := eq_true (lt_ls (Nat.le_refl _))
theorem lw2 : (2 < sizeLine) = True := eq_true (lt_ls (Nat.le_refl _))
theorem lw3 : (3 < sizeLine) = True := eq_true (lt_ls (Nat.le_refl _))
theorem lw4 : (4 < sizeLine) = True := eq_true (lt_ls (Nat.le_refl _))
theorem lw5 : (5 < sizeLine) = True := eq_true (lt_ls (Nat.le_refl _))
theorem lw6 : (6 < sizeLine) = True := eq_true (lt_ls (Nat.le_refl _))
theorem lw7 : (7 < sizeLine) = True := eq_true (lt_ls (Nat.le_refl _))
theorem lw8 : (8 < sizeLine) = True := eq_true (lt_ls (Nat.le_refl _))
theorem lw9 : (9 < sizeLine) = True := eq_true (lt_ls (Nat.le_refl _))
theorem lw10 : (10 < sizeLine) = True := eq_true (lt_ls (Nat.le_refl _))
theorem lw11 : (11 < sizeLine) = True := eq_true (lt_ls (Nat.le_refl _))
theorem lw12 : (12 < sizeLine) = True := eq_true (lt_ls (Nat.le_refl _))
theorem lw13 : (13 < sizeLine) = True := eq_true (lt_ls (Nat.le_refl _))
theorem lw14 : (14 < sizeLine) = True := eq_true (lt_ls (Nat.le_refl _))
theorem lw15 : (15 < sizeLine) = True := eq_true (lt_ls (Nat.le_refl _))
theorem lw16 : (16 < sizeLine) = True := eq_true (lt_ls (Nat.le_refl _))
theorem lsz {n : Nat} (h : n ≤ 16777216) : n ≤ sizeLine := by rw [sizeLine_eq]; exact h
theorem lszl {n : Nat} (h : n < 16777216) : n < sizeLine := by rw [sizeLine_eq]; exact h
theorem r_listW {d : D} {P : DK} : listW d P = isSomeD (fun ds => P (.lst ds)) Tg.mk (asList d) := id rfl
theorem r_tupleW {d : D} {P : DK} : tupleW d P = (d.isK = false ∧ isSomeD (fun ds => P (.tup ds)) Tg.mk (asList d)) := id rfl
theorem r_popW {i : Nat} {k : D → Env → Prop} {ρ : Env} : popW i k ρ = atOwLD (fun c ds => isSomeD (fun d => k d (ρ.set i (some (.ow c (.lst ds.dropLast))))) Tg.mk ds.getLast?) Tg.mk ρ[i]? := id rfl
theorem r_sumG {ns : List Int} {P : DK} : sumG ns P = P (.int ns.sum) := id rfl
section
variable {α : Type} {xs : List α}
theorem cutT_0 : cutL xs none (some 0) = xs.take 0 := cutL_to xs 0
theorem cutF_0 : cutL xs (some 0) none = xs.drop 0 := cutL_from xs 0
theorem cutT_1 : cutL xs none (some 1) = xs.take 1 := cutL_to xs 1
theorem cutF_1 : cutL xs (some 1) none = xs.drop 1 := cutL_from xs 1
theorem cutT_2 : cutL xs none (some 2) = xs.take 2 := cutL_to xs 2
theorem cutF_2 : cutL xs (some 2) none = xs.drop 2 := cutL_from xs 2
theorem cutT_3 : cutL xs none (some 3) = xs.take 3 := cutL_to xs 3
theorem cutF_3 : cutL xs (some 3) none = xs.drop 3 := cutL_from xs 3
theorem cutT_4 : cutL xs none (some 4) = xs.take 4 := cutL_to xs 4
theorem cutF_4 : cutL xs (some 4) none = xs.drop 4 := cutL_from xs 4
theorem cutT_5 : cutL xs none (some 5) = xs.take 5 := cutL_to xs 5
theorem cutF_5 : cutL xs (some 5) none = xs.drop 5 := cutL_from xs 5
theorem cutT_6 : cutL xs none (some 6) = xs.take 6 := cutL_to xs 6
theorem cutF_6 : cutL xs (some 6) none = xs.drop 6 := cutL_from xs 6
theorem cutT_7 : cutL xs none (some 7) = xs.take 7 := cutL_to xs 7
theorem cutF_7 : cutL xs (some 7) none = xs.drop 7 := cutL_from xs 7
theorem cutT_8 : cutL xs none (some 8) = xs.take 8 := cutL_to xs 8
theorem cutF_8 : cutL xs (some 8) none = xs.drop 8 := cutL_from xs 8
theorem cutT_9 : cutL xs none (some 9) = xs.take 9 := cutL_to xs 9
theorem cutF_9 : cutL xs (some 9) none = xs.drop 9 := cutL_from xs 9
theorem cutT_10 : cutL xs none (some 10) = xs.take 10 := cutL_to xs 10
theorem cutF_10 : cutL xs (some 10) none = xs.drop 10 := cutL_from xs 10
theorem cutT_11 : cutL xs none (some 11) = xs.take 11 := cutL_to xs 11
theorem cutF_11 : cutL xs (some 11) none = xs.drop 11 := cutL_from xs 11
theorem cutT_12 : cutL xs none (some 12) = xs.take 12 := cutL_to xs 12
theorem cutF_12 : cutL xs (some 12) none = xs.drop 12 := cutL_from xs 12
theorem cutT_n {k : Nat} : cutL xs none (some (k : Int)) = xs.take k := cutL_to xs k
theorem cutF_n {k : Nat} : cutL xs (some (k : Int)) none = xs.drop k := cutL_from xs k
theorem cut_nn : cutL xs none none = xs := cut_all xs none none ⟨rfl, rfl⟩
theorem cutT_m1 : cutL xs none (some (-1)) = xs.dropLast := by
  unfold cutL
  have : HT.sIx xs.length xs.length (some (-1)) = xs.length - 1 := by
    show (if (-1 : Int) < 0 then ((-1 : Int) + (xs.length : Int)).toNat else min (-1 : Int).toNat xs.length) = _
    rw [if_pos (by decide)]
    omega
  rw [this, HT.sIx_none, List.drop_zero, List.dropLast_eq_take]
  rfl
end
/-! ### o.m(..) -/
section
variable {X : Cx} {pos apos : Pos} {o e : Expr} {es : List Expr} {m : Str} {C f : Addr} {k : Nat} {fd : FuncData} {ps : List Str} {c : Pr} {t : PTA} {po : PTE} {pl : Sem Bool}
theorem e_mth (ho : pe X o po) (cl : Cls X.K C) (hm : Meth X.K C m f) (G : FnOk X.prog X.w X.K X.mg X.base CX0 k f fd ps (spOf X.K c)) (hr : Room k X.A) (hb : Binds X.K fd ps []) (ha : pa X (e :: es) t)
    (hst : starEach (e :: es) X.env = (false, eval e X.env) :: starEach es X.env := by rfl) (hpl : (backTo pos (starEach es X.env)).any (·.1) = false := by rfl)
    (ht : eval (.Call (.Attribute o m apos) (e :: es) [] pos) X.env = (do
      let ov ← eval o X.env
      standAt apos.atName
      let (f, first) ← holding [ov] (getMethod ov m pl)
      callWith pos f first (backTo pos (starEach (e :: es) X.env)) (backToKw pos (keywordEach [] X.env))) := by rfl) :
    pe X (.Call (.Attribute o m apos) (e :: es) [] pos) (pMeth C m c [] po t) :=
  PE_weak (pe_meth ho cl hm G hr hb Paired.nil pass0 ha hst hpl ht) fun σ H Q h => meth_ok σ H Q (fun _ => Reps.nil) h
theorem e_mth0 (ho : pe X o po) (cl : Cls X.K C) (hm : Meth X.K C m f) (G : FnOk X.prog X.w X.K X.mg X.base CX0 k f fd ps (spOf X.K c)) (hr : Room k X.A) (hb : Binds X.K fd ps [])
    (ht : eval (.Call (.Attribute o m apos) [] [] pos) X.env = (do
      let ov ← eval o X.env
      standAt apos.atName
      let (f, first) ← holding [ov] (getMethod ov m pl)
      callWith pos f first (backTo pos (starEach [] X.env)) (backToKw pos (keywordEach [] X.env))) := by rfl) :
    pe X (.Call (.Attribute o m apos) [] [] pos) (pMeth C m c [] po pNil) :=
  PE_weak (pe_meth0 ho cl hm G hr hb Paired.nil pass0 ht) fun σ H Q ⟨N, F, ρ, P, s, q, k⟩ => ⟨N, F, ρ, _, s, q, fun d v F1 H1 p1 x1 r1 => by
    obtain ⟨C', ns, fs, rfl, rfl, hm, p1⟩ := isIns_inv p1
    have r1' := r1
    simp only [Rep] at r1
    obtain ⟨a, dx, vs, rfl, h1, h2, h3⟩ := r1
    exact ⟨a, dx, _, rfl, x1.fits.fz _ _ h1, lookup_zip hm, F1, _, P, x1.fits, Reps.one r1', p1, fun d v F' H' a b c => k d v F' H' a (x1.then0 b) c⟩⟩
end
/-! ### t1 = t2 = e; constants of the module -/
def qAsg2 (p : PTE) (g1 g2 : PTG) : PTS := fun PD ρ => p ρ fun d => g1 d ρ fun ρ1 => g2 d ρ1 PD.nx
def qAsg3 (p : PTE) (g1 g2 g3 : PTG) : PTS := fun PD ρ => p ρ fun d => g1 d ρ fun ρ1 => g2 d ρ1 fun ρ2 => g3 d ρ2 PD.nx
section
variable {X : Cx} {pos : Pos} {e t1 t2 t3 : Expr} {is1 is2 is3 : List Nat} {p : PTE} {g1 g2 g3 : PTG}
theorem s_asg2 (he : pe X e p) (h1 : pg X t1 is1 g1) (h2 : pg X t2 is2 g2) (ha : (assignEach [t1, t2] X.env).map (·.2) = [assign t1 X.env, assign t2 X.env] := by rfl) (hw : swappedStores [t1, t2] e X.env = pure none := by rfl) : ps X (.Assign [t1, t2] e pos) (qAsg2 p g1 g2) :=
  PS_weak (ps_asg2 he h1.h h2.h ha hw) fun E σ H ⟨B, F, ρ, PD, s, q, e⟩ => ⟨B.N, F, ρ, _, s.st, q, fun d v F1 H1 p1 x1 r1 => ⟨B.N, F1, ρ, d, _, (s.go x1).st, r1, p1, fun ρ1 σ1 s1 q1 _ => ⟨B.N, F1, ρ1, d, _, s1, r1, q1, fun ρ2 σ2 s2 q2 _ => e.nx F1 ρ2 σ2 H1 ⟨(s.go x1).ext, s2⟩ (x1.le s.ext.fits) q2⟩⟩⟩
theorem s_asg3 (he : pe X e p) (h1 : pg X t1 is1 g1) (h2 : pg X t2 is2 g2) (h3 : pg X t3 is3 g3) (ha : (assignEach [t1, t2, t3] X.env).map (·.2) = [assign t1 X.env, assign t2 X.env, assign t3 X.env] := by rfl) (hw : swappedStores [t1, t2, t3] e X.env = pure none := by rfl) : ps X (.Assign [t1, t2, t3] e pos) (qAsg3 p g1 g2 g3) :=
  PS_weak (ps_asg3 he h1.h h2.h h3.h ha hw) fun E σ H ⟨B, F, ρ, PD, s, q, e⟩ => ⟨B.N, F, ρ, _, s.st, q, fun d v F1 H1 p1 x1 r1 => ⟨B.N, F1, ρ, d, _, (s.go x1).st, r1, p1, fun ρ1 σ1 s1 q1 _ => ⟨B.N, F1, ρ1, d, _, s1, r1, q1, fun ρ2 σ2 s2 q2 _ => ⟨B.N, F1, ρ2, d, _, s2, r1, q2, fun ρ3 σ3 s3 q3 _ => e.nx F1 ρ3 σ3 H1 ⟨(s.go x1).ext, s3⟩ (x1.le s.ext.fits) q3⟩⟩⟩⟩
end
theorem k_tup {K : Fg} {a : Addr} {od : Option Addr} {its : Array Value} {n : Nat} {sl : Array (Option Value)} {vs : List V} {ds : List D} (h : K.lookup a = some ⟨.type "tuple", od, .seq its n, sl⟩) (hz : its.size ≤ sizeLine) (hv : Vals vs its.toList) (r : ∀ F, Reps K F ds vs) : ∀ F, Rep K F (.ktup ds) (.ref a) := fun F =>
  rep_tup' (.inr ⟨_, its, n, h, rfl, rfl, hz, hv⟩) (r F)
/-! ### a < b < c < d -/
def tChain3 (r r' r2 : R2) (ta tb tc td : TE) : TE := fun σ H Q => ta σ H fun x H1 => tb σ H1 fun y H2 => r x y H2 fun z H3 => ∃ k, z = .bl k ∧
  (if k = true then tc σ H3 fun w H4 => r' y w H4 fun z2 H5 => ∃ k2, z2 = .bl k2 ∧ (if k2 = true then td σ H5 fun w2 H6 => r2 w w2 H6 Q else Q (.bl false) H5) else Q (.bl false) H3)
def pChain3 (w w' w2 : D → D → DK → Prop) (pa pb pc pd : PTE) : PTE := fun ρ P => pa ρ fun d => pb ρ fun e => w d e (isBl fun k => if k = true then pc ρ fun g => w' e g (isBl fun k2 => if k2 = true then pd ρ fun h => w2 g h P else P (.bl false)) else P (.bl false))
section
variable {X : Cx} {pos : Pos} {a b c d : Expr} {pa pb pc pd : PTE} {op op' op2 : CmpOp} {w w' w2 : D → D → DK → Prop} {ta tb tc td : TE} {r r' r2 : R2}
open PyProof.Rows in
theorem pe_ch3 (ho : OpR X (compareOp op) r) (ho' : OpR X (compareOp op') r') (ho2 : OpR X (compareOp op2) r2) (ha : PE X a ta) (hb : PE X b tb) (hc : PE X c tc) (hd : PE X d td)
    (hm : lastMarks [op, op', op2] [b, c, d] = false) : PE X (.Compare a [op, op', op2] [b, c, d] pos) (tChain3 r r' r2 ta tb tc td) := by
  refine ⟨fun pins s σ H Q I h => ?_⟩
  refine Compare_chain (thn (ha.run pins s σ H _ I h) fun v s1 ⟨x, H1, I1, r1, q1⟩ => chain_link (thn (hb.run pins s1 σ H1 _ I1 q1) fun u s2 ⟨y, H2, I2, ry, q2⟩ =>
    thn (ho pins s2 σ H2 x y v u _ I2 r1 ry q2) fun d s3 ⟨z, H3, I3, r3, k, e, q3⟩ => ?_)) hm
  subst e
  cases r3
  refine wpAny_truthy_bool ?_
  cases k with
  | false => exact ite_ff ⟨.bl false, H3, I3, rfl, q3⟩
  | true =>
    refine ite_tt (chain_link (thn (hc.run pins s3 σ H3 _ I3 q3) fun g s4 ⟨z4, H4, I4, r4, q4⟩ => thn (ho' pins s4 σ H4 y z4 u g _ I4 ry r4 q4) fun d5 s5 ⟨z5, H5, I5, r5, k2, e5, q5⟩ => ?_))
    subst e5
    cases r5
    refine wpAny_truthy_bool ?_
    cases k2 with
    | false => exact ite_ff ⟨.bl false, H5, I5, rfl, q5⟩
    | true => exact ite_tt (chain_last (thn (hd.run pins s5 σ H5 _ I5 q5) fun w6 s6 ⟨z6, H6, I6, r6, q6⟩ => ho2 pins s6 σ H6 z4 z6 g w6 Q I6 r4 r6 q6))
open PyProof.Rows in
theorem pt_ch3 (ho : OpR X (compareOp op) r) (ho' : OpR X (compareOp op') r') (ho2 : OpR X (compareOp op2) r2) (ha : PE X a ta) (hb : PE X b tb) (hc : PE X c tc) (hd : PE X d td)
    (hm : lastMarks [op, op', op2] [b, c, d] = false) : PT X (.Compare a [op, op', op2] [b, c, d] pos) (tTest (tChain3 r r' r2 ta tb tc td)) := by
  refine ⟨fun pins s σ H Q I h => ?_⟩
  refine isTrue_chain (thn (ha.run pins s σ H _ I h) fun v s1 ⟨x, H1, I1, r1, q1⟩ => test_link (thn (hb.run pins s1 σ H1 _ I1 q1) fun u s2 ⟨y, H2, I2, ry, q2⟩ =>
    thn (ho pins s2 σ H2 x y v u _ I2 r1 ry q2) fun d s3 ⟨z, H3, I3, r3, k, e, q3⟩ => ?_)) hm
  subst e
  cases r3
  refine wpAny_truthy_bool ?_
  cases k with
  | false =>
    obtain ⟨k', e', q'⟩ := q3
    cases e'
    exact ite_ff ⟨H3, I3, q'⟩
  | true =>
    refine ite_tt (test_link (thn (hc.run pins s3 σ H3 _ I3 q3) fun g s4 ⟨z4, H4, I4, r4, q4⟩ => thn (ho' pins s4 σ H4 y z4 u g _ I4 ry r4 q4) fun d5 s5 ⟨z5, H5, I5, r5, k2, e5, q5⟩ => ?_))
    subst e5
    cases r5
    refine wpAny_truthy_bool ?_
    cases k2 with
    | false =>
      obtain ⟨k', e', q'⟩ := q5
      cases e'
      exact ite_ff ⟨H5, I5, q'⟩
    | true =>
      refine ite_tt (test_last (thn (hd.run pins s5 σ H5 _ I5 q5) fun w6 s6 ⟨z6, H6, I6, r6, q6⟩ => thn (ho2 pins s6 σ H6 z4 z6 g w6 _ I6 r4 r6 q6) fun d' s7 ⟨z7, H7, I7, r7, k7, e7, q7⟩ => ?_))
      subst e7
      cases r7
      exact wpAny_truthy_bool ⟨H7, I7, q7⟩
def rOk (X : Cx) (w : D → D → DK → Prop) (r : R2) : Prop := ∀ d e x y F H P Q, Fits F H → RepT X.K F H d x → RepT X.K F H e y → w d e P → Kont X.K F H P Q → r x y H Q
theorem ch3_ok (hr : rOk X w r) (hr' : rOk X w' r') (hr2 : rOk X w2 r2) :
    ∀ σ H Q, L X.K (pChain3 w w' w2 pa pb pc pd) σ H Q → tChain3 r r' r2 (Lr X.K pa) (Lr X.K pb) (Lr X.K pc) (Lr X.K pd) σ H Q := fun σ H Q ⟨N, F, ρ, P, s, p, k⟩ =>
  ⟨N, F, ρ, _, s, p, fun d v F1 H1 p1 x1 r1 => ⟨N, F1, ρ, _, s.ext x1, p1, fun e u F2 H2 p2 x2 q2 => by
    refine hr d e v u F2 H2 _ _ x2.fits (r1.ext x2 x1.fits) q2 p2 fun d' v' F3 H3 p3 x3 r3 => ?_
    obtain ⟨b, rfl, p3⟩ := isBl_inv p3
    simp only [Rep] at r3
    refine ⟨b, r3, ?_⟩
    cases b with
    | false => exact k _ _ _ _ p3 ((x1.then0 x2).then0 x3) rep_bl
    | true =>
      refine ⟨N, F3, ρ, _, (s.ext x1).ext (x2.then0 x3), p3, fun g w F4 H4 p4 x4 r4 => ?_⟩
      refine hr' e g u w F4 H4 _ _ x4.fits (q2.ext (x3.then0 x4) x2.fits) r4 p4 fun d5 v5 F5 H5 p5 x5 r5 => ?_
      obtain ⟨b5, rfl, p5⟩ := isBl_inv p5
      simp only [Rep] at r5
      refine ⟨b5, r5, ?_⟩
      have y := ((x1.then0 x2).then0 x3).then0 (x4.then0 x5)
      cases b5 with
      | false => exact k _ _ _ _ p5 y rep_bl
      | true => exact ⟨N, F5, ρ, _, s.ext y, p5, fun h w6 F6 H6 p6 x6 r6 => hr2 g h w w6 F6 H6 P Q x6.fits (r4.ext (x5.then0 x6) x4.fits) r6 p6 fun d' v' F' H' a b c => k d' v' F' H' a (y.then0 (x6.then0 b)) c⟩⟩⟩
theorem e_chain3 (ho : opS X (compareOp op) w) (ho' : opS X (compareOp op') w') (ho2 : opS X (compareOp op2) w2) (ha : pr X a pa) (hb : pr X b pb) (hc : pr X c pc) (hd : pr X d pd) (hm : lastMarks [op, op', op2] [b, c, d] = false := by with_unfolding_all rfl) :
    pe X (.Compare a [op, op', op2] [b, c, d] pos) (pChain3 w w' w2 pa pb pc pd) := by
  obtain ⟨r, h, hr⟩ := ho
  obtain ⟨r', h', hr'⟩ := ho'
  obtain ⟨r2, h2, hr2⟩ := ho2
  exact PE_weak (pe_ch3 h h' h2 ha hb hc hd hm) (ch3_ok hr hr' hr2)
theorem t_chain3 (ho : opS X (compareOp op) w) (ho' : opS X (compareOp op') w') (ho2 : opS X (compareOp op2) w2) (ha : pr X a pa) (hb : pr X b pb) (hc : pr X c pc) (hd : pr X d pd) (hm : lastMarks [op, op', op2] [b, c, d] = false := by with_unfolding_all rfl) :
    pt X (.Compare a [op, op', op2] [b, c, d] pos) (tst (pChain3 w w' w2 pa pb pc pd)) := by
  obtain ⟨r, h, hr⟩ := ho
  obtain ⟨r', h', hr'⟩ := ho'
  obtain ⟨r2, h2, hr2⟩ := ho2
  refine PT_weak (pt_ch3 h h' h2 ha hb hc hd hm) fun σ H Q ⟨N, F, ρ, P, s, q, k⟩ => ?_
  refine ch3_ok hr hr' hr2 σ H _ ⟨N, F, ρ, _, s, q, fun d v F' H' p x r => ?_⟩
  obtain ⟨b, rfl, z⟩ := isBl_inv p
  simp only [Rep] at r
  subst r
  exact ⟨b, rfl, k _ _ _ z x⟩
end
/-! ### a comprehension within a comprehension -/
def rel0 (sc sc0 : Scope) : Scope := relabel sc { (default : PySem.Env) with scope := sc0 }
theorem rel0_eq (sc : Scope) (env : PySem.Env) : relabel sc env = rel0 sc env.scope := rfl
theorem blkOk_rel {N : List Str} {sc0 sco scope : Scope} {own : List (Str × Nat)} {env : PySem.Env} (he : env.scope = sc0) (h : blkC N (rel0 sco sc0) scope own = true) : BlkOk N (relabel sco env) scope own := by
  rw [rel0_eq, he]
  exact blkOk_by h
theorem beq_tt (b : Bool) : (b == true) = b := by cases b <;> rfl
theorem beq_ff (b : Bool) : (b == false) = !b := by cases b <;> rfl
end Pu
namespace Pu
open PySem PySem.Spec L2 PyProof.Rows
/-! ### enumerate over a tuple, from a number on -/
def StG (b : Bool) (it a : Addr) (its : List Value) (i : Nat) (h : Heap) : Prop := if b = true then h.IsTupleIter it a i ∧ h.IsTuple a its.toArray else h.IsListIter it a i ∧ h.IsList a its.toArray
def ItG (b : Bool) (it a : Addr) (i : Nat) (h : Heap) : Prop := if b = true then h.IsTupleIter it a i else h.IsListIter it a i
def SqG (b : Bool) (K : Fg) (H : Hp) (a : Addr) (xs : List V) : Prop := if b = true then SqT K H a xs else SqL K H a xs
theorem StG.it {b : Bool} {it a : Addr} {its : List Value} {i : Nat} {h : Heap} (q : StG b it a its i h) : ItG b it a i h := by
  cases b <;> exact q.1
theorem ItG.keep {b : Bool} {it a : Addr} {i : Nat} {h h' : Heap} (q : ItG b it a i h) (k : ∀ o, h.get? it = some o → h'.get? it = some o) : ItG b it a i h' := by
  cases b with
  | true => exact (show h.IsTupleIter it a i from q).at k
  | false => exact (show h.IsListIter it a i from q).at k
theorem ItG.obj {b : Bool} {it a : Addr} {i : Nat} {h : Heap} (q : ItG b it a i h) : ∃ o, h.get? it = some o ∧ ∀ v, o.data ≠ .cell v := by
  cases b with
  | true => obtain ⟨o, ho, hc, hd⟩ := (show h.IsTupleIter it a i from q); exact ⟨o, ho, fun v q => by rw [hd] at q; cases q⟩
  | false => obtain ⟨o, ho, hc, hd⟩ := (show h.IsListIter it a i from q); exact ⟨o, ho, fun v q => by rw [hd] at q; cases q⟩
theorem drawsG {X : Cx} {pins : List (Addr × Obj)} {σ : L2.St} {H : Hp} {s : Shared} {b : Bool} {it a : Addr} {i : Nat} {xs : List V} (hc : X.calm = true) (I : Inv X pins σ H s) (hq : SqG b X.K H a xs) (hit : ItG b it a i s.heap) :
    ∃ its : List Value, Vals xs its ∧ Draws X.prog X.w X.A.in1 it [it, a] its.toArray.size (fun i v => its.toArray[i]? = some v) (StG b it a its) ∧ StG b it a its i s.heap ∧ (∀ ys, SqG b X.K H a ys → ys = xs) ∧ ∀ e it', IsEnum s.heap e it' (i : Nat) .none ∨ (∃ k old, IsEnum s.heap e it' k old) → e ≠ a := by
  have hh : X.A.in1.handled = none := I.ok.hd hc
  cases b with
  | true =>
    have hq : SqT X.K H a xs := hq
    have hit : s.heap.IsTupleIter it a i := hit
    obtain ⟨its, rv, p, hz⟩ := I.tuple hq
    have p' : s.heap.IsTuple a its.toArray := p
    refine ⟨its, rv, Draws.tuple hh it a (fun z => ?_) its.toArray, ⟨hit, p'⟩, fun ys hy => I.tuple_inj hy hq, fun e it' h z => ?_⟩
    · subst z
      obtain ⟨o, h1, h2, _⟩ := hit
      obtain ⟨o', h3, h4, _⟩ := p'
      rw [h1] at h3; cases h3
      rw [h2] at h4; simp at h4
    · subst z
      obtain ⟨o', h3, h4, _⟩ := p'
      rcases h with h | ⟨_, _, h⟩ <;> (have h : s.heap.get? e = _ := h; rw [h] at h3; cases h3; simp at h4)
  | false =>
    have hq : SqL X.K H a xs := hq
    have hit : s.heap.IsListIter it a i := hit
    obtain ⟨its, rv, p, hz⟩ := I.list hq
    have p' := p.isList
    refine ⟨its, rv, Draws.list hh it a (fun z => ?_) its.toArray, ⟨hit, p'⟩, fun ys hy => I.list_inj hy hq, fun e it' h z => ?_⟩
    · subst z
      obtain ⟨o, h1, h2, _⟩ := hit
      obtain ⟨o', h3, h4, _⟩ := p'
      rw [h1] at h3; cases h3
      rw [h2] at h4; simp at h4
    · subst z
      obtain ⟨o', h3, h4, _⟩ := p'
      rcases h with h | ⟨_, _, h⟩ <;> (have h : s.heap.get? e = _ := h; rw [h] at h3; cases h3; simp at h4)
/-- the tuple (b) or list at a, each item in a new pair, counted from k -/
def Iteg (b : Bool) (k : Int) (K : Fg) (a : Addr) : It :=
  ⟨fun i H => ∃ (xs : List V) (x : V), SqG b K H a xs ∧ xs[i]? = some x, fun i H v H' => ∃ T x, v = .ref T ∧ H T = none ∧ H' = upd H T (.tup [.int (k + (i : Nat)), x]) ∧ ∀ xs, SqG b K H a xs → xs[i]? = some x, fun i H => ∃ xs : List V, SqG b K H a xs ∧ xs.length = i⟩
theorem turn_enumg {P : Program} {w : World} {K : Fg} {elts : List Expr} {kk : Nat} {tpos : Pos} (b : Bool) (k : Int) (a e it : Addr) :
    Turn P w K (.Tuple elts kk tpos) (Iteg b k K a) [e, it] e (fun i h => (∃ old, IsEnum h e it (k + (i : Nat)) old) ∧ ItG b it a i h ∧ e ≠ it) where
  mem := by simp
  obj := fun i h st c hc => by
    obtain ⟨⟨old, he⟩, hit, _⟩ := st
    have e' : c = e ∨ c = it := by simpa using hc
    rcases e' with z | z
    · rw [z]; exact ⟨_, he, fun v q => nomatch q⟩
    · rw [z]; exact hit.obj
  keep := fun i h h' st hk => by
    obtain ⟨⟨old, he⟩, hi, hne⟩ := st
    exact ⟨⟨old, hk e (by simp) _ he⟩, hi.keep fun o q => hk it (by simp) o q, hne⟩
  item := by
    intro X hP hw hK hc i pins s σ H E I hf st hg
    subst hP hw hK
    obtain ⟨⟨old, he⟩, hit, hne⟩ := st
    obtain ⟨xs, x, hq, hx⟩ := hg
    obtain ⟨its, rv, D, hst, hinj, hea⟩ := drawsG hc I hq hit
    obtain ⟨u, hu, ru⟩ := rv.get hx
    have hel : e < s.heap.objs.size := Heap.lt_size he
    have hil : it < s.heap.objs.size := by obtain ⟨_, q, _⟩ := hit.obj; exact Heap.lt_size q
    have hef : e ∉ [it, a] := fun z => by
      have e' : e = it ∨ e = a := by simpa using z
      rcases e' with z | z
      · exact hne z
      · exact hea e it (.inr ⟨_, _, he⟩) z
    have hlt : i < its.toArray.size := by simpa using (List.getElem?_eq_some_iff.mp hu).1
    refine wpAny_pyNext_enum_itemC D he hst hlt hne hef fun x' h' tk hx' ho hs' hT hsz' hk => ?_
    have hxu : x' = u := by
      rw [List.getElem?_toArray, hu] at hx'
      exact (Option.some.inj hx').symm
    subst hxu
    refine ⟨_, rfl, wpAny_letOwnedTupleGo_enum (s := { s with heap := h', toks := tk + 1 }) ho fun h'' he' sb => ?_⟩
    have hT2 : h''.get? s.heap.objs.size = some { cls := .type "tuple", data := .seq #[.int (k + (i : Nat)) tk, x'] } := (sb.2 _ (Nat.ne_of_gt hel)).trans hT
    have new : ObjOk X.prog X.w (upd H s.heap.objs.size (.tup [.int (k + (i : Nat)), x])) h'' s.heap.objs.size (.tup [.int (k + (i : Nat)), x]) :=
      ⟨by show 2 ≤ sizeLine; decide, [.int (k + (i : Nat)) tk, x'], .cons ⟨_, rfl⟩ (.cons ru .nil), ⟨_, hT2, rfl, _, rfl⟩⟩
    have I1 : Inv X pins σ (upd H s.heap.objs.size (.tup [.int (k + (i : Nat)), x])) { s with heap := h'', toks := tk + 1 } :=
      I.turnedNew (ch := [e, it]) (fun b ob hb q => (sb.2 b (fun z => hb (by simp [z]))).trans (hk b ob (fun z => hb (by simp [z])) (fun z => hb (by simp [z])) q)) hf (Nat.le_refl _) new
    refine ⟨.ref s.heap.objs.size, _, I1, rfl, ⟨_, x, rfl, I.hok.fresh (Nat.le_refl _), rfl, fun ys hy => by rw [hinj ys hy]; exact hx⟩, ⟨⟨x', ?_⟩, hs'.it.keep fun o q => (sb.2 it (Ne.symm hne)).trans q, hne⟩, fun b hb => ?_⟩
    · have e1 : k + ((i + 1 : Nat) : Int) = k + (i : Nat) + 1 := by omega
      rw [e1]; exact he'
    · have hb' : b < s.heap.objs.size := by
        have e' : b = e ∨ b = it := by simpa using hb
        rcases e' with z | z
        · rw [z]; exact hel
        · rw [z]; exact hil
      rw [upd_ne (Nat.ne_of_lt hb')]
      exact (hf b hb).1
  done := by
    intro X hP hw hK hc i pins s σ H E I hf st hg
    subst hP hw hK
    obtain ⟨⟨old, he⟩, hit, hne⟩ := st
    obtain ⟨xs, hq, hx⟩ := hg
    obtain ⟨its, rv, D, hst, hinj, hea⟩ := drawsG hc I hq hit
    obtain ⟨f0, f1, f2, f3, f4, f5⟩ := hf it (by simp)
    have hl := rv.length
    have hi : i = its.toArray.size := by simp; omega
    subst hi
    exact wpAny_pyNext_enum_endD D he hst fun h' eb => ⟨rfl, I.turned (t' := s.toks) (fun b o hb q => eb b o hb q) f0 f1 f3 f4 f5⟩
  self := fun A i s Q E st h => let ⟨⟨_, he⟩, _⟩ := st; wpAny_pyIter_enum he h
theorem walk_enumg {K : Fg} {b : Bool} {k : Int} {a : Addr} {xs : List V} : Walk (Iteg b k K a) xs.length (fun H => SqG b K H a xs) (YPair (fun i => some (.int (k + (i : Nat)))) (fun i => xs[i]?)) := by
  refine ⟨fun i _ hi q => ⟨xs, xs[i], q, by simp [hi]⟩, fun _ q => ⟨xs, q, rfl⟩, fun i H v H' _ q y => ?_⟩
  obtain ⟨T, x, h1, h2, h3, h4⟩ := y
  exact ⟨T, .int (k + (i : Nat)), x, h1, h2, h3, rfl, h4 xs q⟩
set_option maxHeartbeats 1000000 in
theorem meets_enumerate_new1 {v : Value} {o : Obj} {H : Heap → Prop} (B : Begins v o H) :
    Meets (Builtin.«enumerate.__new__» ⟨[.type "enumerate", v], []⟩) (fun _ R s => H s.heap ∧
      R (.ok (.ret (.ref (s.heap.push o).objs.size))) { s with heap := (s.heap.push o).push { cls := .type "enumerate", data := .fields #[.none, .bool false, .ref s.heap.objs.size, rawInt 0, .none, .none] } }) :=
  .of_wp fun prog w A R s h => by
    obtain ⟨hp, g, d, tk, os⟩ := s; obtain ⟨h1, h⟩ := h
    have hsub := sub_enumerate
    have q1 : ∀ {A' : Around} {E : Value → Shared → Prop} {Q : Value → Shared → Prop}, Q (.ref hp.objs.size) ⟨hp.push o, g, d, tk, os⟩ → wpAny (model prog w) A' (pyIter v) Q E ⟨hp, g, d, tk, os⟩ :=
      fun q => B.iter prog w _ _ ⟨hp, g, d, tk, os⟩ _ h1 q
    wp_walk using q1
    refine wpAny_stack_any fun st => wpAny_pure ?_
    split
    · rename_i c _ _ _ _ _
      cases (c == Value.type "enumerate")
      · wp_walk using q1
        exact ⟨_, rfl, h⟩
      · wp_walk using q1
        exact ⟨_, rfl, h⟩
    · wp_walk using q1
      exact ⟨_, rfl, h⟩
theorem enum_begins1 {prog : Program} {w : World} {A : Around} {E : Value → Shared → Prop} {s : Shared} {v : Value} {o : Obj} {H : Heap → Prop} {Q : Value → Shared → Prop} (B : Begins v o H) (h1 : H s.heap)
    (h : ∀ h', IsEnum h' (s.heap.objs.size + 1) s.heap.objs.size 0 .none → h'.get? s.heap.objs.size = some o → h'.objs.size = s.heap.objs.size + 2 →
      (∀ b o, s.heap.get? b = some o → h'.get? b = some o) → Q (.ref (s.heap.objs.size + 1)) { s with heap := h' }) :
    wpAny (model prog w) A (call (.type "enumerate") [v]) Q E s := by
  refine callType_new F.called_enumerate (by decide) (F.typeCall_enumerate_1 _) (F.newCall_enumerate_1 _) (fun obj => F.args_object_init_2 obj _) F.entry_enumerate_new
    (meets_enumerate_new1 B) ⟨h1, ?_⟩
  have hz : (s.heap.push o).objs.size = s.heap.objs.size + 1 := Heap.size_push ..
  show _ ∧ _
  rw [hz]
  have he : IsEnum ((s.heap.push o).push { cls := .type "enumerate", data := .fields #[.none, .bool false, .ref s.heap.objs.size, rawInt 0, .none, .none] }) (s.heap.objs.size + 1) s.heap.objs.size 0 .none := by
    have := Heap.get?_push_size (s.heap.push o) (o := { cls := .type "enumerate", data := .fields #[.none, .bool false, .ref s.heap.objs.size, rawInt 0, .none, .none] }) rfl
    rw [hz] at this; exact this
  refine ⟨⟨_, he, rfl⟩, h _ he (Heap.get?_push_of_some _ (Heap.get?_push_size _ B.free)) (by rw [Heap.size_push, hz]) fun b o x => Heap.get?_push_of_some _ (Heap.get?_push_of_some _ x)⟩
def iEnumG (k : Int) (K : Fg) (te : TE) : TI := fun σ H R => te σ H fun v H1 => ∃ a b xs, v = .ref a ∧ SqG b K H1 a xs ∧ R (Iteg b k K a) H1
theorem enumG_fin {X : Cx} {pins : List (Addr × Obj)} {σ : L2.St} {H : Hp} {s : Shared} {b : Bool} {k : Int} {a : Addr} {elts : List Expr} {kk : Nat} {tpos : Pos} {R : It → Hp → Prop} (I1 : Inv X pins σ H s) (q : R (Iteg b k X.K a) H) :
    ∀ (o : Obj) (h' : Heap), IsEnum h' (s.heap.objs.size + 1) s.heap.objs.size k .none → h'.get? s.heap.objs.size = some o → (∀ hh : h'.get? s.heap.objs.size = some o, ItG b s.heap.objs.size a 0 h') → h'.objs.size = s.heap.objs.size + 2 →
      (∀ b o, s.heap.get? b = some o → h'.get? b = some o) → wpAny (model X.prog X.w) X.A (pyIter (.ref (s.heap.objs.size + 1))) (PIE X pins σ (.Tuple elts kk tpos) R) X.xe { s with heap := h' } := fun o h' he ho hi hz hk => by
  refine wpAny_pyIter_enum he ?_
  have I2 : Inv X pins σ H { s with heap := h' } := I1.kept (t' := s.toks) hk
  refine ⟨s.heap.objs.size + 1, [s.heap.objs.size + 1, s.heap.objs.size], _, _, H, rfl, I2, turn_enumg b k a (s.heap.objs.size + 1) s.heap.objs.size, ⟨⟨.none, by simpa using he⟩, hi ho, Nat.succ_ne_self _⟩, fun b hb => ?_, q⟩
  have e' : b = s.heap.objs.size + 1 ∨ b = s.heap.objs.size := by simpa using hb
  have hle : s.heap.objs.size ≤ b := by
    rcases e' with z | z
    · rw [z]; exact Nat.le_add_right _ _
    · rw [z]; exact Nat.le_refl _
  exact I1.fpOk hle (I1.hok.fresh hle)
theorem enumG_start {X : Cx} {pins : List (Addr × Obj)} {σ : L2.St} {H : Hp} {s : Shared} {b : Bool} {k : Int} {a : Addr} {xs : List V} {elts : List Expr} {kk : Nat} {tpos : Pos} {R : It → Hp → Prop} {t : Tok} (I1 : Inv X pins σ H s) (hq : SqG b X.K H a xs) (hk0 : -(2 ^ 63) ≤ k) (hk1 : k < 2 ^ 63) (q : R (Iteg b k X.K a) H) :
    wpAny (model X.prog X.w) X.A (call (.type "enumerate") [.ref a, .int k t]) (fun v s1 => wpAny (model X.prog X.w) X.A (pyIter v) (PIE X pins σ (.Tuple elts kk tpos) R) X.xe s1) X.xe s := by
  cases b with
  | true =>
    obtain ⟨its, rv, p, hz⟩ := I1.tuple (show SqT X.K H a xs from hq)
    exact enum_begins (begins_tuple a its.toArray) (show s.heap.IsTuple a its.toArray from p) hk0 hk1 fun h' he ho hz hk => enumG_fin I1 q _ h' he ho (fun hh => (⟨_, hh, rfl, rfl⟩ : h'.IsTupleIter s.heap.objs.size a 0)) hz hk
  | false =>
    obtain ⟨its, rv, p, hz⟩ := I1.list (show SqL X.K H a xs from hq)
    exact enum_begins (begins_list a its.toArray) p.isList hk0 hk1 fun h' he ho hz hk => enumG_fin I1 q _ h' he ho (fun hh => (⟨_, hh, rfl, rfl⟩ : h'.IsListIter s.heap.objs.size a 0)) hz hk
theorem enumG_one {X : Cx} {pins : List (Addr × Obj)} {σ : L2.St} {H : Hp} {s : Shared} {b : Bool} {a : Addr} {xs : List V} {elts : List Expr} {kk : Nat} {tpos : Pos} {R : It → Hp → Prop} (I1 : Inv X pins σ H s) (hq : SqG b X.K H a xs) (q : R (Iteg b 0 X.K a) H) :
    wpAny (model X.prog X.w) X.A (call (.type "enumerate") [.ref a]) (fun v s1 => wpAny (model X.prog X.w) X.A (pyIter v) (PIE X pins σ (.Tuple elts kk tpos) R) X.xe s1) X.xe s := by
  cases b with
  | true =>
    obtain ⟨its, rv, p, hz⟩ := I1.tuple (show SqT X.K H a xs from hq)
    exact enum_begins1 (begins_tuple a its.toArray) (show s.heap.IsTuple a its.toArray from p) fun h' he ho hz hk => enumG_fin I1 q _ h' he ho (fun hh => (⟨_, hh, rfl, rfl⟩ : h'.IsTupleIter s.heap.objs.size a 0)) hz hk
  | false =>
    obtain ⟨its, rv, p, hz⟩ := I1.list (show SqL X.K H a xs from hq)
    exact enum_begins1 (begins_list a its.toArray) p.isList fun h' he ho hz hk => enumG_fin I1 q _ h' he ho (fun hh => (⟨_, hh, rfl, rfl⟩ : h'.IsListIter s.heap.objs.size a 0)) hz hk
def iEnumL (K : Fg) (ta : TA) : TI := fun σ H R => ta σ H fun vs H1 => ∃ a b xs, vs = [.ref a] ∧ SqG b K H1 a xs ∧ R (Iteg b 0 K a) H1
def iEnumK (K : Fg) (ta : TA) : TI := fun σ H R => ta σ H fun vs H1 => ∃ a b xs k, vs = [.ref a, .int k] ∧ SqG b K H1 a xs ∧ -(2 ^ 63) ≤ k ∧ k < 2 ^ 63 ∧ R (Iteg b k K a) H1
theorem pi_enumL {X : Cx} {e : Expr} {ta : TA} {p pos tpos : Pos} {elts : List Expr} {kk : Nat} (hg : Gl X "enumerate") (hm : X.mg "enumerate" = none) (ha : PA X [e] ta) (hs : starEach [e] X.env = [(false, eval e X.env)] := by rfl) :
    PI X (.Tuple elts kk tpos) (.Call (.Name "enumerate" p) [e] [] pos) (iEnumL X.K ta) := by
  refine ⟨fun pins s σ H R I h => ?_⟩
  refine Call_ (ld_blt I hg hm boot_enumerate (PyProof.Rows.callWith_type1 (thn (ha.run pos pins s σ H _ I h) fun us s1 ⟨vs, H1, I1, r1, q1⟩ => ?_) hs rfl))
  obtain ⟨a, b, xs, ex, hq, q⟩ := q1
  subst ex
  cases r1 with
  | cons r rr =>
    cases rr
    cases r
    exact enumG_one I1 hq q
theorem pi_enumK {X : Cx} {e e2 : Expr} {ta : TA} {p pos tpos : Pos} {elts : List Expr} {kk : Nat} (hg : Gl X "enumerate") (hm : X.mg "enumerate" = none) (ha : PA X [e, e2] ta) (hs : starEach [e, e2] X.env = (false, eval e X.env) :: starEach [e2] X.env := by rfl) (hpl : (backTo pos (starEach [e2] X.env)).any (·.1) = false := by rfl) :
    PI X (.Tuple elts kk tpos) (.Call (.Name "enumerate" p) [e, e2] [] pos) (iEnumK X.K ta) := by
  refine ⟨fun pins s σ H R I h => ?_⟩
  refine Call_ (ld_blt I hg hm boot_enumerate (PyProof.Rows.callWith_type1 (thn (ha.run pos pins s σ H _ I h) fun us s1 ⟨vs, H1, I1, r1, q1⟩ => ?_) hs hpl))
  obtain ⟨a, b, xs, k, ex, hq, h0, h1, q⟩ := q1
  subst ex
  cases r1 with
  | cons r rr =>
    cases rr with
    | cons r2 rr =>
      cases rr
      cases r
      obtain ⟨t, rfl⟩ := (show ∃ t, _ = Value.int k t from r2)
      exact enumG_start I1 hq h0 h1 q
section
variable {X : Cx} {pos : Pos} {K : Fg} {F F' : FS} {H H' : Hp} {i : Int} {s : Str} {ds es : List D} {d e : D} {P : DK} {C : Addr} {ns : List Str}
def enumI : Int → List D → List D
  | _, [] => []
  | i, d :: ds => .tup [.int i, d] :: enumI (i + 1) ds
theorem enumI_get : ∀ {ds : List D} {k : Int} {i : Nat} {d : D}, ds[i]? = some d → (enumI k ds)[i]? = some (.tup [.int (k + (i : Nat)), d])
  | [], _, _, _, h => by simp at h
  | e :: ds, k, 0, d, h => by cases h; simp [enumI]
  | e :: ds, k, i + 1, d, h => by
    have := enumI_get (k := k + 1) (i := i) (ds := ds) h
    show (enumI (k + 1) ds)[i]? = _
    rw [this]
    congr 4
    omega
theorem enumI_length : ∀ (ds : List D) (k : Int), (enumI k ds).length = ds.length
  | [], _ => rfl
  | _ :: ds, k => by simp [enumI, enumI_length ds]
theorem walkD_enumg {b : Bool} {k : Int} {a : Addr} {vs : List V} (h : SqG b K F.fz a vs) (r : Reps K F ds vs) : WalkD K F (Iteg b k K a) (enumI k ds) :=
  ⟨_, _, by rw [enumI_length, ← r.length]; exact walk_enumg, fun F' H' l f => by
    cases b with
    | true => exact Same.seqT f.fz (Same.seqT l.fz (show SqT K F.fz a vs from h))
    | false => exact f.fz.seq (l.fz.seq (show SqL K F.fz a vs from h)), fun i H1 x H2 F1 l f y => by
    obtain ⟨T, x1, x2, rfl, hT, rfl, e1, e2⟩ := y
    obtain ⟨d, hd, rd⟩ := r.get' e2
    cases e1
    have x3 : Ext No F1 H1 (F1.add T (.tup [.int (k + (i : Nat)), x2])) (upd H1 T (.tup [.int (k + (i : Nat)), x2])) := Ext.new f hT
    refine ⟨_, _, enumI_get hd, x3, rep_tup FS.add_same ?_⟩
    exact Reps.cons rep_int (Reps.one ((rd.mono l).ext x3 f))⟩
theorem rep_sq {v : V} (r : Rep K F d v) (h : asList d = some ds) : ∃ a b vs, v = .ref a ∧ SqG b K F.fz a vs ∧ Reps K F ds vs := by
  cases d <;> cases h
  · simp only [Rep] at r
    obtain ⟨a, vs, rfl, h1, q⟩ := r
    exact ⟨a, true, vs, rfl, .inl (.inl h1), q⟩
  · simp only [Rep] at r
    obtain ⟨a, vs, rfl, h1, q⟩ := r
    exact ⟨a, false, vs, rfl, SqL.of h1, q⟩
  · simp only [Rep] at r
    obtain ⟨a, vs, rfl, h1, q⟩ := r
    exact ⟨a, false, vs, rfl, h1, q⟩
  · simp only [Rep] at r
    obtain ⟨a, vs, rfl, h1, q⟩ := r
    exact ⟨a, true, vs, rfl, h1, q⟩
theorem SqG.at {b : Bool} {a : Addr} {vs : List V} (h : SqG b K F.fz a vs) (f : Fits F H) : SqG b K H a vs := by
  cases b with
  | true => exact Same.seqT f.fz (show SqT K F.fz a vs from h)
  | false => exact f.fz.seq (show SqL K F.fz a vs from h)
/-- enumerate(e): a list or a tuple -/
def pEnu (p : PTE) : PTA := fun ρ P => p ρ fun d => isSome (fun ds => P (enumI 0 ds)) (asList d)
theorem i_enu {elts : List Expr} {kk : Nat} {tpos p : Pos} {e : Expr} {q : PTE} (he : pe X e q) (hg : Gl X "enumerate") (hm : X.mg "enumerate" = none) (hs : starEach [e] X.env = [(false, eval e X.env)] := by rfl) :
    pi X (.Tuple elts kk tpos) (.Call (.Name "enumerate" p) [e] [] pos) (pEnu q) :=
  PI_weak (pi_enumL hg hm (pa_cons he pa_nil hs) hs) fun σ H R ⟨N, F, ρ, P, s, p, k⟩ => ⟨N, F, ρ, _, s, p, fun d v F1 H1 p1 x1 r1 => by
    obtain ⟨ds, e, p1⟩ := isSome_inv p1
    obtain ⟨a, b, vs, rfl, h1, q⟩ := rep_sq r1 e
    exact ⟨a, b, vs, rfl, h1.at x1.fits, k _ _ _ _ p1 x1 (walkD_enumg h1 q)⟩⟩
/-- enumerate(e, k) -/
def pEnuK (p p2 : PTE) : PTA := fun ρ P => p ρ fun d => p2 ρ (isInt fun k => isSome (fun ds => -(2 ^ 63) ≤ k ∧ k < 2 ^ 63 ∧ P (enumI k ds)) (asList d))
theorem i_enuK {elts : List Expr} {kk : Nat} {tpos p : Pos} {e e2 : Expr} {q q2 : PTE} (he : pe X e q) (he2 : pe X e2 q2) (hg : Gl X "enumerate") (hm : X.mg "enumerate" = none) (hs : starEach [e, e2] X.env = (false, eval e X.env) :: starEach [e2] X.env := by rfl) (hs2 : starEach [e2] X.env = [(false, eval e2 X.env)] := by rfl) (hpl : (backTo pos (starEach [e2] X.env)).any (·.1) = false := by rfl) :
    pi X (.Tuple elts kk tpos) (.Call (.Name "enumerate" p) [e, e2] [] pos) (pEnuK q q2) :=
  PI_weak (pi_enumK hg hm (pa_cons he (pa_cons he2 pa_nil hs2) hs) hs hpl) fun σ H R ⟨N, F, ρ, P, s, p, k⟩ => ⟨N, F, ρ, _, s, p, fun d v F1 H1 p1 x1 r1 => ⟨N, F1, ρ, _, s.ext x1, p1, fun z u F2 H2 p2 x2 r2 => by
    obtain ⟨j, rfl, p2⟩ := isInt_inv p2
    simp only [Rep] at r2
    subst r2
    obtain ⟨ds, e, h0, h1, p2⟩ := isSome_inv p2
    obtain ⟨a, b, vs, rfl, h3, q⟩ := rep_sq (r1.ext x2 x1.fits) e
    exact ⟨a, b, vs, j, rfl, h3.at x2.fits, h0, h1, k _ _ _ _ p2 (x1.then0 x2) (walkD_enumg h3 q)⟩⟩⟩
/-! ### new objects handed back -/
def qRetF (p : PTE) : PTS := fun PD ρ => p ρ fun d => PD.rn d ρ
theorem s_retF {e : Expr} {p : PTE} (he : pf X e p) : ps X (.Return (some e) pos) (qRetF p) :=
  PS_weak (ps_ret he) fun E σ H ⟨B, F, ρ, PD, s, p, e⟩ => ⟨B.N, F, ρ, _, s.st, p, fun d a F1 H1 p1 x1 hn hz hi ow => e.rn F1 ρ σ H1 d a (s.go x1) (x1.le s.ext.fits) p1 (s.ext.dom _ hn) hz hi ow⟩
def qRetO (i : Nat) : PTS := fun PD ρ => atOwT (fun d => PD.rn d ρ) ρ[i]?
theorem s_retO {i : Nat} {e : Expr} (he : PE X e (tVar i)) : ps X (.Return (some e) pos) (qRetO i) :=
  PS_weak (ps_ret he) fun E σ H ⟨B, F, ρ, PD, s, q, e⟩ => by
    obtain ⟨d, hd, p⟩ := atOwT_inv q
    obtain ⟨a, e', n, hz, hi, ow⟩ := s.st.geto hd
    exact ⟨.ref a, e', e.rn F ρ σ H d a s (Le.refl F) p n hz hi ow⟩
section
variable {k : Nat} {f : Addr} {fd : FuncData} {ps : List Str} {c : Pr} {dvs : List V} {dds : List D} {vs : List Value} {x m : Str} {p apos : Pos} {e o : Expr} {es : List Expr} {t : PTA}
theorem callN_ok : ∀ σ H Q, (∀ F, Reps X.K F dds dvs) → Lf X.K (pCallD c dds t) σ H Q → tCall (spNw X.K c) dvs E0 (LA X.K t) σ H Q := fun σ H Q hd ⟨N, F, ρ, P, s, q, k⟩ =>
  ⟨N, F, ρ, _, s, q, fun ds vs F1 H1 p1 x1 r1 => ⟨F1, ds ++ dds, P, x1.fits, r1.append (hd F1), p1, fun d a F' H' a1 b hn hz hi ow => k d a F' H' a1 (x1.then0 b) (x1.dom _ hn) hz hi ow⟩⟩
theorem f_call (G : FnOk X.prog X.w X.K X.mg X.base CX0 k f fd ps (spNw X.K c)) (hr : Room k X.A) (hm : X.mg x = some (.ref f)) (hk : PySem.W.keepIn X.K (.ref f) = true) (hb : Binds X.K fd ps vs) (ha : pa X (e :: es) t) (hg : Gl X x := by rfl) (hd : Vals dvs vs := by exact Paired.nil) (hdd : ∀ F, Reps X.K F dds dvs := by exact fun _ => Reps.nil)
    (hdb : (x == ("__debug__" : Str)) = false := by decide) (he : starEach (e :: es) X.env = (false, eval e X.env) :: starEach es X.env := by rfl) (hpl : (backTo pos (starEach es X.env)).any (·.1) = false := by rfl) : pf X (.Call (.Name x p) (e :: es) [] pos) (pCallD c dds t) :=
  PE_weak (pe_call G hr hg hm hk hb hd pass0 ha hdb he hpl) fun σ H Q h => callN_ok σ H Q hdd h
end
end
end Pu
namespace Pu
open PySem PySem.Spec L2
section
variable {X : Cx} {pos : Pos} {K : Fg} {F F' : FS} {H H' : Hp} {i : Nat} {s : Str} {ds es : List D} {d e : D} {P : DK} {ρ : Env} {σ : L2.St} {B : Bas} {a : Addr} {c : Bool} {vs : List V}
/-! ### an owned list is lent: a loop goes over it -/
def Bas.lend (B : Bas) (a : Addr) (o : HO) : Bas := ⟨fun b => B.O b ∧ b ≠ a, B.F0, upd B.H0 a o⟩
theorem FSt.lend (s : FSt K B F ρ σ H) (h : ρ[i]? = some (some (.ow c d))) (e : σ[i]? = some (some (.ref a))) {o : HO} (eo : H a = some o) : FSt K (B.lend a o) F (ρ.set i (some (.sh (.rf a)))) σ H := by
  obtain ⟨b, e', n, hz, hi, q⟩ := s.st.geto h
  rw [e] at e'; cases e'
  have hii : i < σ.length := (List.getElem?_eq_some_iff.mp e).1
  refine ⟨⟨s.ext.fz, s.ext.iv, s.ext.fits, fun b x eb => ?_, fun b φ eb => ?_, fun b x eb => ?_, fun b eb => ?_⟩, s.st.put i _ rfl (fun _ _ => rfl) s.st.fits (Le.refl F) (fun j x ov y nj h1 h2 f => ?_) (fun ov h' => ?_) fun ov y j x ov' _ f => f.elim⟩
  · rcases s.ext.nfz b x eb with q | q
    · exact .inl q
    · refine .inr ?_
      show upd B.H0 a o b = none
      rw [upd_ne (fun z => by rw [z, hz] at eb; cases eb)]; exact q
  · rcases s.ext.niv b φ eb with q | q
    · exact .inl q
    · refine .inr ?_
      show upd B.H0 a o b = none
      rw [upd_ne (fun z => by rw [z, hi] at eb; cases eb)]; exact q
  · have eb : upd B.H0 a o b = some x := eb
    by_cases z : b = a
    · subst z; rw [upd_same] at eb; cases eb; exact .inr (.inr eo)
    · rw [upd_ne z] at eb
      rcases s.ext.keep b x eb with q | q
      · exact .inl ⟨q, z⟩
      · exact .inr q
  · have z : b ≠ a := fun z => by rw [z, eo] at eb; cases eb
    show upd B.H0 a o b = none
    rw [upd_ne z]; exact s.ext.dom b eb
  · obtain ⟨q1, q2, q3, _⟩ := s.st.foot h1 h2 f
    have ne : y ≠ a := fun z => nj (s.st.disF j i _ _ _ _ y h1 h2 h e f (by rw [z]; rfl))
    refine ⟨rfl, q1, q2, fun b nb => ?_⟩
    cases b with
    | true => show upd B.H0 a o y = none; rw [upd_ne ne]; exact nb
    | false => exact ⟨nb, ne⟩
  · rw [e] at h'; cases h'
    exact ⟨_, rfl, by simp only [Rep]⟩
/-- and given back -/
theorem FSt.back {F0 : FS} {o : HO} (s : FSt K (B.lend a o) F' ρ σ H') (l : Le F0 F') (n : B.N c a) (hz0 : B.F0.fz a = none) (hi0 : B.F0.iv a = none) (ow : ∀ F' H', Le F0 F' → H' a = some o → OwnAt K F' H' a d) (h : ρ[i]? = some (some (.sh (.rf a)))) : FSt K B F' (ρ.set i (some (.ow c d))) σ H' := by
  obtain ⟨v, e, r⟩ := s.st.get h
  simp only [Rep] at r
  subst r
  have keepa : H' a = some o := by
    rcases s.ext.keep a o upd_same with q | ⟨φ, q⟩ | q
    · exact absurd rfl q.2
    · have q : B.F0.iv a = some φ := q
      rw [hi0] at q; cases q
    · exact q
  have hz : F'.fz a = none := by
    cases ez : F'.fz a with
    | none => rfl
    | some x =>
      rcases s.ext.nfz a x ez with q | q
      · have q : B.F0.fz a = some x := q
        rw [hz0] at q; cases q
      · have q : upd B.H0 a o a = none := q
        rw [upd_same] at q; cases q
  have hi : F'.iv a = none := by
    cases ez : F'.iv a with
    | none => rfl
    | some x =>
      rcases s.ext.niv a x ez with q | q
      · have q : B.F0.iv a = some x := q
        rw [hi0] at q; cases q
      · have q : upd B.H0 a o a = none := q
        rw [upd_same] at q; cases q
  have nn : ∀ b, upd B.H0 a o b = none → B.H0 b = none := fun b q => by
    by_cases z : b = a
    · subst z; rw [upd_same] at q; cases q
    · rw [upd_ne z] at q; exact q
  refine ⟨⟨s.ext.fz, s.ext.iv, s.ext.fits, fun b x eb => (s.ext.nfz b x eb).imp id (nn b), fun b φ eb => (s.ext.niv b φ eb).imp id (nn b), fun b x eb => ?_, fun b eb => nn b (s.ext.dom b eb)⟩, s.st.put i _ rfl (fun _ _ => rfl) s.st.fits (Le.refl F') (fun j x ov y nj h1 h2 f => ?_) (fun ov h' => ?_) fun ov y j x ov' h' f nj h1 h2 f2 => ?_⟩
  · by_cases z : b = a
    · subst z
      cases c with
      | true => have n : B.H0 b = none := n; rw [n] at eb; cases eb
      | false => exact .inl n
    · rcases s.ext.keep b x (by show upd B.H0 a o b = some x; rw [upd_ne z]; exact eb) with q | q
      · exact .inl q.1
      · exact .inr q
  · obtain ⟨q1, q2, q3, _⟩ := s.st.foot h1 h2 f
    refine ⟨rfl, q1, q2, fun b nb => ?_⟩
    cases b with
    | true => exact nn y nb
    | false => exact nb.1
  · rw [e] at h'; cases h'
    exact ⟨a, rfl, n, hz, hi, ow _ _ l keepa⟩
  · have f : ov = some (.ref y) := f
    rw [e] at h'; cases h'; cases f
    obtain ⟨_, _, _, b, nb⟩ := s.st.foot h1 h2 f2
    cases b with
    | true => have nb : upd B.H0 a o a = none := nb; rw [upd_same] at nb; cases nb
    | false => exact nb.2 rfl
def atRf (a : Addr) (P : Prop) : Option (Option Sl) → Prop
  | some (some (.sh (.rf b))) => b = a ∧ P
  | _ => False
theorem atRf_inv {P : Prop} {x : Option (Option Sl)} (h : atRf a P x) : x = some (some (.sh (.rf a))) ∧ P := by
  match x, h with
  | some (some (.sh (.rf b))), h => exact ⟨by rw [h.1], h.2⟩
/-- a for over an owned list; the body does not touch it -/
def lentTo (i : Nat) (a : Addr) (c : Bool) (d : D) (PD : PEnds) : PEnds :=
  { nx := fun ρ' => atRf a (PD.nx (ρ'.set i (some (.ow c d)))) ρ'[i]?, rt := fun d' ρ' => atRf a (PD.rt d' (ρ'.set i (some (.ow c d)))) ρ'[i]?, bk := fun _ => False, ct := fun _ => False, rn := fun _ _ => False, xr := fun _ _ _ _ => False }
def qForO (i : Nat) (g : PTG) (body : PTS) : PTS := fun PD ρ => atOwL (fun c ds => ∀ a : Addr, forI g body (lentTo i a c (.lst ds) PD) ds (ρ.set i (some (.sh (.rf a))))) ρ[i]?
theorem s_forO {tg iter : Expr} {body : List Stmt} {is : List Nat} {g : PTG} {p : PTS} (hp : PassesOwn (model X.prog X.w) X.A X.env X.xe) (hc : X.calm = true) (hi : PE X iter (tVar i)) (hg : pg X tg is g) (hb : pss X body p)
    (hs : ∀ x, foldedSetIterable iter X.env x = pure x := by intro _; rfl) : ps X (.For tg iter body [] pos) (qForO i g p) :=
  PS_weak (ps_for hp hc (pi_list hi) hg.h hb hs) fun E σ H ⟨B, F, ρ, PD, s, q, e⟩ => by
    obtain ⟨c, ds, h1, q⟩ := atOwL_inv q
    obtain ⟨a, vs, q1, q2, q3⟩ := own_lst s.st h1
    obtain ⟨b, e', n, hz, hiv, _⟩ := s.st.geto h1
    rw [q1] at e'; cases e'
    have hz0 : B.F0.fz a = none := s.ext.fz.free hz
    have hi0 : B.F0.iv a = none := by
      cases ez : B.F0.iv a with
      | none => rfl
      | some φ => rw [s.ext.iv a φ ez] at hiv; cases hiv
    have s1 : FSt X.K (B.lend a (.lst vs)) F (ρ.set i (some (.sh (.rf a)))) σ H := s.lend h1 q1 q2
    have ow : ∀ F' H', Le F F' → H' a = some (.lst vs) → OwnAt X.K F' H' a (.lst ds) := fun F' H' l h => ⟨vs, h, q3.mono l⟩
    have keepa : ∀ F' ρ' σ' H', FSt X.K (B.lend a (.lst vs)) F' ρ' σ' H' → H' a = some (.lst vs) := fun F' ρ' σ' H' s' => by
      rcases s'.ext.keep a _ upd_same with q | ⟨φ, q⟩ | q
      · exact absurd rfl q.2
      · have q : B.F0.iv a = some φ := q
        rw [hi0] at q; cases q
      · exact q
    refine ⟨.ref a, q1, a, rfl, ⟨vs, SqL.of q2⟩, ?_⟩
    obtain ⟨I, p1, hst, hdn⟩ := q a
    refine for_it walk_list (fun i' σ' H' => ∃ F' ρ', FSt X.K (B.lend a (.lst vs)) F' ρ' σ' H' ∧ Le F F' ∧ I (ds.drop i') ρ') ⟨F, _, s1, Le.refl F, by simpa using p1⟩ (fun i σ' H' _ ⟨F', ρ', s', l', _⟩ => SqL.of (keepa F' ρ' σ' H' s')) ?_ ?_
    · rintro i' x σ' H' H2 hi' ⟨F', ρ', s', l', q'⟩ ⟨rfl, ex⟩
      obtain ⟨d, hd, rd⟩ := q3.get' ex
      have hdr : ds.drop i' = d :: ds.drop (i' + 1) := by
        obtain ⟨h1, h2⟩ := List.getElem?_eq_some_iff.mp hd
        rw [List.drop_eq_getElem_cons h1, h2]
      rw [hdr] at q'
      have q' := hst _ _ _ q'
      refine ⟨_, F', ρ', d, _, s'.st, rd.mono l', q', fun ρ3 σ3 st3 q3' _ => ⟨_, F', ρ3, _, ⟨s'.ext, st3⟩, q3', ⟨fun F4 ρ4 σ4 H4 s4 l4 q4 => ⟨F4, ρ4, s4, l'.trans l4, q4⟩, fun F4 ρ4 σ4 H4 d4 v4 s4 l4 q4 r4 => ?_, fun F4 ρ4 σ4 H4 s4 l4 q4 => ?_, fun F4 ρ4 σ4 H4 s4 l4 q4 => ⟨F4, ρ4, s4, l'.trans l4, q4⟩, fun F4 ρ4 σ4 H4 d4 a4 s4 l4 q4 => q4.elim, fun F4 ρ4 σ4 H4 C4 ns4 ds4 dd4 vs4 s4 l4 q4 => q4.elim⟩⟩⟩
      · obtain ⟨h4, q4⟩ := atRf_inv q4
        exact e.rt F4 _ σ4 H4 d4 v4 (s4.back (l'.trans l4) n hz0 hi0 ow h4) (l'.trans l4) q4 r4
      · obtain ⟨h4, q4⟩ := atRf_inv q4
        exact e.nx F4 _ σ4 H4 (s4.back (l'.trans l4) n hz0 hi0 ow h4) (l'.trans l4) q4
    · rintro σ' H' ⟨F', ρ', s', l', q'⟩
      rw [q3.length, List.drop_length] at q'
      obtain ⟨h4, q4⟩ := atRf_inv (hdn _ q')
      exact e.nx F' _ σ' H' (s'.back l' n hz0 hi0 ow h4) l' q4
end
end Pu
namespace Pu
open PySem PySem.Spec L2
open Classical in
/-- what was not frozen ahead is not frozen any more -/
noncomputable def FS.undo (F' F : FS) (H : Hp) : FS := ⟨fun b => if F.fz b = none ∧ H b ≠ none then none else F'.fz b, F'.iv⟩
mutual
/-- no list, no dict, no object within: what can't be changed -/
def hard : D → Prop
  | .non => True
  | .bl _ => True
  | .int _ => True
  | .str _ => True
  | .tup ds => hards ds
  | .ktup ds => hards ds
  | _ => False
def hards : List D → Prop
  | [] => True
  | d :: ds => hard d ∧ hards ds
end
/-- a new list, dict or object of such -/
def hardIn : D → Prop
  | .lst ds => hards ds
  | .dK _ ds => hards ds
  | .dT _ ds => hards ds
  | .ins _ _ ds => hards ds
  | _ => False
theorem hards_iff : ∀ {ds : List D}, hards ds ↔ ∀ x, x ∈ ds → hard x
  | [] => by simp [hards]
  | d :: ds => by simp [hards, hards_iff (ds := ds)]
def soft : HO → Prop
  | .lst _ => True
  | .dK _ => True
  | .dT _ => True
  | .ins _ _ _ => True
  | _ => False
section
variable {X : Cx} {pos : Pos} {K : Fg} {F F' F1 : FS} {H H' : Hp} {i : Nat} {s : Str} {ds es : List D} {d e : D} {P : DK} {ρ : Env} {σ : L2.St} {B : Bas} {a : Addr} {c : Bool} {vs : List V}
theorem OwnAt.soft {o : HO} (h : OwnAt K F H a d) (e : H a = some o) : soft o := by
  cases d <;> simp only [OwnAt] at h
  · obtain ⟨_, q, _⟩ := h; rw [e] at q; cases q; trivial
  · obtain ⟨_, q, _⟩ := h; rw [e] at q; cases q; trivial
  · obtain ⟨_, q, _⟩ := h; rw [e] at q; cases q; trivial
  · obtain ⟨_, _, q, _⟩ := h; rw [e] at q; cases q; trivial
/-- F with objects of H, lent -/
structure Lent (F : FS) (H : Hp) (F1 : FS) : Prop where
  fits : Fits F1 H
  iv : F1.iv = F.iv
  fz : Same F.fz F1.fz
  back : ∀ b o, F1.fz b = some o → F.fz b = some o ∨ (F.fz b = none ∧ H b = some o ∧ soft o)
  niv : ∀ b, F1.fz b ≠ none → F.fz b ≠ none ∨ F.iv b = none
theorem Lent.le (l : Lent F H F1) : Le F F1 := ⟨l.fz, fun a φ h => by rw [l.iv]; exact h, fun a h1 h2 => (l.niv a h1).elim id fun z => absurd z h2⟩
theorem Lent.refl (f : Fits F H) : Lent F H F := ⟨f, rfl, Same.refl _, fun _ _ h => .inl h, fun _ h => .inl h⟩
theorem Lent.add (l : Lent F H F1) {o : HO} (hz : F.fz a = none) (hi : F.iv a = none) (e : H a = some o) (so : Pu.soft o) : Lent F H (F1.add a o) := by
  refine ⟨⟨fun b x z => ?_, fun b φ z => l.fits.iv b φ z⟩, l.iv, fun b x z => ?_, fun b x z => ?_, fun b z => ?_⟩
  · have z : upd F1.fz a o b = some x := z
    by_cases w : b = a
    · subst w; rw [upd_same] at z; rw [e]; exact z
    · rw [upd_ne w] at z; exact l.fits.fz _ _ z
  · show upd F1.fz a o b = some x
    rw [upd_ne (fun w => by rw [w, hz] at z; cases z)]; exact l.fz _ _ z
  · have z : upd F1.fz a o b = some x := z
    by_cases w : b = a
    · subst w; rw [upd_same] at z; cases z; exact .inr ⟨hz, e, so⟩
    · rw [upd_ne w] at z; exact l.back _ _ z
  · have z : upd F1.fz a o b ≠ none := z
    by_cases w : b = a
    · subst w; exact .inr hi
    · rw [upd_ne w] at z; exact l.niv _ z
theorem Lent.addLe (l : Lent F H F1) {o : HO} (hi : F.iv a = none) (e : H a = some o) : Le F1 (F1.add a o) :=
  ⟨fun b x z => by
    show upd F1.fz a o b = some x
    by_cases w : b = a
    · subst w; rw [upd_same, ← e]; exact (l.fits.fz _ _ z)
    · rw [upd_ne w]; exact z, fun _ _ h => h, fun b h1 h2 => by
    have h1 : upd F1.fz a o b ≠ none := h1
    by_cases w : b = a
    · subst w; rw [l.iv] at h2; exact absurd hi h2
    · rw [upd_ne w] at h1; exact h1⟩
theorem lend_all : ∀ {ds : List D} {vs : List V} {F1 : FS}, Lent F H F1 → RepTs K F H ds vs → ∃ F2, Lent F H F2 ∧ Le F1 F2 ∧ Reps K F2 ds vs
  | [], vs, F1, l, r => ⟨F1, l, Le.refl _, by simp only [RepTs] at r; subst r; exact Reps.nil⟩
  | d :: ds, _, F1, l, ⟨v, q, ev, h1, h2⟩ => by
    subst ev
    have step : ∃ F2, Lent F H F2 ∧ Le F1 F2 ∧ Rep K F2 d v := by
      rcases h1 with h1 | ⟨a, rfl, hz, hi, ow⟩
      · exact ⟨F1, l, Le.refl _, h1.mono l.le⟩
      · obtain ⟨o, eo⟩ := some_of_ne ow.there
        have l2 := l.add hz hi eo (ow.soft eo)
        exact ⟨_, l2, l.addLe hi eo, ow.rep eo FS.add_same l2.le⟩
    obtain ⟨F2, l2, le2, r2⟩ := step
    obtain ⟨F3, l3, le3, r3⟩ := lend_all l2 h2
    exact ⟨F3, l3, le2.trans le3, Reps.cons (r2.mono le3) r3⟩
/-- after a call to which objects were lent -/
theorem Lent.ext (l : Lent F H F1) (x : Ext No F1 H F' H') : Ext No F H (F'.undo F H) H' := by
  have cn : ∀ b, F.fz b ≠ none ∨ H b = none → (F'.undo F H).fz b = F'.fz b := fun b h => by
    show (if F.fz b = none ∧ H b ≠ none then none else F'.fz b) = _
    rw [if_neg (fun z => h.elim (fun q => q z.1) z.2)]
  have cb : ∀ b o, (F'.undo F H).fz b = some o → F'.fz b = some o ∧ (F.fz b ≠ none ∨ H b = none) := fun b o h => by
    have h : (if F.fz b = none ∧ H b ≠ none then none else F'.fz b) = some o := h
    split at h
    · cases h
    · rename_i z
      exact ⟨h, by
        by_cases q : H b = none
        · exact .inr q
        · exact .inl fun w => z ⟨w, q⟩⟩
  refine ⟨fun b o h => ?_, fun b φ h => x.iv b φ (by rw [l.iv]; exact h), ⟨fun b o h => x.fits.fz b o (cb b o h).1, fun b φ h => x.fits.iv b φ h⟩, fun b o h => ?_, fun b φ h => ?_, fun b o h => ?_, x.dom⟩
  · rw [cn b (.inl (by rw [h]; intro z; cases z))]; exact x.fz _ _ (l.fz _ _ h)
  · obtain ⟨h1, h2⟩ := cb b o h
    rcases h2 with h2 | h2
    · rcases x.nfz b o h1 with q | q
      · rcases l.back b o q with z | z
        · exact .inl z
        · exact absurd z.1 h2
      · exact .inr q
    · exact .inr h2
  · rcases x.niv b φ h with q | q
    · rw [l.iv] at q; exact .inl q
    · exact .inr q
  · rcases x.keep b o h with q | ⟨φ, q⟩ | q
    · exact .inl q
    · rw [l.iv] at q; exact .inr (.inl ⟨φ, q⟩)
    · exact .inr (.inr q)
theorem Lent.tupF (l : Lent F H F1) (x : Ext No F1 H F' H') : ∀ o, F'.fz a = some o → ¬ Pu.soft o → (F'.undo F H).fz a = some o := fun o h so => by
  show (if F.fz a = none ∧ H a ≠ none then none else F'.fz a) = _
  rw [if_neg, h]
  rintro ⟨z1, z2⟩
  rcases x.nfz a o h with q | q
  · rcases l.back a o q with w | w
    · rw [z1] at w; cases w
    · exact so w.2.2
  · exact z2 q
theorem Lent.tup (l : Lent F H F1) (x : Ext No F1 H F' H') (h : SqT K F'.fz a vs) : SqT K (F'.undo F H).fz a vs := by
  rcases h with (h | ⟨o, h⟩) | h
  · exact .inl (.inl (l.tupF x _ h (fun z => z)))
  · exact .inl (.inr ⟨o, l.tupF x _ h (fun z => z)⟩)
  · exact .inr h
mutual
theorem Lent.rep (l : Lent F H F1) (x : Ext No F1 H F' H') : ∀ {d : D} {v : V}, hard d → Rep K F' d v → Rep K (F'.undo F H) d v
  | .non, _, _, r => by simpa only [Rep] using r
  | .bl _, _, _, r => by simpa only [Rep] using r
  | .int _, _, _, r => by simpa only [Rep] using r
  | .str _, _, _, r => by simpa only [Rep] using r
  | .tup ds, v, h, r => by
    simp only [Rep] at r ⊢
    obtain ⟨a, vs, e, s, q⟩ := r
    exact ⟨a, vs, e, l.tupF x _ s (fun z => z), Lent.reps l x (by simpa only [hard] using h) q⟩
  | .ktup ds, v, h, r => by
    simp only [Rep] at r ⊢
    obtain ⟨a, vs, e, s, q⟩ := r
    exact ⟨a, vs, e, l.tup x s, Lent.reps l x (by simpa only [hard] using h) q⟩
  | .lst _, _, h, _ => by simp only [hard] at h
  | .klst _, _, h, _ => by simp only [hard] at h
  | .dK _ _, _, h, _ => by simp only [hard] at h
  | .dT _ _, _, h, _ => by simp only [hard] at h
  | .ins _ _ _, _, h, _ => by simp only [hard] at h
  | .pool, _, h, _ => by simp only [hard] at h
  | .rf _, _, h, _ => by simp only [hard] at h
  | .at _ _, _, h, _ => by simp only [hard] at h
theorem Lent.reps (l : Lent F H F1) (x : Ext No F1 H F' H') : ∀ {ds : List D} {vs : List V}, hards ds → Reps K F' ds vs → Reps K (F'.undo F H) ds vs
  | [], _, _, r => by simpa only [Reps] using r
  | d :: ds, _, h, r => by
    simp only [Reps] at r ⊢
    simp only [hards] at h
    obtain ⟨v, q, e, h1, h2⟩ := r
    exact ⟨v, q, e, Lent.rep l x h.1 h1, Lent.reps l x h.2 h2⟩
end
theorem Lent.own (l : Lent F H F1) (x : Ext No F1 H F' H') (h : hardIn d) (r : OwnAt K F' H' a d) : OwnAt K (F'.undo F H) H' a d := by
  cases d <;> try exact h.elim
  · obtain ⟨vs, q, r⟩ := r; exact ⟨vs, q, l.reps x h r⟩
  · obtain ⟨vs, q, z, r⟩ := r; exact ⟨vs, q, z, l.reps x h r⟩
  · obtain ⟨vs, q, z, r⟩ := r; exact ⟨vs, q, z, l.reps x h r⟩
  · obtain ⟨dx, vs, q, z, r⟩ := r; exact ⟨dx, vs, q, z, l.reps x h r⟩
theorem undo_none (h : F'.fz a = none) : (F'.undo F H).fz a = none := by
  show (if F.fz a = none ∧ H a ≠ none then none else F'.fz a) = none
  split
  · rfl
  · exact h
/-! ### calls to which owned objects are lent -/
/-- what comes back is hard -/
def pCallB (c : Pr) (dds : List D) (t : PTA) : PTE := fun ρ P => t ρ fun ds => c (ds ++ dds) fun d => hard d ∧ P d
def pCallBN (c : Pr) (dds : List D) (t : PTA) : PTE := fun ρ P => t ρ fun ds => c (ds ++ dds) fun d => hardIn d ∧ P d
variable {k : Nat} {f : Addr} {fd : FuncData} {ps : List Str} {cc : Pr} {dvs : List V} {dds : List D} {us : List Value} {x m : Str} {p apos : Pos} {ex o : Expr} {es' : List Expr} {t : PTA}
theorem RepTs.app : ∀ {ds : List D} {vs : List V}, RepTs K F H ds vs → Reps K F es dvs → RepTs K F H (ds ++ es) (vs ++ dvs)
  | [], _, r, s => by simp only [RepTs] at r; subst r; simpa using s.T
  | d :: ds, _, ⟨v, q, e, h1, h2⟩, s => by
    subst e
    exact ⟨v, q ++ dvs, rfl, h1, RepTs.app h2 s⟩
theorem callB_ok : ∀ σ H Q, (∀ F, Reps X.K F dds dvs) → L X.K (pCallB cc dds t) σ H Q → tCall (spOf X.K cc) dvs E0 (LAr X.K t) σ H Q := fun σ H Q hd ⟨N, F, ρ, P, s, q, k⟩ =>
  ⟨N, F, ρ, _, s, q, fun ds vs F1 H1 p1 x1 r1 => by
    obtain ⟨F2, l, _, r2⟩ := lend_all (Lent.refl x1.fits) (r1.app (hd F1))
    exact ⟨F2, ds ++ dds, _, l.fits, r2, p1, fun d v F' H' ⟨hh, a⟩ b c => k d v _ H' a (x1.then0 (l.ext b)) (l.rep b hh c)⟩⟩
theorem callBN_ok : ∀ σ H Q, (∀ F, Reps X.K F dds dvs) → Lf X.K (pCallBN cc dds t) σ H Q → tCall (spNw X.K cc) dvs E0 (LAr X.K t) σ H Q := fun σ H Q hd ⟨N, F, ρ, P, s, q, k⟩ =>
  ⟨N, F, ρ, _, s, q, fun ds vs F1 H1 p1 x1 r1 => by
    obtain ⟨F2, l, _, r2⟩ := lend_all (Lent.refl x1.fits) (r1.app (hd F1))
    exact ⟨F2, ds ++ dds, _, l.fits, r2, p1, fun d a F' H' ⟨hh, a1⟩ b hn hz hi ow => k d a _ H' a1 (x1.then0 (l.ext b)) (x1.dom _ hn) (undo_none hz) hi (l.own b hh ow)⟩⟩
theorem e_callL (G : FnOk X.prog X.w X.K X.mg X.base CX0 k f fd ps (spOf X.K cc)) (hr : Room k X.A) (hm : X.mg x = some (.ref f)) (hk : PySem.W.keepIn X.K (.ref f) = true) (hb : Binds X.K fd ps us) (ha : par X (ex :: es') t) (hg : Gl X x := by rfl) (hd : Vals dvs us := by exact Paired.nil) (hdd : ∀ F, Reps X.K F dds dvs := by exact fun _ => Reps.nil)
    (hdb : (x == ("__debug__" : Str)) = false := by decide) (he : starEach (ex :: es') X.env = (false, eval ex X.env) :: starEach es' X.env := by rfl) (hpl : (backTo pos (starEach es' X.env)).any (·.1) = false := by rfl) : pe X (.Call (.Name x p) (ex :: es') [] pos) (pCallB cc dds t) :=
  PE_weak (pe_call G hr hg hm hk hb hd pass0 ha hdb he hpl) fun σ H Q h => callB_ok σ H Q hdd h
theorem f_callL (G : FnOk X.prog X.w X.K X.mg X.base CX0 k f fd ps (spNw X.K cc)) (hr : Room k X.A) (hm : X.mg x = some (.ref f)) (hk : PySem.W.keepIn X.K (.ref f) = true) (hb : Binds X.K fd ps us) (ha : par X (ex :: es') t) (hg : Gl X x := by rfl) (hd : Vals dvs us := by exact Paired.nil) (hdd : ∀ F, Reps X.K F dds dvs := by exact fun _ => Reps.nil)
    (hdb : (x == ("__debug__" : Str)) = false := by decide) (he : starEach (ex :: es') X.env = (false, eval ex X.env) :: starEach es' X.env := by rfl) (hpl : (backTo pos (starEach es' X.env)).any (·.1) = false := by rfl) : pf X (.Call (.Name x p) (ex :: es') [] pos) (pCallBN cc dds t) :=
  PE_weak (pe_call G hr hg hm hk hb hd pass0 ha hdb he hpl) fun σ H Q h => callBN_ok σ H Q hdd h
theorem hard_non : hard .non = True := by simp only [hard]
theorem hard_bl {b : Bool} : hard (.bl b) = True := by simp only [hard]
theorem hard_int {b : Int} : hard (.int b) = True := by simp only [hard]
theorem hard_str {b : Str} : hard (.str b) = True := by simp only [hard]
theorem hard_tup : hard (.tup ds) = hards ds := by simp only [hard]
theorem hard_ktup : hard (.ktup ds) = hards ds := by simp only [hard]
theorem hards_nil : hards [] = True := by simp only [hards]
theorem hards_cons : hards (d :: ds) = (hard d ∧ hards ds) := by simp only [hards]
theorem hardIn_lst : hardIn (.lst ds) = hards ds := id rfl
/-! ### constants of the module -/
end
mutual
def repIn (K : Fg) : D → Value → Bool
  | .non, .none => true
  | .bl b, .bool c => b == c
  | .int i, .int j _ => decide (i = j)
  | .str s, .str t _ => decide (s = t)
  | .ktup ds, .ref a => match K.lookup a with
    | some o => match o.data with
      | .seq its _ => decide (o.cls = .type "tuple") && decide (its.size ≤ 16777216) && repsIn K ds its.toList
      | _ => false
    | none => false
  | _, _ => false
def repsIn (K : Fg) : List D → List Value → Bool
  | [], [] => true
  | d :: ds, v :: vs => repIn K d v && repsIn K ds vs
  | _, _ => false
end
mutual
theorem repIn_ok {K : Fg} : ∀ {d : D} {u : Value}, repIn K d u = true → ∃ v, RelV v u ∧ ∀ F, Rep K F d v
  | .non, .none, _ => ⟨.non, rfl, fun _ => rep_non⟩
  | .bl b, .bool c, h => by
    simp only [repIn, beq_iff_eq] at h
    subst h
    exact ⟨.bl b, rfl, fun _ => rep_bl⟩
  | .int i, .int j t, h => by
    simp only [repIn, decide_eq_true_eq] at h
    subst h
    exact ⟨.int i, ⟨t, rfl⟩, fun _ => rep_int⟩
  | .str i, .str j t, h => by
    simp only [repIn, decide_eq_true_eq] at h
    subst h
    exact ⟨.str i, ⟨t, rfl⟩, fun _ => rep_str⟩
  | .ktup ds, .ref a, h => by
    simp only [repIn] at h
    split at h
    · rename_i o ho
      split at h
      · rename_i its n hd
        simp only [Bool.and_eq_true, decide_eq_true_eq] at h
        obtain ⟨vs, h1, h2⟩ := repsIn_ok h.2
        refine ⟨.ref a, rfl, fun F => rep_tup' (.inr ⟨o, its, n, ho, h.1.1, hd, ?_, h1⟩) (h2 F)⟩
        rw [sizeLine_eq]; exact h.1.2
      · cases h
    · cases h
theorem repsIn_ok {K : Fg} : ∀ {ds : List D} {us : List Value}, repsIn K ds us = true → ∃ vs, Vals vs us ∧ ∀ F, Reps K F ds vs
  | [], [], _ => ⟨[], .nil, fun _ => Reps.nil⟩
  | d :: ds, u :: us, h => by
    simp only [repsIn, Bool.and_eq_true] at h
    obtain ⟨v, h1, h2⟩ := repIn_ok h.1
    obtain ⟨vs, h3, h4⟩ := repsIn_ok h.2
    exact ⟨v :: vs, .cons h1 h3, fun F => Reps.cons (h2 F) (h4 F)⟩
end
theorem e_globR {X : Cx} {x : Str} {u : Value} {d : D} {pos : Pos} (hm : X.mg x = some u) (q : repIn X.K d u = true) (hg : Gl X x := by rfl) (hd : (x == ("__debug__" : Str)) = false := by decide) : pe X (.Name x pos) (pC d) := by
  obtain ⟨v, h1, h2⟩ := repIn_ok q
  exact e_glob hg hm h1 h2 hd
theorem lookN_cons {f n : Str} {ns : List Str} {d : D} {ds : List D} : lookN f (n :: ns) (d :: ds) = if f = n then some d else lookN f ns ds := id rfl
theorem max2W_mx {i j : Int} {P : DK} : max2W (.int i) (.int j) P = P (.int (max i j)) := by
  show P (.int (if j > i then j else i)) = _
  congr 2
  split <;> omega
theorem min2W_mn {i j : Int} {P : DK} : min2W (.int i) (.int j) P = P (.int (min i j)) := by
  show P (.int (if j < i then j else i)) = _
  congr 2
  split <;> omega
theorem enumI_nil {k : Int} : enumI k [] = [] := id rfl
theorem enumI_cons {k : Int} {d : D} {ds : List D} : enumI k (d :: ds) = .tup [.int k, d] :: enumI (k + 1) ds := id rfl
theorem intsOf_nil : intsOf [] = some [] := id rfl
theorem intsOf_cons {i : Int} {ds : List D} : intsOf (.int i :: ds) = (intsOf ds).map (List.cons i) := id rfl
theorem blsOf_nil : blsOf [] = some [] := id rfl
theorem blsOf_cons {i : Bool} {ds : List D} : blsOf (.bl i :: ds) = (blsOf ds).map (List.cons i) := id rfl
theorem fold_max : ∀ (as : List Int) (a : Int), as.foldl max a ∈ a :: as ∧ ∀ y, y ∈ a :: as → y ≤ as.foldl max a
  | [], a => ⟨by simp, by simp⟩
  | b :: as, a => by
    obtain ⟨h1, h2⟩ := fold_max as (max a b)
    rw [List.foldl_cons]
    refine ⟨?_, fun y hy => ?_⟩
    · rcases List.mem_cons.mp h1 with h | h
      · rw [h]
        by_cases q : a ≤ b
        · rw [Int.max_eq_right q]; simp
        · rw [Int.max_eq_left (by omega)]; simp
      · simp [h]
    · have h3 := h2 (max a b) (by simp)
      rcases List.mem_cons.mp hy with rfl | hy
      · omega
      · rcases List.mem_cons.mp hy with rfl | hy
        · omega
        · exact h2 y (by simp [hy])
theorem fold_min : ∀ (as : List Int) (a : Int), as.foldl min a ∈ a :: as ∧ ∀ y, y ∈ a :: as → as.foldl min a ≤ y
  | [], a => ⟨by simp, by simp⟩
  | b :: as, a => by
    obtain ⟨h1, h2⟩ := fold_min as (min a b)
    rw [List.foldl_cons]
    refine ⟨?_, fun y hy => ?_⟩
    · rcases List.mem_cons.mp h1 with h | h
      · rw [h]
        by_cases q : a ≤ b
        · rw [Int.min_eq_left q]; simp
        · rw [Int.min_eq_right (by omega)]; simp
      · simp [h]
    · have h3 := h2 (min a b) (by simp)
      rcases List.mem_cons.mp hy with rfl | hy
      · omega
      · rcases List.mem_cons.mp hy with rfl | hy
        · omega
        · exact h2 y (by simp [hy])
theorem maxG_cons {a : Int} {as : List Int} {P : DK} : maxG (a :: as) P = P (.int (as.foldl max a)) := by
  obtain ⟨h1, h2⟩ := fold_max as a
  refine propext ⟨fun h => h.2 _ h1 h2, fun h => ⟨by simp, fun m hm hy => ?_⟩⟩
  have e : m = as.foldl max a := Int.le_antisymm (h2 m hm) (hy _ h1)
  rw [e]; exact h
theorem minG_cons {a : Int} {as : List Int} {P : DK} : minG (a :: as) P = P (.int (as.foldl min a)) := by
  obtain ⟨h1, h2⟩ := fold_min as a
  refine propext ⟨fun h => h.2 _ h1 h2, fun h => ⟨by simp, fun m hm hy => ?_⟩⟩
  have e : m = as.foldl min a := Int.le_antisymm (hy _ h1) (h2 m hm)
  rw [e]; exact h
end Pu
namespace Pu
open PySem PySem.Spec L2
section
variable {X : Cx} {pos apos cpos : Pos} {K : Fg} {F F' : FS} {H H' : Hp} {i : Nat} {s z : Str} {ds es : List D} {d e : D} {P : DK} {ρ : Env} {σ : L2.St} {a : Addr} {vs : List V}
/-! ### methods of texts and lists, as values -/
def tyD (T : String) : D → Prop
  | .str _ => T = "str"
  | .lst _ => T = "list"
  | .klst _ => T = "list"
  | _ => False
theorem tyD_ok {T : String} {x : V} (f : Fits F H) (r : RepT K F H d x) (h : tyD T d) : tyV K T x H := by
  cases d <;> try exact h.elim
  · rw [r.str]; exact h
  · obtain ⟨a, vs, rfl, h1, _⟩ := r.lst f; exact .inl ⟨h, vs, SqL.of h1⟩
  · obtain ⟨a, vs, rfl, h1, _⟩ := r.klst f; exact .inl ⟨h, vs, h1⟩
def pBM (T : String) (w : D → List D → DK → Prop) (po : PTE) (t : PTA) : PTE := fun ρ P => po ρ fun d => tyD T d ∧ t ρ fun ds => w d ds P
def pBM0 (T : String) (w : D → DK → Prop) (po : PTE) : PTE := fun ρ P => po ρ fun d => tyD T d ∧ w d P
def mtS (X : Cx) (id : String) (w : D → List D → DK → Prop) : Prop :=
  ∃ r, MtR X id r ∧ ∀ d x ds xs F H P Q, Fits F H → RepT X.K F H d x → RepTs X.K F H ds xs → w d ds P → Kont X.K F H P Q → r x xs H Q
variable {o ex : Expr} {es' : List Expr} {name : Str} {T id : String} {w : D → List D → DK → Prop} {po : PTE} {t : PTA}
theorem e_bm (hm : mtS X id w) (pa : PlainAttrs T) (slot : Slot T name id) (hty : typeOf (.builtin id) = pure (.type "method_descriptor")) (ho : pr X o po) (ha : par X (ex :: es') t)
    (hbase : attributeBase o name X.env (eval o X.env) = eval o X.env := by rfl)
    (hfew : ((backTo cpos (starEach (ex :: es') X.env)).all (fun x => !x.1) && (backToKw cpos (keywordEach [] X.env)).all (fun x => x.1.isSome)
      && decide ((ex :: es').length + ([] : List Keyword).length + (if ([] : List Keyword).isEmpty then 0 else 1) < 30)) = true := by rfl)
    (hline : (apos.endLine == cpos.line) = true := by rfl) (hs : starEach (ex :: es') X.env = (false, eval ex X.env) :: starEach es' X.env := by rfl) (hplain : (backTo cpos (starEach es' X.env)).any (·.1) = false := by rfl) :
    pe X (.Call (.Attribute o name apos) (ex :: es') [] cpos) (pBM T w po t) := by
  obtain ⟨r, h, hr⟩ := hm
  exact PE_weak (pe_bm pa slot hty h ho ha hbase hfew hline hs hplain) fun σ H Q ⟨N, F, ρ, P, s, q, k⟩ => ⟨N, F, ρ, _, s, q, fun d v F1 H1 p1 x1 r1 => ⟨tyD_ok x1.fits r1 p1.1, N, F1, ρ, _, s.ext x1, p1.2, fun ds vs F2 H2 p2 x2 r2 =>
    hr d v ds vs F2 H2 P Q x2.fits (r1.ext x2 x1.fits) r2 p2 fun d' v' F' H' a b c => k d' v' F' H' a ((x1.then0 x2).then0 b) c⟩⟩
theorem e_bm0 {w : D → DK → Prop} (hm : mtS X id fun d ds P => ds = [] ∧ w d P) (pa : PlainAttrs T) (slot : Slot T name id) (hty : typeOf (.builtin id) = pure (.type "method_descriptor")) (ho : pr X o po)
    (hbase : attributeBase o name X.env (eval o X.env) = eval o X.env := by rfl) (hline : (apos.endLine == cpos.line) = true := by rfl) : pe X (.Call (.Attribute o name apos) [] [] cpos) (pBM0 T w po) := by
  obtain ⟨r, h, hr⟩ := hm
  exact PE_weak (pe_bm0 pa slot hty h ho hbase hline) fun σ H Q ⟨N, F, ρ, P, s, q, k⟩ => ⟨N, F, ρ, _, s, q, fun d v F1 H1 p1 x1 r1 => ⟨tyD_ok x1.fits r1 p1.1,
    hr d v [] [] F1 H1 P Q x1.fits r1 rfl ⟨rfl, p1.2⟩ fun d' v' F' H' a b c => k d' v' F' H' a (x1.then0 b) c⟩⟩
/-- one text -/
def s0W (g : Str → D) : D → DK → Prop
  | .str a, P => P (g a)
  | _, _ => False
def s1W (g : Str → Str → D) : D → List D → DK → Prop
  | .str a, [.str b], P => P (g a b)
  | _, _, _ => False
theorem repTs1 {xs : List V} (r : RepTs K F H [d] xs) : ∃ v, xs = [v] ∧ RepT K F H d v := by
  obtain ⟨v, q, rfl, h1, h2⟩ := r
  simp only [RepTs] at h2
  subst h2
  exact ⟨v, rfl, h1⟩
theorem s1W_inv {g : Str → Str → D} {x : V} {xs : List V} (h : s1W g d ds P) (r : RepT K F H d x) (rs : RepTs K F H ds xs) : ∃ a b, x = .str a ∧ xs = [.str b] ∧ P (g a b) := by
  cases d <;> try exact h.elim
  cases ds with
  | nil => exact h.elim
  | cons e ds =>
    cases e <;> try exact h.elim
    cases ds with
    | nil =>
      obtain ⟨v, rfl, rv⟩ := repTs1 rs
      exact ⟨_, _, r.str, by rw [rv.str], h⟩
    | cons _ _ => exact h.elim
theorem m_count : mtS X "str.count" (s1W fun a b => .int (Txt.count a b)) := ⟨_, mt_count, fun d x ds xs F H P Q f r rs h k => by
  obtain ⟨a, b, h1, h2, h3⟩ := s1W_inv h r rs
  exact ⟨a, b, h1, h2, k.int f h3⟩⟩
theorem m_find : mtS X "str.find" (s1W fun a b => .int (Txt.find a b)) := ⟨_, mt_find, fun d x ds xs F H P Q f r rs h k => by
  obtain ⟨a, b, h1, h2, h3⟩ := s1W_inv h r rs
  exact ⟨a, b, h1, h2, k.int f h3⟩⟩
theorem m_startswith : mtS X "str.startswith" (s1W fun a b => .bl (Txt.startswith a b)) := ⟨_, mt_startswith, fun d x ds xs F H P Q f r rs h k => by
  obtain ⟨a, b, h1, h2, h3⟩ := s1W_inv h r rs
  exact ⟨a, b, h1, h2, k.bl f h3⟩⟩
theorem m_endswith : mtS X "str.endswith" (s1W fun a b => .bl (Txt.endswith a b)) := ⟨_, mt_endswith, fun d x ds xs F H P Q f r rs h k => by
  obtain ⟨a, b, h1, h2, h3⟩ := s1W_inv h r rs
  exact ⟨a, b, h1, h2, k.bl f h3⟩⟩
theorem s0W_inv {g : Str → D} {x : V} (h : s0W g d P) (r : RepT K F H d x) : ∃ a, x = .str a ∧ P (g a) := by
  cases d <;> try exact h.elim
  exact ⟨_, r.str, h⟩
theorem m_isdigit : mtS X "str.isdigit" fun d ds P => ds = [] ∧ s0W (fun a => .bl (Txt.isdigit a)) d P := ⟨_, mt_isdigit, fun d x ds xs F H P Q f r rs h k => by
  obtain ⟨rfl, h⟩ := h
  simp only [RepTs] at rs
  obtain ⟨a, h1, h2⟩ := s0W_inv h r
  exact ⟨a, h1, rs, trivial, k.bl f h2⟩⟩
theorem m_isalpha : mtS X "str.isalpha" fun d ds P => ds = [] ∧ s0W (fun a => .bl (Txt.isalpha a)) d P := ⟨_, mt_isalpha, fun d x ds xs F H P Q f r rs h k => by
  obtain ⟨rfl, h⟩ := h
  simp only [RepTs] at rs
  obtain ⟨a, h1, h2⟩ := s0W_inv h r
  exact ⟨a, h1, rs, trivial, k.bl f h2⟩⟩
/-! sep.join(a list or tuple of texts) -/
def strsOf : List D → Option (List Str)
  | [] => some []
  | .str s :: ds => (strsOf ds).map (s :: ·)
  | _ => none
theorem strsOf_eq : ∀ {ds : List D} {ns : List Str}, strsOf ds = some ns → ds = ns.map D.str
  | [], ns, h => by cases h; rfl
  | d :: ds, ns, h => by
    cases d <;> try (cases h; done)
    simp only [strsOf, Option.map_eq_some_iff] at h
    obtain ⟨ms, h1, rfl⟩ := h
    rw [strsOf_eq h1]; rfl
theorem strsOf_map : ∀ ns : List Str, strsOf (ns.map D.str) = some ns
  | [] => rfl
  | n :: ns => by simp only [List.map_cons, strsOf, strsOf_map ns, Option.map_some]
theorem strsOf_nil : strsOf [] = some [] := id rfl
theorem strsOf_cons {s : Str} {ds : List D} : strsOf (.str s :: ds) = (strsOf ds).map (List.cons s) := id rfl
def joinD (a : Str) (P : DK) (ds : List D) : Prop := isSome (fun ys => (ys.map (·.length)).sum + ys.length * a.length ≤ 16777216 ∧ P (.str (Txt.join a ys))) (strsOf ds)
def joinW : D → List D → DK → Prop
  | .str a, [d], P => isSome (joinD a P) (asList d)
  | _, _, _ => False
theorem m_join : mtS X "str.join" joinW := ⟨_, mt_join, fun d x ds xs F H P Q f r rs h k => by
  cases d <;> try exact h.elim
  cases ds with
  | nil => exact h.elim
  | cons e ds =>
    cases ds with
    | cons _ _ => exact h.elim
    | nil =>
      obtain ⟨v, rfl, rv⟩ := repTs1 rs
      obtain ⟨zs, h1, h⟩ := isSome_inv h
      obtain ⟨ys, h2, h3, h4⟩ := isSome_inv h
      obtain ⟨p, us, rfl, hs, ru⟩ := rv.seq f h1
      rw [strsOf_eq h2] at ru
      cases Reps.strs ru
      exact ⟨_, p, ys, r.str, rfl, hs, h3, k.str f h4⟩⟩
/-! xs.count(y), flat items -/
def rCntF (K : Fg) : V → List V → Hp → VK → Prop := fun x xs H Q => ∃ (p : Addr) (zs : List V) (y : V), x = .ref p ∧ xs = [y] ∧ SqL K H p zs ∧ flatV y = true ∧ zs.all flatV = true ∧ Q (.int (zs.countP fun z => eqV z y : Nat)) H
theorem count_eqU {x : V} : ∀ {xs : List V} {us : List Value}, Vals xs us → xs.all flatV = true → us.countP (eqU x) = xs.countP fun y => eqV y x
  | [], _, .nil, _ => rfl
  | z :: zs, _, .cons r rs, h => by
    simp only [List.all_cons, Bool.and_eq_true] at h
    simp only [List.countP_cons, eqU_of r h.1, count_eqU rs h.2]
theorem mt_lcountF : MtR X "list.count" (rCntF X.K) := by
  intro pins s σ H x xs v us Q I rx rxs h
  obtain ⟨p, zs, y, rfl, rfl, hs, fy, fz, q⟩ := h
  cases rx
  obtain ⟨u, rfl, ru⟩ := rxs.one
  obtain ⟨its, rv, ⟨⟨cls, dd, data, sl⟩, n, ho, hc, hdn, hd⟩, hlen⟩ := I.list hs
  simp only at hc hd
  subst hc hd
  refine PySem.call_meets PySem.F.slot_list_count ⟨_, ho, rfl⟩ PySem.F.entry_list_count (PySem.F.args_list_count_2 _ _)
    (SeqAt.list_countAt p its.toArray n dd sl u (eqU y)) ⟨ho, fun z hz => mem_eqAt ru fy rv fz z (by simpa using hz), ?_⟩
  refine ⟨.int (zs.countP fun z => eqV z y : Nat), H, I.tok _, ⟨s.toks, ?_⟩, q⟩
  show Value.int ((its.toArray.toList.countP (eqU y) : Nat) : Int) s.toks = Value.int _ s.toks
  rw [show its.toArray.toList = its from rfl, count_eqU rv fz]
def lcountW : D → List D → DK → Prop
  | .lst zs, [y], P => y.flat = true ∧ zs.all D.flat = true ∧ P (.int ((zs.map D.toV).countP fun z => eqV z y.toV : Nat))
  | .klst zs, [y], P => y.flat = true ∧ zs.all D.flat = true ∧ P (.int ((zs.map D.toV).countP fun z => eqV z y.toV : Nat))
  | _, _, _ => False
theorem m_lcount : mtS X "list.count" lcountW := ⟨_, mt_lcountF, fun d x ds xs F H P Q f r rs h k => by
  have go : ∀ (p : Addr) (us : List V) (zs : List D) (y : D) (v : V), x = .ref p → xs = [v] → SqL X.K H p us → Reps X.K F zs us → RepT X.K F H y v → y.flat = true ∧ zs.all D.flat = true ∧ P (.int ((zs.map D.toV).countP fun z => eqV z y.toV : Nat)) → rCntF X.K x xs H Q := fun p us zs y v ex exs hs ru ry ⟨h1, h2, h3⟩ => by
    obtain ⟨e1, f1⟩ := flat_rep h1 ry
    obtain ⟨e2, f2⟩ := flats_rep h2 ru
    subst e1
    exact ⟨p, us, _, ex, exs, hs, f1, f2, by rw [e2]; exact k.int f h3⟩
  cases d <;> try exact h.elim
  · cases ds with
    | nil => exact h.elim
    | cons y ds =>
      cases ds with
      | cons _ _ => exact h.elim
      | nil =>
        obtain ⟨v, rfl, rv⟩ := repTs1 rs
        obtain ⟨p, us, rfl, h1, q⟩ := r.lst f
        exact go p us _ y v rfl rfl (SqL.of h1) q rv h
  · cases ds with
    | nil => exact h.elim
    | cons y ds =>
      cases ds with
      | cons _ _ => exact h.elim
      | nil =>
        obtain ⟨v, rfl, rv⟩ := repTs1 rs
        obtain ⟨p, us, rfl, h1, q⟩ := r.klst f
        exact go p us _ y v rfl rfl h1 q rv h⟩
/-! ### a dict of the module with text keys -/
def entsIn (K : Fg) : List Str → List D → List DictEntry → Bool
  | [], [], [] => true
  | k :: ks, d :: ds, e :: es => (match e.key with | .str x _ => decide (x = k) | _ => false) && repIn K d e.val && entsIn K ks ds es
  | _, _, _ => false
structure KTab (K : Fg) (w : World) (a : Addr) (ks : List Str) (ds : List D) : Prop where
  ex : ∃ es n, K.lookup a = some ⟨.type "dict", none, .dict es n, #[]⟩ ∧ PySem.W.KeysLit w.params es.toList ∧ (a == sysModules) = false ∧ entsIn K ks ds es.toList = true
theorem find_ents {x : Str} : ∀ {ks : List Str} {ds : List D} {es : List DictEntry}, entsIn K ks ds es = true →
    match lookN x ks ds with
    | none => (es.find? fun e => PySem.Value.isStrOf x e.key).map (·.val) = none
    | some d => ∃ u, (es.find? fun e => PySem.Value.isStrOf x e.key).map (·.val) = some u ∧ repIn K d u = true
  | [], [], [], _ => rfl
  | k :: ks, d :: ds, e :: es, h => by
    simp only [entsIn, Bool.and_eq_true] at h
    obtain ⟨⟨h1, h2⟩, h3⟩ := h
    have ih := find_ents (x := x) h3
    rw [lookN_cons]
    split at h1
    · rename_i y t ey
      have ek : y = k := of_decide_eq_true h1
      by_cases q : x = k
      · rw [if_pos q]
        refine ⟨e.val, ?_, h2⟩
        rw [List.find?_cons_of_pos]
        · rfl
        · rw [ey]; show (y == x) = true; rw [ek, q]; exact beq_self_eq_true k
      · rw [if_neg q, List.find?_cons_of_neg]
        · exact ih
        · rw [ey]; show ¬ (y == x) = true; rw [ek]; intro z; exact q (beq_iff_eq.mp z).symm
    · cases h1
theorem KTab.find {w : World} {ks : List Str} (T : KTab K w a ks ds) {h : Heap} (X : K.In h) {prog : Program} (x : Str) : ∃ f, h.MapOf (strKind prog w) a f ∧ (a == sysModules) = false ∧ match lookN x ks ds with
    | none => f x = none
    | some d => ∃ u, f x = some u ∧ repIn K d u = true := by
  obtain ⟨es, n, h1, h2, h3, h4⟩ := T.ex
  refine ⟨_, PySem.W.mapOf_K (prog := prog) X h1 h2, h3, ?_⟩
  have := find_ents (x := x) h4
  obtain ⟨l⟩ := es
  unfold findBy
  rw [List.find?_toArray]
  exact this
theorem KTab.noDict {w : World} {ks : List Str} (T : KTab K w a ks ds) {h : Heap} (X : K.In h) : ∀ b, Value.ref a = .ref b → ∃ ob, h.get? b = some ob ∧ ob.dict = none := fun b e => by
  cases e
  obtain ⟨es, n, h1, h2, h3, h4⟩ := T.ex
  exact ⟨_, X _ _ h1, rfl⟩
def isStr (P : Str → Prop) : D → Prop
  | .str z => P z
  | _ => False
theorem isStr_inv {P : Str → Prop} {z : D} (h : isStr P z) : ∃ k, z = .str k ∧ P k := by
  cases z <;> first | exact h.elim | exact ⟨_, rfl, h⟩
/-- C.get(e, f), C a dict of the module -/
def pGetK (ks : List Str) (ds : List D) (p q : PTE) : PTE := fun ρ P => p ρ (isStr fun z => q ρ fun d => P ((lookN z ks ds).getD d))
def pGetK1 (ks : List Str) (ds : List D) (p : PTE) : PTE := fun ρ P => p ρ (isStr fun z => P ((lookN z ks ds).getD .non))
def tKGet (K : Fg) (ks : List Str) (ds : List D) (te tf : TE) : TE := fun σ H Q => te σ H fun x H1 => ∃ z, x = .str z ∧ tf σ H1 fun y H2 => ∀ r, (match lookN z ks ds with | none => r = y | some d => ∀ F, Rep K F d r) → Q r H2
theorem pe_kget {o e f : Expr} {apos cpos : Pos} {ks : List Str} {te tf : TE} (ho : PE X o (tC (.ref a))) (kt : KTab X.K X.w a ks ds) (he : PE X e te) (hf : PE X f tf) (m : M2 X o "get" apos e f cpos) : PE X (.Call (.Attribute o "get" apos) [e, f] [] cpos) (tKGet X.K ks ds te tf) := by
  refine ⟨fun pins s σ H Q I h => ?_⟩
  refine wpAny_Call_method m.base m.few m.line PySem.F.plainAttrs_dict PySem.F.slot_dict_get PySem.F.type_dict_get (thn (ho.run pins s σ H (fun x H1 => x = .ref a ∧ H1 = H) I ⟨rfl, rfl⟩) fun u s1 ⟨x, H1, I1, rx, ex, eH⟩ => ?_)
  subst ex
  subst eH
  obtain rfl : u = Value.ref a := rx
  obtain ⟨_, hm0, _⟩ := kt.find I1.kIn (prog := X.prog) ""
  refine ⟨hm0.typeIs, kt.noDict I1.kIn, ?_⟩
  rw [m.trees]
  refine Calls.callWith_builtin rfl (Calls.evalArgs_plain (Calls.spliced_cons (thn (he.run pins s1 σ H1 _ I1 h) fun iv s2 ⟨y, H2, I2, ry, z, ey, q2⟩ =>
    Calls.spliced_cons (thn (hf.run pins s2 σ H2 _ I2 q2) fun fv s3 ⟨g, H3, I3, rg, q3⟩ => Calls.spliced_nil ?_))))
  subst ey
  obtain ⟨t, rfl⟩ := (show ∃ t, iv = Value.str z t from ry)
  obtain ⟨fn, hm, hsys, hl⟩ := kt.find I3.kIn (prog := X.prog) z
  refine PySem.call_meetsIn PySem.F.slot_dict_get hm.typeIs PySem.F.entry_dict_get (PySem.F.args_dict_get_3 _ _ _) (meets_dict_get_default (strKind X.prog X.w) a (strKind_is X.prog X.w z t) hsys fv) ⟨fn, hm, ?_⟩
  cases e1 : lookN z ks ds with
  | none =>
    rw [e1] at hl q3
    have hl : fn z = none := hl
    rw [hl]
    exact ⟨g, H3, I3.tok _, rg, q3 g rfl⟩
  | some d =>
    rw [e1] at hl q3
    obtain ⟨u, hu, hr⟩ := (show ∃ u, fn z = some u ∧ repIn X.K d u = true from hl)
    rw [hu]
    obtain ⟨v, h1, h2⟩ := repIn_ok hr
    exact ⟨v, H3, I3.tok _, h1, q3 v h2⟩
theorem e_getK {o e f : Expr} {apos cpos : Pos} {ks : List Str} {p q : PTE} (ho : PE X o (tC (.ref a))) (kt : KTab X.K X.w a ks ds) (he : pr X e p) (hf : pe X f q) (m : M2 X o "get" apos e f cpos := by exact ⟨rfl, rfl, rfl, rfl⟩) : pe X (.Call (.Attribute o "get" apos) [e, f] [] cpos) (pGetK ks ds p q) :=
  PE_weak (pe_kget ho kt he hf m) fun σ H Q ⟨N, F, ρ, P, s, h, k⟩ => ⟨N, F, ρ, _, s, h, fun d v F1 H1 p1 x1 r1 => by
    obtain ⟨z, rfl, p1⟩ := isStr_inv p1
    refine ⟨z, r1.str, N, F1, ρ, _, s.ext x1, p1, fun d2 v2 F2 H2 p2 x2 r2 w hw => ?_⟩
    cases e1 : lookN z ks ds with
    | none =>
      rw [e1] at hw p2
      have hw : w = v2 := hw
      subst hw
      exact k _ _ _ _ p2 (x1.then0 x2) r2
    | some d3 =>
      rw [e1] at hw p2
      exact k _ _ _ _ p2 (x1.then0 x2) (hw F2)⟩
theorem pe_globA {x : Str} {pos : Pos} (hm : X.mg x = some (.ref a)) (hg : Gl X x := by rfl) (hd : (x == ("__debug__" : Str)) = false := by decide) : PE X (.Name x pos) (tC (.ref a)) := pe_glob hg hm rfl hd
theorem isStr_str {P : Str → Prop} : isStr P (.str z) = P z := id rfl
theorem tyD_str : tyD "str" (.str z) = True := by simp [tyD]
theorem tyD_lst : tyD "list" (.lst ds) = True := by simp [tyD]
theorem tyD_klst : tyD "list" (.klst ds) = True := by simp [tyD]
theorem s1W_str {g : Str → Str → D} {b : Str} : s1W g (.str z) [.str b] P = P (g z b) := id rfl
theorem s0W_str {g : Str → D} : s0W g (.str z) P = P (g z) := id rfl
theorem joinW_str : joinW (.str z) [d] P = isSomeD (joinD z P) Tg.mk (asList d) := id rfl
theorem joinD_eq : joinD z P ds = isSomeD (fun ys => (ys.map (·.length)).sum + ys.length * z.length ≤ 16777216 ∧ P (.str (Txt.join z ys))) Tg.mk (strsOf ds) := id rfl
theorem lcountW_lst : lcountW (.lst ds) [d] P = (d.flat = true ∧ ds.all D.flat = true ∧ P (.int ((ds.map D.toV).countP fun z => eqV z d.toV : Nat))) := id rfl
theorem lcountW_klst : lcountW (.klst ds) [d] P = (d.flat = true ∧ ds.all D.flat = true ∧ P (.int ((ds.map D.toV).countP fun z => eqV z d.toV : Nat))) := id rfl
end
end Pu
namespace Pu
open PySem PySem.Spec L2
/-! ### <, <=, >, >= of ints, texts, and tuples of such -/
/-- an operator on ints and texts, and on lengths -/
structure Ord where
  i : Int → Int → Bool
  s : Str → Str → Bool
  n : Nat → Nat → Bool
def ordLt : Ord := ⟨fun i j => decide (i < j), fun i j => decide (i.cps.toList < j.cps.toList), fun i j => decide (i < j)⟩
def ordLe : Ord := ⟨fun i j => decide (i ≤ j), fun i j => !decide (j.cps.toList < i.cps.toList), fun i j => decide (i ≤ j)⟩
def ordGt : Ord := ⟨fun i j => decide (j < i), fun i j => decide (j.cps.toList < i.cps.toList), fun i j => decide (i > j)⟩
def ordGe : Ord := ⟨fun i j => decide (j ≤ i), fun i j => !decide (i.cps.toList < j.cps.toList), fun i j => decide (i ≥ j)⟩
def Ord.g (o : Ord) : D → D → Bool
  | .int i, .int j => o.i i j
  | .str i, .str j => o.s i j
  | _, _ => false
def cmpP : D → D → Bool
  | .int _, .int _ => true
  | .str _, .str _ => true
  | _, _ => false
def cmpPs : List D → List D → Bool
  | d :: ds, e :: es => cmpP d e && cmpPs ds es
  | _, _ => true
/-- items one by one; z: the lengths' answer -/
def lexB (o : Ord) (z : Bool) : List D → List D → Bool
  | d :: ds, e :: es => if eqV d.toV e.toV = true then lexB o z ds es else o.g d e
  | _, _ => z
def Ord.w (o : Ord) : D → D → DK → Prop
  | .int i, .int j, P => P (.bl (o.i i j))
  | .str i, .str j, P => P (.bl (o.s i j))
  | .tup ds, .tup es, P => ds.all D.flat = true ∧ es.all D.flat = true ∧ cmpPs ds es = true ∧ P (.bl (lexB o (o.n ds.length es.length) ds es))
  | _, _, _ => False
section
variable {X : Cx} {K : Fg} {F F' : FS} {H H' : Hp} {ds es : List D} {d e : D} {P : DK}
def rTp (X : Cx) (o : Ord) : R2 := fun x y H Q => ∃ a b ds es, x = .ref a ∧ y = .ref b ∧ SqT X.K H a (List.map D.toV ds) ∧ SqT X.K H b (List.map D.toV es) ∧ ds.all D.flat = true ∧ es.all D.flat = true ∧ cmpPs ds es = true ∧ Q (.bl (lexB o (o.n ds.length es.length) ds es)) H
/-- the program's side of such an operator -/
structure OrdS (X : Cx) (op : CmpOp) (o : Ord) : Prop where
  i : OpR X (compareOp op) (rI0 fun i j => .bl (o.i i j))
  s : OpR X (compareOp op) (fun x y H Q => ∃ i j, x = .str i ∧ y = .str j ∧ Q (.bl (o.s i j)) H)
  t : OpR X (compareOp op) (rTp X o)
theorem o_ord {op : CmpOp} {o : Ord} (h : OrdS X op o) : opS X (compareOp op) o.w :=
  ⟨_, (h.i.or h.s).or h.t, fun d e x y F H P Q f r1 r2 h k => by
    cases d <;> try exact h.elim
    · cases e <;> try exact h.elim
      exact .inl (.inl ⟨_, _, r1.int, r2.int, k.bl f h⟩)
    · cases e <;> try exact h.elim
      exact .inl (.inr ⟨_, _, r1.str, r2.str, k.bl f h⟩)
    · cases e <;> try exact h.elim
      obtain ⟨h1, h2, h3, h5⟩ := h
      obtain ⟨a, vs, rfl, q1, q2⟩ := r1.tup f
      obtain ⟨b, us, rfl, q3, q4⟩ := r2.tup f
      have e1 := (flats_rep h1 q2).1
      have e2 := (flats_rep h2 q4).1
      subst e1
      subst e2
      exact .inr ⟨a, b, _, _, rfl, rfl, q1, q3, h1, h2, h3, k.bl f h5⟩⟩
theorem flat_toV : ∀ {d : D}, d.flat = true → flatV d.toV = true
  | .non, _ => rfl
  | .bl _, _ => rfl
  | .int _, _ => rfl
  | .str _, _ => rfl
/-- the walk over both tuples is that of the lists -/
theorem lex_eq {o : Ord} {z : Bool} {e r : Nat → Bool} : ∀ {ds es : List D} (i : Nat),
    (∀ (j : Nat) (d g : D), ds[j]? = some d → es[j]? = some g → e (i + j) = eqV d.toV g.toV) → (∀ (j : Nat) (d g : D), ds[j]? = some d → es[j]? = some g → r (i + j) = o.g d g) →
    Ob.lexAt e r z i (min ds.length es.length) = lexB o z ds es
  | [], es, i, _, _ => by simp [lexB, Ob.lexAt]
  | d :: ds, [], i, _, _ => by simp [lexB, Ob.lexAt]
  | d :: ds, g :: es, i, he, hr => by
    have e0 := he 0 d g rfl rfl
    have r0 := hr 0 d g rfl rfl
    rw [Nat.add_zero] at e0 r0
    rw [show min (d :: ds).length (g :: es).length = min ds.length es.length + 1 by simp only [List.length_cons]; omega, Ob.lexAt_succ, e0, r0]
    simp only [lexB]
    by_cases q : eqV d.toV g.toV = true
    · rw [if_pos q, if_pos q]
      exact lex_eq (i + 1) (fun j d' g' h1 h2 => by have := he (j + 1) d' g' h1 h2; rwa [show i + (j + 1) = i + 1 + j by omega] at this) (fun j d' g' h1 h2 => by
        have := hr (j + 1) d' g' h1 h2; rwa [show i + (j + 1) = i + 1 + j by omega] at this)
    · rw [if_neg q, if_neg q]
theorem cmpPs_at : ∀ {ds es : List D}, cmpPs ds es = true → ∀ (j : Nat) (d g : D), ds[j]? = some d → es[j]? = some g → cmpP d g = true
  | [], _, _, _, _, _, h, _ => by simp at h
  | d :: ds, [], _, _, _, _, _, h => by simp at h
  | d :: ds, g :: es, h, 0, d', g', h1, h2 => by
    cases h1; cases h2
    simp only [cmpPs, Bool.and_eq_true] at h
    exact h.1
  | d :: ds, g :: es, h, j + 1, d', g', h1, h2 => by
    simp only [cmpPs, Bool.and_eq_true] at h
    exact cmpPs_at h.2 j d' g' h1 h2
/-- two tuples, by what holds of two ints and of two texts -/
theorem tp_op {op : CmpOp} {o : Ord} (ht : ∀ {A : Around} {s : Shared} {l b : Addr} {items items2 : Array Value} {e r : Nat → Bool}, s.heap.IsTuple l items → s.heap.IsTuple b items2 → A.units < cLine →
      (∀ j (h1 : j < items.size) (h2 : j < items2.size), SeqAt.EqAt A.in1 s items[j] items2[j] (e j)) →
      (∀ j (h1 : j < items.size) (h2 : j < items2.size), e j = false → Ob.RcOp op A.in1 s items[j] items2[j] (r j)) →
      Ob.RcOp op A s (.ref l) (.ref b) (Ob.lexAt e r (o.n items.size items2.size) 0 (min items.size items2.size)))
    (hi : ∀ {A : Around} {s : Shared} (a b : Int) (t u : Tok), Ob.RcOp op A s (.int a t) (.int b u) (o.i a b))
    (hs : ∀ {A : Around} {s : Shared} (a b : Str) (t u : Tok), Ob.RcOp op A s (.str a t) (.str b u) (o.s a b))
    (hc : ∀ {M : Model} {A : Around} {x y : Value} {Q E s}, wpAny M A (richCompare op x y) Q E s → wpAny M A (compareOp op x y) Q E s)
    (hu : X.A.units < cLine) : OpR X (compareOp op) (rTp X o) := by
  intro pins s σ H x y v u Q I rx ry h
  obtain ⟨a, b, ds, es, rfl, rfl, ha, hb, f1, f2, hcm, q⟩ := h
  cases rx
  cases ry
  obtain ⟨its, r1, p1, _⟩ := I.tuple ha
  obtain ⟨its2, r2, p2, _⟩ := I.tuple hb
  have l1 : its.length = ds.length := by have := r1.length; simpa using this.symm
  have l2 : its2.length = es.length := by have := r2.length; simpa using this.symm
  have at1 : ∀ j (h1 : j < its.toArray.size), ∃ d, ds[j]? = some d ∧ d.flat = true ∧ RelV d.toV its.toArray[j] := fun j h1 => by
    have h1' : j < its.length := by simpa using h1
    have hj : ds[j]? = some (ds[j]'(by omega)) := List.getElem?_eq_getElem (by omega)
    refine ⟨_, hj, List.all_eq_true.mp f1 _ (List.getElem_mem _), ?_⟩
    obtain ⟨u, hu, ru⟩ := r1.get (i := j) (x := (ds[j]'(by omega)).toV) (by rw [List.getElem?_map, hj]; rfl)
    rw [List.getElem?_eq_getElem h1'] at hu
    cases hu
    simpa using ru
  have at2 : ∀ j (h1 : j < its2.toArray.size), ∃ d, es[j]? = some d ∧ d.flat = true ∧ RelV d.toV its2.toArray[j] := fun j h1 => by
    have h1' : j < its2.length := by simpa using h1
    have hj : es[j]? = some (es[j]'(by omega)) := List.getElem?_eq_getElem (by omega)
    refine ⟨_, hj, List.all_eq_true.mp f2 _ (List.getElem_mem _), ?_⟩
    obtain ⟨u, hu, ru⟩ := r2.get (i := j) (x := (es[j]'(by omega)).toV) (by rw [List.getElem?_map, hj]; rfl)
    rw [List.getElem?_eq_getElem h1'] at hu
    cases hu
    simpa using ru
  have R := ht (A := X.A) (s := s) (l := a) (b := b) (items := its.toArray) (items2 := its2.toArray) (e := fun j => eqV ((ds[j]?.getD .non).toV) ((es[j]?.getD .non).toV)) (r := fun j => o.g (ds[j]?.getD .non) (es[j]?.getD .non)) p1 p2 hu (fun j h1 h2 => by
    obtain ⟨d, e1, g1, q1⟩ := at1 j h1
    obtain ⟨g, e2, g2, q2⟩ := at2 j h2
    simp only [e1, e2, Option.getD_some]
    exact eqAt_V q1 q2 (flat_toV g1) (flat_toV g2)) (fun j h1 h2 _ => by
    obtain ⟨d, e1, g1, q1⟩ := at1 j h1
    obtain ⟨g, e2, g2, q2⟩ := at2 j h2
    simp only [e1, e2, Option.getD_some]
    have cp := cmpPs_at hcm j d g e1 e2
    cases d <;> try (cases cp; done)
    · cases g <;> try (cases cp; done)
      obtain ⟨t, et⟩ := (show ∃ t, its.toArray[j] = Value.int _ t from q1)
      obtain ⟨t', et'⟩ := (show ∃ t, its2.toArray[j] = Value.int _ t from q2)
      rw [et, et']
      exact hi _ _ _ _
    · cases g <;> try (cases cp; done)
      obtain ⟨t, et⟩ := (show ∃ t, its.toArray[j] = Value.str _ t from q1)
      obtain ⟨t', et'⟩ := (show ∃ t, its2.toArray[j] = Value.str _ t from q2)
      rw [et, et']
      exact hs _ _ _ _)
  rw [show its.toArray.size = ds.length by simpa using l1, show its2.toArray.size = es.length by simpa using l2, lex_eq (o := o) 0 (fun j d g h1 h2 => by simp [h1, h2]) (fun j d g h1 h2 => by simp [h1, h2])] at R
  exact hc (R X.prog X.w X.xe (EP X pins σ Q) ⟨.bl _, H, I, rfl, q⟩)
theorem o_ltX (hu : X.A.units + 65 < cLine) : opS X (compareOp .Lt) ordLt.w := o_ord ⟨op_lt, op_lt_str, tp_op (o := ordLt) (fun a b c d e => Ob.RcOp.tuples_lt a b c d e) (fun a b t u => Ob.RcOp.lt_int a b t u) (fun a b t u _ _ _ _ h => PyProof.Rows.lt_str h) (fun h => h) (by omega)⟩
theorem o_leX (hu : X.A.units + 65 < cLine) : opS X (compareOp .LtE) ordLe.w := o_ord ⟨op_le, op_le_str, tp_op (o := ordLe) (fun a b c d e => Ob.RcOp.tuples_le a b c d e) (fun a b t u => Ob.RcOp.le_int a b t u) (fun a b t u _ _ _ _ h => PySem.P.le_str h) (fun h => h) (by omega)⟩
theorem o_gtX (hu : X.A.units + 65 < cLine) : opS X (compareOp .Gt) ordGt.w := o_ord ⟨op_gt, op_gt_str, tp_op (o := ordGt) (fun a b c d e => Ob.RcOp.tuples_gt a b c d e) (fun a b t u => Ob.RcOp.gt_int a b t u) (fun a b t u _ _ _ _ h => PySem.P.gt_str h) (fun h => h) (by omega)⟩
theorem o_geX (hu : X.A.units + 65 < cLine) : opS X (compareOp .GtE) ordGe.w := o_ord ⟨op_ge, op_ge_str, tp_op (o := ordGe) (fun a b c d e => Ob.RcOp.tuples_ge a b c d e) (fun a b t u => Ob.RcOp.ge_int a b t u) (fun a b t u _ _ _ _ h => PySem.P.ge_str h) (fun h => h) (by omega)⟩
abbrev ltX := ordLt.w
abbrev leX := ordLe.w
abbrev gtX := ordGt.w
abbrev geX := ordGe.w
theorem ltX_int {i j : Int} : ordLt.w (.int i) (.int j) P = P (.bl (decide (i < j))) := id rfl
theorem leX_int {i j : Int} : ordLe.w (.int i) (.int j) P = P (.bl (decide (i ≤ j))) := id rfl
theorem gtX_int {i j : Int} : ordGt.w (.int i) (.int j) P = P (.bl (decide (j < i))) := id rfl
theorem geX_int {i j : Int} : ordGe.w (.int i) (.int j) P = P (.bl (decide (j ≤ i))) := id rfl
theorem ltX_str {i j : Str} : ordLt.w (.str i) (.str j) P = P (.bl (decide (i.cps.toList < j.cps.toList))) := id rfl
theorem ltX_tup : ordLt.w (.tup ds) (.tup es) P = (ds.all D.flat = true ∧ es.all D.flat = true ∧ cmpPs ds es = true ∧ P (.bl (lexB ordLt (ordLt.n ds.length es.length) ds es))) := id rfl
theorem leX_tup : ordLe.w (.tup ds) (.tup es) P = (ds.all D.flat = true ∧ es.all D.flat = true ∧ cmpPs ds es = true ∧ P (.bl (lexB ordLe (ordLe.n ds.length es.length) ds es))) := id rfl
theorem gtX_tup : ordGt.w (.tup ds) (.tup es) P = (ds.all D.flat = true ∧ es.all D.flat = true ∧ cmpPs ds es = true ∧ P (.bl (lexB ordGt (ordGt.n ds.length es.length) ds es))) := id rfl
theorem geX_tup : ordGe.w (.tup ds) (.tup es) P = (ds.all D.flat = true ∧ es.all D.flat = true ∧ cmpPs ds es = true ∧ P (.bl (lexB ordGe (ordGe.n ds.length es.length) ds es))) := id rfl
theorem inW_ch {b : Bool} {k : Nat} {z : Str} : inW b (.str ⟨#[k]⟩) (.str z) P = P (.bl (b != decide (k ∈ z.cps.toList))) := by
  refine propext ⟨fun ⟨k', e, h⟩ => ?_, fun h => ⟨k, rfl, h⟩⟩
  have : k = k' := by simpa using e
  subst this
  exact h
end
end Pu
/-! lists whose parts are lists of their own -/
namespace Pu
open PySem PySem.Spec L2 StX
def atO2 (P : Bool → List (Bool × D) → Prop) : Option (Option Sl) → Prop
  | some (some (.o2 b .lst cs)) => P b cs
  | _ => False
theorem atO2_inv {P : Bool → List (Bool × D) → Prop} {x : Option (Option Sl)} (h : atO2 P x) : ∃ b cs, x = some (some (.o2 b .lst cs)) ∧ P b cs := by
  match x, h with
  | some (some (.o2 b .lst cs)), h => exact ⟨b, cs, rfl, h⟩
def atO2D (P : Bool → List (Bool × D) → Prop) (_ : Tg P) : Option (Option Sl) → Prop := atO2 P
theorem r_atO2 {P : Bool → List (Bool × D) → Prop} {x : Option (Option Sl)} : atO2 P x = atO2D P Tg.mk x := rfl
theorem atO2_o2 {P : Bool → List (Bool × D) → Prop} {t : Tg P} {b : Bool} {cs : List (Bool × D)} : atO2D P t (some (some (.o2 b .lst cs))) = P b cs := id rfl
/-- a part that is a list of its own -/
def atKid (P : List D → Prop) : Option (Bool × D) → Prop
  | some (true, .lst ds) => P ds
  | _ => False
theorem atKid_inv {P : List D → Prop} {x : Option (Bool × D)} (h : atKid P x) : ∃ ds, x = some (true, .lst ds) ∧ P ds := by
  match x, h with
  | some (true, .lst ds), h => exact ⟨ds, rfl, h⟩
def atKidD (P : List D → Prop) (_ : Tg P) : Option (Bool × D) → Prop := atKid P
theorem r_atKid {P : List D → Prop} {x : Option (Bool × D)} : atKid P x = atKidD P Tg.mk x := rfl
theorem atKid_l {P : List D → Prop} {t : Tg P} {ds : List D} : atKidD P t (some (true, .lst ds)) = P ds := id rfl
section
variable {X : Cx} {pos : Pos} {K : Fg} {F F' F1 : FS} {H H' H1 : Hp} {i : Nat} {s : Str} {ds es : List D} {d e : D} {P : DK} {ρ : Env} {σ : L2.St} {B : Bas} {a : Addr} {c : Bool} {vs : List V} {N : Bool → Addr → Prop} {cs : List (Bool × D)}
structure Kids (K : Fg) (N : Bool → Addr → Prop) (F : FS) (H : Hp) (a : Addr) (cs : List (Bool × D)) (vs : List V) : Prop where
  len : vs.length = cs.length
  ok : ∀ (i : Nat) e d x, cs[i]? = some (e, d) → vs[i]? = some x → KidOk K N F H a e d x
  inj : ∀ (i j : Nat) d d' y, cs[i]? = some (true, d) → cs[j]? = some (true, d') → vs[i]? = some (V.ref y) → vs[j]? = some (V.ref y) → i = j
theorem own_o2 (s : Stt K N F ρ σ H) (h : ρ[i]? = some (some (.o2 c .lst cs))) : ∃ a vs, σ[i]? = some (some (.ref a)) ∧ N c a ∧ F.fz a = none ∧ F.iv a = none ∧ H a = some (.lst vs) ∧ Kids K N F H a cs vs := by
  have hi := (List.getElem?_eq_some_iff.mp h).1
  have hi2 : i < σ.length := by rw [← s.len]; exact hi
  have h2 : σ[i]? = some σ[i] := List.getElem?_eq_getElem hi2
  obtain ⟨a, o, e, n, hz, hi, eo, is, hl, hk, hd⟩ := s.slot i _ _ h h2
  cases o <;> try exact is.elim
  rename_i vs
  exact ⟨a, vs, by rw [h2, e], n, hz, hi, eo, hl, hk, hd⟩
theorem o2_ok (e : H a = some (.lst vs)) (n : N c a) (hz : F.fz a = none) (hi : F.iv a = none) (k : Kids K N F H a cs vs) : SlotOk K N F H (some (.o2 c .lst cs)) (some (.ref a)) :=
  ⟨a, _, rfl, n, hz, hi, e, trivial, k.len, k.ok, k.inj⟩
theorem foot_o2 {ov : Option V} {y : Addr} (e : H a = some (.lst vs)) (f : Foot H (some (.o2 c .lst cs)) (some (.ref a)) y) : y = a ∨ ∃ (j : Nat) (d : D), cs[j]? = some (true, d) ∧ vs[j]? = some (V.ref y) := by
  rcases f with f | ⟨a', o, j, d, f1, f2, f3, f4⟩
  · cases f; exact .inl rfl
  · cases f1
    rw [e] at f2; cases f2
    exact .inr ⟨j, d, f3, f4⟩
/-- a write to what a slot owns -/
theorem FSt.upd_ext {p : Addr} {o : HO} (s : FSt K B F ρ σ H) (n : ∃ b, B.N b p) (hz : F.fz p = none) (hi : F.iv p = none) : Ext B.O B.F0 B.H0 F (upd H p o) := by
  obtain ⟨b, n⟩ := n
  refine ⟨s.ext.fz, s.ext.iv, fits_upd s.ext.fits hz hi, s.ext.nfz, s.ext.niv, fun q x eq => ?_, fun q eq => ?_⟩
  · by_cases z : q = p
    · subst z
      cases b with
      | true => have n : B.H0 q = none := n; rw [eq] at n; cases n
      | false => exact .inl n
    · rw [upd_ne z]; exact s.ext.keep q x eq
  · by_cases z : q = p
    · subst z; rw [upd_same] at eq; cases eq
    · rw [upd_ne z] at eq; exact s.ext.dom q eq
/-- slot i and what it owns change, by a write to p -/
theorem Stt.put_upd {p : Addr} {o : HO} {x0 x' : Option Sl} {v : V} (s : Stt K N F ρ σ H) (h : ρ[i]? = some x0) (e : σ[i]? = some (some v)) (hp : Foot H x0 (some v) p) (new : SlotOk K N F (upd H p o) x' (some v))
    (sub : ∀ y, Foot (upd H p o) x' (some v) y → Foot H x0 (some v) y ∨ ∀ (j : Nat) (x : Option Sl) (ov : Option V), ρ[j]? = some x → σ[j]? = some ov → ¬ Foot H x ov y) : Stt K N F (ρ.set i x') σ (upd H p o) := by
  obtain ⟨hz, hi, _, _⟩ := s.foot h e hp
  refine s.put i _ rfl (fun _ _ => rfl) (fits_upd s.fits hz hi) (Le.refl F) (fun j x ov y nj h1 h2 f => ?_) (fun ov h' => ?_) fun ov y j x ov' h' f nj h1 h2 f2 => ?_
  · obtain ⟨q1, q2, q3, _⟩ := s.foot h1 h2 f
    exact ⟨upd_ne (fun z => nj (s.disF j i _ _ _ _ y h1 h2 h e f (by rw [z]; exact hp))), q1, q2, fun _ n => n⟩
  · rw [e] at h'; cases h'
    exact new
  · rw [e] at h'; cases h'
    rcases sub y f with q | q
    · exact nj (s.disF j i _ _ _ _ y h1 h2 h e f2 q)
    · exact q j x ov' h1 h2 f2
/-! ### a list becomes one with parts -/
def qUp (i : Nat) (q : PTS) : PTS := fun PD ρ => atOwL (fun c ds => q PD (ρ.set i (some (.o2 c .lst (ds.map fun d => (false, d)))))) ρ[i]?
theorem kids_fz (r : Reps K F ds vs) : Kids K N F H a (ds.map fun d => (false, d)) vs := by
  refine ⟨by rw [List.length_map]; exact r.length, fun i e d x h1 h2 => ?_, fun i j d d' y h1 _ _ _ => ?_⟩
  · rw [List.getElem?_map] at h1
    cases e1 : ds[i]? with
    | none => rw [e1] at h1; cases h1
    | some d1 =>
      rw [e1] at h1; cases h1
      obtain ⟨v, q1, q2⟩ := r.get e1
      rw [h2] at q1; cases q1
      exact q2
  · rw [List.getElem?_map] at h1
    cases e1 : ds[i]? <;> rw [e1] at h1 <;> cases h1
theorem s_up (i : Nat) {st : List Stmt} {q : PTS} (h : pss X st q) : pss X st (qUp i q) :=
  PSs_weak h fun E σ H ⟨B, F, ρ, PD, s, q, e⟩ => by
    obtain ⟨c, ds, hd, p⟩ := atOwL_inv q
    obtain ⟨a, e1, n, hz, hi, vs, q1, q2⟩ := s.st.geto hd
    have k : Kids X.K B.N F H a (ds.map fun d => (false, d)) vs := kids_fz q2
    refine ⟨B, F, _, PD, ⟨s.ext, s.st.put i _ rfl (fun _ _ => rfl) s.st.fits (Le.refl F) (fun j x ov y nj h1 h2 f => ?_) (fun ov h' => ?_) fun ov y j x ov' h' f nj h1 h2 f2 => ?_⟩, p, e⟩
    · obtain ⟨z1, z2, _, _⟩ := s.st.foot h1 h2 f
      exact ⟨rfl, z1, z2, fun _ n => n⟩
    · rw [e1] at h'; cases h'
      exact o2_ok q1 n hz hi k
    · rw [e1] at h'; cases h'
      rcases foot_o2 (ov := none) q1 f with z | ⟨j', d', z, _⟩
      · subst z
        exact nj (s.st.disF j i _ _ _ _ y h1 h2 hd e1 f2 rfl)
      · rw [List.getElem?_map] at z
        cases e3 : ds[j']? <;> rw [e3] at z <;> cases z
/-! ### xs.append(a new list) -/
def qAppN (i : Nat) (p : PTE) : PTS := fun PD ρ => atO2 (fun c cs => p ρ fun d => cs.length < sizeLine ∧ PD.nx (ρ.set i (some (.o2 c .lst (cs ++ [(true, d)]))))) ρ[i]?
theorem kid_upd {L p : Addr} {e : Bool} {x : V} {o : HO} (k : KidOk K N F H L e d x) (h : x ≠ .ref p) : KidOk K N F (upd H p o) L e d x := by
  cases e with
  | false => exact k
  | true =>
    obtain ⟨y, e1, e2, e3, e4, e5, e6⟩ := k
    exact ⟨y, e1, e2, e3, e4, e5, e6.mono (Le.refl F) (upd_ne fun z => h (by rw [e1, z]))⟩
theorem kid_updL {L : Addr} {e : Bool} {x : V} {o : HO} (k : KidOk K N F H L e d x) : KidOk K N F (upd H L o) L e d x := by
  cases e with
  | false => exact k
  | true =>
    obtain ⟨y, e1, e2, e3, e4, e5, e6⟩ := k
    exact ⟨y, e1, e2, e3, e4, e5, e6.mono (Le.refl F) (upd_ne e2)⟩
theorem s_appN {i : Nat} {call : Expr} {p : PTE} (h : PE X call (tBM X.K "list" rAppend (tVar i) (tCons (Lf X.K p) tNil))) (hs : swapsWith call none pos.line X.env = pure false := by rfl) : ps X (.Expr call pos) (qAppN i p) := by
  refine PS_weak (ps_expr h hs) ?_
  rintro E σ H ⟨B, F, ρ, PD, s, q, e⟩
  obtain ⟨c, cs, h1, p⟩ := atO2_inv q
  obtain ⟨L, vs, q1, n, hz, hi, q2, k⟩ := own_o2 s.st h1
  refine ⟨.ref L, q1, .inl ⟨rfl, vs, SqL.of q2⟩, B.N, F, ρ, _, s.st, p, fun d a F1 H1 p1 x1 hn az ai ow => ?_⟩
  have s1 := s.go x1
  obtain ⟨L', vs', q1', n', hz', hi', q2', k'⟩ := own_o2 s1.st h1
  rw [q1] at q1'; cases q1'
  have feet : ∀ j x ov, ρ[j]? = some x → σ[j]? = some ov → ¬ Foot H1 x ov a := fun j x ov z1 z2 z3 => by
    have := (slot_ext (s.st.slot j x ov z1 z2) x1 s.st.fits).2 a z3
    exact (s.st.foot z1 z2 this).2.2.1 hn
  have aL : a ≠ L := fun z => by rw [z, q2] at hn; cases hn
  have old : ∀ (j : Nat) x, vs'[j]? = some x → (∃ d, cs[j]? = some (true, d)) → x ≠ .ref a := fun j x z1 ⟨d, z2⟩ z3 => by
    subst z3
    exact feet i _ _ h1 q1 (.inr ⟨L, _, j, d, rfl, q2', z2, z1⟩)
  have nk : Kids X.K B.N F1 (upd H1 L (.lst (vs' ++ [.ref a]))) L (cs ++ [(true, d)]) (vs' ++ [.ref a]) := by
    refine ⟨by simp [k'.len], fun j e d' x z1 z2 => ?_, fun j j' d1 d2 y z1 z2 z3 z4 => ?_⟩
    · by_cases hj : j < cs.length
      · rw [List.getElem?_append_left hj] at z1
        rw [List.getElem?_append_left (by rw [k'.len]; exact hj)] at z2
        exact kid_updL (k'.ok j e d' x z1 z2)
      · rw [List.getElem?_append_right (by omega)] at z1
        rw [List.getElem?_append_right (by rw [k'.len]; omega), k'.len] at z2
        have : j - cs.length = 0 := by
          by_cases w : j - cs.length = 0
          · exact w
          · rw [List.getElem?_eq_none (by simp; omega)] at z1; cases z1
        rw [this] at z1 z2
        cases z1; cases z2
        exact ⟨a, rfl, aL, s.ext.dom _ hn, az, ai, ow.mono (Le.refl F1) (upd_ne aL)⟩
    · by_cases hj : j < cs.length <;> by_cases hj' : j' < cs.length
      · rw [List.getElem?_append_left hj] at z1
        rw [List.getElem?_append_left hj'] at z2
        rw [List.getElem?_append_left (by rw [k'.len]; exact hj)] at z3
        rw [List.getElem?_append_left (by rw [k'.len]; exact hj')] at z4
        exact k'.inj j j' d1 d2 y z1 z2 z3 z4
      · rw [List.getElem?_append_left hj] at z1
        rw [List.getElem?_append_left (by rw [k'.len]; exact hj)] at z3
        rw [List.getElem?_append_right (by rw [k'.len]; omega)] at z4
        have : j' - vs'.length = 0 := by
          by_cases w : j' - vs'.length = 0
          · exact w
          · rw [List.getElem?_eq_none (by simp; omega)] at z4; cases z4
        rw [this] at z4; cases z4
        exact absurd rfl (old j _ z3 ⟨_, z1⟩)
      · rw [List.getElem?_append_left hj'] at z2
        rw [List.getElem?_append_left (by rw [k'.len]; exact hj')] at z4
        rw [List.getElem?_append_right (by rw [k'.len]; omega)] at z3
        have : j - vs'.length = 0 := by
          by_cases w : j - vs'.length = 0
          · exact w
          · rw [List.getElem?_eq_none (by simp; omega)] at z3; cases z3
        rw [this] at z3; cases z3
        exact absurd rfl (old j' _ z4 ⟨_, z2⟩)
      · have l1 := (List.getElem?_eq_some_iff.mp z1).1
        have l2 := (List.getElem?_eq_some_iff.mp z2).1
        simp at l1 l2
        omega
  refine ⟨L, vs', .ref a, rfl, rfl, q2', by rw [k'.len]; exact p1.1, e.nx F1 _ σ _ ⟨s1.upd_ext ⟨_, n'⟩ hz' hi', s1.st.put_upd h1 q1 (.inl rfl) (o2_ok upd_same n' hz' hi' nk) fun y f => ?_⟩ (x1.le s.ext.fits) p1.2⟩
  rcases foot_o2 (ov := none) upd_same f with z | ⟨j, d', z1, z2⟩
  · exact .inl (.inl (by rw [z]))
  · by_cases hj : j < cs.length
    · rw [List.getElem?_append_left hj] at z1
      rw [List.getElem?_append_left (by rw [k'.len]; exact hj)] at z2
      exact .inl (.inr ⟨L, _, j, d', rfl, q2', z1, z2⟩)
    · rw [List.getElem?_append_right (by rw [k'.len]; omega)] at z2
      have : j - vs'.length = 0 := by
        by_cases w : j - vs'.length = 0
        · exact w
        · rw [List.getElem?_eq_none (by simp; omega)] at z2; cases z2
      rw [this] at z2; cases z2
      exact .inr feet
/-! ### xs[k].append(e) -/
def kidAt (k : Int) (cs : List (Bool × D)) (P : Nat → List D → Prop) : Prop := isSome (fun j => atKid (P j) cs[j]?) (ixN cs.length k)
def qAppK (i : Nat) (pi p : PTE) : PTS := fun PD ρ => atO2 (fun c cs => pi ρ (isInt fun k => kidAt k cs fun j ds => p ρ fun d => ds.length < sizeLine ∧ PD.nx (ρ.set i (some (.o2 c .lst (cs.set j (true, .lst (ds ++ [d])))))))) ρ[i]?
theorem kids_set {k : Addr} {j : Nat} {o : HO} (q : Kids K N F H a cs vs) (hj : cs[j]? = some (true, d)) (hv : vs[j]? = some (.ref k)) (ow : OwnAt K F (upd H k o) k e) : Kids K N F (upd H k o) a (cs.set j (true, e)) vs := by
  obtain ⟨y, e1, ya, yn, yz, yi, yo⟩ := q.ok j true d _ hj hv
  cases e1
  refine ⟨by rw [List.length_set]; exact q.len, fun j' b d' x z1 z2 => ?_, fun j1 j2 d1 d2 y z1 z2 z3 z4 => ?_⟩
  · rcases get_set z1 with ⟨w, z⟩ | ⟨w, z⟩
    · subst w; cases z
      rw [hv] at z2; cases z2
      exact ⟨k, rfl, ya, yn, yz, yi, ow⟩
    · cases b with
      | true =>
        refine kid_upd (q.ok j' true d' x z z2) fun w2 => ?_
        subst w2
        exact w (q.inj j j' d d' k hj z hv z2)
      | false => exact q.ok j' false d' _ z z2
  · have g : ∀ (j1 : Nat) d1, (cs.set j (true, e))[j1]? = some (true, d1) → ∃ d1', cs[j1]? = some (true, d1') := fun j1 d1 z => by
      rcases get_set z with ⟨w, _⟩ | ⟨_, z⟩
      · subst w; exact ⟨_, hj⟩
      · exact ⟨_, z⟩
    obtain ⟨_, z1⟩ := g j1 d1 z1
    obtain ⟨_, z2⟩ := g j2 d2 z2
    exact q.inj j1 j2 _ _ y z1 z2 z3 z4
theorem Kids.get {j : Nat} (q : Kids K N F H a cs vs) (hj : cs[j]? = some (true, d)) : ∃ y, vs[j]? = some (.ref y) ∧ y ≠ a ∧ N true y ∧ F.fz y = none ∧ F.iv y = none ∧ OwnAt K F H y d := by
  have l := (List.getElem?_eq_some_iff.mp hj).1
  have hv : vs[j]? = some (vs[j]'(by rw [q.len]; exact l)) := List.getElem?_eq_getElem (by rw [q.len]; exact l)
  obtain ⟨y, e, r⟩ := q.ok j true d _ hj hv
  exact ⟨y, by rw [hv, e], r⟩
theorem kidAt_inv {k : Int} {P : Nat → List D → Prop} (h : kidAt k cs P) : ∃ j ds, ixN cs.length k = some j ∧ cs[j]? = some (true, .lst ds) ∧ P j ds := by
  obtain ⟨j, h1, h2⟩ := isSome_inv h
  obtain ⟨ds, h3, h4⟩ := atKid_inv h2
  exact ⟨j, ds, h1, h3, h4⟩
theorem atI_j {α : Type} {xs : List α} {k : Int} {j : Nat} {x : α} (h : ixN xs.length k = some j) (hx : xs[j]? = some x) : L2.atI xs k = some x := by
  unfold L2.atI
  rw [h]; exact hx
/-- the state when a part of slot i is written to -/
theorem FSt.kid_put {j : Nat} {k L : Addr} {o : HO} (s : FSt K B F ρ σ H) (h1 : ρ[i]? = some (some (.o2 c .lst cs))) (e1 : σ[i]? = some (some (.ref L))) (hL : H L = some (.lst vs)) (q : Kids K B.N F H L cs vs) (n : B.N c L) (hz : F.fz L = none) (hi : F.iv L = none)
    (hj : cs[j]? = some (true, d)) (hv : vs[j]? = some (.ref k)) (ow : OwnAt K F (upd H k o) k e) : FSt K B F (ρ.set i (some (.o2 c .lst (cs.set j (true, e))))) σ (upd H k o) := by
  obtain ⟨y, hy, ya, yn, yz, yi, yo⟩ := q.get hj
  rw [hv] at hy; cases hy
  have hL' : upd H k o L = some (.lst vs) := by rw [upd_ne (Ne.symm ya)]; exact hL
  have nk := kids_set q hj hv ow
  refine ⟨s.upd_ext ⟨_, yn⟩ yz yi, s.st.put_upd h1 e1 (.inr ⟨L, _, j, d, rfl, hL, hj, hv⟩) (o2_ok hL' n hz hi nk) fun y f => ?_⟩
  rcases foot_o2 (ov := none) hL' f with z | ⟨j', d', z1, z2⟩
  · exact .inl (.inl (by rw [z]))
  · rcases get_set z1 with ⟨w, z⟩ | ⟨w, z⟩
    · subst w
      exact .inl (.inr ⟨L, _, j, d, rfl, hL, hj, z2⟩)
    · exact .inl (.inr ⟨L, _, j', d', rfl, hL, z, z2⟩)
theorem s_appK {i : Nat} {call : Expr} {pi p : PTE} (h : PE X call (tBM X.K "list" rAppend (tOp (rIxL X.K) (tVar i) (Lr X.K pi)) (tCons (L X.K p) tNil))) (hs : swapsWith call none pos.line X.env = pure false := by rfl) : ps X (.Expr call pos) (qAppK i pi p) := by
  refine PS_weak (ps_expr h hs) ?_
  rintro E σ H ⟨B, F, ρ, PD, s, q, e⟩
  obtain ⟨c, cs, h1, p⟩ := atO2_inv q
  obtain ⟨L, vs, q1, n, hz, hi, q2, k⟩ := own_o2 s.st h1
  refine ⟨.ref L, q1, B.N, F, ρ, _, s.st, p, fun k0 v0 F1 H1 p1 x1 r1 => ?_⟩
  obtain ⟨kk, rfl, p1⟩ := isInt_inv p1
  obtain ⟨j, ds, hj1, hj2, p1⟩ := kidAt_inv p1
  have s1 := s.go x1
  obtain ⟨L', vs', q1', n', hz', hi', q2', k'⟩ := own_o2 s1.st h1
  rw [q1] at q1'; cases q1'
  obtain ⟨y, y1, y2, y3, y4, y5, ws, y6, y7⟩ := k'.get hj2
  refine ⟨L, vs', kk, .ref y, rfl, r1.int, SqL.of q2', atI_j (by rw [k'.len]; exact hj1) y1, .inl ⟨rfl, ws, SqL.of y6⟩, B.N, F1, ρ, _, s1.st, p1, fun d v F2 H2 p2 x2 r2 => ?_⟩
  have s2 := s1.go x2
  obtain ⟨L'', vs'', q1'', n'', hz'', hi'', q2'', k''⟩ := own_o2 s2.st h1
  rw [q1] at q1''; cases q1''
  have same : vs'' = vs' := by
    have := (keep_at (F := F1) (by rw [q2']; simp) hz' hi' x2).1
    rw [q2'', q2'] at this; cases this; rfl
  subst same
  obtain ⟨y', y1', y2', y3', y4', y5', ws', y6', y7'⟩ := k''.get hj2
  rw [y1] at y1'; cases y1'
  exact ⟨y, ws', v, rfl, rfl, y6', by rw [y7'.length]; exact p2.1, e.nx F2 _ σ _ (s2.kid_put (e := .lst (ds ++ [d])) h1 q1 q2'' k'' n'' hz'' hi'' hj2 y1 ⟨_, upd_same, y7'.append (Reps.one r2)⟩) ((x1.then0 x2).le s.ext.fits) p2.2⟩
/-! ### xs[k], read -/
def pKid (i : Nat) (pi : PTE) : PTE := fun ρ P => atO2 (fun _ cs => pi ρ (isInt fun k => kidAt k cs fun _ ds => P (.lst ds))) ρ[i]?
theorem r_kid {i : Nat} {o ix : Expr} {pi : PTE} (ho : PE X o (tVar i)) (hi : pr X ix pi) (hs : PlainIx ix := by exact fun _ _ => rfl) : pr X (.Subscript o ix pos) (pKid i pi) :=
  PE_weak (pe_ix ix_list ho hi hs) fun σ H Q ⟨N, F, ρ, P, s, q, k⟩ => by
    obtain ⟨c, cs, h1, p⟩ := atO2_inv q
    obtain ⟨L, vs, q1, n, hz, hi, q2, kd⟩ := own_o2 s h1
    refine ⟨.ref L, q1, N, F, ρ, _, s, p, fun k0 v0 F1 H1 p1 x1 r1 => ?_⟩
    obtain ⟨kk, rfl, p1⟩ := isInt_inv p1
    obtain ⟨j, ds, hj1, hj2, p1⟩ := kidAt_inv p1
    obtain ⟨L', vs', q1', n', hz', hi', q2', k'⟩ := own_o2 (s.ext x1) h1
    rw [q1] at q1'; cases q1'
    obtain ⟨y, y1, y2, y3, y4, y5, yo⟩ := k'.get hj2
    exact ⟨L, vs', kk, .ref y, rfl, r1.int, SqL.of q2', atI_j (by rw [k'.len]; exact hj1) y1, k _ _ F1 H1 p1 x1 (.inr ⟨y, rfl, y4, y5, yo⟩)⟩
/-! ### xs = [a new list] -/
def qSetL1 (i : Nat) (p : PTE) : PTS := fun PD ρ => p ρ fun d => PD.nx (ρ.set i (some (.o2 true .lst [(true, d)])))
theorem s_setL1 {i : Nat} {x : Str} {pos' : Pos} {ex : Expr} {p : PTE} (h : PS X (.Assign [.Name x pos'] ex pos) (tAsg (tLst (tCons (Lf X.K p) tNil)) (gName i))) : ps X (.Assign [.Name x pos'] ex pos) (qSetL1 i p) := by
  refine PS_weak h ?_
  rintro E σ H ⟨B, F, ρ, PD, s, q, e⟩
  refine ⟨B.N, F, ρ, _, s.st, q, fun d a F1 H1 p1 x1 hn az ai ow => ⟨by simp [sizeLine], fun L hL => ?_⟩⟩
  have s1 := s.go x1
  have x2 : Ext No F1 H1 F1 (upd H1 L (.lst [.ref a])) := Ext.newM x1.fits hL
  have s2 := s1.go x2
  have hL0 : H L = none := x1.dom _ hL
  have aL : a ≠ L := fun z => ow.there (by rw [z]; exact hL)
  have n1 : B.N true L := s.ext.dom _ hL0
  have n2 : B.N true a := s.ext.dom _ hn
  have k : Kids X.K B.N F1 (upd H1 L (.lst [.ref a])) L [(true, d)] [.ref a] := by
    refine ⟨rfl, fun j e' d' x z1 z2 => ?_, fun j j' d1 d2 y z1 z2 _ _ => ?_⟩
    · cases j with
      | zero => cases z1; cases z2; exact ⟨a, rfl, aL, n2, az, ai, ow.mono (Le.refl F1) (upd_ne aL)⟩
      | succ j => simp at z1
    · have l1 := (List.getElem?_eq_some_iff.mp z1).1
      have l2 := (List.getElem?_eq_some_iff.mp z2).1
      simp at l1 l2
      omega
  have feet : ∀ (j : Nat) x ov y, ρ[j]? = some x → σ[j]? = some ov → Foot (upd H1 L (.lst [.ref a])) x ov y → H y ≠ none := fun j x ov y z1 z2 z3 => by
    have z3 := (slot_ext (s1.st.slot j x ov z1 z2) x2 s1.st.fits).2 y z3
    have z3 := (slot_ext (s.st.slot j x ov z1 z2) x1 s.st.fits).2 y z3
    exact (s.st.foot z1 z2 z3).2.2.1
  refine e.nx F1 _ _ _ ⟨s2.ext, s2.st.put i _ (by rw [List.length_set]) (set_off i _) s2.st.fits (Le.refl F1) (fun j x ov y nj h1 h2 f => ?_) (fun ov h' => ?_) fun ov y j x ov' h' f nj h1 h2 f2 => ?_⟩ (x1.le s.ext.fits) p1
  · obtain ⟨z1, z2, _, _⟩ := s2.st.foot h1 h2 f
    exact ⟨rfl, z1, z2, fun _ n => n⟩
  · rw [set_on h']
    exact o2_ok upd_same n1 (x1.fits.none_fz hL) (x1.fits.none_iv hL) k
  · rw [set_on h'] at f
    have := feet j x ov' y h1 h2 f2
    rcases foot_o2 (ov := none) upd_same f with z | ⟨j', d', z1, z2⟩
    · exact this (by rw [z]; exact hL0)
    · cases j' with
      | zero => cases z2; exact this hn
      | succ j' => simp at z1
/-! ### y = (.., tuple(xs.pop())) -/
def popK (i : Nat) (k : List D → Env → Prop) (ρ : Env) : Prop := atO2 (fun c cs => atKid (fun ds => k ds (ρ.set i (some (.o2 c .lst cs.dropLast)))) cs.getLast?) ρ[i]?
def qTupPop (j i : Nat) (z : Str) : PTS := fun PD ρ => popK i (fun ds ρ' => PD.nx (ρ'.set j (some (.sh (.tup [.str z, .tup ds]))))) ρ
theorem kids_dropLast (q : Kids K N F H a cs vs) (o : HO) : Kids K N F (upd H a o) a cs.dropLast vs.dropLast := by
  have g : ∀ {α : Type} (xs : List α) (i : Nat) (x : α), xs.dropLast[i]? = some x → xs[i]? = some x := fun xs i x h => by
    rw [List.dropLast_eq_take, List.getElem?_take] at h
    split at h
    · exact h
    · cases h
  exact ⟨by simp [q.len], fun i e d x h1 h2 => kid_updL (q.ok i e d x (g _ _ _ h1) (g _ _ _ h2)), fun i j d d' y h1 h2 h3 h4 => q.inj i j d d' y (g _ _ _ h1) (g _ _ _ h2) (g _ _ _ h3) (g _ _ _ h4)⟩
theorem s_tupPop {j i : Nat} {x z : Str} {pos' : Pos} {ex : Expr} (h : PS X (.Assign [.Name x pos'] ex pos) (tAsg (tTup (tCons (tC (.str z)) (tCons (tCB (fun xs H Q => ∃ p ys, xs = [.ref p] ∧ (SqL X.K H p ys ∧ (∀ l, H l = none → Q (.ref l) (upd H l (.tup ys))) ∨ SqT X.K H p ys ∧ Q (.ref p) H)) (tCons (tBM0 X.K "list" rPop (tVar i)) tNil)) tNil))) (gName j))) : ps X (.Assign [.Name x pos'] ex pos) (qTupPop j i z) := by
  refine PS_weak h ?_
  rintro E σ H ⟨B, F, ρ, PD, s, q, e⟩
  obtain ⟨c, cs, h1, q⟩ := atO2_inv q
  obtain ⟨ds, hd, q⟩ := atKid_inv q
  obtain ⟨L, vs, q1, n, hz, hi, q2, k⟩ := own_o2 s.st h1
  rw [List.getLast?_eq_getElem?] at hd
  obtain ⟨y, y1, y2, y3, y4, y5, ws, y6, y7⟩ := k.get hd
  have hL' : upd H L (.lst vs.dropLast) L = some (.lst vs.dropLast) := upd_same
  have g : ∀ {α : Type} (xs : List α) (i : Nat) (x : α), xs.dropLast[i]? = some x → xs[i]? = some x := fun xs i x h => by
    rw [List.dropLast_eq_take, List.getElem?_take] at h
    split at h
    · exact h
    · cases h
  have s1 : FSt X.K B F (ρ.set i (some (.o2 c .lst cs.dropLast))) σ (upd H L (.lst vs.dropLast)) := by
    refine ⟨s.upd_ext ⟨_, n⟩ hz hi, s.st.put_upd h1 q1 (.inl rfl) (o2_ok hL' n hz hi (kids_dropLast k _)) fun y f => ?_⟩
    rcases foot_o2 (ov := none) hL' f with z | ⟨j', d', z1, z2⟩
    · exact .inl (.inl (by rw [z]))
    · exact .inl (.inr ⟨L, _, j', d', rfl, q2, g _ _ _ z1, g _ _ _ z2⟩)
  have hy : upd H L (.lst vs.dropLast) y = some (.lst ws) := by rw [upd_ne y2]; exact y6
  refine ⟨.ref L, q1, .inl ⟨rfl, vs, SqL.of q2⟩, L, vs, .ref y, rfl, rfl, q2, by rw [k.len]; exact y1, y, ws, rfl, .inl ⟨SqL.of hy, fun t ht => ?_⟩⟩
  have x2 : Ext No F _ (F.add t (.tup ws)) (upd (upd H L (.lst vs.dropLast)) t (.tup ws)) := Ext.new s1.ext.fits ht
  have s2 := s1.go x2
  have r2 : Rep X.K (F.add t (.tup ws)) (.tup ds) (.ref t) := rep_tup FS.add_same (y7.ext x2 s1.ext.fits)
  refine ⟨by simp [sizeLine], fun u hu => ?_⟩
  have x3 : Ext No _ _ ((F.add t (.tup ws)).add u (.tup [.str z, .ref t])) (upd (upd (upd H L (.lst vs.dropLast)) t (.tup ws)) u (.tup [.str z, .ref t])) := Ext.new s2.ext.fits hu
  have s3 := s2.go x3
  have r3 : Rep X.K ((F.add t (.tup ws)).add u (.tup [.str z, .ref t])) (.tup [.str z, .tup ds]) (.ref u) := rep_tup FS.add_same (Reps.cons rep_str (Reps.one (r2.ext x3 s2.ext.fits)))
  exact e.nx _ _ _ _ ⟨s3.ext, s3.st.set_sh j r3⟩ ((x2.then0 x3).le s1.ext.fits) q
theorem r_kidAt {k : Int} {P : Nat → List D → Prop} : kidAt k cs P = isSomeD (fun j => atKidD (P j) Tg.mk cs[j]?) Tg.mk (ixN cs.length k) := id rfl
theorem r_popK {i : Nat} {k : List D → Env → Prop} : popK i k ρ = atO2D (fun c cs => atKidD (fun ds => k ds (ρ.set i (some (.o2 c .lst cs.dropLast)))) Tg.mk cs.getLast?) Tg.mk ρ[i]? := id rfl
/-! ### str(x), xs.index(x), C(*x) -/
def strfW : D → DK → Prop
  | .int j, P => j.natAbs.log2 < 1920 ∧ P (.str (toString j))
  | _, _ => False
theorem strfW_int {j : Int} : strfW (.int j) P = (j.natAbs.log2 < 1920 ∧ P (.str (toString j))) := id rfl
theorem c_str : callS X (.type "str") (on1 strfW) := ⟨_, call_str_int, fun ds xs F H P Q f r h k => by
  obtain ⟨d, v, rfl, rfl, r1, h⟩ := on1_inv h r
  cases d <;> try exact h.elim
  cases r1.int
  exact ⟨_, rfl, h.1, k.str f h.2⟩⟩
def idxV (y : V) (zs : List V) : Option Nat := zs.findIdx? fun z => eqV z y
def lindexW : D → List D → DK → Prop
  | .lst zs, [y], P => y.flat = true ∧ zs.all D.flat = true ∧ isSome (fun j : Nat => P (.int j)) (idxV y.toV (zs.map D.toV))
  | .klst zs, [y], P => y.flat = true ∧ zs.all D.flat = true ∧ isSome (fun j : Nat => P (.int j)) (idxV y.toV (zs.map D.toV))
  | _, _, _ => False
theorem lindexW_lst : lindexW (.lst ds) [d] P = (d.flat = true ∧ ds.all D.flat = true ∧ isSomeD (fun j : Nat => P (.int j)) Tg.mk (idxV d.toV (ds.map D.toV))) := id rfl
theorem lindexW_klst : lindexW (.klst ds) [d] P = (d.flat = true ∧ ds.all D.flat = true ∧ isSomeD (fun j : Nat => P (.int j)) Tg.mk (idxV d.toV (ds.map D.toV))) := id rfl
theorem m_lindex : mtS X "list.index" lindexW := ⟨_, mt_index, fun d x ds xs F H P Q f r rs h k => by
  have go : ∀ (p : Addr) (us : List V) (zs : List D) (y : D) (v : V), x = .ref p → xs = [v] → SqL X.K H p us → Reps X.K F zs us → RepT X.K F H y v → y.flat = true ∧ zs.all D.flat = true ∧ isSome (fun j : Nat => P (.int j)) (idxV y.toV (zs.map D.toV)) → rIndex X.K x xs H Q := fun p us zs y v ex exs hs ru ry ⟨h1, h2, h3⟩ => by
    obtain ⟨e1, f1⟩ := flat_rep h1 ry
    obtain ⟨e2, f2⟩ := flats_rep h2 ru
    subst e1
    obtain ⟨j, hj, h3⟩ := isSome_inv h3
    unfold idxV at hj
    rw [← e2] at hj
    obtain ⟨g1, g2, g3⟩ := List.findIdx?_eq_some_iff_getElem.mp hj
    refine ⟨p, us, _, j, us[j], ex, exs, hs, f1, f2, List.getElem?_eq_getElem g1, g2, fun m z' hm hz => ?_, k.int f h3⟩
    obtain ⟨l, hz⟩ := List.getElem?_eq_some_iff.mp hz
    have := g3 m hm
    rw [hz] at this
    simpa using this
  cases d <;> try exact h.elim
  · cases ds with
    | nil => exact h.elim
    | cons y ds =>
      cases ds with
      | cons _ _ => exact h.elim
      | nil =>
        obtain ⟨a, vs, rfl, h3, q⟩ := r.lst f
        obtain ⟨v, r, rfl, rv, rr⟩ := rs
        simp only [RepTs] at rr
        subst rr
        exact go a vs _ y v rfl rfl (SqL.of h3) q rv h
  · cases ds with
    | nil => exact h.elim
    | cons y ds =>
      cases ds with
      | cons _ _ => exact h.elim
      | nil =>
        obtain ⟨a, vs, rfl, h3, q⟩ := r.klst f
        obtain ⟨v, r, rfl, rv, rr⟩ := rs
        simp only [RepTs] at rr
        subst rr
        exact go a vs _ y v rfl rfl h3 q rv h⟩
/-- the arguments are the items of p -/
def pStarA (p : PTE) : PTA := fun ρ P => p ρ fun d => isSome P (asList d)
section
variable {k : Nat} {f C : Addr} {fd : FuncData} {ps : List Str} {ci : PrIo} {x : Str} {p q : Pos} {ex : Expr} {pp : PTE}
theorem pe_makeS1 {sp : Sp} {te : TE} {CX : CXT} {E : XK} (M : Mk X.K C f) (G : FnR X.prog X.w X.K X.mg X.base CX k f sp) (hr : Room (k + 1) X.A) (hg : Gl X x) (hm : X.mg x = some (.ref C)) (hx : Passes CX X E) (he : PE X ex te) (hdb : (x == ("__debug__" : Str)) = false := by decide)
    (hst : starEach [.Starred ex q] X.env = [(true, eval ex X.env)] := by rfl) :
    PE X (.Call (.Name x p) [.Starred ex q] [] pos) (fun σ H Q => te σ H fun y H1 => ∃ a xs, y = V.ref a ∧ (SqT X.K H1 a xs ∨ SqL X.K H1 a xs) ∧ ∀ x dx, H1 x = Option.none → H1 dx = Option.none → dx ≠ x →
      sp (V.ref x :: xs) (upd (upd H1 dx (.own x)) x (.ins C dx [])) (fun v H2 => v = .non ∧ Q (.ref x) H2) E) := by
  refine ⟨fun pins s σ H Q I h => ?_⟩
  refine wpAny_Call_Name_kw (ld_glob I hg hm ?_ hdb)
  refine PySem.W.callWith_S (h₀ := X.base) I.ok.mod.kin M.kp (thn (he.run pins s σ H _ I h) fun v s1 ⟨y, H1, I1, ry, a, xs, ey, hxs, q⟩ => ?_) hst
  subst ey
  obtain rfl : v = Value.ref a := ry
  exact star_any I1 hxs fun us s2 I2 rv => ⟨I2.kIn, run_makeR M G hr hx I2 rv q⟩
theorem f_makeS (M : Mk X.K C f) (G : FnOk X.prog X.w X.K X.mg X.base CX0 k f fd ps (spIo X.K ci)) (hr : Room (k + 1) X.A) (hm : X.mg x = some (.ref C)) (hb : Binds X.K fd ps []) (ha : pe X ex pp) (hg : Gl X x := by rfl)
    (hdb : (x == ("__debug__" : Str)) = false := by decide) (hst : starEach [.Starred ex q] X.env = [(true, eval ex X.env)] := by rfl) : pf X (.Call (.Name x p) [.Starred ex q] [] pos) (pMake C ci [] (pStarA pp)) :=
  PE_weak (pe_makeS1 M (G.raw hb .nil) hr hg hm pass0 ha hdb hst) fun σ H Q h => by
    obtain ⟨N, F, ρ, P, s, p1, k⟩ := make_ok (dvs := []) σ H Q (fun _ => Reps.nil) h
    refine ⟨N, F, ρ, _, s, p1, fun d v F1 H1 p1 x1 r1 => ?_⟩
    obtain ⟨ds, h1, h2⟩ := isSome_inv p1
    obtain ⟨a, vs, rfl, h3, h4⟩ := RepT.seq (.inl r1) x1.fits h1
    refine ⟨a, vs, rfl, h3.symm, ?_⟩
    exact k ds vs F1 H1 h2 x1 h4
end
end
end Pu
/-! a list of lists is lent, whole, to an expression or a test -/
namespace Pu
open PySem PySem.Spec L2
section
variable {X : Cx} {pos : Pos} {K : Fg} {F F' F1 : FS} {H H' H1 : Hp} {i : Nat} {ds es : List D} {d e : D} {P : DK} {ρ : Env} {σ : L2.St} {B : Bas} {a : Addr} {c : Bool} {vs : List V} {N : Bool → Addr → Prop} {cs : List (Bool × D)}
theorem lend_kids : ∀ (cs : List (Bool × D)) (vs : List V) (F1 : FS), Lent F H F1 → vs.length = cs.length → (∀ (i : Nat) e d x, cs[i]? = some (e, d) → vs[i]? = some x → KidOk K N F H a e d x) →
    ∃ F2, Lent F H F2 ∧ Le F1 F2 ∧ Reps K F2 (cs.map Prod.snd) vs ∧ ∀ b, F2.fz b ≠ none → F1.fz b ≠ none ∨ ∃ (i : Nat) (d : D), cs[i]? = some (true, d) ∧ vs[i]? = some (V.ref b)
  | [], [], F1, l, hl, _ => ⟨F1, l, Le.refl _, Reps.nil, fun b h => .inl h⟩
  | [], _ :: _, F1, l, hl, _ => by cases hl
  | (e, d) :: cs, [], F1, l, hl, _ => by cases hl
  | (e, d) :: cs, v :: vs, F1, l, hl, hk => by
    have k0 := hk 0 e d v rfl rfl
    have kr : ∀ (i : Nat) e d x, cs[i]? = some (e, d) → vs[i]? = some x → KidOk K N F H a e d x := fun i e d x h1 h2 => hk (i + 1) e d x (by simpa using h1) (by simpa using h2)
    have hl' : vs.length = cs.length := by simpa using hl
    cases e with
    | false =>
      obtain ⟨F2, l2, le2, r2, b2⟩ := lend_kids cs vs F1 l hl' kr
      refine ⟨F2, l2, le2, Reps.cons (Rep.mono l2.le k0) r2, fun b h => ?_⟩
      rcases b2 b h with q | ⟨i, d', q1, q2⟩
      · exact .inl q
      · exact .inr ⟨i + 1, d', by simpa using q1, by simpa using q2⟩
    | true =>
      obtain ⟨y, rfl, ya, yn, yz, yi, ow⟩ := k0
      obtain ⟨o, eo⟩ := some_of_ne ow.there
      have l1 := l.add yz yi eo (ow.soft eo)
      obtain ⟨F2, l2, le2, r2, b2⟩ := lend_kids cs vs _ l1 hl' kr
      refine ⟨F2, l2, (l.addLe yi eo).trans le2, Reps.cons ((ow.rep eo FS.add_same l1.le).mono le2) r2, fun b h => ?_⟩
      rcases b2 b h with q | ⟨i, d', q1, q2⟩
      · by_cases w : b = y
        · subst w; exact .inr ⟨0, d, rfl, rfl⟩
        · have q : upd F1.fz y o b ≠ none := q
          rw [upd_ne w] at q
          exact .inl q
      · exact .inr ⟨i + 1, d', by simpa using q1, by simpa using q2⟩
/-- slot i, a list of lists, is lent -/
theorem Stt.lend2 (s : Stt K N F ρ σ H) (h : ρ[i]? = some (some (.o2 c .lst cs))) : ∃ F2, Lent F H F2 ∧ Stt K N F2 (ρ.set i (some (.sh (.lst (cs.map Prod.snd))))) σ H := by
  obtain ⟨L, vs, q1, n, hz, hi, q2, k⟩ := own_o2 s h
  obtain ⟨F2, l2, le2, r2, b2⟩ := lend_kids cs vs F (Lent.refl s.fits) k.len k.ok
  have l3 := l2.add hz hi q2 (show soft (.lst vs) from trivial)
  refine ⟨_, l3, s.put i _ rfl (fun _ _ => rfl) l3.fits l3.le (fun j x ov y nj h1 h2 f => ?_) (fun ov h' => ?_) fun ov y j x ov' _ f => f.elim⟩
  · obtain ⟨z1, z2, _, _⟩ := s.foot h1 h2 f
    refine ⟨rfl, ?_, by rw [l3.iv]; exact z2, fun _ n => n⟩
    cases e9 : (F2.add L (.lst vs)).fz y with
    | none => rfl
    | some o =>
      have e9 : upd F2.fz L (.lst vs) y = some o := e9
      by_cases w : y = L
      · subst w
        exact absurd (s.disF j i _ _ _ _ y h1 h2 h q1 f (.inl rfl)) nj
      · rw [upd_ne w] at e9
        rcases b2 y (by rw [e9]; simp) with q | ⟨j', d', p1, p2⟩
        · exact absurd z1 q
        · exact absurd (s.disF j i _ _ _ _ y h1 h2 h q1 f (.inr ⟨L, _, j', d', rfl, q2, p1, p2⟩)) nj
  · rw [q1] at h'; cases h'
    exact ⟨_, rfl, rep_lst FS.add_same (r2.mono (l2.addLe hi q2))⟩
/-- an expression that reads the list of lists in slot i; its value is hard -/
def pLend (i : Nat) (p : PTE) : PTE := fun ρ P => atO2 (fun _ cs => p (ρ.set i (some (.sh (.lst (cs.map Prod.snd))))) fun d => hard d ∧ P d) ρ[i]?
theorem e_lend {ex : Expr} {p : PTE} (i : Nat) (h : pe X ex p) : pe X ex (pLend i p) :=
  PE_weak h fun σ H Q ⟨N, F, ρ, P, s, q, k⟩ => by
    obtain ⟨c, cs, h1, q⟩ := atO2_inv q
    obtain ⟨F2, l, s2⟩ := s.lend2 h1
    exact ⟨N, F2, _, _, s2, q, fun d v F' H' ⟨hh, p⟩ x r => k d v _ H' p (l.ext x) (l.rep x hh r)⟩
def tLend (i : Nat) (t : PTT) : PTT := fun ρ P => atO2 (fun _ cs => t (ρ.set i (some (.sh (.lst (cs.map Prod.snd))))) P) ρ[i]?
theorem t_lend {ex : Expr} {t : PTT} (i : Nat) (h : pt X ex t) : pt X ex (tLend i t) :=
  PT_weak h fun σ H Q ⟨N, F, ρ, P, s, q, k⟩ => by
    obtain ⟨c, cs, h1, q⟩ := atO2_inv q
    obtain ⟨F2, l, s2⟩ := s.lend2 h1
    exact ⟨N, F2, _, _, s2, q, fun b F' H' p x => k b _ H' p (l.ext x)⟩
/-! ### row = xs[n]; row[k] = e -/
def qAlias (i j : Nat) (pn pk p : PTE) (q : PTS) : PTS := fun PD ρ => i ≠ j ∧ j < ρ.length ∧ atO2 (fun c cs => pn ρ (isInt fun n => kidAt n cs fun jj ds => p (ρ.set j none) fun d => pk (ρ.set j none) (isInt fun m => isSome (fun mm => q PD ((ρ.set j none).set i (some (.o2 c .lst (cs.set jj (true, .lst (ds.set mm d))))))) (ixN ds.length m)))) ρ[i]?
theorem s_alias {i j : Nat} {t1 t2 e1 e2 : Expr} {pos2 : Pos} {rest : List Stmt} {pn pk p : PTE} {q : PTS} (h1 : PS X (.Assign [t1] e1 pos) (tAsg (tOp (rIxL X.K) (tVar i) (Lr X.K pn)) (gName j)))
    (h2 : PS X (.Assign [t2] e2 pos2) (tAsg (L X.K p) (gSub (tVar j) (Lr X.K pk) rSetL))) (h3 : pss X rest q) : pss X (.Assign [t1] e1 pos :: .Assign [t2] e2 pos2 :: rest) (qAlias i j pn pk p q) :=
  PSs_weak (pss_cons h1 (pss_cons h2 h3)) fun E σ H ⟨B, F, ρ, PD, s, w, e⟩ => by
    obtain ⟨nij, jl, w⟩ := w
    obtain ⟨c, cs, hi, w⟩ := atO2_inv w
    obtain ⟨L, vs, q1, n, hz, hiv, q2, k⟩ := own_o2 s.st hi
    refine ⟨.ref L, q1, B.N, F, ρ, _, s.st, w, fun k0 v0 F1 H1 p1 x1 r1 => ?_⟩
    obtain ⟨kk, rfl, p1⟩ := isInt_inv p1
    obtain ⟨jj, ds, hj1, hj2, p1⟩ := kidAt_inv p1
    have s1 := s.go x1
    obtain ⟨L', vs', q1', n', hz', hi', q2', k'⟩ := own_o2 s1.st hi
    rw [q1] at q1'; cases q1'
    obtain ⟨y, y1, y2, y3, y4, y5, ws, y6, y7⟩ := k'.get hj2
    refine ⟨L, vs', kk, .ref y, rfl, r1.int, SqL.of q2', atI_j (by rw [k'.len]; exact hj1) y1, ?_⟩
    have sd : FSt X.K B F1 (ρ.set j none) (σ.set j (some (.ref y))) H1 := ⟨s1.ext, s1.st.drop j (some (.ref y))⟩
    refine ⟨B.N, F1, _, _, sd.st, p1, fun d v F2 H2 p2 x2 r2 => ?_⟩
    have s2 := sd.go x2
    have jl' : j < σ.length := by rw [← s.st.len]; exact jl
    refine ⟨.ref y, by rw [List.getElem?_set_self jl'], B.N, F2, _, _, s2.st, p2, fun m0 u F3 H3 p3 x3 r3 => ?_⟩
    obtain ⟨m, rfl, p3⟩ := isInt_inv p3
    obtain ⟨mm, hm, p3⟩ := isSome_inv p3
    have s3 := s2.go x3
    have hi2 : (ρ.set j none)[i]? = some (some (.o2 c .lst cs)) := by rw [List.getElem?_set_ne (Ne.symm nij)]; exact hi
    have qi2 : (σ.set j (some (V.ref y)))[i]? = some (some (.ref L)) := by rw [List.getElem?_set_ne (Ne.symm nij)]; exact q1
    obtain ⟨L3, vs3, q13, n3, hz3, hi3, q23, k3⟩ := own_o2 s3.st hi2
    rw [qi2] at q13; cases q13
    have same : vs3 = vs' := by
      have := (keep_at (F := F1) (by rw [q2']; simp) hz' hi' (x2.then0 x3)).1
      rw [q23, q2'] at this; cases this; rfl
    subst same
    obtain ⟨y', y1', y2', y3', y4', y5', ws', y6', y7'⟩ := k3.get hj2
    rw [y1] at y1'; cases y1'
    refine ⟨y, ws', m, mm, rfl, r3.int, y6', by rw [y7'.length]; exact hm, ?_⟩
    have s4 := s3.kid_put (e := .lst (ds.set mm d)) hi2 qi2 q23 k3 n3 hz3 hi3 hj2 y1 (o := .lst (ws'.set mm v)) ⟨_, upd_same, y7'.set mm (r2.ext x3 x2.fits)⟩
    exact ⟨B, F3, _, PD, s4, p3, e.up (((x1.then0 x2).then0 x3).le s.ext.fits)⟩
end
end Pu
/-! x = [a new list for ..] : a list of lists -/
namespace Pu
open PySem PySem.Spec L2
section
variable {X : Cx} {pos : Pos} {K : Fg} {F F' F1 : FS} {H H' H1 : Hp} {i : Nat} {ds es : List D} {d e : D} {P : DK} {ρ : Env} {σ : L2.St} {B : Bas} {a L : Addr} {c : Bool} {vs : List V} {N : Bool → Addr → Prop} {cs : List (Bool × D)}
theorem kids_ext (k : Kids K N F H L cs vs) (x : Ext No F H F' H') (f : Fits F H) : Kids K N F' H' L cs vs := by
  refine ⟨k.len, fun i e d v h1 h2 => ?_, k.inj⟩
  have q := k.ok i e d v h1 h2
  cases e with
  | false => exact Rep.mono (x.le f) q
  | true =>
    obtain ⟨y, e1, e2, e3, e4, e5, e6⟩ := q
    obtain ⟨q1, q2, q3⟩ := keep_at e6.there e4 e5 x
    exact ⟨y, e1, e2, e3, q2, q3, e6.mono (x.le f) q1⟩
theorem kids_snoc {o : HO} (k : Kids K N F H L cs vs) (aL : a ≠ L) (n : N true a) (az : F.fz a = none) (ai : F.iv a = none) (ow : OwnAt K F H a d) (new : ∀ (j : Nat) x d', cs[j]? = some (true, d') → vs[j]? = some x → x ≠ .ref a) : Kids K N F (upd H L o) L (cs ++ [(true, d)]) (vs ++ [.ref a]) := by
  have last : ∀ (j : Nat) x, ¬ j < cs.length → (cs ++ [(true, d)])[j]? = some x → j = cs.length ∧ x = (true, d) := fun j x hj h => by
    rw [List.getElem?_append_right (by omega)] at h
    by_cases w : j - cs.length = 0
    · rw [w] at h; cases h; exact ⟨by omega, rfl⟩
    · rw [List.getElem?_eq_none (by simp; omega)] at h; cases h
  have lastv : (vs ++ [V.ref a])[cs.length]? = some (.ref a) := by rw [List.getElem?_append_right (by rw [k.len]; omega), k.len, Nat.sub_self]; rfl
  refine ⟨by simp [k.len], fun j e d' x z1 z2 => ?_, fun j j' d1 d2 y z1 z2 z3 z4 => ?_⟩
  · by_cases hj : j < cs.length
    · rw [List.getElem?_append_left hj] at z1
      rw [List.getElem?_append_left (by rw [k.len]; exact hj)] at z2
      exact kid_updL (k.ok j e d' x z1 z2)
    · obtain ⟨rfl, q⟩ := last j _ hj z1
      cases q
      rw [lastv] at z2; cases z2
      exact ⟨a, rfl, aL, n, az, ai, ow.mono (Le.refl F) (upd_ne aL)⟩
  · by_cases hj : j < cs.length <;> by_cases hj' : j' < cs.length
    · rw [List.getElem?_append_left hj] at z1
      rw [List.getElem?_append_left hj'] at z2
      rw [List.getElem?_append_left (by rw [k.len]; exact hj)] at z3
      rw [List.getElem?_append_left (by rw [k.len]; exact hj')] at z4
      exact k.inj j j' d1 d2 y z1 z2 z3 z4
    · obtain ⟨rfl, _⟩ := last j' _ hj' z2
      rw [lastv] at z4; cases z4
      rw [List.getElem?_append_left hj] at z1
      rw [List.getElem?_append_left (by rw [k.len]; exact hj)] at z3
      exact absurd rfl (new j _ _ z1 z3)
    · obtain ⟨rfl, _⟩ := last j _ hj z1
      rw [lastv] at z3; cases z3
      rw [List.getElem?_append_left hj'] at z2
      rw [List.getElem?_append_left (by rw [k.len]; exact hj')] at z4
      exact absurd rfl (new j' _ _ z2 z4)
    · rw [(last j _ hj z1).1, (last j' _ hj' z2).1]
/-- what comes of a list -/
def ofLst (P : List D → Prop) : DK
  | .lst ds => P ds
  | _ => False
theorem ofLst_lst {P : List D → Prop} : ofLst P (.lst ds) = P ds := id rfl
def qSetC2 (i : Nat) (vs : List Nat) (w : PTA) (g : PTG) (e : PTE) : PTS := fun PD ρ => w ρ fun ds => compI vs g pYes e ρ (ofLst fun acc => PD.nx (ρ.set i (some (.o2 true .lst (acc.map fun d => (true, d)))))) ds
theorem s_setC2 {i : Nat} {y : Str} {py : Pos} {elt tg iter : Expr} {scope : Scope} {own : List (Str × Nat)} {is : List Nat} {pos spos : Pos} {w : PTA} {g : PTG} {e : PTE} (hc : X.calm = true) (hN : X.N.Nodup) (hi : pir X tg iter w) (ok : BlkOk X.N X.env.scope scope own)
    (hg : ∀ (s : Shared) (H : Hp) (C : Addr) (cl : List (Str × Addr)) (fp : List Addr), pg (X.blk s H scope (compEnvC scope cl C X.env) fp) tg is g)
    (he : ∀ (s : Shared) (H : Hp) (C : Addr) (cl : List (Str × Addr)) (fp : List Addr), pf (X.blk s H scope (compEnvC scope cl C X.env) fp) elt e)
    (hsw : swapsWith (.ListComp elt [⟨tg, iter, [], 0⟩] scope pos) (some (.Name y py)) spos.line X.env = pure true) (hy : X.N[i]? = some y := by rfl) (hyl : X.env.scope.names.lookup y = some .local := by rfl) (hs : ∀ x, foldedSetIterable iter X.env x = pure x := by intro _; rfl) (hsub : ∀ i ∈ is, i ∈ own.map (·.2) := by decide) :
    ps X (.Assign [.Name y py] (.ListComp elt [⟨tg, iter, [], 0⟩] scope pos) spos) (qSetC2 i (own.map (·.2)) w g e) :=
  PS_weak (ps_setLc (g := LG X.K is g) (tt := LT X.K pYes) (te := Lf X.K e) hc hN hy hyl hsw hi ok (fun a b c d e => (hg a b c d e).h) (fun _ _ _ _ _ => ts_nil) he hs) fun E σ H ⟨B, F, ρ, PD, s, q, en⟩ =>
    ⟨B.N, F, ρ, _, s.st, q, fun ds J F1 H1 p1 x1 wk D0 hD => by
    obtain ⟨G, Y, wk, hG, hY⟩ := wk
    obtain ⟨I, p1, hst, hdn⟩ := p1
    have hz1 := x1.fits.none_fz hD
    have hi1 := x1.fits.none_iv hD
    let N0 : Bool → Addr → Prop := fun _ y => H1 y = none
    refine lc_it wk (fun i H' => ∃ F' acc vs, Ext No F1 H1 F' H' ∧ F'.fz D0 = none ∧ F'.iv D0 = none ∧ H' D0 = some (.lst vs) ∧ Kids X.K N0 F' H' D0 (acc.map fun d => (true, d)) vs ∧ I (ds.drop i) acc)
      ⟨F1, [], [], Ext.newM x1.fits hD, hz1, hi1, upd_same, ⟨rfl, fun i e d x h => by simp at h, fun i j d d' y h => by simp at h⟩, by simpa using p1⟩ (fun i H' _ ⟨F', _, _, x', _⟩ => hG F' H' x') ?_ ?_
    · rintro i x H' H2 hi' ⟨F', acc, vs, x', hz, hv, hl, rs, q'⟩ y
      obtain ⟨d, F2, hd, x2, r2⟩ := hY i H' x H2 F' x' y
      have hdr : ds.drop i = d :: ds.drop (i + 1) := by
        obtain ⟨h1, h2⟩ := List.getElem?_eq_some_iff.mp hd
        rw [List.drop_eq_getElem_cons h1, h2]
      rw [hdr] at q'
      have q' := hst _ _ _ q'
      have st2 := ((s.st.ext x1).ext (x'.then0 x2)).wipe (own.map (·.2))
      refine ⟨B.N, F2, _, d, _, st2, r2, q', fun ρ3 σ3 st3 q3 w3 => ⟨?_, B.N, F2, ρ3, _, st3, q3, fun b F3 H3 p3 x3 => ?_⟩⟩
      · rw [w3 _ hsub]
        apply List.ext_getElem?
        intro j
        rw [wipe_at]
        by_cases hj : j ∈ own.map (·.2)
        · rw [if_pos hj, wipe_at, if_pos hj]
          cases σ[j]? <;> rfl
        · rw [if_neg hj]
      · have x23 := x2.then0 x3
        cases b with
        | false =>
          obtain ⟨o1, o2, o3⟩ := keep_at (by rw [hl]; simp) hz hv x23
          exact ⟨F3, acc, vs, x'.then0 x23, o2, o3, by rw [o1]; exact hl, kids_ext rs x23 x'.fits, p3⟩
        | true =>
          refine ⟨B.N, F3, ρ3, _, st3.ext x3, p3, fun z a F4 H4 p4 x4 hn az ai ow => ?_⟩
          obtain ⟨o1, o2, o3⟩ := keep_at (by rw [hl]; simp) hz hv (x23.then0 x4)
          have h4 : H4 D0 = some (.lst vs) := by rw [o1]; exact hl
          have kk := kids_ext rs (x23.then0 x4) x'.fits
          have k3 := kids_ext rs x23 x'.fits
          have h3 : H3 D0 = some (.lst vs) := by rw [(keep_at (by rw [hl]; simp) hz hv x23).1]; exact hl
          have aD : a ≠ D0 := fun w => by rw [w, h3] at hn; cases hn
          have hn1 : H1 a = none := (x'.then0 x23).dom _ hn
          refine ⟨vs, h4, by have := kk.len; rw [List.length_map] at this; rw [this]; exact p4.1, F4, acc ++ [z], vs ++ [.ref a], (x'.then0 (x23.then0 x4)).newobj hD o2 o3 (by rw [h4]; simp), o2, o3, upd_same, ?_, p4.2⟩
          rw [List.map_append]
          refine kids_snoc kk aD hn1 az ai ow fun j x d' c1 c2 w => ?_
          subst w
          obtain ⟨y', e1, _, _, _, _, e6⟩ := k3.ok j true d' _ c1 c2
          cases e1
          exact e6.there hn
    · rintro H' ⟨F', acc, vs, x', hz, hv, hl, rs, q'⟩
      rw [List.drop_length] at q'
      have p := hdn _ q'
      have xx := x1.then0 x'
      have s2 := s.go xx
      have hD0 : H D0 = none := x1.dom _ hD
      have kz : ∀ (j : Nat) d y, (acc.map fun d => (true, d))[j]? = some (true, d) → vs[j]? = some (V.ref y) → H y = none := fun j d y c1 c2 => by
        obtain ⟨y', e1, _, e3, _⟩ := rs.ok j true d _ c1 c2
        cases e1
        exact x1.dom _ e3
      have k2 : Kids X.K B.N F' H' D0 (acc.map fun d => (true, d)) vs := ⟨rs.len, fun j e d x c1 c2 => by
        have q := rs.ok j e d x c1 c2
        cases e with
        | false => exact q
        | true =>
          obtain ⟨y, e1, e2, e3, e4⟩ := q
          exact ⟨y, e1, e2, s.ext.dom _ (x1.dom _ e3), e4⟩, rs.inj⟩
      refine en.nx F' _ _ _ ⟨s2.ext, s2.st.put _ _ (by rw [List.length_set]) (set_off _ _) s2.st.fits (Le.refl F') (fun j x ov y nj h1 h2 f => ?_) (fun ov h' => ?_) fun ov y j x ov' h' f nj h1 h2 f2 => ?_⟩ (xx.le s.ext.fits) p
      · obtain ⟨z1, z2, _, _⟩ := s2.st.foot h1 h2 f
        exact ⟨rfl, z1, z2, fun _ n => n⟩
      · rw [set_on h']
        exact o2_ok hl (s.ext.dom _ hD0) hz hv k2
      · rw [set_on h'] at f
        have old := (slot_ext (s.st.slot j x ov' h1 h2) xx s.st.fits).2 y f2
        have there := (s.st.foot h1 h2 old).2.2.1
        rcases foot_o2 (ov := none) hl f with z | ⟨j', d', c1, c2⟩
        · exact there (by rw [z]; exact hD0)
        · exact there (kz j' d' y c1 c2)⟩
end
end Pu
namespace Pu
open PySem PySem.Spec L2
/-! ### max(xs), min(xs) of tuples: what is compared stands in the heap -/
/-- x op y wherever stands what stands in hp0 -/
def CmpAt (prog : Program) (w : World) (A : Around) (op : CmpOp) (hp0 : Heap) (P : Nat → Value → Prop) (bt : Nat → Nat → Bool) : Prop :=
  ∀ i j x y (s : Shared) (Q E : Value → Shared → Prop), (∀ b o, hp0.get? b = some o → s.heap.get? b = some o) → P i x → P j y → Q (.bool (bt i j)) s → wpAny (model prog w) A (richCompare op x y) Q E s
section
variable {prog : Program} {w : World} {A : Around} {R : Result → Shared → Prop} {I : Addr} {fp wr : List Addr} {n : Nat} {P : Nat → Value → Prop} {St : Nat → Heap → Prop}

theorem max_steps (Wk : Walks prog w A.in1 I fp wr n P St) (bt : Nat → Nat → Bool) {hp0 : Heap} (cmp : CmpAt prog w A.in1 .Gt hp0 P bt) {S : Addr} (hS : S ∉ fp) (away : ∀ b o, hp0.get? b = some o → b ∉ wr ∧ b ≠ S) :
    ∀ (k j : Nat) (s : Shared) (vb : Value) (c : Nat), n = k + (j + 1) → St (j + 1) s.heap → P (argBest bt j) vb → (∀ b o, hp0.get? b = some o → s.heap.get? b = some o) →
    s.heap.get? S = some { cls := .type "list", dict := none, data := .seq #[vb, vb] c, slots := #[] } →
    (∀ v h' tk, P (argBest bt (n - 1)) v → (∀ b o, hp0.get? b = some o → h'.get? b = some o) → R (.ok (.ret v)) { s with heap := h', toks := tk }) →
    codeAny (model prog w) A (.builtin "max.loop" ⟨[.ref I, .none, .ref S], []⟩) R s := by
  have nw : S ∉ wr := fun z => hS (Wk.sub _ z)
  have nm : (toString "max" ++ toString ".loop" : String) = "max.loop" := by decide
  intro k
  induction k with
  | zero =>
    intro j s vb c e st pb kp gS r
    refine (codeAny_builtin F.entry_max_loop) ?_; rw [Around.under_plainId (F.plain_max_loop) _]
    change wpAny _ A.in1 (seqItems? (.ref S) >>= _) _ _ s
    apply wpAny_bind; apply wpAny_seqItems gS rfl
    change wpAny _ A.in1 (tryCatch (pyNext (.ref I)) _ >>= _) _ _ s
    apply wpAny_bind; apply wpAny_tryCatch; refine Wk.done s _ _ (by rw [show n = j + 1 by omega]; exact st) fun h' tk kk => ?_
    change wpAny _ A.in1 (updateSeq S (fun _ => #[]) >>= _) _ _ _
    apply wpAny_bind
    refine wpAny_updateSeq (kk S _ nw gS) rfl ?_
    exact wpAny_bind (wpAny_letGo (wpAny_pure (r vb _ tk (by rw [show n - 1 = j by omega]; exact pb) fun b o e2 => (Heap.get?_update_other _ _ (Ne.symm (away b o e2).2)).trans (kk b o (away b o e2).1 (kp b o e2)))))
  | succ k ih =>
    intro j s vb c e st pb kp gS r
    refine (codeAny_builtin F.entry_max_loop) ?_; rw [Around.under_plainId (F.plain_max_loop) _]
    change wpAny _ A.in1 (seqItems? (.ref S) >>= _) _ _ s
    apply wpAny_bind; apply wpAny_seqItems gS rfl
    change wpAny _ A.in1 (tryCatch (pyNext (.ref I)) _ >>= _) _ _ s
    apply wpAny_bind; apply wpAny_tryCatch; refine Wk.item (j + 1) s _ _ (by omega) st fun v h' tk pv st2 kk => ?_
    have gS2 := kk S _ nw gS
    have kp2 : ∀ b o, hp0.get? b = some o → h'.get? b = some o := fun b o e2 => kk b o (away b o e2).1 (kp b o e2)
    change wpAny _ A.in1 (tryCatch (holding [v, v] (richCompare .Gt v vb >>= _)) _ >>= _) _ _ _
    apply wpAny_bind; apply wpAny_tryCatch; apply wpAny_holding; apply wpAny_bind
    refine cmp (j + 1) (argBest bt j) v vb _ _ _ kp2 pv pb ?_
    apply wpAny_bind; apply wpAny_holding; apply wpAny_truthy_bool
    refine wpAny_bind (wpAny_letGo (wpAny_pure (?_)))
    cases yes : bt (j + 1) (argBest bt j) with
    | true =>
      simp only [if_true]
      apply wpAny_bind
      refine wpAny_updateSeq gS2 rfl ?_
      refine wpAny_bind (wpAny_letGo (?_))
      rw [nm]
      refine wpAny_pure ⟨(plainId_quiet F.plain_max_loop _), ih (j + 1) _ v _ (by omega) (Wk.frame _ _ _ st2 fun b hb o e2 => ?_) (by simp only [argBest, yes, if_true]; exact pv) (fun b o e2 => ?_) (Heap.get?_update_self _ gS2 rfl) fun v' h2 tk2 p2 k2 => r v' h2 tk2 p2 k2⟩
      · exact (Heap.get?_update_other _ _ (fun z : S = b => hS (z ▸ hb))).trans e2
      · exact (Heap.get?_update_other _ _ (Ne.symm (away b o e2).2)).trans (kp2 b o e2)
    | false =>
      simp only [Bool.false_eq_true, if_false]
      refine wpAny_bind (wpAny_letGo (?_))
      rw [nm]
      exact wpAny_pure ⟨(plainId_quiet F.plain_max_loop _), ih (j + 1) _ vb c (by omega) st2 (by simp only [argBest, yes, Bool.false_eq_true, if_false]; exact pb) kp2 gS2 fun v' h2 tk2 p2 k2 => r v' h2 tk2 p2 k2⟩
theorem max_first (Wk : Walks prog w A.in1 I fp wr n P St) (bt : Nat → Nat → Bool) {hp0 : Heap} (cmp : CmpAt prog w A.in1 .Gt hp0 P bt) {S : Addr} (hS : S ∉ fp) (away : ∀ b o, hp0.get? b = some o → b ∉ wr ∧ b ≠ S) (hn : 0 < n) {s : Shared} {c : Nat}
    (st : St 0 s.heap) (kp : ∀ b o, hp0.get? b = some o → s.heap.get? b = some o) (gS : s.heap.get? S = some { cls := .type "list", dict := none, data := .seq #[] c, slots := #[] })
    (r : ∀ v h' tk, P (argBest bt (n - 1)) v → (∀ b o, hp0.get? b = some o → h'.get? b = some o) → R (.ok (.ret v)) { s with heap := h', toks := tk }) :
    codeAny (model prog w) A (.builtin "max.loop" ⟨[.ref I, .none, .ref S], []⟩) R s := by
  have nw : S ∉ wr := fun z => hS (Wk.sub _ z)
  have nm : (toString "max" ++ toString ".loop" : String) = "max.loop" := by decide
  refine (codeAny_builtin F.entry_max_loop) ?_; rw [Around.under_plainId (F.plain_max_loop) _]
  change wpAny _ A.in1 (seqItems? (.ref S) >>= _) _ _ s
  apply wpAny_bind; apply wpAny_seqItems gS rfl
  change wpAny _ A.in1 (tryCatch (pyNext (.ref I)) _ >>= _) _ _ s
  apply wpAny_bind; apply wpAny_tryCatch; refine Wk.item 0 s _ _ hn st fun v h' tk pv st2 kk => ?_
  have gS2 := kk S _ nw gS
  change wpAny _ A.in1 (updateSeq S (fun _ => #[v, v]) >>= _) _ _ _
  apply wpAny_bind
  refine wpAny_updateSeq gS2 rfl ?_
  rw [nm]
  refine wpAny_pure ⟨(plainId_quiet F.plain_max_loop _), max_steps Wk bt cmp hS away (n - 1) 0 _ v _ (by omega) (Wk.frame _ _ _ st2 fun b hb o e2 => ?_) pv (fun b o e2 => ?_) (Heap.get?_update_self _ gS2 rfl) fun v' h2 tk2 p2 k2 => r v' h2 tk2 p2 k2⟩
  · exact (Heap.get?_update_other _ _ (fun z : S = b => hS (z ▸ hb))).trans e2
  · exact (Heap.get?_update_other _ _ (Ne.symm (away b o e2).2)).trans (kk b o (away b o e2).1 (kp b o e2))
theorem max_at {l : Addr} {xs : Array Value} {Q E : Value → Shared → Prop} {s : Shared} (hh : A.handled = none) (hl : s.heap.IsList l xs) (hne : 0 < xs.size) (bt : Nat → Nat → Bool) (cmp : CmpAt prog w A.in1 .Gt s.heap (fun i v => xs[i]? = some v) bt)
    (r : ∀ v h' tk, xs[argBest bt (xs.size - 1)]? = some v → (∀ b o, s.heap.get? b = some o → h'.get? b = some o) → Q v { s with heap := h', toks := tk }) : wpAny (model prog w) A (call (.builtin "max") [.ref l]) Q E s := by
  have nm : (toString "max" ++ toString ".loop" : String) = "max.loop" := by decide
  have hlt : l < s.heap.objs.size := by obtain ⟨_, e, _⟩ := hl; exact Heap.lt_size e
  refine call_function_tree (F.kind_max) F.plain_max F.entry_max (F.args_max1 _) ?_
  change wpAny _ A.in1 (Builtin.Builtins.bindParams "max" ["key", "default"] 0 ⟨[], []⟩ >>= _) _ _ s
  refine wpAny_bind (wpAny_of_eq (show Builtin.Builtins.bindParams "max" ["key", "default"] 0 ⟨[], []⟩ = pure [none, none] from rfl) (wpAny_bind (wpAny_pure ?_)))
  apply wpAny_bind
  refine wpAny_pyIter_list hl ?_
  apply wpAny_bind
  refine wpAny_newObj_type ?_
  rw [nm]
  refine wpAny_pure ⟨(plainId_quiet F.plain_max_loop _), max_first (Walks.list (A := A.in1) hh s.heap.objs.size l (Nat.ne_of_lt hlt) xs) bt cmp (S := (s.heap.push { cls := .type "list_iterator", data := .fields #[.ref l, .int 0 0] }).objs.size) ?_ (fun b o e => ?_) hne ?_ (fun b o e => Heap.get?_push_of_some _ (Heap.get?_push_of_some _ e)) (Heap.get?_push_size _ rfl) fun v h' tk p2 k2 => r v h' tk p2 k2⟩
  · rw [Heap.size_push, List.mem_cons, List.mem_singleton]; exact fun z => z.elim (Nat.succ_ne_self _) (Nat.ne_of_gt (Nat.lt_succ_of_lt hlt))
  · have := Heap.lt_size e
    rw [Heap.size_push, List.mem_singleton]; exact ⟨Nat.ne_of_lt this, Nat.ne_of_lt (Nat.lt_succ_of_lt this)⟩
  · exact ⟨⟨_, Heap.get?_push_of_some _ (Heap.get?_push_size _ rfl), rfl, rfl⟩, (hl.push _).push _⟩

theorem min_steps (Wk : Walks prog w A.in1 I fp wr n P St) (bt : Nat → Nat → Bool) {hp0 : Heap} (cmp : CmpAt prog w A.in1 .Lt hp0 P bt) {S : Addr} (hS : S ∉ fp) (away : ∀ b o, hp0.get? b = some o → b ∉ wr ∧ b ≠ S) :
    ∀ (k j : Nat) (s : Shared) (vb : Value) (c : Nat), n = k + (j + 1) → St (j + 1) s.heap → P (argBest bt j) vb → (∀ b o, hp0.get? b = some o → s.heap.get? b = some o) →
    s.heap.get? S = some { cls := .type "list", dict := none, data := .seq #[vb, vb] c, slots := #[] } →
    (∀ v h' tk, P (argBest bt (n - 1)) v → (∀ b o, hp0.get? b = some o → h'.get? b = some o) → R (.ok (.ret v)) { s with heap := h', toks := tk }) →
    codeAny (model prog w) A (.builtin "min.loop" ⟨[.ref I, .none, .ref S], []⟩) R s := by
  have nw : S ∉ wr := fun z => hS (Wk.sub _ z)
  have nm : (toString "min" ++ toString ".loop" : String) = "min.loop" := by decide
  intro k
  induction k with
  | zero =>
    intro j s vb c e st pb kp gS r
    refine (codeAny_builtin F.entry_min_loop) ?_; rw [Around.under_plainId (F.plain_min_loop) _]
    change wpAny _ A.in1 (seqItems? (.ref S) >>= _) _ _ s
    apply wpAny_bind; apply wpAny_seqItems gS rfl
    change wpAny _ A.in1 (tryCatch (pyNext (.ref I)) _ >>= _) _ _ s
    apply wpAny_bind; apply wpAny_tryCatch; refine Wk.done s _ _ (by rw [show n = j + 1 by omega]; exact st) fun h' tk kk => ?_
    change wpAny _ A.in1 (updateSeq S (fun _ => #[]) >>= _) _ _ _
    apply wpAny_bind
    refine wpAny_updateSeq (kk S _ nw gS) rfl ?_
    exact wpAny_bind (wpAny_letGo (wpAny_pure (r vb _ tk (by rw [show n - 1 = j by omega]; exact pb) fun b o e2 => (Heap.get?_update_other _ _ (Ne.symm (away b o e2).2)).trans (kk b o (away b o e2).1 (kp b o e2)))))
  | succ k ih =>
    intro j s vb c e st pb kp gS r
    refine (codeAny_builtin F.entry_min_loop) ?_; rw [Around.under_plainId (F.plain_min_loop) _]
    change wpAny _ A.in1 (seqItems? (.ref S) >>= _) _ _ s
    apply wpAny_bind; apply wpAny_seqItems gS rfl
    change wpAny _ A.in1 (tryCatch (pyNext (.ref I)) _ >>= _) _ _ s
    apply wpAny_bind; apply wpAny_tryCatch; refine Wk.item (j + 1) s _ _ (by omega) st fun v h' tk pv st2 kk => ?_
    have gS2 := kk S _ nw gS
    have kp2 : ∀ b o, hp0.get? b = some o → h'.get? b = some o := fun b o e2 => kk b o (away b o e2).1 (kp b o e2)
    change wpAny _ A.in1 (tryCatch (holding [v, v] (richCompare .Lt v vb >>= _)) _ >>= _) _ _ _
    apply wpAny_bind; apply wpAny_tryCatch; apply wpAny_holding; apply wpAny_bind
    refine cmp (j + 1) (argBest bt j) v vb _ _ _ kp2 pv pb ?_
    apply wpAny_bind; apply wpAny_holding; apply wpAny_truthy_bool
    refine wpAny_bind (wpAny_letGo (wpAny_pure (?_)))
    cases yes : bt (j + 1) (argBest bt j) with
    | true =>
      simp only [if_true]
      apply wpAny_bind
      refine wpAny_updateSeq gS2 rfl ?_
      refine wpAny_bind (wpAny_letGo (?_))
      rw [nm]
      refine wpAny_pure ⟨(plainId_quiet F.plain_min_loop _), ih (j + 1) _ v _ (by omega) (Wk.frame _ _ _ st2 fun b hb o e2 => ?_) (by simp only [argBest, yes, if_true]; exact pv) (fun b o e2 => ?_) (Heap.get?_update_self _ gS2 rfl) fun v' h2 tk2 p2 k2 => r v' h2 tk2 p2 k2⟩
      · exact (Heap.get?_update_other _ _ (fun z : S = b => hS (z ▸ hb))).trans e2
      · exact (Heap.get?_update_other _ _ (Ne.symm (away b o e2).2)).trans (kp2 b o e2)
    | false =>
      simp only [Bool.false_eq_true, if_false]
      refine wpAny_bind (wpAny_letGo (?_))
      rw [nm]
      exact wpAny_pure ⟨(plainId_quiet F.plain_min_loop _), ih (j + 1) _ vb c (by omega) st2 (by simp only [argBest, yes, Bool.false_eq_true, if_false]; exact pb) kp2 gS2 fun v' h2 tk2 p2 k2 => r v' h2 tk2 p2 k2⟩
theorem min_first (Wk : Walks prog w A.in1 I fp wr n P St) (bt : Nat → Nat → Bool) {hp0 : Heap} (cmp : CmpAt prog w A.in1 .Lt hp0 P bt) {S : Addr} (hS : S ∉ fp) (away : ∀ b o, hp0.get? b = some o → b ∉ wr ∧ b ≠ S) (hn : 0 < n) {s : Shared} {c : Nat}
    (st : St 0 s.heap) (kp : ∀ b o, hp0.get? b = some o → s.heap.get? b = some o) (gS : s.heap.get? S = some { cls := .type "list", dict := none, data := .seq #[] c, slots := #[] })
    (r : ∀ v h' tk, P (argBest bt (n - 1)) v → (∀ b o, hp0.get? b = some o → h'.get? b = some o) → R (.ok (.ret v)) { s with heap := h', toks := tk }) :
    codeAny (model prog w) A (.builtin "min.loop" ⟨[.ref I, .none, .ref S], []⟩) R s := by
  have nw : S ∉ wr := fun z => hS (Wk.sub _ z)
  have nm : (toString "min" ++ toString ".loop" : String) = "min.loop" := by decide
  refine (codeAny_builtin F.entry_min_loop) ?_; rw [Around.under_plainId (F.plain_min_loop) _]
  change wpAny _ A.in1 (seqItems? (.ref S) >>= _) _ _ s
  apply wpAny_bind; apply wpAny_seqItems gS rfl
  change wpAny _ A.in1 (tryCatch (pyNext (.ref I)) _ >>= _) _ _ s
  apply wpAny_bind; apply wpAny_tryCatch; refine Wk.item 0 s _ _ hn st fun v h' tk pv st2 kk => ?_
  have gS2 := kk S _ nw gS
  change wpAny _ A.in1 (updateSeq S (fun _ => #[v, v]) >>= _) _ _ _
  apply wpAny_bind
  refine wpAny_updateSeq gS2 rfl ?_
  rw [nm]
  refine wpAny_pure ⟨(plainId_quiet F.plain_min_loop _), min_steps Wk bt cmp hS away (n - 1) 0 _ v _ (by omega) (Wk.frame _ _ _ st2 fun b hb o e2 => ?_) pv (fun b o e2 => ?_) (Heap.get?_update_self _ gS2 rfl) fun v' h2 tk2 p2 k2 => r v' h2 tk2 p2 k2⟩
  · exact (Heap.get?_update_other _ _ (fun z : S = b => hS (z ▸ hb))).trans e2
  · exact (Heap.get?_update_other _ _ (Ne.symm (away b o e2).2)).trans (kk b o (away b o e2).1 (kp b o e2))
theorem min_at {l : Addr} {xs : Array Value} {Q E : Value → Shared → Prop} {s : Shared} (hh : A.handled = none) (hl : s.heap.IsList l xs) (hne : 0 < xs.size) (bt : Nat → Nat → Bool) (cmp : CmpAt prog w A.in1 .Lt s.heap (fun i v => xs[i]? = some v) bt)
    (r : ∀ v h' tk, xs[argBest bt (xs.size - 1)]? = some v → (∀ b o, s.heap.get? b = some o → h'.get? b = some o) → Q v { s with heap := h', toks := tk }) : wpAny (model prog w) A (call (.builtin "min") [.ref l]) Q E s := by
  have nm : (toString "min" ++ toString ".loop" : String) = "min.loop" := by decide
  have hlt : l < s.heap.objs.size := by obtain ⟨_, e, _⟩ := hl; exact Heap.lt_size e
  refine call_function_tree (F.kind_min) F.plain_min F.entry_min (F.args_min1 _) ?_
  change wpAny _ A.in1 (Builtin.Builtins.bindParams "min" ["key", "default"] 0 ⟨[], []⟩ >>= _) _ _ s
  refine wpAny_bind (wpAny_of_eq (show Builtin.Builtins.bindParams "min" ["key", "default"] 0 ⟨[], []⟩ = pure [none, none] from rfl) (wpAny_bind (wpAny_pure ?_)))
  apply wpAny_bind
  refine wpAny_pyIter_list hl ?_
  apply wpAny_bind
  refine wpAny_newObj_type ?_
  rw [nm]
  refine wpAny_pure ⟨(plainId_quiet F.plain_min_loop _), min_first (Walks.list (A := A.in1) hh s.heap.objs.size l (Nat.ne_of_lt hlt) xs) bt cmp (S := (s.heap.push { cls := .type "list_iterator", data := .fields #[.ref l, .int 0 0] }).objs.size) ?_ (fun b o e => ?_) hne ?_ (fun b o e => Heap.get?_push_of_some _ (Heap.get?_push_of_some _ e)) (Heap.get?_push_size _ rfl) fun v h' tk p2 k2 => r v h' tk p2 k2⟩
  · rw [Heap.size_push, List.mem_cons, List.mem_singleton]; exact fun z => z.elim (Nat.succ_ne_self _) (Nat.ne_of_gt (Nat.lt_succ_of_lt hlt))
  · have := Heap.lt_size e
    rw [Heap.size_push, List.mem_singleton]; exact ⟨Nat.ne_of_lt this, Nat.ne_of_lt (Nat.lt_succ_of_lt this)⟩
  · exact ⟨⟨_, Heap.get?_push_of_some _ (Heap.get?_push_size _ rfl), rfl, rfl⟩, (hl.push _).push _⟩
end
end Pu
namespace Pu
open PySem PySem.Spec L2
section
variable {X : Cx} {K : Fg} {F F' : FS} {H H' : Hp} {d e : D} {P : DK}
/-- two tuples of ints and texts, wherever they stand -/
theorem tp_rc {op : CmpOp} {o : Ord} (ht : ∀ {A : Around} {s : Shared} {l b : Addr} {items items2 : Array Value} {e r : Nat → Bool}, s.heap.IsTuple l items → s.heap.IsTuple b items2 → A.units < cLine →
      (∀ j (h1 : j < items.size) (h2 : j < items2.size), SeqAt.EqAt A.in1 s items[j] items2[j] (e j)) →
      (∀ j (h1 : j < items.size) (h2 : j < items2.size), e j = false → Ob.RcOp op A.in1 s items[j] items2[j] (r j)) →
      Ob.RcOp op A s (.ref l) (.ref b) (Ob.lexAt e r (o.n items.size items2.size) 0 (min items.size items2.size)))
    (hi : ∀ {A : Around} {s : Shared} (a b : Int) (t u : Tok), Ob.RcOp op A s (.int a t) (.int b u) (o.i a b))
    (hs : ∀ {A : Around} {s : Shared} (a b : Str) (t u : Tok), Ob.RcOp op A s (.str a t) (.str b u) (o.s a b))
    {A : Around} {s : Shared} {a b : Addr} {ds es : List D} {its its2 : List Value} (hu : A.units < cLine) (r1 : Vals (ds.map D.toV) its) (r2 : Vals (es.map D.toV) its2) (p1 : s.heap.IsTuple a its.toArray) (p2 : s.heap.IsTuple b its2.toArray)
    (f1 : ds.all D.flat = true) (f2 : es.all D.flat = true) (hcm : cmpPs ds es = true) : Ob.RcOp op A s (.ref a) (.ref b) (lexB o (o.n ds.length es.length) ds es) := by
  have l1 : its.length = ds.length := by have := r1.length; simpa using this.symm
  have l2 : its2.length = es.length := by have := r2.length; simpa using this.symm
  have at1 : ∀ {ds : List D} {its : List Value}, Vals (ds.map D.toV) its → ds.all D.flat = true → its.length = ds.length → ∀ j (h1 : j < its.toArray.size), ∃ d, ds[j]? = some d ∧ d.flat = true ∧ RelV d.toV its.toArray[j] := fun {ds its} r1 f1 l1 j h1 => by
    have h1' : j < its.length := by simpa using h1
    have hj : ds[j]? = some (ds[j]'(by omega)) := List.getElem?_eq_getElem (by omega)
    refine ⟨_, hj, List.all_eq_true.mp f1 _ (List.getElem_mem _), ?_⟩
    obtain ⟨u, hu, ru⟩ := r1.get (i := j) (x := (ds[j]'(by omega)).toV) (by rw [List.getElem?_map, hj]; rfl)
    rw [List.getElem?_eq_getElem h1'] at hu
    cases hu
    simpa using ru
  have R := ht (A := A) (s := s) (l := a) (b := b) (items := its.toArray) (items2 := its2.toArray) (e := fun j => eqV ((ds[j]?.getD .non).toV) ((es[j]?.getD .non).toV)) (r := fun j => o.g (ds[j]?.getD .non) (es[j]?.getD .non)) p1 p2 hu (fun j h1 h2 => by
    obtain ⟨d, e1, g1, q1⟩ := at1 r1 f1 l1 j h1
    obtain ⟨g, e2, g2, q2⟩ := at1 r2 f2 l2 j h2
    simp only [e1, e2, Option.getD_some]
    exact eqAt_V q1 q2 (flat_toV g1) (flat_toV g2)) (fun j h1 h2 _ => by
    obtain ⟨d, e1, g1, q1⟩ := at1 r1 f1 l1 j h1
    obtain ⟨g, e2, g2, q2⟩ := at1 r2 f2 l2 j h2
    simp only [e1, e2, Option.getD_some]
    have cp := cmpPs_at hcm j d g e1 e2
    cases d <;> try (cases cp; done)
    · cases g <;> try (cases cp; done)
      obtain ⟨t, et⟩ := (show ∃ t, its.toArray[j] = Value.int _ t from q1)
      obtain ⟨t', et'⟩ := (show ∃ t, its2.toArray[j] = Value.int _ t from q2)
      rw [et, et']
      exact hi _ _ _ _
    · cases g <;> try (cases cp; done)
      obtain ⟨t, et⟩ := (show ∃ t, its.toArray[j] = Value.str _ t from q1)
      obtain ⟨t', et'⟩ := (show ∃ t, its2.toArray[j] = Value.str _ t from q2)
      rw [et, et']
      exact hs _ _ _ _)
  rw [show its.toArray.size = ds.length by simpa using l1, show its2.toArray.size = es.length by simpa using l2, lex_eq (o := o) 0 (fun j d g h1 h2 => by simp [h1, h2]) (fun j d g h1 h2 => by simp [h1, h2])] at R
  exact R
theorem lt_rc {A : Around} {s : Shared} {a b : Addr} {ds es : List D} {its its2 : List Value} (hu : A.units < cLine) (r1 : Vals (ds.map D.toV) its) (r2 : Vals (es.map D.toV) its2) (p1 : s.heap.IsTuple a its.toArray) (p2 : s.heap.IsTuple b its2.toArray)
    (f1 : ds.all D.flat = true) (f2 : es.all D.flat = true) (hcm : cmpPs ds es = true) : Ob.RcOp .Lt A s (.ref a) (.ref b) (lexB ordLt (ordLt.n ds.length es.length) ds es) :=
  tp_rc (o := ordLt) (fun a b c d e => Ob.RcOp.tuples_lt a b c d e) (fun a b t u => Ob.RcOp.lt_int a b t u) (fun a b t u _ _ _ _ h => PyProof.Rows.lt_str h) hu r1 r2 p1 p2 f1 f2 hcm
theorem gt_rc {A : Around} {s : Shared} {a b : Addr} {ds es : List D} {its its2 : List Value} (hu : A.units < cLine) (r1 : Vals (ds.map D.toV) its) (r2 : Vals (es.map D.toV) its2) (p1 : s.heap.IsTuple a its.toArray) (p2 : s.heap.IsTuple b its2.toArray)
    (f1 : ds.all D.flat = true) (f2 : es.all D.flat = true) (hcm : cmpPs ds es = true) : Ob.RcOp .Gt A s (.ref a) (.ref b) (lexB ordGt (ordGt.n ds.length es.length) ds es) :=
  tp_rc (o := ordGt) (fun a b c d e => Ob.RcOp.tuples_gt a b c d e) (fun a b t u => Ob.RcOp.gt_int a b t u) (fun a b t u _ _ _ _ h => PySem.P.gt_str h) hu r1 r2 p1 p2 f1 f2 hcm
/-- the first best of tuples -/
def bestT (o : Ord) (m x : List D) : List D := if lexB o (o.n x.length m.length) x m = true then x else m
def bestL (o : Ord) : List (List D) → List D
  | [] => []
  | d :: ds => ds.foldl (bestT o) d
def tupsOf : List D → Option (List (List D))
  | [] => some []
  | .tup x :: ds => (tupsOf ds).map (x :: ·)
  | _ => none
theorem tupsOf_eq : ∀ {ds : List D} {ns : List (List D)}, tupsOf ds = some ns → ds = ns.map D.tup
  | [], ns, h => by cases h; rfl
  | .tup i :: ds, ns, h => by
    simp only [tupsOf, Option.map_eq_some_iff] at h
    obtain ⟨m, h1, rfl⟩ := h
    rw [tupsOf_eq h1]; rfl
theorem tupsOf_map {α : Type} (g : α → List D) : ∀ xs : List α, tupsOf (xs.map fun x => D.tup (g x)) = some (xs.map g)
  | [] => rfl
  | x :: xs => by
    have := tupsOf_map g xs
    simp only [List.map_cons, tupsOf, this, Option.map_some]
def okT (ns : List (List D)) : Prop := ns ≠ [] ∧ (∀ x, x ∈ ns → x.all D.flat = true) ∧ ∀ x, x ∈ ns → ∀ y, y ∈ ns → cmpPs x y = true
def tupLW (o : Ord) : D → DK → Prop
  | .lst ds, P => isSome (fun ns => okT ns ∧ P (.tup (bestL o ns))) (tupsOf ds)
  | _, _ => False
theorem arg_lt (bt : Nat → Nat → Bool) : ∀ k, argBest bt k ≤ k
  | 0 => Nat.le_refl 0
  | k + 1 => by
    have := arg_lt bt k
    simp only [argBest]
    split <;> omega
theorem arg_fold (o : Ord) (d : List D) (ds : List (List D)) : ∀ k, k ≤ ds.length →
    (d :: ds)[argBest (fun i j => lexB o (o.n ((d :: ds)[i]?.getD []).length ((d :: ds)[j]?.getD []).length) ((d :: ds)[i]?.getD []) ((d :: ds)[j]?.getD [])) k]? = some ((ds.take k).foldl (bestT o) d)
  | 0, _ => rfl
  | k + 1, h => by
    have ih := arg_fold o d ds k (by omega)
    have e : (d :: ds)[k + 1]? = some (ds[k]'(by omega)) := by rw [List.getElem?_cons_succ, List.getElem?_eq_getElem]
    have e2 : ds[k]? = some (ds[k]'(by omega)) := List.getElem?_eq_getElem _
    rw [List.take_succ, e2, Option.toList_some, List.foldl_append, List.foldl_cons, List.foldl_nil]
    generalize hb : (fun i j : Nat => lexB o (o.n ((d :: ds)[i]?.getD []).length ((d :: ds)[j]?.getD []).length) ((d :: ds)[i]?.getD []) ((d :: ds)[j]?.getD [])) = bt at ih ⊢
    simp only [argBest]
    have hbt : bt (k + 1) (argBest bt k) = lexB o (o.n (ds[k]'(by omega)).length ((ds.take k).foldl (bestT o) d).length) (ds[k]'(by omega)) ((ds.take k).foldl (bestT o) d) := by
      rw [← hb] at ih ⊢
      simp only [ih, e, Option.getD_some]
    have hb2 : bestT o ((ds.take k).foldl (bestT o) d) (ds[k]'(by omega)) = if bt (k + 1) (argBest bt k) = true then ds[k]'(by omega) else (ds.take k).foldl (bestT o) d := by rw [hbt]; rfl
    rw [hb2]
    split
    · exact e
    · exact ih
/-- what the heap must bear for max, min of tuples -/
def rBest (X : Cx) (o : Ord) : List V → Hp → VK → Prop := fun vs H Q => ∃ (a : Addr) (rs : List Addr) (ns : List (List D)), vs = [.ref a] ∧ SqL X.K H a (rs.map V.ref) ∧ rs.length = ns.length ∧ okT ns ∧
  (∀ (i : Nat) b x, rs[i]? = some b → ns[i]? = some x → SqT X.K H b (x.map D.toV)) ∧ ∀ (i : Nat) b, rs[i]? = some b → ns[i]? = some (bestL o ns) → Q (.ref b) H
theorem best_cr {op : CmpOp} {o : Ord} {nm : String} (hat : ∀ {prog : Program} {w : World} {A : Around} {l : Addr} {xs : Array Value} {Q E : Value → Shared → Prop} {s : Shared}, A.handled = none → s.heap.IsList l xs → 0 < xs.size → ∀ bt : Nat → Nat → Bool, CmpAt prog w A.in1 op s.heap (fun i v => xs[i]? = some v) bt →
      (∀ v h' tk, xs[argBest bt (xs.size - 1)]? = some v → (∀ b o, s.heap.get? b = some o → h'.get? b = some o) → Q v { s with heap := h', toks := tk }) → wpAny (model prog w) A (call (.builtin nm) [.ref l]) Q E s)
    (hrc : ∀ {A : Around} {s : Shared} {a b : Addr} {ds es : List D} {its its2 : List Value}, A.units < cLine → Vals (ds.map D.toV) its → Vals (es.map D.toV) its2 → s.heap.IsTuple a its.toArray → s.heap.IsTuple b its2.toArray →
      ds.all D.flat = true → es.all D.flat = true → cmpPs ds es = true → Ob.RcOp op A s (.ref a) (.ref b) (lexB o (o.n ds.length es.length) ds es))
    (hc : X.calm = true) (hu : X.A.units + 65 < cLine) : CallR X (.builtin nm) (rBest X o) := by
  intro pins s σ H vs us Q I r h
  obtain ⟨a, rs, ns, rfl, hs, hl, ⟨hne, hf, hp⟩, ht, q⟩ := h
  obtain ⟨its, rv, hl2, _⟩ := I.list hs
  rw [Vals.ref1 r]
  have el : its.length = ns.length := by have := rv.length; simp at this; omega
  have hn0 : 0 < ns.length := List.length_pos_iff.mpr hne
  have at1 : ∀ (i : Nat) (v : Value), its.toArray[i]? = some v → ∃ b x, rs[i]? = some b ∧ ns[i]? = some x ∧ v = .ref b := fun i v e => by
    have e : its[i]? = some v := by simpa using e
    have hi : i < ns.length := by have := (List.getElem?_eq_some_iff.mp e).1; omega
    obtain ⟨u, e2, r2⟩ := rv.get (i := i) (x := V.ref (rs[i]'(by omega))) (by rw [List.getElem?_map, List.getElem?_eq_getElem (by omega)]; rfl)
    rw [e] at e2; cases e2
    exact ⟨_, _, List.getElem?_eq_getElem (by omega), List.getElem?_eq_getElem hi, r2⟩
  obtain ⟨d, ds, rfl⟩ : ∃ d ds, ns = d :: ds := by
    cases ns with
    | nil => exact absurd rfl hne
    | cons d ds => exact ⟨d, ds, rfl⟩
  refine hat (I.ok.hd hc) hl2.isList (by simp; omega) (fun i j => lexB o (o.n ((d :: ds)[i]?.getD []).length ((d :: ds)[j]?.getD []).length) ((d :: ds)[i]?.getD []) ((d :: ds)[j]?.getD [])) (fun i j x y s2 Q2 E2 keep px py k => ?_) fun v h' tk e hk => ?_
  · obtain ⟨b1, x1, r1, n1, rfl⟩ := at1 i x px
    obtain ⟨b2, x2, r2, n2, rfl⟩ := at1 j y py
    obtain ⟨i1, v1, p1, _⟩ := I.tuple (ht i b1 x1 r1 n1)
    obtain ⟨i2, v2, p2, _⟩ := I.tuple (ht j b2 x2 r2 n2)
    have m1 : x1 ∈ d :: ds := List.mem_of_getElem? n1
    have m2 : x2 ∈ d :: ds := List.mem_of_getElem? n2
    simp only [n1, n2, Option.getD_some] at k
    have up : ∀ {a : Addr} {xs : Array Value}, s.heap.IsTuple a xs → s2.heap.IsTuple a xs := fun ⟨o, e, z⟩ => ⟨o, keep _ _ e, z⟩
    exact hrc (A := X.A.in1) (by have : X.A.in1.units = X.A.units + 1 := rfl; omega) v1 v2 (up p1) (up p2) (hf _ m1) (hf _ m2) (hp _ m1 _ m2) X.prog X.w E2 Q2 k
  · have ea := arg_fold o d ds ds.length (Nat.le_refl _)
    rw [List.take_length] at ea
    have es : its.toArray.size - 1 = ds.length := by simp at el ⊢; omega
    rw [es] at e
    obtain ⟨b, x, r1, n1, rfl⟩ := at1 _ _ e
    exact ⟨.ref b, H, I.kept hk, rfl, q _ b r1 (by rw [ea]; rfl)⟩
theorem tup_best {o : Ord} {v : V} {Q : VK} (f : Fits F H) (r : RepT X.K F H d v) (h : tupLW o d P) (k : Kont X.K F H P Q) : rBest X o [v] H Q := by
  cases d <;> try exact h.elim
  rename_i ds
  obtain ⟨a, vs, rfl, h1, q⟩ := r.lst f
  obtain ⟨ns, e, ok, hP⟩ := isSome_inv h
  cases tupsOf_eq e
  have refs : ∀ {ns : List (List D)} {vs : List V}, Reps X.K F (ns.map D.tup) vs → ∃ rs : List Addr, vs = rs.map V.ref ∧ rs.length = ns.length := by
    intro ns
    induction ns with
    | nil => intro vs q; simp only [List.map_nil, Reps] at q; exact ⟨[], q, rfl⟩
    | cons n ns ih =>
      intro vs q
      simp only [List.map_cons, Reps] at q
      obtain ⟨v, r, rfl, q1, q2⟩ := q
      simp only [Rep] at q1
      obtain ⟨b, us, rfl, _⟩ := q1
      obtain ⟨rs, rfl, hl⟩ := ih q2
      exact ⟨b :: rs, rfl, by simp [hl]⟩
  obtain ⟨rs, rfl, hl⟩ := refs q
  have at1 : ∀ (i : Nat) b x, rs[i]? = some b → ns[i]? = some x → Rep X.K F (.tup x) (.ref b) := fun i b x e1 e2 => by
    obtain ⟨v, e3, r3⟩ := q.get (i := i) (d := .tup x) (by rw [List.getElem?_map, e2]; rfl)
    rw [List.getElem?_map, e1] at e3
    cases e3
    exact r3
  refine ⟨a, rs, ns, rfl, SqL.of h1, hl, ok, fun i b x e1 e2 => ?_, fun i b e1 e2 => k.here f hP (at1 i b _ e1 e2)⟩
  have r3 := at1 i b x e1 e2
  simp only [Rep] at r3
  obtain ⟨b2, us, eb, sq, r4⟩ := r3
  cases eb
  rw [(flats_rep (ok.2.1 _ (List.mem_of_getElem? e2)) r4).1] at sq
  exact Same.seqT f.fz (.inl (.inl sq))
theorem c_maxT (hc : X.calm = true) (hu : X.A.units + 65 < cLine) : callS X (.builtin "max") (on1 (tupLW ordGt)) := ⟨_, best_cr max_at gt_rc hc hu, fun ds xs F H P Q f r h k => by
  obtain ⟨d, v, rfl, rfl, r1, h⟩ := on1_inv h r
  exact tup_best f r1 h k⟩
theorem c_minT (hc : X.calm = true) (hu : X.A.units + 65 < cLine) : callS X (.builtin "min") (on1 (tupLW ordLt)) := ⟨_, best_cr min_at lt_rc hc hu, fun ds xs F H P Q f r h k => by
  obtain ⟨d, v, rfl, rfl, r1, h⟩ := on1_inv h r
  exact tup_best f r1 h k⟩
theorem tupLW_lst {o : Ord} {ds : List D} : tupLW o (.lst ds) P = isSomeD (fun ns => okT ns ∧ P (.tup (bestL o ns))) Tg.mk (tupsOf ds) := id rfl
end
end Pu
namespace Pu
open PySem PySem.Spec L2
/-! ### max(a, b, c), min(a, b, c) of ints -/
def on3 (w : D → D → D → DK → Prop) : List D → DK → Prop
  | [d, e, g], P => w d e g P
  | _, _ => False
theorem on3_3 {w : D → D → D → DK → Prop} {d e g : D} {P : DK} : on3 w [d, e, g] P = w d e g P := id rfl
section
variable {prog : Program} {w : World} {A : Around} {X : Cx}

theorem args_max3 (a b c : Value) : argsOk "max" ⟨[a, b, c], []⟩ := by unfold argsOk; kernel_rfl
theorem max3_at {x y z : Value} {i j k : Int} {Q E : Value → Shared → Prop} {s : Shared} (hh : A.handled = none) (hx : ∃ t, x = .int i t) (hy : ∃ t, y = .int j t) (hz : ∃ t, z = .int k t)
    (r : ∀ v h' tk, (∃ t, v = .int (max (max i j) k) t) → (∀ b o, s.heap.get? b = some o → h'.get? b = some o) → Q v { s with heap := h', toks := tk }) : wpAny (model prog w) A (call (.builtin "max") [x, y, z]) Q E s := by
  have nm : (toString "max" ++ toString ".loop" : String) = "max.loop" := by decide
  have hT : (s.heap.push { cls := .type "tuple", data := .seq #[x, y, z] }).IsTuple s.heap.objs.size #[x, y, z] := ⟨_, Heap.get?_push_size _ rfl, rfl, 0, rfl⟩
  have sz1 : (s.heap.push { cls := .type "tuple", data := .seq #[x, y, z] }).objs.size = s.heap.objs.size + 1 := Heap.size_push ..
  have sz2 : ((s.heap.push { cls := .type "tuple", data := .seq #[x, y, z] }).push { cls := .type "tuple_iterator", data := .fields #[.ref s.heap.objs.size, .int 0 0] }).objs.size = s.heap.objs.size + 1 + 1 := (Heap.size_push ..).trans (by rw [sz1])
  refine call_function_tree (F.kind_max) F.plain_max F.entry_max (args_max3 _ _ _) ?_
  change wpAny _ A.in1 (Builtin.Builtins.bindParams "max" ["key", "default"] 0 ⟨[], []⟩ >>= _) _ _ s
  refine wpAny_bind (wpAny_of_eq (show Builtin.Builtins.bindParams "max" ["key", "default"] 0 ⟨[], []⟩ = pure [none, none] from rfl) ?_)
  change wpAny _ A.in1 (newTuple [x, y, z] >>= _) _ _ s
  apply wpAny_bind
  refine wpAny_newObj_type ?_
  apply wpAny_bind
  refine wpAny_pyIter_tuple hT ?_
  apply wpAny_bind
  refine wpAny_newObj_type ?_
  rw [nm]
  have val : ∀ (n : Nat) (v : Value), (#[x, y, z] : Array Value)[n]? = some v → ∃ t, v = .int ([i, j, k][n]?.getD 0) t := fun n v e => by
    match n, e with
    | 0, e => cases e; exact hx
    | 1, e => cases e; exact hy
    | 2, e => cases e; exact hz
    | n + 3, e => simp at e
  refine wpAny_pure ⟨(plainId_quiet F.plain_max_loop _), max_first (Walks.tuple (A := A.in1) hh _ s.heap.objs.size (by rw [sz1]; exact Nat.ne_of_lt (Nat.lt_succ_self _)) #[x, y, z]) (fun a b => decide ([i, j, k][a]?.getD 0 > [i, j, k][b]?.getD 0)) (hp0 := s.heap)
    (fun a b x y s Q E _ px py q => CmpOf.ints_gt _ val a b x y s Q E px py q) (S := ((s.heap.push { cls := .type "tuple", data := .seq #[x, y, z] }).push { cls := .type "tuple_iterator", data := .fields #[.ref s.heap.objs.size, .int 0 0] }).objs.size) ?_ (fun b o e => ?_) (by show 0 < 3; omega) ?_ (fun b o e => ?_) (Heap.get?_push_size _ rfl) fun v h' tk p2 k2 => r v h' tk ?_ k2⟩
  · rw [sz2, sz1, List.mem_cons, List.mem_singleton]; exact fun z => z.elim (Nat.succ_ne_self _) (Nat.ne_of_gt (Nat.lt_succ_of_lt (Nat.lt_succ_self _)))
  · have lt := Heap.lt_size e
    rw [sz2, sz1, List.mem_singleton]; exact ⟨Nat.ne_of_lt (Nat.lt_succ_of_lt lt), Nat.ne_of_lt (Nat.lt_succ_of_lt (Nat.lt_succ_of_lt lt))⟩
  · exact ⟨⟨_, Heap.get?_push_of_some _ (Heap.get?_push_size _ rfl), rfl, rfl⟩, (hT.push _).push _⟩
  · exact Heap.get?_push_of_some _ (Heap.get?_push_of_some _ (Heap.get?_push_of_some _ e))
  · obtain ⟨t, rfl⟩ := val _ _ p2
    obtain ⟨h1, h2⟩ := argBest_gt (fun a => [i, j, k][a]?.getD 0) 2
    refine ⟨t, ?_⟩
    congr 1
    have q0 := h2 0 (by omega)
    have q1 := h2 1 (by omega)
    have q2 := h2 2 (by omega)
    change ([i, j, k][argBest (fun a b => decide ([i, j, k][a]?.getD 0 > [i, j, k][b]?.getD 0)) 2]?.getD 0) = _
    generalize argBest (fun a b => decide ([i, j, k][a]?.getD 0 > [i, j, k][b]?.getD 0)) 2 = g at h1 q0 q1 q2 ⊢
    match g, h1, q0, q1, q2 with
    | 0, _, q0, q1, q2 => simp at q1 q2 ⊢; omega
    | 1, _, q0, q1, q2 => simp at q0 q2 ⊢; omega
    | 2, _, q0, q1, q2 => simp at q0 q1 ⊢; omega
    | g + 3, h1, _, _, _ => omega
def rMax3 : List V → Hp → VK → Prop := fun xs H Q => ∃ i j k, xs = [.int i, .int j, .int k] ∧ Q (.int (max (max i j) k)) H
theorem cr_max3 (hc : X.calm = true) : CallR X (.builtin "max") rMax3 := by
  intro pins s σ H vs us Q I r h
  obtain ⟨i, j, k, rfl, q⟩ := h
  cases r with
  | cons r1 r =>
  cases r with
  | cons r2 r =>
  cases r with
  | cons r3 r =>
  cases r
  refine max3_at (I.ok.hd hc) r1 r2 r3 fun v h' tk hv hk => ?_
  obtain ⟨t, rfl⟩ := hv
  exact ⟨.int _, H, I.kept hk, ⟨_, rfl⟩, q⟩
def max3W : D → D → D → DK → Prop
  | .int i, .int j, .int k, P => P (.int (max (max i j) k))
  | _, _, _, _ => False
theorem max3W_mx {i j k : Int} {P : DK} : max3W (.int i) (.int j) (.int k) P = P (.int (max (max i j) k)) := id rfl
theorem c_max3 (hc : X.calm = true) : callS X (.builtin "max") (on3 max3W) := ⟨_, cr_max3 hc, fun ds xs F H P Q f r h k => by
  match ds, h with
  | [d, e, g], h =>
  obtain ⟨v1, _, rfl, r1, v2, _, rfl, r2, v3, _, rfl, r3, rfl⟩ := r
  cases d <;> try exact h.elim
  cases e <;> try exact h.elim
  cases g <;> try exact h.elim
  rw [r1.int, r2.int, r3.int]
  exact ⟨_, _, _, rfl, k.int f h⟩⟩

theorem args_min3 (a b c : Value) : argsOk "min" ⟨[a, b, c], []⟩ := by unfold argsOk; kernel_rfl
theorem min3_at {x y z : Value} {i j k : Int} {Q E : Value → Shared → Prop} {s : Shared} (hh : A.handled = none) (hx : ∃ t, x = .int i t) (hy : ∃ t, y = .int j t) (hz : ∃ t, z = .int k t)
    (r : ∀ v h' tk, (∃ t, v = .int (min (min i j) k) t) → (∀ b o, s.heap.get? b = some o → h'.get? b = some o) → Q v { s with heap := h', toks := tk }) : wpAny (model prog w) A (call (.builtin "min") [x, y, z]) Q E s := by
  have nm : (toString "min" ++ toString ".loop" : String) = "min.loop" := by decide
  have hT : (s.heap.push { cls := .type "tuple", data := .seq #[x, y, z] }).IsTuple s.heap.objs.size #[x, y, z] := ⟨_, Heap.get?_push_size _ rfl, rfl, 0, rfl⟩
  have sz1 : (s.heap.push { cls := .type "tuple", data := .seq #[x, y, z] }).objs.size = s.heap.objs.size + 1 := Heap.size_push ..
  have sz2 : ((s.heap.push { cls := .type "tuple", data := .seq #[x, y, z] }).push { cls := .type "tuple_iterator", data := .fields #[.ref s.heap.objs.size, .int 0 0] }).objs.size = s.heap.objs.size + 1 + 1 := (Heap.size_push ..).trans (by rw [sz1])
  refine call_function_tree (F.kind_min) F.plain_min F.entry_min (args_min3 _ _ _) ?_
  change wpAny _ A.in1 (Builtin.Builtins.bindParams "min" ["key", "default"] 0 ⟨[], []⟩ >>= _) _ _ s
  refine wpAny_bind (wpAny_of_eq (show Builtin.Builtins.bindParams "min" ["key", "default"] 0 ⟨[], []⟩ = pure [none, none] from rfl) ?_)
  change wpAny _ A.in1 (newTuple [x, y, z] >>= _) _ _ s
  apply wpAny_bind
  refine wpAny_newObj_type ?_
  apply wpAny_bind
  refine wpAny_pyIter_tuple hT ?_
  apply wpAny_bind
  refine wpAny_newObj_type ?_
  rw [nm]
  have val : ∀ (n : Nat) (v : Value), (#[x, y, z] : Array Value)[n]? = some v → ∃ t, v = .int ([i, j, k][n]?.getD 0) t := fun n v e => by
    match n, e with
    | 0, e => cases e; exact hx
    | 1, e => cases e; exact hy
    | 2, e => cases e; exact hz
    | n + 3, e => simp at e
  refine wpAny_pure ⟨(plainId_quiet F.plain_min_loop _), min_first (Walks.tuple (A := A.in1) hh _ s.heap.objs.size (by rw [sz1]; exact Nat.ne_of_lt (Nat.lt_succ_self _)) #[x, y, z]) (fun a b => decide ([i, j, k][a]?.getD 0 < [i, j, k][b]?.getD 0)) (hp0 := s.heap)
    (fun a b x y s Q E _ px py q => CmpOf.ints_lt _ val a b x y s Q E px py q) (S := ((s.heap.push { cls := .type "tuple", data := .seq #[x, y, z] }).push { cls := .type "tuple_iterator", data := .fields #[.ref s.heap.objs.size, .int 0 0] }).objs.size) ?_ (fun b o e => ?_) (by show 0 < 3; omega) ?_ (fun b o e => ?_) (Heap.get?_push_size _ rfl) fun v h' tk p2 k2 => r v h' tk ?_ k2⟩
  · rw [sz2, sz1, List.mem_cons, List.mem_singleton]; exact fun z => z.elim (Nat.succ_ne_self _) (Nat.ne_of_gt (Nat.lt_succ_of_lt (Nat.lt_succ_self _)))
  · have lt := Heap.lt_size e
    rw [sz2, sz1, List.mem_singleton]; exact ⟨Nat.ne_of_lt (Nat.lt_succ_of_lt lt), Nat.ne_of_lt (Nat.lt_succ_of_lt (Nat.lt_succ_of_lt lt))⟩
  · exact ⟨⟨_, Heap.get?_push_of_some _ (Heap.get?_push_size _ rfl), rfl, rfl⟩, (hT.push _).push _⟩
  · exact Heap.get?_push_of_some _ (Heap.get?_push_of_some _ (Heap.get?_push_of_some _ e))
  · obtain ⟨t, rfl⟩ := val _ _ p2
    obtain ⟨h1, h2⟩ := argBest_lt (fun a => [i, j, k][a]?.getD 0) 2
    refine ⟨t, ?_⟩
    congr 1
    have q0 := h2 0 (by omega)
    have q1 := h2 1 (by omega)
    have q2 := h2 2 (by omega)
    change ([i, j, k][argBest (fun a b => decide ([i, j, k][a]?.getD 0 < [i, j, k][b]?.getD 0)) 2]?.getD 0) = _
    generalize argBest (fun a b => decide ([i, j, k][a]?.getD 0 < [i, j, k][b]?.getD 0)) 2 = g at h1 q0 q1 q2 ⊢
    match g, h1, q0, q1, q2 with
    | 0, _, q0, q1, q2 => simp at q1 q2 ⊢; omega
    | 1, _, q0, q1, q2 => simp at q0 q2 ⊢; omega
    | 2, _, q0, q1, q2 => simp at q0 q1 ⊢; omega
    | g + 3, h1, _, _, _ => omega
def rMin3 : List V → Hp → VK → Prop := fun xs H Q => ∃ i j k, xs = [.int i, .int j, .int k] ∧ Q (.int (min (min i j) k)) H
theorem cr_min3 (hc : X.calm = true) : CallR X (.builtin "min") rMin3 := by
  intro pins s σ H vs us Q I r h
  obtain ⟨i, j, k, rfl, q⟩ := h
  cases r with
  | cons r1 r =>
  cases r with
  | cons r2 r =>
  cases r with
  | cons r3 r =>
  cases r
  refine min3_at (I.ok.hd hc) r1 r2 r3 fun v h' tk hv hk => ?_
  obtain ⟨t, rfl⟩ := hv
  exact ⟨.int _, H, I.kept hk, ⟨_, rfl⟩, q⟩
def min3W : D → D → D → DK → Prop
  | .int i, .int j, .int k, P => P (.int (min (min i j) k))
  | _, _, _, _ => False
theorem min3W_mx {i j k : Int} {P : DK} : min3W (.int i) (.int j) (.int k) P = P (.int (min (min i j) k)) := id rfl
theorem c_min3 (hc : X.calm = true) : callS X (.builtin "min") (on3 min3W) := ⟨_, cr_min3 hc, fun ds xs F H P Q f r h k => by
  match ds, h with
  | [d, e, g], h =>
  obtain ⟨v1, _, rfl, r1, v2, _, rfl, r2, v3, _, rfl, r3, rfl⟩ := r
  cases d <;> try exact h.elim
  cases e <;> try exact h.elim
  cases g <;> try exact h.elim
  rw [r1.int, r2.int, r3.int]
  exact ⟨_, _, _, rfl, k.int f h⟩⟩
theorem atI_m1 {α : Type} {xs : List α} : atI xs (-1) = xs.getLast? := by
  cases xs with
  | nil => rfl
  | cons x xs =>
    have := atI_neg (x :: xs) 0 (by simp)
    rw [List.getLast?_eq_getElem?]
    simpa using this
end
end Pu
namespace Pu
open PySem PySem.Spec L2
/-! ### dicts: keys are ints and texts (dK), or tuples of such (dT) -/
section
variable {κ : Type} [DecidableEq κ] {α β : Type}
/-- what stands at a key -/
def lookG : List κ → List α → κ → Option α
  | k :: ks, x :: xs, j => if k = j then some x else lookG ks xs j
  | _, _, _ => none
def putKs (ks : List κ) (j : κ) : List κ := if j ∈ ks then ks else ks ++ [j]
def putXs (ks : List κ) (xs : List α) (j : κ) (y : α) : List α := if j ∈ ks then List.zipWith (fun k x => if k = j then y else x) ks xs else xs ++ [y]
theorem valV_zipG : ∀ (ks : List κ) (vs : List V) (j : κ), valV (ks.zip vs) j = lookG ks vs j
  | [], _, _ => rfl
  | _ :: _, [], _ => rfl
  | k :: ks, v :: vs, j => by
    simp only [List.zip_cons_cons, lookG]
    by_cases h : k = j
    · rw [if_pos h]; exact valV_pos h
    · rw [if_neg h, valV_neg h]; exact valV_zipG ks vs j
theorem any_zipG (j : κ) : ∀ (ks : List κ) (vs : List V), ks.length = vs.length → (((ks.zip vs).any fun kv => decide (kv.1 = j)) = true ↔ j ∈ ks)
  | [], [], _ => by simp
  | k :: ks, v :: vs, h => by
    simp only [List.zip_cons_cons, List.any_cons, Bool.or_eq_true, decide_eq_true_eq, List.mem_cons]
    rw [any_zipG j ks vs (by simpa using h)]
    exact ⟨fun z => z.imp Eq.symm id, fun z => z.imp Eq.symm id⟩
theorem put_zipG (j : κ) (y : V) (ks : List κ) (vs : List V) (h : ks.length = vs.length) : putK (ks.zip vs) j y = (putKs ks j).zip (putXs ks vs j y) := by
  unfold putK putKs putXs
  by_cases q : j ∈ ks
  · rw [if_pos ((any_zipG j ks vs h).mpr q), if_pos q, if_pos q]
    clear q
    induction ks generalizing vs with
    | nil => rfl
    | cons k ks ih =>
      cases vs with
      | nil => rfl
      | cons v vs =>
        simp only [List.zip_cons_cons, List.map_cons, List.zipWith_cons_cons]
        rw [ih vs (by simpa using h)]
        by_cases z : k = j <;> simp [z]
  · rw [if_neg (fun z => q ((any_zipG j ks vs h).mp z)), if_neg q, if_neg q, List.zip_append h]
    rfl
theorem putKs_len (ks : List κ) (xs : List α) (j : κ) (y : α) (h : ks.length = xs.length) : (putKs ks j).length = (putXs ks xs j y).length := by
  unfold putKs putXs
  split <;> simp [h]
theorem lookG_some : ∀ {ks : List κ} {xs : List α} {j : κ}, ks.length = xs.length → ((lookG ks xs j).isSome = true ↔ j ∈ ks)
  | [], [], _, _ => by simp [lookG]
  | k :: ks, x :: xs, j, h => by
    simp only [lookG, List.mem_cons]
    by_cases q : k = j
    · rw [if_pos q]; simp [q]
    · rw [if_neg q, lookG_some (by simpa using h)]
      exact ⟨.inr, fun z => z.elim (fun z => absurd z.symm q) id⟩
theorem look_zipW {j : κ} {y : α} {j2 : κ} : ∀ (ks : List κ) (xs : List α), lookG ks (List.zipWith (fun k x => if k = j then y else x) ks xs) j2 = if j2 = j then (lookG ks xs j2).map (fun _ => y) else lookG ks xs j2
  | [], _ => by simp [lookG]
  | _ :: _, [] => by simp [lookG]
  | k :: ks, x :: xs => by
    simp only [List.zipWith_cons_cons, lookG]
    rw [look_zipW ks xs]
    by_cases z : k = j2
    · rw [if_pos z, if_pos z]
      by_cases w : j2 = j
      · rw [if_pos w, if_pos (z.trans w)]; rfl
      · rw [if_neg w, if_neg (fun e => w (z.symm.trans e))]
    · rw [if_neg z, if_neg z]
theorem look_app {j2 : κ} {y : α} {j : κ} : ∀ (ks : List κ) (xs : List α), ks.length = xs.length → lookG (ks ++ [j]) (xs ++ [y]) j2 = (lookG ks xs j2).or (if j = j2 then some y else none)
  | [], [], _ => by simp [lookG]
  | k :: ks, x :: xs, h => by
    simp only [List.cons_append, lookG]
    rw [look_app ks xs (by simpa using h)]
    by_cases z : k = j2
    · rw [if_pos z, if_pos z]; rfl
    · rw [if_neg z, if_neg z]
/-- what stands there behind a store -/
theorem look_put {ks : List κ} {xs : List α} (h : ks.length = xs.length) (j : κ) (y : α) (j2 : κ) : lookG (putKs ks j) (putXs ks xs j y) j2 = if j2 = j then some y else lookG ks xs j2 := by
  unfold putKs putXs
  by_cases q : j ∈ ks
  · rw [if_pos q, if_pos q, look_zipW]
    by_cases w : j2 = j
    · rw [if_pos w, if_pos w]
      have : (lookG ks xs j2).isSome = true := (lookG_some h).mpr (w ▸ q)
      cases e : lookG ks xs j2 with
      | none => rw [e] at this; cases this
      | some x => rfl
    · rw [if_neg w, if_neg w]
  · rw [if_neg q, if_neg q, look_app ks xs h]
    by_cases w : j2 = j
    · subst w
      have : lookG ks xs j2 = none := by
        cases e : lookG ks xs j2 with
        | none => rfl
        | some x => exact absurd ((lookG_some h).mp (by rw [e]; rfl)) q
      rw [this, if_pos rfl]
      simp
    · rw [if_neg w, if_neg (Ne.symm w)]; simp
theorem mem_putKs {ks : List κ} {j j2 : κ} : j2 ∈ putKs ks j ↔ j2 = j ∨ j2 ∈ ks := by
  unfold putKs
  split
  · rename_i h
    exact ⟨.inr, fun z => z.elim (fun e => e ▸ h) id⟩
  · simp [or_comm]
theorem nodup_putKs {ks : List κ} {j : κ} (h : ks.Nodup) : (putKs ks j).Nodup := by
  unfold putKs
  split
  · exact h
  · rename_i q
    rw [List.nodup_append]
    refine ⟨h, by simp, fun a ha b hb => ?_⟩
    rw [List.mem_singleton.mp hb]
    rintro rfl
    exact q ha
end
def keyD : D → Option Key
  | .int i => some (.inl i)
  | .str s => some (.inr s)
  | _ => none
def keyI : Key → D
  | .inl i => .int i
  | .inr s => .str s
def keysD : List D → Option (List Key)
  | [] => some []
  | d :: ds => match keyD d, keysD ds with
    | some k, some ks => some (k :: ks)
    | _, _ => none
section
variable {X : Cx} {K : Fg} {N : Bool → Addr → Prop} {F F' : FS} {H H' : Hp} {ρ : Env} {σ : L2.St} {d e : D} {P : DK}
theorem keyD_rep {k : Key} {v : V} (h : keyD d = some k) (r : RepT K F H d v) : v = kV k := by
  cases d <;> cases h
  · exact r.int
  · exact r.str
theorem keyI_rep {k : Key} : Rep K F (keyI k) (kV k) := by
  cases k <;> simp only [keyI, Rep] <;> rfl
theorem keysD_rep : ∀ {ds : List D} {ks : List Key} {vs : List V}, keysD ds = some ks → Reps K F ds vs → vs = ks.map kV
  | [], ks, vs, h, r => by
    cases h
    simp only [Reps] at r
    rw [r]; rfl
  | d :: ds, ks, vs, h, r => by
    simp only [Reps] at r
    obtain ⟨v, q, rfl, r1, r2⟩ := r
    simp only [keysD] at h
    cases e1 : keyD d with
    | none => rw [e1] at h; cases h
    | some k =>
      cases e2 : keysD ds with
      | none => rw [e1, e2] at h; cases h
      | some ks' =>
        rw [e1, e2] at h
        cases h
        rw [keyD_rep (H := F.fz) e1 (.inl r1), keysD_rep e2 r2]
        rfl
theorem tup_key {ds : List D} {ks : List Key} {v : V} (h : keysD ds = some ks) (r : RepT K F H (.tup ds) v) (f : Fits F H) : ∃ b, v = .ref b ∧ H b = some (.tup (ks.map kV)) := by
  rcases r with r | ⟨_, _, _, _, o⟩
  · simp only [Rep] at r
    obtain ⟨b, vs, rfl, e, q⟩ := r
    rw [keysD_rep h q] at e
    exact ⟨b, rfl, f.fz _ _ e⟩
  · exact o.elim
section
variable {κ : Type} [DecidableEq κ]
theorem lookG_rep : ∀ {ks : List κ} {ds : List D} {vs : List V} {j : κ} {x : D}, lookG ks ds j = some x → Reps K F ds vs → ∃ v, lookG ks vs j = some v ∧ Rep K F x v
  | [], _, _, _, _, h, _ => by simp [lookG] at h
  | _ :: _, [], _, _, _, h, _ => by simp [lookG] at h
  | k :: ks, d :: ds, _, j, x, h, r => by
    simp only [Reps] at r
    obtain ⟨v, q, rfl, r1, r2⟩ := r
    simp only [lookG] at h ⊢
    split at h
    · rename_i e; cases h; exact ⟨v, if_pos e, r1⟩
    · rename_i e
      rw [if_neg e]
      exact lookG_rep h r2
theorem lookG_non {ks : List κ} {ds : List D} {vs : List V} {j : κ} (h : lookG ks ds j = none) (hl : ks.length = ds.length) (hv : vs.length = ds.length) : lookG ks vs j = none := by
  cases e : lookG ks vs j with
  | none => rfl
  | some v =>
    have := (lookG_some (hl.trans hv.symm)).mp (by rw [e]; rfl)
    have := (lookG_some hl).mpr this
    rw [h] at this; cases this
theorem putXs_rep {ks : List κ} {ds : List D} {vs : List V} {j : κ} {x : D} {v : V} (r : Reps K F ds vs) (rx : Rep K F x v) : Reps K F (putXs ks ds j x) (putXs ks vs j v) := by
  unfold putXs
  split
  · rename_i h
    clear h
    induction ks generalizing ds vs with
    | nil => simpa using Reps.nil
    | cons k ks ih =>
      cases ds with
      | nil => simp only [Reps] at r; subst r; simpa using Reps.nil
      | cons d ds =>
        simp only [Reps] at r
        obtain ⟨u, q, rfl, r1, r2⟩ := r
        simp only [List.zipWith_cons_cons]
        refine Reps.cons ?_ (ih r2)
        by_cases e : k = j
        · rw [if_pos e, if_pos e]; exact rx
        · rw [if_neg e, if_neg e]; exact r1
  · exact r.append (Reps.one rx)
end
/-! d[k], read -/
def dItemW : D → D → DK → Prop
  | .dK ks ds, k, P => isSome (fun j => isSome P (lookG ks ds j)) (keyD k)
  | .dT ks ds, .tup k, P => isSome (fun j => isSome P (lookG ks ds j)) (keysD k)
  | _, _, _ => False
/-- what a lookup finds -/
def dLookW (neg : Bool) : D → D → DK → Prop
  | k, .dK ks ds, P => isSome (fun j => P (.bl (neg != (lookG ks ds j).isSome))) (keyD k)
  | .tup k, .dT ks ds, P => isSome (fun j => P (.bl (neg != (lookG ks ds j).isSome))) (keysD k)
  | _, _, _ => False
theorem dget_k {ks : List Key} {ds : List D} {j : Key} {v w : V} (f : Fits F H) (r : RepT K F H (.dK ks ds) v) (hk : w = kV j) : ∃ a vs, v = .ref a ∧ Reps K F ds vs ∧ ks.length = ds.length ∧ DGet H a w (lookG ks vs j) := by
  obtain ⟨a, vs, rfl, h1, h2, q⟩ := r.dK f
  subst hk
  exact ⟨a, vs, rfl, q, h2, by rw [← valV_zipG]; exact DGet.k h1⟩
theorem dget_t {ks : List (List Key)} {ds : List D} {j : List Key} {b : Addr} {v : V} (f : Fits F H) (r : RepT K F H (.dT ks ds) v) (hk : H b = some (.tup (j.map kV))) : ∃ a vs, v = .ref a ∧ Reps K F ds vs ∧ ks.length = ds.length ∧ DGet H a (.ref b) (lookG ks vs j) := by
  obtain ⟨a, vs, rfl, h1, h2, q⟩ := r.dT f
  exact ⟨a, vs, rfl, q, h2, by rw [← valV_zipG]; exact DGet.t h1 hk⟩
theorem e_dget {a b : Expr} {pa pb : PTE} {pos : Pos} (hu : X.A.units + 1 < cLine) (ha : pr X a pa) (hb : pr X b pb) (hs : NoSl b := by exact fun _ _ => rfl) : pe X (.Subscript a b pos) (pOp dItemW pa pb) :=
  PE_weak (pe_dget hu ha hb hs) fun σ H Q ⟨N, F, ρ, P, s, p, k⟩ => ⟨N, F, ρ, _, s, p, fun d v F1 H1 p1 x1 r1 => ⟨N, F1, ρ, _, s.ext x1, p1, fun e u F2 H2 p2 x2 r2 => by
    have r1 := r1.ext x2 x1.fits
    have k2 : Kont X.K F2 H2 P Q := Kont.ext k (x1.then0 x2)
    cases d <;> try (cases e <;> exact p2.elim)
    · obtain ⟨j, hj, p2⟩ := isSome_inv p2
      obtain ⟨x, hx, p2⟩ := isSome_inv p2
      obtain ⟨a, vs, rfl, q, hl, g⟩ := dget_k x2.fits r1 (keyD_rep hj r2)
      obtain ⟨w, hw, rw'⟩ := lookG_rep hx q
      rw [hw] at g
      exact ⟨a, w, rfl, g, k2.here x2.fits p2 rw'⟩
    · cases e <;> try exact p2.elim
      obtain ⟨j, hj, p2⟩ := isSome_inv p2
      obtain ⟨x, hx, p2⟩ := isSome_inv p2
      obtain ⟨b, rfl, hb⟩ := tup_key hj r2 x2.fits
      obtain ⟨a, vs, rfl, q, hl, g⟩ := dget_t x2.fits r1 hb
      obtain ⟨w, hw, rw'⟩ := lookG_rep hx q
      rw [hw] at g
      exact ⟨a, w, rfl, g, k2.here x2.fits p2 rw'⟩⟩⟩
theorem o_dlook {op : CmpOp} {neg : Bool} (h : ∀ (pins : List (Addr × Obj)) (s : Shared) (σ : L2.St) (H : Hp) (a : Addr) (y : V) (u : Value) (o : Option V) (Q : VK), Inv X pins σ H s → DGet H a y o → RelV y u → Q (.bl (neg != o.isSome)) H → wpAny (model X.prog X.w) X.A (compareOp op u (.ref a)) (EP X pins σ Q) X.xe s) : opS X (compareOp op) (dLookW neg) := by
  refine ⟨fun x y H Q => ∃ a o, y = .ref a ∧ DGet H a x o ∧ Q (.bl (neg != o.isSome)) H, ?_, fun d e x y F H P Q f r1 r2 p k => ?_⟩
  · intro pins s σ H x y v u Q I rx ry ⟨a, o, ey, g, q⟩
    subst ey
    cases ry
    exact h pins s σ H a x v o Q I g rx q
  · have mem : ∀ {κ : Type} [DecidableEq κ] {ks : List κ} {ds : List D} {vs : List V} {j : κ}, Reps X.K F ds vs → ks.length = ds.length → (lookG ks vs j).isSome = (lookG ks ds j).isSome := fun {κ _ ks ds vs j} q hl => by
      cases e : lookG ks ds j with
      | none => rw [lookG_non e hl q.length]; rfl
      | some x =>
        obtain ⟨v, hv, _⟩ := lookG_rep e q
        rw [hv]; rfl
    cases e <;> try (cases d <;> exact p.elim)
    · rename_i ks ds
      obtain ⟨j, hj, p⟩ := isSome_inv (show isSome (fun j => P (.bl (neg != (lookG ks ds j).isSome))) (keyD d) by cases d <;> exact p)
      obtain ⟨a, vs, rfl, q, hl, g⟩ := dget_k f r2 (keyD_rep hj r1)
      exact ⟨a, _, rfl, g, by rw [mem q hl]; exact k.bl f p⟩
    · cases d <;> try exact p.elim
      obtain ⟨j, hj, p⟩ := isSome_inv p
      obtain ⟨b, rfl, hb⟩ := tup_key hj r1 f
      obtain ⟨a, vs, rfl, q, hl, g⟩ := dget_t f r2 hb
      exact ⟨a, _, rfl, g, by rw [mem q hl]; exact k.bl f p⟩
theorem o_din (hu : X.A.units + 1 < cLine) : opS X (compareOp .In) (dLookW false) := o_dlook fun pins s σ H a y u o Q I g ry q => d_in hu I g ry fun s' I' => ⟨.bl _, H, I', rfl, by simpa using q⟩
theorem o_dnotin (hu : X.A.units + 1 < cLine) : opS X (compareOp .NotIn) (dLookW true) := o_dlook fun pins s σ H a y u o Q I g ry q => d_notIn hu I g ry fun s' I' => ⟨.bl _, H, I', rfl, by simpa using q⟩
/-! {} -/
def pDNewK : PTE := fun _ P => P (.dK [] [])
def pDNewT : PTE := fun _ P => P (.dT [] [])
theorem f_dnewK {pos : Pos} : pf X (.Dict [] [] pos) pDNewK := PE_weak pe_dnewK fun σ H Q ⟨N, F, ρ, P, s, p, k⟩ p' hp =>
  k _ p' F _ p (Ext.newM s.fits hp) hp (s.fits.none_fz hp) (s.fits.none_iv hp) ⟨[], upd_same, rfl, Reps.nil⟩
theorem f_dnewT {pos : Pos} : pf X (.Dict [] [] pos) pDNewT := PE_weak pe_dnewT fun σ H Q ⟨N, F, ρ, P, s, p, k⟩ p' hp =>
  k _ p' F _ p (Ext.newM s.fits hp) hp (s.fits.none_fz hp) (s.fits.none_iv hp) ⟨[], upd_same, rfl, Reps.nil⟩
/-! d[k] = e, d an owned dict -/
def dPutW : D → D → D → DK → Prop
  | .dK ks ds, k, x, P => isSome (fun j => ds.length < sizeLine ∧ P (.dK (putKs ks j) (putXs ks ds j x))) (keyD k)
  | .dT ks ds, .tup k, x, P => isSome (fun j => ds.length < sizeLine ∧ P (.dT (putKs ks j) (putXs ks ds j x))) (keysD k)
  | _, _, _, _ => False
def atOwA (P : Bool → D → Prop) : Option (Option Sl) → Prop
  | some (some (.ow b d)) => P b d
  | _ => False
theorem atOwA_inv {P : Bool → D → Prop} {x : Option (Option Sl)} (h : atOwA P x) : ∃ b d, x = some (some (.ow b d)) ∧ P b d := by
  match x, h with
  | some (some (.ow b d)), h => exact ⟨b, d, rfl, h⟩
def qDPut (i : Nat) (pk p : PTE) : PTS := fun PD ρ => atOwA (fun c d => p ρ fun x => pk ρ fun k => dPutW d k x fun d' => PD.nx (ρ.set i (some (.ow c d')))) ρ[i]?
theorem s_dput {pos : Pos} {i : Nat} {tg e : Expr} {pk p : PTE} (h : PS X (.Assign [tg] e pos) (tAsg (L X.K p) (gSub (tVar i) (L X.K pk) rSetD))) : ps X (.Assign [tg] e pos) (qDPut i pk p) := by
  refine PS_weak h ?_
  rintro E σ H ⟨B, F, ρ, PD, s, q, e⟩
  obtain ⟨c, d, h1, q⟩ := atOwA_inv q
  refine ⟨B.N, F, ρ, _, s.st, q, fun x v F1 H1 p1 x1 r1 => ?_⟩
  obtain ⟨a, q1, _, _, _, _⟩ := s.st.geto h1
  refine ⟨.ref a, q1, B.N, F1, ρ, _, (s.go x1).st, p1, fun k u F2 H2 p2 x2 r2 => ?_⟩
  have s2 := (s.go x1).go x2
  obtain ⟨a', q1', n', z1, z2, ow⟩ := s2.st.geto h1
  rw [q1] at q1'
  cases q1'
  have rx := r1.ext x2 x1.fits
  cases d <;> try (cases k <;> exact p2.elim)
  · obtain ⟨j, hj, hz, p3⟩ := isSome_inv p2
    obtain ⟨vs, e1, hl, q⟩ := ow
    have hk := keyD_rep (H := H2) hj (.inl r2)
    subst hk
    have hl2 := hl.trans q.length.symm
    refine ⟨a, _, rfl, DPut.k e1 (by rw [List.length_zip]; have := q.length; omega), ?_⟩
    rw [put_zipG _ _ _ _ hl2]
    exact e.nx F2 _ σ _ (s2.own (d' := .dK (putKs _ j) (putXs _ _ j x)) h1 q1 ⟨_, upd_same, putKs_len _ _ _ _ hl, putXs_rep q rx⟩) ((x1.then0 x2).le s.ext.fits) p3
  · cases k <;> try exact p2.elim
    obtain ⟨j, hj, hz, p3⟩ := isSome_inv p2
    obtain ⟨vs, e1, hl, q⟩ := ow
    obtain ⟨b, rfl, hb⟩ := tup_key (H := H2) hj (.inl r2) x2.fits
    have hl2 := hl.trans q.length.symm
    refine ⟨a, _, rfl, DPut.t e1 hb (by rw [List.length_zip]; have := q.length; omega), ?_⟩
    rw [put_zipG _ _ _ _ hl2]
    exact e.nx F2 _ σ _ (s2.own (d' := .dT (putKs _ j) (putXs _ _ j x)) h1 q1 ⟨_, upd_same, putKs_len _ _ _ _ hl, putXs_rep q rx⟩) ((x1.then0 x2).le s.ext.fits) p3
def atOwAD (P : Bool → D → Prop) (_ : Tg P) (x : Option (Option Sl)) : Prop := atOwA P x
theorem atOwA_ow {P : Bool → D → Prop} {t : Tg P} {b : Bool} {d : D} : atOwAD P t (some (some (.ow b d))) = P b d := id rfl
theorem dItemW_k {ks : List Key} {ds : List D} : dItemW (.dK ks ds) d P = isSomeD (fun j => isSomeD P Tg.mk (lookG ks ds j)) Tg.mk (keyD d) := id rfl
theorem dItemW_t {ks : List (List Key)} {ds es : List D} : dItemW (.dT ks ds) (.tup es) P = isSomeD (fun j => isSomeD P Tg.mk (lookG ks ds j)) Tg.mk (keysD es) := id rfl
theorem dLookW_k {b : Bool} {ks : List Key} {ds : List D} : dLookW b d (.dK ks ds) P = isSomeD (fun j => P (.bl (b != (lookG ks ds j).isSome))) Tg.mk (keyD d) := by cases d <;> rfl
theorem dLookW_t {b : Bool} {ks : List (List Key)} {ds es : List D} : dLookW b (.tup es) (.dT ks ds) P = isSomeD (fun j => P (.bl (b != (lookG ks ds j).isSome))) Tg.mk (keysD es) := id rfl
theorem dPutW_k {ks : List Key} {ds : List D} : dPutW (.dK ks ds) d e P = isSomeD (fun j => ds.length < sizeLine ∧ P (.dK (putKs ks j) (putXs ks ds j e))) Tg.mk (keyD d) := id rfl
theorem dPutW_t {ks : List (List Key)} {ds es : List D} : dPutW (.dT ks ds) (.tup es) e P = isSomeD (fun j => ds.length < sizeLine ∧ P (.dT (putKs ks j) (putXs ks ds j e))) Tg.mk (keysD es) := id rfl
theorem keyD_int {i : Int} : keyD (.int i) = some (.inl i) := id rfl
theorem keyD_str {i : Str} : keyD (.str i) = some (.inr i) := id rfl
theorem keysD_nil : keysD [] = some [] := id rfl
theorem keysD_int {i : Int} {ds : List D} : keysD (.int i :: ds) = (keysD ds).map (.inl i :: ·) := by
  simp only [keysD, keyD]
  cases keysD ds <;> rfl
theorem keysD_str {i : Str} {ds : List D} : keysD (.str i :: ds) = (keysD ds).map (.inr i :: ·) := by
  simp only [keysD, keyD]
  cases keysD ds <;> rfl
theorem u1 {k : Nat} {A : Around} (r : Room k A) : A.units + 1 < cLine := by have := u65 r; omega
end
end Pu
namespace Pu
open PySem PySem.Spec L2
/-! ### range(i, j, c), upwards -/
def stepN (i j c : Int) : Nat := if i < j then ((j - i - 1) / c + 1).toNat else 0
def rangeC (i c : Int) (n : Nat) : List D := (List.range n).map fun (k : Nat) => .int (i + k * c)
section
variable {X : Cx} {K : Fg} {F F' : FS} {H H' : Hp} {ρ : Env} {σ : L2.St} {d e : D} {P : DK} {pos p1 p2 apos : Pos}
theorem rgC_up {i j c : Int} (c0 : 0 < c) (c1 : c < 1073741824) (h1 : -(2 ^ 62) ≤ i) (h2 : i < 2 ^ 62) (h3 : -(2 ^ 62) ≤ j) (h4 : j < 2 ^ 62) : RgC i j c (stepN i j c) := by
  have hs : Builtin.Range.rangeSize i j c = (stepN i j c : Int) := by
    unfold Builtin.Range.rangeSize stepN
    rw [if_pos c0]
    split
    · rename_i h
      have : 0 ≤ (j - i - 1) / c := Int.ediv_nonneg (by omega) (by omega)
      omega
    · rfl
  have hb : (stepN i j c : Int) < 2 ^ 63 := by
    unfold stepN
    split
    · rename_i h
      have h0 : 0 ≤ (j - i - 1) / c := Int.ediv_nonneg (by omega) (by omega)
      have h5 : (j - i - 1) / c ≤ j - i - 1 := Int.ediv_le_self _ (by omega)
      omega
    · omega
  refine ⟨by omega, by omega, ?_, hs⟩
  unfold Builtin.Range.small
  rw [hs]
  simp only [Builtin.Range.rangeFitsLong, Bool.and_eq_true, Bool.or_eq_true, decide_eq_true_eq, beq_iff_eq, show c > 0 from c0, if_true]
  have : 0 ≤ (stepN i j c : Int) := by omega
  omega
theorem walkD_rangeC (lo c : Int) (n : Nat) : WalkD K F (Itc lo c n) (rangeC lo c n) :=
  ⟨fun _ => True, fun i H1 x H2 => i < n ∧ H2 = H1 ∧ x = .int (lo + (i : Nat) * c), by
    rw [show (rangeC lo c n).length = n by simp [rangeC]]
    exact ⟨fun _ _ hi _ => hi, fun _ _ => Nat.le_refl _, fun i _ _ _ hi _ y => ⟨hi, y⟩⟩, fun _ _ _ _ => trivial, fun i H1 x H2 F1 l f ⟨hi, e1, e2⟩ => by
    subst e1; subst e2
    exact ⟨.int (lo + (i : Nat) * c), F1, by unfold rangeC; rw [List.getElem?_map, List.getElem?_range hi]; rfl, Ext.refl f, rep_int⟩⟩
def pRange3 (p q r : PTE) : PTA := fun ρ P => p ρ (isInt fun i => q ρ (isInt fun j => r ρ (isInt fun c => (0 < c ∧ c < 1073741824 ∧ -(2 ^ 62) ≤ i ∧ i < 2 ^ 62 ∧ -(2 ^ 62) ≤ j ∧ j < 2 ^ 62) ∧ P (rangeC i c (stepN i j c)))))
theorem i_range3 {tg a b c : Expr} {q q2 q3 : PTE} (ha : pr X a q) (hb : pr X b q2) (hc : pr X c q3) (hg : Gl X "range") (hm : X.mg "range" = none) (hs : starEach [a, b, c] X.env = (false, eval a X.env) :: starEach [b, c] X.env := by rfl)
    (hs2 : starEach [b, c] X.env = (false, eval b X.env) :: starEach [c] X.env := by rfl) (hs3 : starEach [c] X.env = (false, eval c X.env) :: starEach [] X.env := by rfl) (hpl : (backTo pos (starEach [b, c] X.env)).any (·.1) = false := by rfl) : pi X tg (.Call (.Name "range" p1) [a, b, c] [] pos) (pRange3 q q2 q3) :=
  PI_weak (pi_range3 hg hm (pa_cons ha (pa_cons hb (pa_cons hc pa_nil hs3) hs2) hs) hs hpl) fun σ H R ⟨N, F, ρ, P, s, p, k⟩ => ⟨N, F, ρ, _, s, p, fun d v F1 H1 p1 x1 r1 => by
    obtain ⟨i, rfl, p1⟩ := isInt_inv p1
    refine ⟨N, F1, ρ, _, s.ext x1, p1, fun e u F2 H2 p2 x2 r2 => ?_⟩
    obtain ⟨j, rfl, p2⟩ := isInt_inv p2
    refine ⟨N, F2, ρ, _, (s.ext x1).ext x2, p2, fun g z F3 H3 p3 x3 r3 => ?_⟩
    obtain ⟨c, rfl, ⟨c0, c1, h1, h2, h3, h4⟩, p3⟩ := isInt_inv p3
    exact ⟨i, j, c, _, by rw [r1.int, r2.int, r3.int], rgC_up c0 c1 h1 h2 h3 h4, k _ _ _ _ p3 ((x1.then0 x2).then0 x3) (walkD_rangeC i c _)⟩⟩

/-! ### a static method without parameters -/
structure SMet (K : Fg) (C : Addr) (m : Str) (p g : Addr) : Prop where
  rd : PySem.W.readsIn K C (.type "type") = true
  ga : PySem.W.specialIn K (.ref C) "__getattribute__" = some (some (.builtin "type.__getattribute__"))
  at_ : PySem.W.findCls K (.ref C) (.type "type") m = some (.get (.builtin "staticmethod.__get__") (.ref p) .none (.ref C))
  rc : ∃ rest, PySem.W.recIn K p "staticmethod" = some (.ref g :: rest)
  kp : PySem.W.keepIn K (.ref g) = true
theorem e_stat0 {C p g : Addr} {x m : Str} {k : Nat} {fd : FuncData} {c : Pr} {pl : Sem Bool} (sm : SMet X.K C m p g) (hm : X.mg x = some (.ref C)) (G : FnOk X.prog X.w X.K X.mg X.base CX0 k g fd [] (spOf X.K c)) (hr : Room k X.A) (hb : Binds X.K fd [] []) (hg : Gl X x := by rfl) (hdb : (x == ("__debug__" : Str)) = false := by decide)
    (ht : eval (.Call (.Attribute (.Name x p1) m apos) [] [] pos) X.env = (do
      let ov ← eval (.Name x p1) X.env
      standAt apos.atName
      let (f, first) ← holding [ov] (getMethod ov m pl)
      callWith pos f first (backTo pos (starEach [] X.env)) (backToKw pos (keywordEach [] X.env))) := by rfl) :
    pe X (.Call (.Attribute (.Name x p1) m apos) [] [] pos) (pCallD c [] pNil) := by
  have h0 : PE X (.Call (.Attribute (.Name x p1) m apos) [] [] pos) (tCall (spOf X.K c) [] E0 tNil) := by
    refine ⟨fun pins s σ H Q I h => ?_⟩
    refine PySem.W.methodCall_KW (pl := pl) (ld_glob I hg hm ?_ hdb) ht
    obtain ⟨rest, hp⟩ := sm.rc
    refine PySem.W.method_cls I.kIn sm.ga (PySem.W.cls_bind I.kIn sm.rd sm.at_ (wpAny_call (PySem.W.sm_get (s := { s with toks := s.toks + 1 }) I.kIn hp (PySem.W.handed_on rfl ?_))))
    exact PySem.W.callWith_K0 (first := []) (I.tok _).kIn sm.kp (run_fn (us := []) G hr hb .nil pass0 (I.tok _) .nil h)
  exact PE_weak h0 fun σ H Q h => call_ok σ H Q (fun _ => Reps.nil) (t := pNil) h |> fun ⟨N, F, ρ, P, s, q, k⟩ => k [] [] F H q (Ext.refl s.fits) Reps.nil

/-! ### a property -/
def pProp (C : Addr) (c : Pr) (po : PTE) : PTE := fun ρ P => po ρ fun d => isIns (fun C' _ _ => C' = C ∧ c [d] P) d
theorem e_prop {C p g : Addr} {f : Str} {k : Nat} {fd : FuncData} {ps : List Str} {c : Pr} {po : PTE} {o : Expr} (cl : Cls X.K C) (hp : PropOf X.K C f p g) (G : FnOk X.prog X.w X.K X.mg X.base CX0 k g fd ps (spOf X.K c)) (hr : Room (k + 1) X.A) (hb : Binds X.K fd ps []) (ho : pe X o po)
    (hab : attributeBase o f X.env (eval o X.env) = eval o X.env := by rfl) : pe X (.Attribute o f pos) (pProp C c po) :=
  PE_weak (pe_prop ho cl hp G hr hb Paired.nil pass0 hab) fun σ H Q ⟨N, F, ρ, P, s, q, k⟩ => ⟨N, F, ρ, _, s, q, fun d v F1 H1 p1 x1 r1 => by
    obtain ⟨C', ns, fs, rfl, rfl, q1⟩ := isIns_inv p1
    have r1' := r1
    simp only [Rep] at r1
    obtain ⟨a, dx, vs, rfl, h1, h2, h3⟩ := r1
    exact ⟨a, dx, _, rfl, x1.fits.fz _ _ h1, F1, _, P, x1.fits, Reps.one r1', q1, fun d v F' H' a b c => k d v F' H' a (x1.then0 b) c⟩⟩

/-! ### the type of a value, own classes too -/
def isO (C : Addr) : D → Option Bool
  | .ins C' _ _ => if C' = C then some true else none
  | d => (tyN d).map fun _ => false
structure IsC (K : Fg) (C : Addr) : Prop where
  cl : Cls K C
  ha : PySem.W.findIn K (.ref C) "__class__" = some (some (.builtin "object.__class__"))
  hn : PySem.W.specialIn K (.builtin "object.__class__") "__get__" = some (some (.builtin "getset_descriptor.__get__"))
  htk : PySem.W.takesIn K (.builtin "object.__class__") = some true
  hm : PySem.W.mroIn K C (.type "object") = some true
  ic : PySem.W.isClsIn K C = true
  ty : PySem.W.typeIn K (.ref C) = some (.type "type")
theorem sub_ty {C : Addr} {t : String} (h : t ∈ tyNs) : PySem.W.subIn K (.type t) (.ref C) = some false := by
  simp only [tyNs, List.mem_cons, List.not_mem_nil, or_false] at h
  rcases h with rfl | rfl | rfl | rfl | rfl | rfl | rfl <;> kernel_rfl
theorem isO_ty {C : Addr} {b : Bool} {v : V} (ic : IsC K C) (r : RepT K F H d v) (f : Fits F H) (h : isO C d = some b) : ∃ t, TyX K H v t ∧ PySem.W.kitOne K t (.ref C) = some b ∧ PySem.W.notFirst K C t = true := by
  have bas : ∀ t, tyN d = some t → b = false → ∃ t, TyX K H v t ∧ PySem.W.kitOne K t (.ref C) = some b ∧ PySem.W.notFirst K C t = true := fun t ht hb => by
    subst hb
    have hs := sub_ty (K := K) (C := C) (tyN_mem ht)
    refine ⟨.type t, tyX r f ht, ?_, ?_⟩
    · show (if (Value.type t == Value.ref C) = true then some true else PySem.W.kitCls K (.type t) (.ref C)) = some false
      rw [if_neg (by simp)]
      show (if ((PySem.W.clsIn K C).isSome && PySem.W.typeIn K (.ref C) == some (.type "type")) = true then PySem.W.subIn K (.type t) (.ref C) else none) = some false
      rw [if_pos (by rw [show (PySem.W.clsIn K C).isSome = true from ic.ic, ic.ty]; simp), hs]
    · unfold PySem.W.notFirst
      rw [hs]; simp
  cases d with
  | ins C' ns ds =>
    have h0 : (if C' = C then some true else none) = some b := h
    clear h
    split at h0
    · rename_i e
      subst e
      have h0 : true = b := Option.some.inj h0
      subst h0
      obtain ⟨a, dx, vs, rfl, h1, h2, h3⟩ := r.ins f
      refine ⟨.ref C', .base (.ins h1 ic.cl ic.ha ic.hn ic.htk ic.hm), ?_, ?_⟩
      · unfold PySem.W.kitOne
        rw [if_pos (by simp)]
      · unfold PySem.W.notFirst
        simp
    · cases h0
  | pool => cases h
  | rf a => cases h
  | «at» a ds => cases h
  | exc _ _ _ => cases h
  | exo _ _ _ _ _ => cases h
  | klst ds => cases h
  | _ => exact bas _ rfl (Option.some.inj h).symm
def pIsiO (C : Addr) (p : PTE) : PTE := fun ρ P => p ρ fun d => isSome (fun b => P (.bl b)) (isO C d)
theorem e_isiO {C : Addr} {x : Str} {a : Expr} {pa : PTE} {p : Pos} (ic : IsC X.K C) (hm2 : X.mg x = some (.ref C)) (ha : pr X a pa) (hm : X.mg "isinstance" = none) (hg : Gl X "isinstance" := by rfl) (hg2 : Gl X x := by rfl) (hd2 : (x == ("__debug__" : Str)) = false := by decide)
    (hs2 : starEach [.Name x p2] X.env = [(false, eval (.Name x p2) X.env)] := by rfl) (he : starEach [a, .Name x p2] X.env = (false, eval a X.env) :: starEach [.Name x p2] X.env := by rfl) (hpl : (backTo pos (starEach [.Name x p2] X.env)).any (·.1) = false := by rfl) : pe X (.Call (.Name "isinstance" p) [a, .Name x p2] [] pos) (pIsiO C pa) := by
  refine PE_weak (pe_callB call_isi hg hm PyProof.Rows.boot_isinstance (pa_cons ha (pa_cons (pe_glob (v := .ref C) (u := .ref C) hg2 hm2 rfl hd2) pa_nil hs2) he) (by decide) (by decide) he hpl) fun σ H Q ⟨N, F, ρ, P, s, q, k⟩ => ?_
  refine ⟨N, F, ρ, _, s, q, fun d v F1 H1 p1 x1 r1 => ?_⟩
  obtain ⟨b, h1, h2⟩ := isSome_inv p1
  obtain ⟨t, h3, h4, _⟩ := isO_ty ic r1 x1.fits h1
  exact ⟨v, .ref C, t, .ref C, b, rfl, .own C, h3, h4, k _ _ _ _ h2 x1 rep_bl⟩

/-! ### + and == by a def of the class -/
theorem back_own {pins : List (Addr × Obj)} {Q : VK} {v : Value} {s' : Shared} (h : EP X pins σ Q v s') : PySem.W.CmpBack (EP X pins σ Q) v s' := by
  obtain ⟨x, H', I, r, q⟩ := h
  cases v with
  | notImplemented => cases x <;> first | exact nomatch r | (obtain ⟨_, r⟩ := r; cases r)
  | _ => exact ⟨x, H', I, r, q⟩
def rOwn (C : Addr) (ok : V → Hp → Prop) (sp : Sp) : R2 := fun x y H Q => ∃ a dx fs, x = .ref a ∧ H a = some (.ins C dx fs) ∧ ok y H ∧ sp [x, y] H Q E0
structure AddM (K : Fg) (C f : Addr) : Prop where
  sf : PySem.W.selfFirst K C = true
  hs : PySem.W.findIn K (.ref C) "__add__" = some (some (.ref f))
  hf : PySem.W.isFn K (.ref f) = true
structure EqM (K : Fg) (C f : Addr) : Prop where
  hs : PySem.W.findIn K (.ref C) "__eq__" = some (some (.ref f))
  hf : PySem.W.isFn K (.ref f) = true
variable {C f : Addr} {k : Nat} {fd : FuncData} {ps : List Str} {c : Pr} {sp : Sp} {pa pb : PTE} {a b : Expr}
theorem op_ownAdd (M : AddM X.K C f) (G : FnOk X.prog X.w X.K X.mg X.base CX0 k f fd ps sp) (hr : Room k X.A) (hb : Binds X.K fd ps []) : OpR X (binaryOp .Add) (rOwn C (fun y H => ∃ b dx fs, y = .ref b ∧ H b = some (.ins C dx fs)) sp) := by
  intro pins s σ H x y v u Q I rx ry hq
  obtain ⟨a, dx, fs, rfl, ha, ⟨b, dy, gs, rfl, hb'⟩, q⟩ := hq
  cases rx
  cases ry
  obtain ⟨mA, J, _⟩ := ins_get I.hok ha
  obtain ⟨mB, J', _⟩ := ins_get I.hok hb'
  obtain ⟨od, J, _⟩ := J.look
  obtain ⟨od', J', _⟩ := J'.look
  obtain ⟨m, hF⟩ := I.fr
  refine PySem.W.binop_K hF I.ok.mod.kin J J'.type M.sf M.hs M.hf ?_
  exact wpAny_mono (run_fn (us := [.ref a, .ref b]) (vs := [.ref a, .ref b]) G hr hb .nil pass0 I (.cons rfl (.cons rfl .nil)) q) (fun v s' h => back_own h) fun _ _ e => e
theorem op_ownEq (M : EqM X.K C f) (G : FnOk X.prog X.w X.K X.mg X.base CX0 k f fd ps sp) (hr : Room k X.A) (hb : Binds X.K fd ps []) : OpR X (compareOp .Eq) (rOwn C (fun y H => ∃ t, TyX X.K H y t ∧ PySem.W.notFirst X.K C t = true) sp) := by
  intro pins s σ H x y v u Q I rx ry hq
  obtain ⟨a, dx, fs, rfl, ha, ⟨t, ty, nf⟩, q⟩ := hq
  have rx' := rx
  cases rx
  obtain ⟨mA, J, _⟩ := ins_get I.hok ha
  obtain ⟨od, J, _⟩ := J.look
  obtain ⟨m, hF⟩ := I.fr
  obtain ⟨PP, Z, hp, _⟩ := kit_of I ry ty
  show wpAny (model X.prog X.w) X.A (richCompare .Eq (.ref a) u) (EP X pins σ Q) X.xe s
  refine PySem.W.cmp_K (op := .Eq) (tb := t) (by have := u65 hr; omega) hF I.ok.mod.kin J (Z.ty _ _ I.kIn hp) nf M.hs M.hf ?_
  exact wpAny_mono (run_fn (us := [.ref a, u]) (vs := [.ref a, y]) G hr hb .nil pass0 I (.cons rfl (.cons ry .nil)) q) (fun v s' h => back_own h) fun _ _ e => e
def pOwnAdd (C : Addr) (c : Pr) (pa pb : PTE) : PTE := fun ρ P => pa ρ fun d => pb ρ fun e => isIns (fun C' _ _ => C' = C ∧ isIns (fun C2 _ _ => C2 = C ∧ c [d, e] P) e) d
def pOwnEq (C : Addr) (c : Pr) (pa pb : PTE) : PTE := fun ρ P => pa ρ fun d => pb ρ fun e => isIns (fun C' _ _ => C' = C ∧ isSome (fun _ => c [d, e] P) (isO C e)) d
theorem own_two {r : R2} {w : D → D → DK → Prop} (hr : ∀ d e x y F H P Q, Fits F H → Rep X.K F d x → Rep X.K F e y → w d e P → Kont X.K F H P Q → r x y H Q) :
    ∀ σ H Q, L X.K (fun ρ P => pa ρ fun d => pb ρ fun e => w d e P) σ H Q → tOp r (L X.K pa) (L X.K pb) σ H Q := fun σ H Q ⟨N, F, ρ, P, s, p, k⟩ =>
  ⟨N, F, ρ, _, s, p, fun d v F1 H1 p1 x1 r1 => ⟨N, F1, ρ, _, s.ext x1, p1, fun e u F2 H2 p2 x2 r2 =>
    hr d e v u F2 H2 P Q x2.fits (r1.ext x2 x1.fits) r2 p2 fun d' v' F' H' a b c => k d' v' F' H' a ((x1.then0 x2).then0 b) c⟩⟩
theorem e_ownAdd (M : AddM X.K C f) (G : FnOk X.prog X.w X.K X.mg X.base CX0 k f fd ps (spOf X.K c)) (hr : Room k X.A) (hb : Binds X.K fd ps []) (ha : pe X a pa) (hb' : pe X b pb) : pe X (.BinOp a .Add b pos) (pOwnAdd C c pa pb) :=
  PE_weak (pe_op (op_ownAdd M G hr hb) ha hb') (own_two fun d e x y F H P Q ft r1 r2 h k => by
    obtain ⟨C', ns, fs, rfl, rfl, h⟩ := isIns_inv h
    obtain ⟨C2, ms, gs, rfl, rfl, h⟩ := isIns_inv h
    have r1' := r1
    have r2' := r2
    simp only [Rep] at r1 r2
    obtain ⟨a, dx, vs, rfl, h1, h2, h3⟩ := r1
    obtain ⟨b, dy, us, rfl, h1', h2', h3'⟩ := r2
    exact ⟨a, dx, _, rfl, ft.fz _ _ h1, ⟨b, dy, _, rfl, ft.fz _ _ h1'⟩, F, _, P, ft, Reps.cons r1' (Reps.one r2'), h, k⟩)
theorem e_ownEq (ic : IsC X.K C) (M : EqM X.K C f) (G : FnOk X.prog X.w X.K X.mg X.base CX0 k f fd ps (spOf X.K c)) (hr : Room k X.A) (hb : Binds X.K fd ps []) (ha : pe X a pa) (hb' : pe X b pb) (hm : behindInMarks .Eq b = false := by first | exact nomark _ | rfl | with_unfolding_all rfl) : pe X (.Compare a [.Eq] [b] pos) (pOwnEq C c pa pb) :=
  PE_weak (pe_cmpR (op_ownEq M G hr hb) ha hb' hm) (own_two fun d e x y F H P Q ft r1 r2 h k => by
    obtain ⟨C', ns, fs, rfl, rfl, h⟩ := isIns_inv h
    obtain ⟨z, h0, h⟩ := isSome_inv h
    obtain ⟨t, h4, _, h5⟩ := isO_ty ic (.inl r2) ft h0
    have r1' := r1
    simp only [Rep] at r1
    obtain ⟨a, dx, vs, rfl, h1, h2, h3⟩ := r1
    exact ⟨a, dx, _, rfl, ft.fz _ _ h1, ⟨t, h4, h5⟩, F, _, P, ft, Reps.cons r1' (Reps.one r2), h, k⟩)
theorem isO_ins {C : Addr} {ns : List Str} {ds : List D} : isO C (.ins C ns ds) = some true := if_pos rfl
theorem isO_non {C : Addr} : isO C .non = some false := id rfl
theorem isO_bl {C : Addr} {b : Bool} : isO C (.bl b) = some false := id rfl
theorem isO_int {C : Addr} {b : Int} : isO C (.int b) = some false := id rfl
theorem isO_str {C : Addr} {b : Str} : isO C (.str b) = some false := id rfl
theorem isO_tup {C : Addr} {b : List D} : isO C (.tup b) = some false := id rfl
theorem isO_ktup {C : Addr} {b : List D} : isO C (.ktup b) = some false := id rfl
theorem isO_lst {C : Addr} {b : List D} : isO C (.lst b) = some false := id rfl
theorem isO_dK {C : Addr} {a : List Key} {b : List D} : isO C (.dK a b) = some false := id rfl
end
end Pu
namespace Pu
open PySem PySem.Spec L2 PySem.W PySem.Calls PyProof.Rows
/-! ### an exception class over ValueError whose __init__ says super().__init__(e) first -/
structure ScopeF (N ps : List Str) (sc : Scope) : Prop where
  kind : sc.kind = .function
  co : sc.isCoroutine = false
  gen : sc.isGenerator = false
  nd : N.Nodup
  pre : N.take ps.length = ps
  par : ∀ x ∈ ps, sc.names.lookup x = some .local
  nocell : ∀ y ∈ sc.names, y.2 ≠ .cell
  free : ∀ y ∈ sc.names, y.2 = .free → y.1 = "__class__"
def cxF (CX : CXT) (P : Program) (w : World) (K : Fg) (mg : Str → Option Value) (base : Heap) (N : List Str) (qual : Str) (scope : Scope) (f : Addr) (cd : Value) (cc : Addr) (A : Around) (outer : List PySem.Env) (s : Shared) (H : Hp) (E : XK) : Cx where
  prog := P
  w := w
  K := K
  mg := mg
  base := base
  A := A.deeper (ksEnv qual scope s.heap.objs.size f cd cc)
  N := N
  s_0 := s
  H_0 := H
  env := ksEnv qual scope s.heap.objs.size f cd cc
  outer := outer
  stack := ksEnv qual scope s.heap.objs.size f cd cc :: outer
  ex := []
  calm := true
  fn := fun y => y != "__class__"
  pn := []
  xe := fun e s' => wpAny (model P w) (A.deeper (ksEnv qual scope s.heap.objs.size f cd cc)) (leaving (ksEnv qual scope s.heap.objs.size f cd cc) e) (fun _ s'' => CX outer H s E e s'') (fun e' s'' => CX outer H s E e' s'') s'
theorem revlook {ps : List Str} {us : List Value} {y : Str} {u : Value} {i : Nat} (nd : ps.Nodup) (hl : us.length = ps.length) (hp : ps[i]? = some y) (hu : us[i]? = some u) : (ps.zip us).reverse.lookup y = some u := by
  have key : ∀ {l : List (Str × Value)}, (l.map (·.1)).Nodup → (y, u) ∈ l → l.lookup y = some u := by
    intro l
    induction l with
    | nil => intro _ h; cases h
    | cons p l ih =>
      intro nd h
      obtain ⟨a, b⟩ := p
      rw [List.map_cons, List.nodup_cons] at nd
      rcases List.mem_cons.mp h with e | h
      · cases e; simp [List.lookup]
      · have hne : y ≠ a := fun e => nd.1 (by rw [← e]; exact List.mem_map.mpr ⟨(y, u), h, rfl⟩)
        have hb : (y == a) = false := by simpa using hne
        rw [List.lookup_cons, hb]
        exact ih nd.2 h
  refine key ?_ ?_
  · rw [List.map_reverse, List.map_fst_zip (by omega)]
    unfold List.Nodup
    rw [List.pairwise_reverse]
    exact List.Pairwise.imp (fun h => Ne.symm h) nd
  · rw [List.mem_reverse]
    have : (ps.zip us)[i]? = some (y, u) := by rw [List.getElem?_zip_eq_some]; exact ⟨hp, hu⟩
    exact List.mem_of_getElem? this
theorem inv_startF {CX : CXT} {P : Program} {w : World} {K : Fg} {mg : Str → Option Value} {base : Heap} {N ps : List Str} {qual : Str} {scope : Scope} {f : Addr} {cd : Value} {cc D : Addr} {A : Around} {outer : List PySem.Env} {s : Shared} {H : Hp} {E : XK} {us : List Value} {vs : List V}
    {ocl : Value} {dcl : Option Addr} {scl : Array (Option Value)} {h1 : Heap} {t : Nat} (S : ScopeF N ps scope) (hd : A.handled = none) (e0 : Env0 P w K mg base A outer s H) (hl : vs.length = ps.length) (r : Vals vs us)
    (hcc : K.lookup cc = some ⟨ocl, dcl, .cell (some (.ref D)), scl⟩) (hns : h1.Ns s.heap.objs.size (fun y => (ps.zip us).reverse.lookup y)) (hk : ∀ b o, s.heap.get? b = some o → h1.get? b = some o) :
    Inv (cxF CX P w K mg base N qual scope f cd cc A outer s H E) [] (start N vs) H { s with heap := h1, toks := t } := by
  have hpl : ps.length ≤ N.length := by have := congrArg List.length S.pre; rw [List.length_take] at this; omega
  have noA : ∀ b : Addr, b ∉ (cxF CX P w K mg base N qual scope f cd cc A outer s H E).ex := fun b z => absurd (show b ∈ ([] : List Addr) from z) (by simp)
  have hcb := e0.mod.kin _ _ hcc
  have lk1 : ∀ (x : Str) (c : Addr), ([("__class__", cc)] : List (Str × Addr)).lookup x = some c → x = "__class__" ∧ c = cc := fun x c h => by
    rw [List.lookup_cons] at h
    cases e : x == ("__class__" : Str) with
    | true => rw [e] at h; exact ⟨by simpa using e, (Option.some.inj h).symm⟩
    | false => rw [e] at h; cases h
  refine ⟨⟨e0.mod, S.kind, rfl, rfl, Nat.le_refl _, fun y z c h1 h2 => ((lk1 y c h1).1).trans ((lk1 z c h2).1).symm, fun y hy => ?_, fun y c hf h => ?_, fun _ => hd, Around.frames_deeper e0.frames, .inr ⟨rfl, rfl⟩, fun b z => absurd z (noA b), e0.bs, e0.bsz, fun b _ _ => noA b, fun b z => absurd z (noA b), e0.funs, e0.frf⟩,
    rfl, e0.bare, Un.kept hk, ⟨_, hns, fun i y v h1 h2 h3 => ?_⟩, fun y c h => ?_, e0.hok.fresh (Nat.le_refl _), fun y c h => ?_, fun p hp => absurd (show p ∈ ([] : List (Addr × Obj)) from hp) (by simp), e0.hok.kept hk, ?_⟩
  · have hy : scope.names.lookup y = some .cell ∨ scope.names.lookup y = some .free := hy
    rcases hy with hy | hy
    · exact absurd rfl (S.nocell _ (PySem.mem_of_lookup hy))
    · have e : y = "__class__" := S.free _ (PySem.mem_of_lookup hy) rfl
      subst e
      exact ⟨cc, rfl⟩
  · have hf : (y != "__class__") = true := hf
    have e := (lk1 y c h).1
    rw [e] at hf
    exact absurd hf (by decide)
  · have hi : i < vs.length := by
      unfold L2.start at h2
      by_cases hi : i < vs.length
      · exact hi
      · rw [List.getElem?_append_right (by simpa using hi)] at h2
        rw [List.getElem?_replicate] at h2
        split at h2 <;> cases h2
    have ha : vs[i]? = some v := by
      unfold L2.start at h2
      rw [List.getElem?_append_left (by simpa using hi), List.getElem?_map] at h2
      cases e : vs[i]? with
      | none => rw [e] at h2; cases h2
      | some a => rw [e] at h2; cases h2; rfl
    obtain ⟨u, hu, rv⟩ := r.get ha
    have hp : ps[i]? = some y := by
      rw [← S.pre, List.getElem?_take_of_lt (by omega)]; exact h1
    have ndP : ps.Nodup := by rw [← S.pre]; exact S.nd.sublist (List.take_sublist _ _)
    exact ⟨u, rv, .inl ⟨S.par y (List.mem_of_getElem? hp), revlook ndP (by rw [← r.length]; exact hl) hp hu⟩⟩
  · obtain ⟨_, e⟩ := lk1 y c h
    subst e
    exact ⟨_, _, hk _ _ (e0.bs _ _ hcb).1, rfl⟩
  · obtain ⟨_, e⟩ := lk1 y c h
    subst e
    exact (e0.bs _ _ hcb).2
  · unfold L2.start
    show _ = N.length
    rw [List.length_append, List.length_map, List.length_replicate]
    omega
theorem boot_super : bootBuiltins "super" = some (.type "super") := by decide +kernel
/-- what of the text it needs -/
structure SupC (P : Program) (K : Fg) (mg : Str → Option Value) (C cda cc : Addr) : Prop where
  T : OexC K C
  sup : ks_superIn K C C "__init__" = some (some (.builtin "ValueError.__init__"))
  ve : subIn K (.ref C) (.type "ValueError") = some true
  self : mroIn K C (.ref C) = some true
  code : ∃ (ccl : Value) (cdd : Option Addr) (vs : Array Value) (ccs : Array (Option Value)) (file : Str) (tf : Tok), K.lookup cda = some ⟨ccl, cdd, .fields vs, ccs⟩ ∧ vs[2]? = some (.str file tf) ∧ (P.main.file == file) = true
  cell : ∃ (cl : Value) (cld : Option Addr) (csl : Array (Option Value)), K.lookup cc = some ⟨cl, cld, .cell (some (.ref C)), csl⟩
  tp : nsIn K cStatics "thirdparty.any" = some none
  sg : mg "super" = none
  top : (P.main.scope.names.lookup ("super" : Str)).isSome = false
section
variable {CX : CXT} {P : Program} {w : World} {K : Fg} {mg : Str → Option Value} {base : Heap} {N ps : List Str} {qual : Str} {scope : Scope} {f cda cc C a : Addr} {A : Around} {outer : List PySem.Env} {s0 s : Shared} {H0 H : Hp} {E : XK} {σ : L2.St}
/-- ValueError.__init__ bound to the object, called -/
theorem sup_call {X : Cx} {u : Addr} {us : List Value} {Q : Value → Shared → Prop} {E' : Value → Shared → Prop} {A' : Around} {pins : List (Addr × Obj)} (T : OexC X.K C) (I : Inv X pins σ H s) (e : H a = some (exo a C none)) (hu : s.heap.get? u = some (kxs_mw "ValueError.__init__" a)) (hl : us.length ≤ sizeLine) (h : ∀ s', Inv X pins σ H s' → Q .none s') :
    wpAny (model X.prog X.w) A' (call (.ref u) us) Q E' s := by
  obtain ⟨nm, q, NC, bs, bm, sn, sub, ab, col, dd, k0, k1, k2, k3, k5, hC, hbm⟩ := T.cls
  obtain ⟨t1, ho⟩ := exo_at I.hok e
  obtain ⟨hp, g, d, t, os⟩ := s
  have FB := PySem.F.excBase_ValueError
  refine wpAny_call (codeAny_of_tree ?_)
  show wpAny _ A'.in1 (callAny (.ref u) ⟨us, []⟩) _ _ _
  simp only [callAny]
  refine wpAny_bind (wpAny_load hu ?_)
  simp only [kxs_mw, show (Value.type "method-wrapper" == Value.type "method" || Value.type "method-wrapper" == Value.type "builtin_function_or_method" || Value.type "method-wrapper" == Value.type "method-wrapper") = true by decide, if_true]
  refine KFB.if_so (by decide) ?_
  refine wpAny_bind (check_bound_init FB.toExcCallFacts (I.kIn _ _ hC) ho rfl ?_)
  refine wpAny_bind (wpAny_pure (wpAny_pure ?_))
  refine ⟨plainId_quiet FB.init.plain _, codeAny_builtin FB.initEntry ?_⟩
  refine exc_init_tree (cls := .ref C) (t0 := t1) (dv := none) (c2 := .none) (c3 := .none) (b4 := .bool false) ho hl fun h' k hx _ => ?_
  have J := I.write (t' := t) (x := a) (e := a) (o := exo a C none) (by rw [e]; exact True.intro) (.inl rfl) k ⟨_, hx⟩ (exo_ok hx)
  have eu : upd H a (exo a C none) = H := by
    funext b
    by_cases hb : b = a
    · rw [hb, upd_same, e]
    · rw [upd_ne hb]
  rw [eu] at J
  exact h _ J
abbrev eF (qual : Str) (scope : Scope) (s0 : Shared) (f cda cc : Addr) : PySem.Env := ksEnv qual scope s0.heap.objs.size f (.ref cda) cc
theorem sup_run {oc : Value} {od : Option Addr} {fd : FuncData} {osl : Array (Option Value)} {ar : Arg} {body : List Stmt} {ex : Expr} {te : TE} {R : Hp → Prop} {p0 p1 p2 p3 p4 : Pos} (Z : SupC P K mg C cda cc) (lk : K.lookup f = some ⟨oc, od, .func fd, osl⟩)
    (hp : (fd.params.posonlyargs ++ fd.params.args).head? = some ar) (hks : scope.names.lookup ("super" : Str) = some .globalImplicit) (hkc : scope.names.lookup ("__class__" : Str) = some .free) (hka : scope.names.lookup ar.arg = some .local) (hN : N[0]? = some ar.arg)
    (I : Inv (cxF CX P w K mg base N qual scope f (.ref cda) cc A outer s0 H0 E) [] σ H s) (hσ : σ[0]? = some (some (.ref a))) (e : H a = some (exo a C none))
    (he : PE (cxF CX P w K mg base N qual scope f (.ref cda) cc A outer s0 H0 E) ex te) (q : te σ H fun x H1 => [x].length ≤ 1 ∧ H1 a = some (exo a C none) ∧ R H1)
    (hst : starEach [ex] (eF qual scope s0 f cda cc) = (false, eval ex (eF qual scope s0 f cda cc)) :: starEach [] (eF qual scope s0 f cda cc) := by rfl)
    {pl : Sem Bool}
    (hev : eval (.Call (.Attribute (.Call (.Name "super" p0) [] [] p1) "__init__" p2) [ex] [] p3) (eF qual scope s0 f cda cc) = (do
      let ov ← attributeBase (.Call (.Name "super" p0) [] [] p1) "__init__" (eF qual scope s0 f cda cc) (eval (.Call (.Name "super" p0) [] [] p1) (eF qual scope s0 f cda cc))
      standAt p2.atName
      let (g, first) ← holding [ov] (getMethod ov "__init__" pl)
      callWith p3 g first (backTo p3 (starEach [ex] (eF qual scope s0 f cda cc))) []) := by rfl) (hsw : swapsWith (.Call (.Attribute (.Call (.Name "super" p0) [] [] p1) "__init__" p2) [ex] [] p3) none p4.line (eF qual scope s0 f cda cc) = pure false := by rfl) (hin : interactive (eF qual scope s0 f cda cc) = false := by rfl) :
    _root_.PySem.wpAt (model P w) (A.deeper (eF qual scope s0 f cda cc)) (.func body (eF qual scope s0 f cda cc)) (exec (.Expr (.Call (.Attribute (.Call (.Name "super" p0) [] [] p1) "__init__" p2) [ex] [] p3) p4) (eF qual scope s0 f cda cc))
      (fun fl s' => fl = .next ∧ ∃ H1, Inv (cxF CX P w K mg base N qual scope f (.ref cda) cc A outer s0 H0 E) [] σ H1 s' ∧ H1 a = some (exo a C none) ∧ R H1) (cxF CX P w K mg base N qual scope f (.ref cda) cc A outer s0 H0 E).xe s := by
  obtain ⟨ccl, cdd, vs, ccs, file, tf, hcode, hvs, hfile⟩ := Z.code
  obtain ⟨cl, cld, csl, hcell⟩ := Z.cell
  obtain ⟨nm, qn, NC, bs, bm, sn, sub, ab, col, dd, k0, k1, k2, k3, k5, hC, hbm⟩ := Z.T.cls
  have hcl : clsIn K C = some { name := nm, bases := bs, mro := .ref C :: bm, ns := NC, qualname := qn, hasDict := true, slotNames := sn, subclasses := sub, abstract := ab, collection := col, hasDel := false } := by unfold PySem.W.clsIn; rw [hC] <;> rfl
  have X : K.In s.heap := I.kIn
  obtain ⟨m, hn, look⟩ := I.loc
  obtain ⟨u, ru, lku⟩ := look 0 ar.arg (.ref a) hN hσ (.inl hka)
  obtain rfl : u = Value.ref a := ru
  have hself : m ar.arg = some (.ref a) := by
    rcases lku with ⟨_, z⟩ | ⟨z | z, _⟩
    · exact z
    · have z : scope.names.lookup ar.arg = some .cell := z
      rw [hka] at z; cases z
    · have z : scope.names.lookup ar.arg = some .free := z
      rw [hka] at z; cases z
  obtain ⟨mb, hb1, hb2⟩ := I.mod.blt
  refine ks_wpAt_Expr_any (ks_wpAt_MethodCall (pl := pl) ?_ hev) hin hsw
  refine ks_wpAt_super_base (env := ksEnv qual scope s0.heap.objs.size f (.ref cda) cc) hks hkc rfl rfl (X _ _ lk) rfl hp rfl (X _ _ hcode) rfl hvs hfile Z.top ?_
  refine ks_loadName_global I.ok.kind hks (Calls.loadGlobal_builtin (env := ksEnv qual scope s0.heap.objs.size f (.ref cda) cc) (I.mod.glob.keeps I.bk) Z.sg (hb1.keeps I.bk) ((hb2 "super" (by decide)).trans boot_super) ⟨rfl, ?_⟩)
  refine wpAny_loadName_free I.ok.kind hkc rfl ⟨_, X _ _ hcell, rfl⟩ ?_
  refine wpAny_loadName_local I.ok.kind hka hn hself ?_
  obtain ⟨t1, ho⟩ := exo_at I.hok e
  obtain ⟨hh, g, d, t, os⟩ := s
  refine ks_wpAny_isType_cls (X _ _ hC) rfl ⟨rfl, ?_⟩
  refine ks_wpAny_call_super (X _ _ hC) rfl ho rfl (fun c z => nomatch z) (looks_mroIn X Z.self) (fun h' es k => ?_)
  have I1 := I.kept (t' := t) k
  have X1 : K.In h' := I1.kIn
  obtain ⟨t2, ho1⟩ := exo_at I1.hok e
  have J : InstAt h' a { cls := .ref C, dict := none, data := .fields #[.ref t2, .none, .none, .none, .bool false, .none] } C none := ⟨ho1, rfl, rfl, trivial⟩
  have hI : Looks (model P w) h' (isInstance (.ref a) (.type "ValueError")) true := J.type.andThen (looks_subIn X1 Z.ve)
  have hm := Z.sup
  unfold ks_superIn at hm
  rw [hcl] at hm
  refine kxs_getMethod kxs_ValueError (l₀ := .ref C :: bm) es (looks_opaque X1 Z.tp) (fun A Q E s k q => wpAny_bind ((looks_clsIn X1 hcl) A _ E s k (wpAny_pure q))) rfl X1 hm hI (ks_ne X1 J hcl) rfl ?_
  have I2 : Inv (cxF CX P w K mg base N qual scope f (.ref cda) cc A outer s0 H0 E) [(h'.objs.size, kxs_mw "ValueError.__init__" a)] σ H ⟨h'.push (kxs_mw "ValueError.__init__" a), g, d, t + 1, os⟩ :=
    ClX.pin_new (s := ⟨h', g, d, t, os⟩) I1 (fun _ _ z => Heap.get?_push_of_some _ z) (Nat.le_refl _) (Heap.get?_push_size h' rfl) (fun v z => nomatch z)
  show wpAny _ _ (callWith p3 (.ref h'.objs.size) [] (backTo p3 (starEach [ex] _)) []) _ _ _
  have ha : PA (cxF CX P w K mg base N qual scope f (.ref cda) cc A outer s0 H0 E) [ex] (tCons te tNil) := pa_cons he pa_nil hst
  have hr : wpAny (model P w) (A.deeper (eF qual scope s0 f cda cc)) (spliced (backTo p3 (starEach [ex] (eF qual scope s0 f cda cc)))) _ _ _ := ha.run p3 _ _ σ H (fun vs H1 => vs.length ≤ 1 ∧ H1 a = some (exo a C none) ∧ R H1) I2 q
  rw [hst] at hr ⊢
  refine kxs_callWith (i := "ValueError.__init__") (x := a) rfl ?_
  refine evalArgs_plain ?_
  refine thn hr fun us s1 ⟨vs, H1, I3, rv, hlen, e1, rr⟩ => ?_
  refine ⟨ClX.pin_at I3, ?_⟩
  refine sup_call Z.T I3 e1 (ClX.pin_at I3) (by show us.length ≤ sizeLine; rw [← Paired.length rv, sizeLine_eq]; omega) fun s2 I4 => ?_
  exact ⟨rfl, H1, ClX.unpin I4, e1, rr⟩
/-- THE DEF: super().__init__(ex), then rest -/
theorem fn_super {oc : Value} {od : Option Addr} {osl : Array (Option Value)} {name : Str} {params : Arguments} {dV kV doc pm ct : Value} {an : Option Addr} {ar : Arg} {ex : Expr} {rest : List Stmt} {p0 p1 p2 p3 p4 : Pos} {k : Nat} {sp : Sp} {pl : Sem Bool}
    (Z : SupC P K mg C cda cc) (S : ScopeF N ps scope)
    (lk : K.lookup f = some ⟨oc, od, .func (ksFn name qual params (.Expr (.Call (.Attribute (.Call (.Name "super" p0) [] [] p1) "__init__" p2) [ex] [] p3) p4 :: rest) scope dV kV doc pm an (.ref cda) ct cc), osl⟩) (hcd : codeIn K (.ref cda) qual = true)
    (hp : (params.posonlyargs ++ params.args).head? = some ar) (hks : scope.names.lookup ("super" : Str) = some .globalImplicit) (hkc : scope.names.lookup ("__class__" : Str) = some .free) (hka : scope.names.lookup ar.arg = some .local) (hN : N[0]? = some ar.arg)
    (len : ∀ vs H Q E, sp vs H Q E → vs.length = ps.length)
    (hbody : ∀ (A : Around) (outer : List PySem.Env) (s : Shared) (H : Hp) (vs : List V) (Q : VK) (E : XK), Room k (A.deeper (eF qual scope s f cda cc)) → sp vs H Q E →
      ∃ (a : Addr) (te : TE) (tr : TS), (start N vs)[0]? = some (some (.ref a)) ∧ H a = some (exo a C none) ∧ PE (cxF CX P w K mg base N qual scope f (.ref cda) cc A outer s H E) ex te ∧ PSs (cxF CX P w K mg base N qual scope f (.ref cda) cc A outer s H E) rest tr ∧
        te (start N vs) H fun x H1 => [x].length ≤ 1 ∧ H1 a = some (exo a C none) ∧ tr { nx := fun _ H' => Q .non H', rt := Q } (start N vs) H1)
    (hst : ∀ s : Shared, starEach [ex] (eF qual scope s f cda cc) = (false, eval ex (eF qual scope s f cda cc)) :: starEach [] (eF qual scope s f cda cc) := by intro _; rfl)
    (hev : ∀ s : Shared, eval (.Call (.Attribute (.Call (.Name "super" p0) [] [] p1) "__init__" p2) [ex] [] p3) (eF qual scope s f cda cc) = (do
      let ov ← attributeBase (.Call (.Name "super" p0) [] [] p1) "__init__" (eF qual scope s f cda cc) (eval (.Call (.Name "super" p0) [] [] p1) (eF qual scope s f cda cc))
      standAt p2.atName
      let (g, first) ← holding [ov] (getMethod ov "__init__" pl)
      callWith p3 g first (backTo p3 (starEach [ex] (eF qual scope s f cda cc))) []) := by intro _; rfl)
    (hsw : ∀ s : Shared, swapsWith (.Call (.Attribute (.Call (.Name "super" p0) [] [] p1) "__init__" p2) [ex] [] p3) none p4.line (eF qual scope s f cda cc) = pure false := by intro _; rfl) (hin : ∀ s : Shared, interactive (eF qual scope s f cda cc) = false := by intro _; rfl) :
    FnOk P w K mg base CX (k + 1) f (ksFn name qual params (.Expr (.Call (.Attribute (.Call (.Name "super" p0) [] [] p1) "__init__" p2) [ex] [] p3) p4 :: rest) scope dV kV doc pm an (.ref cda) ct cc) ps sp := by
  refine ⟨len, fun A outer s H args us vs Q E hr e0 hb r hsp => ?_⟩
  have hl := len _ _ _ _ hsp
  have KX : K.In s.heap := e0.mod.kin.keeps fun b o e => (e0.bs b o e).1
  have lim : s.heap.NoLimit := e0.mod.nolimit.keeps fun b o e => (e0.bs b o e).1
  obtain ⟨a, te, tr, hσ, ea, he, hrest, q⟩ := hbody A outer s H vs Q E (hr.deeper _) hsp
  obtain ⟨cl, cld, csl, hcell⟩ := Z.cell
  refine ks_codeAny_call_defAt hr.depth (KX _ _ lk) rfl lim (codeRec_of KX hcd) rfl hb S.nocell (fun y hy => S.par y.1 (List.of_mem_zip hy).1) (fun h1 hns hk => ?_) S.co S.gen S.kind
  have I : Inv (cxF CX P w K mg base N qual scope f (.ref cda) cc A outer s H E) [] (start N vs) H { s with heap := h1, toks := s.toks + (ps.zip us).length } := inv_startF S hr.hd e0 hl r hcell hns hk
  refine ks_wpAt_execs_cons (ks_wpAt_mono (sup_run (pl := pl) Z lk hp hks hkc hka hN I hσ ea he q (hst s) (hev s) (hsw s) (hin s)) (fun fl s' hs => ?_) fun _ _ x => x)
  obtain ⟨rfl, H1, I1, e1, qr⟩ := hs
  refine wpAt_of_wpAny (wpAny_mono (hrest.run [] s' (start N vs) H1 _ I1 qr) (fun fl s' hs => ?_) fun e s' hs => hs)
  have fin : ∀ {σ' : L2.St} {H' : Hp} {v : V} {u : Value}, Inv (cxF CX P w K mg base N qual scope f (.ref cda) cc A outer s H E) [] σ' H' s' → RelV v u → Q v H' → CE outer P w H s Q u s' :=
    fun {σ' H' v u} J rv q => ⟨v, H', J.os, J.bare, J.base, J.hok, rv, q⟩
  cases fl with
  | ret u =>
    obtain ⟨v, σ', H', J, rv, q⟩ := hs
    exact fin J rv q
  | next =>
    obtain ⟨σ', H', J, q⟩ := hs
    exact fin (v := V.non) (u := Value.none) J rfl q
  | brk =>
    obtain ⟨_, _, _, q⟩ := hs
    exact False.elim q
  | cont =>
    obtain ⟨_, _, _, q⟩ := hs
    exact False.elim q
end
end Pu
namespace Pu
open PySem PySem.Spec L2
/-! ### defs that raise -/
/-- a def's promise, an exception of the class at C among the answers -/
def spX (K : Fg) (c : Pr) : Sp := fun vs H Q E => ∃ F ds R, Fits F H ∧ Reps K F ds vs ∧ c ds R ∧ (∀ d v F' H', R d → Ext No F H F' H' → Rep K F' d v → Q v H') ∧
  ∀ C ns ds dd ws F' H', R (.exc C ns ds) → Ext No F H F' H' → F'.fz dd = some (.xd (ns.zip ws)) → ns.length = ds.length → Reps K F' ds ws → E (.ref C) (some dd) H'
def endX (P : DK) : PEnds := { nx := fun _ => P .non, rt := fun d _ => P d, bk := fun _ => False, ct := fun _ => False, rn := fun d _ => P d, xr := fun C ns ds _ => P (.exc C ns ds) }
section
variable {P : Program} {w : World} {K : Fg} {mg : Str → Option Value} {base : Heap}
theorem fn_okX {x qual : Str} {st : Stmt} {f : Addr} {fd : FuncData} {N ps : List Str} {k : Nat} {c : Pr} (G : Fun K x qual st f fd) (S : FnScope N ps (defScope st)) (hlen : ∀ ds P, c ds P → ds.length = ps.length)
    (hbody : ∀ (cdv : Value) (A : Around) (outer : List PySem.Env) (s : Shared) (H : Hp) (E : XK), Room k (A.deeper (PyProof.Rows.envOfC qual (defScope st) s.heap.objs.size f cdv)) →
      ∃ p, pss (cxOf (L2.CX P w) P w K mg base N qual (defScope st) f cdv A outer s H E) (defBody st) p ∧ ∀ ds R, c ds R → p (endX R) (startE N ds)) : FnOk P w K mg base (L2.CX P w) (k + 1) f fd ps (spX K c) := by
  refine G.okX S (fun vs H Q E ⟨F, ds, R, _, r, h, _⟩ => by rw [r.length]; exact hlen ds R h) (fun cdv A outer s H vs Q E hr ⟨F, ds, R, ft, r, h, k, kx⟩ => ?_)
  obtain ⟨p, hp, hq⟩ := hbody cdv A outer s H E hr
  have s0 : FSt K ⟨No, F, H⟩ F (startE N ds) (L2.start N vs) H := ⟨Ext.refl ft, start_st ft r⟩
  have tk : Takes (cxOf (L2.CX P w) P w K mg base N qual (defScope st) f cdv A outer s H E) (fun cls d _ H => E cls d H) := takes_of rfl rfl rfl rfl
  refine ⟨_, hp, ⟨No, F, H⟩, F, startE N ds, endX R, s0, hq ds R h, ⟨fun F' ρ σ H' s' _ q => k _ _ F' H' q s'.ext rep_non, fun F' ρ σ H' d v s' _ q r' => k d v F' H' q s'.ext r', fun F' ρ σ H' s' _ q => q.elim, fun F' ρ σ H' s' _ q => q.elim, fun F' ρ σ H' d a s' _ q hn hz hi ow => ?_, fun F' ρ σ H' C ns es dd vs s' _ q hz hl rr => ?_⟩⟩
  · obtain ⟨o, eo⟩ := some_of_ne ow.there
    exact k d (.ref a) (F'.add a o) H' q (s'.ext.frz hn hz eo) (ow.rep eo FS.add_same (Le.add hz hi))
  · exact xW_of tk (kx C ns es dd vs F' H' q s'.ext hz hl rr)
end
/-! ### calls of such defs -/
def excOr (f : Addr → List Str → List D → Prop) (g : DK) : DK
  | .exc C ns ds => f C ns ds
  | d => g d
theorem excOr_rep {K : Fg} {F : FS} {f : Addr → List Str → List D → Prop} {g : DK} {d : D} {v : V} (h : excOr f g d) (r : Rep K F d v) : g d := by
  cases d with
  | exc C ns ds => simp only [Rep] at r
  | _ => exact h
section
variable {X : Cx} {K : Fg} {k : Nat} {f C : Addr} {fd : FuncData} {pl : List Str} {c : Pr} {x : Str} {p p' pos : Pos} {e : Expr} {es : List Expr} {t : PTA} {i : Nat}
def qSetX (i : Nat) (c : Pr) (t : PTA) : PTS := fun PD ρ => t ρ fun ds => c ds (excOr (fun C ns fs => PD.xr C ns fs ρ) fun d => PD.nx (ρ.set i (some (.sh d))))
def qRetX (c : Pr) (t : PTA) : PTS := fun PD ρ => t ρ fun ds => c ds (excOr (fun C ns fs => PD.xr C ns fs ρ) fun d => PD.rt d ρ)
def qDropX (c : Pr) (t : PTA) : PTS := fun PD ρ => t ρ fun ds => c ds (excOr (fun C ns fs => PD.xr C ns fs ρ) fun d => PD.nx ρ)
theorem callX_ok {q : D → Pu.Env → Prop} {PD : PEnds} {B : Bas} {F : FS} {ρ : Pu.Env} {σ : L2.St} {H : Hp} {E : Ends} (s : FSt X.K B F ρ σ H) (e : EndsOk (xW X) X.K B F PD E)
    (h : t ρ fun ds => c ds (excOr (fun C ns fs => PD.xr C ns fs ρ) fun d => q d ρ)) {Q : VK} (hq : ∀ d v F1 H1, q d ρ → FSt X.K B F1 ρ σ H1 → Le F F1 → Rep X.K F1 d v → Q v H1) : tCallS (spX X.K c) (WE (xW X)) (LA X.K t) σ H Q :=
  ⟨B.N, F, ρ, _, s.st, h, fun ds vs F1 H1 p1 x1 r1 => by
    have s1 := s.go x1
    have l1 := x1.le s.ext.fits
    refine ⟨F1, ds, _, x1.fits, r1, p1, fun d v F2 H2 p2 x2 r2 => hq d v F2 H2 (excOr_rep p2 r2) (s1.go x2) (l1.trans (x2.le x1.fits)) r2, fun C ns es dd ws F2 H2 p2 x2 hz hl r2 => ?_⟩
    exact e.ex F2 ρ σ H2 C ns es dd ws (s1.go x2) (l1.trans (x2.le x1.fits)) p2 hz hl r2⟩
theorem s_setX (hN : X.N.Nodup) (G : FnOk X.prog X.w X.K X.mg X.base (L2.CX X.prog X.w) k f fd pl (spX X.K c)) (hr : Room k X.A) (hm : X.mg x = some (.ref f)) (hk : PySem.W.keepIn X.K (.ref f) = true) (hb : Binds X.K fd pl []) (ha : pa X (e :: es) t) {y : Str} (hi : X.N[i]? = some y := by rfl)
    (hy : Loc X.env.scope y := by first | exact Or.inl rfl | exact Or.inr rfl) (hg : Gl X x := by rfl) (hdb : (x == ("__debug__" : Str)) = false := by decide) (he : starEach (e :: es) X.env = (false, eval e X.env) :: starEach es X.env := by rfl) (hpl : (backTo pos (starEach es X.env)).any (·.1) = false := by rfl)
    (hs : swapsWith (.Call (.Name x p) (e :: es) [] pos) (some (.Name y p')) pos.line X.env = pure false := by rfl) (hf : X.fn y = true ∨ X.env.scope.names.lookup y = some .local := by first | exact .inl rfl | exact .inr rfl | assumption) {pos2 : Pos} (hs2 : swapsWith (.Call (.Name x p) (e :: es) [] pos) (some (.Name y p')) pos2.line X.env = pure false := by rfl) :
    ps X (.Assign [.Name y p'] (.Call (.Name x p) (e :: es) [] pos) pos2) (qSetX i c t) :=
  PS_weak (ps_set hN hi hy (pe_callS G hr hg hm hk hb (passAt takes_xW) ha hdb he hpl) hs2 hf) fun E σ H ⟨B, F, ρ, PD, s, q, e⟩ =>
    callX_ok (q := fun d ρ => PD.nx (ρ.set i (some (.sh d)))) s e q fun d v F1 H1 q1 s1 l1 r1 => e.nx F1 _ _ H1 ⟨s1.ext, s1.st.set_sh i r1⟩ l1 q1
theorem s_retX (G : FnOk X.prog X.w X.K X.mg X.base (L2.CX X.prog X.w) k f fd pl (spX X.K c)) (hr : Room k X.A) (hm : X.mg x = some (.ref f)) (hk : PySem.W.keepIn X.K (.ref f) = true) (hb : Binds X.K fd pl []) (ha : pa X (e :: es) t)
    (hg : Gl X x := by rfl) (hdb : (x == ("__debug__" : Str)) = false := by decide) (he : starEach (e :: es) X.env = (false, eval e X.env) :: starEach es X.env := by rfl) (hpl : (backTo pos (starEach es X.env)).any (·.1) = false := by rfl) {pos2 : Pos} :
    ps X (.Return (some (.Call (.Name x p) (e :: es) [] pos)) pos2) (qRetX c t) :=
  PS_weak (ps_ret (pe_callS G hr hg hm hk hb (passAt takes_xW) ha hdb he hpl)) fun E σ H ⟨B, F, ρ, PD, s, q, e⟩ =>
    callX_ok (q := fun d ρ => PD.rt d ρ) s e q fun d v F1 H1 q1 s1 l1 r1 => e.rt F1 _ _ H1 d v s1 l1 q1 r1
theorem s_dropX (G : FnOk X.prog X.w X.K X.mg X.base (L2.CX X.prog X.w) k f fd pl (spX X.K c)) (hr : Room k X.A) (hm : X.mg x = some (.ref f)) (hk : PySem.W.keepIn X.K (.ref f) = true) (hb : Binds X.K fd pl []) (ha : pa X (e :: es) t)
    (hg : Gl X x := by rfl) (hdb : (x == ("__debug__" : Str)) = false := by decide) (he : starEach (e :: es) X.env = (false, eval e X.env) :: starEach es X.env := by rfl) (hpl : (backTo pos (starEach es X.env)).any (·.1) = false := by rfl) {pos2 : Pos}
    (hs : swapsWith (.Call (.Name x p) (e :: es) [] pos) none pos2.line X.env = pure false := by rfl) : ps X (.Expr (.Call (.Name x p) (e :: es) [] pos) pos2) (qDropX c t) :=
  PS_weak (ps_expr (pe_callS G hr hg hm hk hb (passAt takes_xW) ha hdb he hpl) hs) fun E σ H ⟨B, F, ρ, PD, s, q, e⟩ =>
    callX_ok (q := fun d ρ => PD.nx ρ) s e q fun d v F1 H1 q1 s1 l1 r1 => e.nx F1 _ _ H1 s1 l1 q1

/-! ### raise C(e, ..) -/
/-- fit for an f-text -/
def flatV (w : V) : Prop := (∃ y : Str, w = .str y ∧ y.length ≤ 100000) ∨ ∃ i : Int, w = .int i ∧ i.natAbs ≤ 100000
def flatX : D → Prop
  | .str y => y.length ≤ 100000
  | .int i => i.natAbs ≤ 100000
  | _ => False
/-- what the __init__ of such a class does: its fields in order -/
def spIni (C : Addr) (ns : List Str) : Sp := fun vs H Q _ => ∃ a ws, vs = .ref a :: ws ∧ ws.length = ns.length ∧ (∀ w, w ∈ ws → flatV w) ∧ H a = some (exo a C none) ∧
  ∀ dx H2, H dx = none → dx ≠ a → H2 a = some (exo a C (some dx)) → H2 dx = some (exd dx (ns.reverse.zip ws.reverse)) → (∀ b, b ≠ a → b ≠ dx → H2 b = H b) → Q .non H2
def qRaise (C : Addr) (ns : List Str) (t : PTA) : PTS := fun PD ρ => t ρ fun ds => ds.length = ns.length ∧ (∀ d, d ∈ ds → flatX d) ∧ PD.xr C ns.reverse ds.reverse ρ
theorem flat_reps {F : FS} : ∀ {ds : List D} {vs : List V}, Reps K F ds vs → (∀ d, d ∈ ds → flatX d) → ∀ v, v ∈ vs → flatV v
  | [], _, r, _ => by simp only [Reps] at r; subst r; intro v h; cases h
  | d :: ds, _, r, h => by
    simp only [Reps] at r
    obtain ⟨v, q, rfl, r1, r2⟩ := r
    intro u hu
    rcases List.mem_cons.mp hu with rfl | hu
    · have := h d (by simp)
      cases d <;> try exact this.elim
      · simp only [Rep] at r1; exact .inr ⟨_, r1, this⟩
      · simp only [Rep] at r1; exact .inl ⟨_, r1, this⟩
    · exact flat_reps r2 (fun d hd => h d (by simp [hd])) u hu
theorem s_raise {fI : Addr} {ns : List Str} {pos2 : Pos} (hc : X.calm = true) (T : OexC X.K C) (iC : PySem.W.findIn X.K (.ref C) "__init__" = some (some (.ref fI))) (tI : PySem.W.typeIn X.K (.ref fI) = some (.type "function"))
    (G : FnOk X.prog X.w X.K X.mg X.base CX0 k fI fd pl (spIni C ns)) (hr : Room (k + 1) X.A) (hb : Binds X.K fd pl []) (hm : X.mg x = some (.ref C)) (hns : ns.length ≤ 900) (ha : pa X (e :: es) t) (hg : Gl X x := by rfl)
    (hdb : (x == ("__debug__" : Str)) = false := by decide) (he : starEach (e :: es) X.env = (false, eval e X.env) :: starEach es X.env := by rfl) (hpl : (backTo pos (starEach es X.env)).any (·.1) = false := by rfl) :
    ps X (.Raise (some (.Call (.Name x p) (e :: es) [] pos)) none pos2) (qRaise C ns t) :=
  PS_weak (ps_raise hc takes_xW (pmk_oex T iC tI G hr hb Paired.nil pass0 hg hm ha hdb he hpl)) fun E σ H ⟨B, F, ρ, PD, s, q, e⟩ =>
    ⟨B.N, F, ρ, _, s.st, q, fun ds vs F1 H1 ⟨p1, p2, p3⟩ x1 r1 => ⟨by have := r1.length; omega, fun a ha => by
      have s1 := s.go x1
      refine ⟨a, vs, by rw [List.append_nil], by rw [r1.length]; exact p1, flat_reps r1 p2, upd_same, fun dx H2 n1 n2 e1 e2 ot => ?_⟩
      have n1' : H1 dx = none := by rw [upd_ne n2] at n1; exact n1
      refine ⟨rfl, dx, _, e1, e2, n1', ?_⟩
      have eh : upd (del H2 a) dx (.xd (ns.reverse.zip vs.reverse)) = upd H1 dx (.xd (ns.reverse.zip vs.reverse)) := by
        funext b
        by_cases hb : b = dx
        · subst hb; rw [upd_same, upd_same]
        · rw [upd_ne hb, upd_ne hb]
          by_cases hb2 : b = a
          · subst hb2; rw [del_same, ha]
          · rw [del_ne hb2, ot b hb2 hb, upd_ne hb2]
      rw [eh]
      have y : Ext No F1 H1 (F1.add dx (.xd (ns.reverse.zip vs.reverse))) (upd H1 dx (.xd (ns.reverse.zip vs.reverse))) := Ext.new x1.fits n1'
      exact e.ex _ ρ σ _ C _ _ dx _ (s1.go y) ((x1.le s.ext.fits).trans (y.le x1.fits)) p3 FS.add_same (by simp [p1]) (r1.ext y x1.fits).reverse⟩⟩
end
end Pu
namespace Pu
open PySem PySem.Spec L2
/-! ### the __init__ of an exception: its fields -/
def tRest (K : Fg) : List Str → Nat → TS
  | [], _ => tNext
  | n :: ns, i => tSeq (tOst K n (tVar 0) (tVar i)) (tRest K ns (i + 1))
section
variable {K : Fg} {C a dx : Addr} {σ : L2.St} {D : Ends}
theorem rest_ok (T : OexC K C) (hσ : σ[0]? = some (some (.ref a))) (nda : dx ≠ a) : ∀ (ns : List Str) (i : Nat) (ws : List V) (fs : List (Str × V)) (H : Hp), (∀ n, n ∈ ns → PySem.W.findIn K (.ref C) n = some none) → (∀ (j : Nat) w, ws[j]? = some w → σ[i + j]? = some (some w)) → ws.length = ns.length → fs.length + ns.length ≤ 900 →
    H a = some (exo a C (some dx)) → H dx = some (exd dx fs) → (∀ H2 : Hp, H2 a = some (exo a C (some dx)) → H2 dx = some (exd dx ((ns.zip ws).reverse ++ fs)) → (∀ b, b ≠ dx → H2 b = H b) → D.nx σ H2) → tRest K ns i D σ H
  | [], i, [], fs, H, _, _, _, _, e1, e2, k => k H e1 e2 fun _ _ => rfl
  | n :: ns, i, w :: ws, fs, H, hno, hw, hl, hz, e1, e2, k => by
    simp only [List.length_cons] at hl hz
    refine ⟨w, by have := hw 0 w rfl; simpa using this, .ref a, hσ, a, C, rfl, T, hno n (by simp), .inr ⟨dx, fs, e1, e2, by omega, ?_⟩⟩
    refine rest_ok T hσ nda ns (i + 1) ws ((n, w) :: fs) _ (fun m hm => hno m (by simp [hm])) (fun j v hv => by have := hw (j + 1) v (by simpa using hv); rw [Nat.add_assoc, Nat.add_comm 1 j]; exact this) (by omega) (by simp; omega) ?_ upd_same fun H2 q1 q2 q3 => ?_
    · rw [upd_ne (Ne.symm nda)]; exact e1
    · refine k H2 q1 ?_ fun b hb => ?_
      · rw [q2]
        simp
      · rw [q3 b hb, upd_ne hb]
theorem rest_new (T : OexC K C) (hσ : σ[0]? = some (some (.ref a))) {n : Str} {ns : List Str} {i : Nat} {w : V} {ws : List V} {H : Hp} (hno : ∀ m, m ∈ n :: ns → PySem.W.findIn K (.ref C) m = some none) (hw : ∀ (j : Nat) v, (w :: ws)[j]? = some v → σ[i + j]? = some (some v)) (hl : ws.length = ns.length) (hz : ns.length ≤ 800)
    (e : H a = some (exo a C none)) (k : ∀ dx (H2 : Hp), H dx = none → dx ≠ a → H2 a = some (exo a C (some dx)) → H2 dx = some (exd dx ((n :: ns).reverse.zip (w :: ws).reverse)) → (∀ b, b ≠ a → b ≠ dx → H2 b = H b) → D.nx σ H2) : tRest K (n :: ns) i D σ H := by
  refine ⟨w, by have := hw 0 w rfl; simpa using this, .ref a, hσ, a, C, rfl, T, hno n (by simp), .inl ⟨e, fun dx n1 n2 => ?_⟩⟩
  refine rest_ok T hσ n2 ns (i + 1) ws [(n, w)] _ (fun m hm => hno m (by simp [hm])) (fun j v hv => by have := hw (j + 1) v (by simpa using hv); rw [Nat.add_assoc, Nat.add_comm 1 j]; exact this) hl (by simp; omega) upd_same ?_ fun H2 q1 q2 q3 => ?_
  · rw [upd_ne n2, upd_same]
  · refine k dx H2 n1 n2 q1 ?_ fun b h1 h2 => ?_
    · rw [q2]
      have : (n :: ns).reverse.zip (w :: ws).reverse = ((n :: ns).zip (w :: ws)).reverse := by
        rw [List.zip_eq_zipWith, List.zip_eq_zipWith, List.reverse_zipWith (by simp [hl])]
      rw [this]
      simp
    · rw [q3 b h2, upd_ne h1, upd_ne h2]
/-- the parts of its f-text: texts, parameters -/
theorem tJs_ok {H : Hp} {Q : Str → Hp → Prop} : ∀ (ts : List TE) (acc : Str), (∀ t, t ∈ ts → (∃ s : Str, t = tC (.str s) ∧ s.length ≤ 1000) ∨ ∃ (i : Nat) (w : V), t = tFmt (tVar i) ∧ σ[i]? = some (some w) ∧ flatV w) → acc.length + ts.length * 100002 ≤ sizeLine → (∀ y, Q y H) → tJs ts acc σ H Q
  | [], acc, _, _, k => k acc
  | t :: ts, acc, ht, hz, k => by
    rw [List.length_cons, Nat.add_mul, Nat.one_mul] at hz
    have go : ∀ y : Str, y.length ≤ 100002 → ∃ y' : Str, V.str y = .str y' ∧ (acc ++ y').length ≤ sizeLine ∧ tJs ts (acc ++ y') σ H Q := fun y hy =>
      ⟨y, rfl, by rw [PySem.Str.length_append]; omega, tJs_ok ts (acc ++ y) (fun t h => ht t (by simp [h])) (by rw [PySem.Str.length_append]; omega) k⟩
    rcases ht t (by simp) with ⟨s, rfl, hs⟩ | ⟨i, w, rfl, hi, hw⟩
    · exact go s (by omega)
    · refine ⟨w, hi, ?_⟩
      rcases hw with ⟨y, rfl, hy⟩ | ⟨j, rfl, hj⟩
      · exact .inl ⟨y, rfl, by rw [sizeLine_eq]; omega, go y (by omega)⟩
      · refine .inr ⟨j, rfl, ?_, go _ ?_⟩
        · by_cases h0 : j.natAbs = 0
          · rw [h0]; decide
          · exact Nat.lt_of_le_of_lt (Nat.le_of_lt ((Nat.log2_lt h0).2 (Nat.lt_of_le_of_lt hj (show 100000 < 2 ^ 17 by decide)))) (by decide)
        · have h1 := int_text_length_le10 (a := j) (k := 6) (by decide) (Nat.lt_of_le_of_lt hj (by decide))
          rw [ofString_length]; omega
end
/-- THE __init__ of a class over ValueError: super().__init__(f"..") and its fields -/
theorem fn_ini {P : Program} {w : World} {K : Fg} {mg : Str → Option Value} {base : Heap} {qual : Str} {scope : Scope} {f cda cc C : Addr} {n : Str} {ns : List Str} {oc : Value} {od : Option Addr} {osl : Array (Option Value)} {name : Str} {params : Arguments} {dV kV doc pm ct : Value} {an : Option Addr} {ar : Arg} {v1 v2 : Expr} {es : List Expr} {rest : List Stmt} {p0 p1 p2 p3 p4 p5 : Pos} {k : Nat} {pl : Sem Bool} {ts : List TE}
    (Z : SupC P K mg C cda cc) (S : ScopeF ("self" :: n :: ns) ("self" :: n :: ns) scope)
    (lk : K.lookup f = some ⟨oc, od, .func (PySem.W.ksFn name qual params (.Expr (.Call (.Attribute (.Call (.Name "super" p0) [] [] p1) "__init__" p2) [.JoinedStr (v1 :: v2 :: es) p5] [] p3) p4 :: rest) scope dV kV doc pm an (.ref cda) ct cc), osl⟩) (hcd : PySem.W.codeIn K (.ref cda) qual = true)
    (hp : (params.posonlyargs ++ params.args).head? = some ar) (har : ar.arg = "self") (hks : scope.names.lookup ("super" : Str) = some .globalImplicit) (hkc : scope.names.lookup ("__class__" : Str) = some .free)
    (hno : ∀ m, m ∈ n :: ns → PySem.W.findIn K (.ref C) m = some none) (hz : ns.length ≤ 800) (ht : ∀ t, t ∈ ts → (∃ s : Str, t = tC (.str s) ∧ s.length ≤ 1000) ∨ ∃ i, t = tFmt (tVar (i + 1)) ∧ i ≤ ns.length) (htl : ts.length ≤ 20)
    (hj : ∀ (A : Around) (outer : List PySem.Env) (s : Shared) (H : Hp) (E : XK), PJ (cxF CX0 P w K mg base ("self" :: n :: ns) qual scope f (.ref cda) cc A outer s H E) (v1 :: v2 :: es) ts)
    (hrest : ∀ (A : Around) (outer : List PySem.Env) (s : Shared) (H : Hp) (E : XK), PSs (cxF CX0 P w K mg base ("self" :: n :: ns) qual scope f (.ref cda) cc A outer s H E) rest (tRest K (n :: ns) 1))
    (hst : ∀ s : Shared, starEach [.JoinedStr (v1 :: v2 :: es) p5] (eF qual scope s f cda cc) = (false, eval (.JoinedStr (v1 :: v2 :: es) p5) (eF qual scope s f cda cc)) :: starEach [] (eF qual scope s f cda cc) := by intro _; rfl)
    (hev : ∀ s : Shared, eval (.Call (.Attribute (.Call (.Name "super" p0) [] [] p1) "__init__" p2) [.JoinedStr (v1 :: v2 :: es) p5] [] p3) (eF qual scope s f cda cc) = (do
      let ov ← attributeBase (.Call (.Name "super" p0) [] [] p1) "__init__" (eF qual scope s f cda cc) (eval (.Call (.Name "super" p0) [] [] p1) (eF qual scope s f cda cc))
      standAt p2.atName
      let (g, first) ← holding [ov] (getMethod ov "__init__" pl)
      callWith p3 g first (backTo p3 (starEach [.JoinedStr (v1 :: v2 :: es) p5] (eF qual scope s f cda cc))) []) := by intro _; rfl)
    (hsw : ∀ s : Shared, swapsWith (.Call (.Attribute (.Call (.Name "super" p0) [] [] p1) "__init__" p2) [.JoinedStr (v1 :: v2 :: es) p5] [] p3) none p4.line (eF qual scope s f cda cc) = pure false := by intro _; rfl) (hin : ∀ s : Shared, interactive (eF qual scope s f cda cc) = false := by intro _; rfl) :
    FnOk P w K mg base CX0 (k + 1) f (PySem.W.ksFn name qual params (.Expr (.Call (.Attribute (.Call (.Name "super" p0) [] [] p1) "__init__" p2) [.JoinedStr (v1 :: v2 :: es) p5] [] p3) p4 :: rest) scope dV kV doc pm an (.ref cda) ct cc) ("self" :: n :: ns) (spIni C (n :: ns)) := by
  refine fn_super Z S lk hcd hp hks hkc (by rw [har]; exact S.par "self" (by simp)) (by rw [har]; rfl) (fun vs H Q E ⟨a, ws, e, hl, _⟩ => by rw [e, List.length_cons, hl]; rfl) (fun A outer s H vs Q E hr ⟨a, ws, e, hl, hfl, ea, kk⟩ => ?_) hst hev hsw hin
  subst e
  have hs : ∀ (j : Nat) v, ws[j]? = some v → (L2.start ("self" :: n :: ns) (.ref a :: ws))[1 + j]? = some (some v) := fun j v hv => by
    unfold L2.start
    have hlt := (List.getElem?_eq_some_iff.mp hv).1
    rw [List.getElem?_append_left (by simp; omega), List.map_cons, Nat.add_comm, List.getElem?_cons_succ, List.getElem?_map, hv]
    rfl
  refine ⟨a, _, _, rfl, ea, pe_joined (hj A outer s H E), hrest A outer s H E, ?_⟩
  refine tJs_ok ts Str.empty (fun t hm => ?_) ?_ fun y => ⟨by simp, ea, ?_⟩
  · rcases ht t hm with h | ⟨i, rfl, hi⟩
    · exact .inl h
    · have hi' : i < ws.length := by rw [hl, List.length_cons]; omega
      refine .inr ⟨i + 1, ws[i], rfl, ?_, hfl _ (List.getElem_mem hi')⟩
      rw [Nat.add_comm]
      exact hs i _ (List.getElem?_eq_getElem hi')
  · have : (Str.empty).length = 0 := rfl
    rw [sizeLine_eq, this]
    have := Nat.mul_le_mul_right 100002 htl
    omega
  · cases ws with
    | nil => simp at hl
    | cons w ws =>
      exact rest_new Z.T rfl hno hs (by simpa using hl) hz ea fun dx H2 q1 q2 q3 q4 q5 => kk dx H2 q1 q2 q3 q4 q5
end Pu
namespace PySem.W
open PySem PySem.Spec PySem.Calls PyProof.Rows
section
variable {prog : Program} {w : World} {A : Around} {E : Value → Shared → Prop} {s : Shared} {K : Frag} {x D : Addr} {ox : Obj} {od : Obj}
/-- e.__class__, e an exception with a dict -/
theorem pu_classE {Q : Option Value → Shared → Prop} (hga : findIn K (.ref D) "__getattribute__" = some (some (.builtin "BaseException.__getattribute__"))) (hgt : findIn K (.ref D) "__getattr__" = some none) (hsub : subIn K (.ref D) (.type "BaseException") = some true)
    (hdct : hasDictIn K D = true) (ha : findIn K (.ref D) "__class__" = some (some (.builtin "object.__class__")))
    (hn : specialIn K (.builtin "object.__class__") "__get__" = some (some (.builtin "getset_descriptor.__get__"))) (htk : takesIn K (.builtin "object.__class__") = some true) (hm : mroIn K D (.type "object") = some true)
    (X : K.In s.heap) (I : InstAt s.heap x ox D (some od)) (h : Q (some (.ref D)) { s with toks := s.toks + 1 }) : wpAny (model prog w) A (getAttr? (.ref x) "__class__") Q E s := by
  have hf : findObj K D (some od) "__class__" = some (.bind (.builtin "getset_descriptor.__get__") (.builtin "object.__class__")) := findObj_data (by obtain ⟨cd, hc, _⟩ := any_some hdct; rw [hc]; rfl) ha hn htk
  obtain ⟨hp, g, d, t, os⟩ := s
  have L0 := I.type (M := model prog w)
  have L1 := looks_findIn (M := model prog w) X hga
  have L2 := looks_findIn (M := model prog w) X hgt
  have L3 := looks_find (M := model prog w) X I hf
  have sub : Looks (model prog w) hp (isInstance (.ref x) (.type "BaseException")) true := L0.andThen (looks_subIn X hsub)
  have hx0 : (false && onTheHeap (Value.builtin "BaseException.__getattribute__")) = false := rfl
  have hx2 : (Value.builtin "BaseException.__getattribute__" == Value.builtin "object.__getattribute__") = false := by decide +kernel
  have hx1 : (onTheHeap (Value.ref D) && Value.builtin "BaseException.__getattribute__" == Value.builtin "object.__getattribute__") = false := by rw [hx2]; rfl
  unfold getAttr? getAttrBy? getAttrBy
  refine wpAny_bind (wpAny_mkText (wpAny_bind (wpAny_attempt (wpAny_holding (wpAny_bind (L0.at (wpAny_bind (L1.at ?_))))))))
  show wpAny _ _ (if (onTheHeap (Value.ref D) && Value.builtin "BaseException.__getattribute__" == Value.builtin "object.__getattribute__") = true then _ else _) _ _ _
  rw [hx1, if_neg Bool.false_ne_true]
  unfold getAttrByItsOwn hookBefore
  refine wpAny_bind ?_
  rw [if_pos (show onTheHeap (Value.ref D) = true from rfl)]
  refine L2.at ?_
  refine wpAny_bind (wpAny_attempt (wpAny_holding ?_))
  unfold callGetattribute
  rw [hx0, if_neg Bool.false_ne_true]
  unfold boundAndCalled
  rw [PySem.F.excAttr_ValueError.ga.bind (.ref x)]
  refine wpAny_bind (wpAny_pure ?_)
  show wpAny _ _ (call (.builtin "BaseException.__getattribute__") [.ref x, .str "__class__" t]) _ _ _
  refine wpAny_call (codeAny_call_builtin PySem.F.excAttr_ValueError.ga.plain PySem.F.entry_bexc_ga ?_)
  refine @check_slot (model prog w) _ _ ⟨hp, g, d, t + 1, os⟩ "BaseException.__getattribute__" "BaseException" "__getattribute__" (.ref x) [.str "__class__" t] [] _ (by decide +kernel) (by decide +kernel) sub (PySem.F.args_bexc_ga (.ref x) (.str "__class__" t)) ?_
  unfold Builtin.«object.__getattribute__»
  refine wpAny_bind (wpAny_of_eq (a := ((Value.ref x : Value), [Value.str "__class__" t])) (by first | rfl | (simp only [slotArgs]; rfl)) ?_)
  refine wpAny_bind (wpAny_pure (wpAny_bind (L0.at (wpAny_bind (L3.at ?_)))))
  show wpAny _ _ (holding [Value.builtin "object.__class__"] (call (.builtin "getset_descriptor.__get__") [.builtin "object.__class__", .ref x, .ref D]) >>= ret) _ _ _
  refine wpAny_bind (wpAny_holding (wpAny_call (class_get (s := ⟨hp, g, d, t + 1, os⟩) (ox := ox) (od := some od) X I hm ?_)))
  refine wpAny_pure ?_
  show wpAny _ _ (handedOut (.ref D)) _ _ _
  rw [handedOut_of (v := .ref D) rfl]
  first
    | exact wpAny_pure (wpAny_pure h)
    | exact wpAny_pure h
    | exact wpAny_pure (wpAny_bind (wpAny_pure (wpAny_pure h)))
theorem pu_kitx (hga : findIn K (.ref D) "__getattribute__" = some (some (.builtin "BaseException.__getattribute__"))) (hgt : findIn K (.ref D) "__getattr__" = some none) (hsub : subIn K (.ref D) (.type "BaseException") = some true) (hdct : hasDictIn K D = true) (ha : findIn K (.ref D) "__class__" = some (some (.builtin "object.__class__")))
    (hn : specialIn K (.builtin "object.__class__") "__get__" = some (some (.builtin "getset_descriptor.__get__"))) (htk : takesIn K (.builtin "object.__class__") = some true) (hm : mroIn K D (.type "object") = some true) :
    KitX K (.ref x) (.ref D) (fun h => ∃ od, InstAt h x ox D (some od)) where
  ty := fun _ _ _ ⟨_, I⟩ => I.type
  it := fun _ _ X _ => by
    obtain ⟨cdD, hcD, _⟩ := any_some hdct
    unfold clsIn at hcD
    split at hcD
    · rename_i c' d' cd' sl' ho
      intro A' Q' E' s' k q
      unfold isType loadHead
      exact wpAny_bind (wpAny_loadPart (k _ _ (X _ _ ho)) (wpAny_pure q))
    · cases hcD
  ne := fun h tp dd its n sl X htp => by
    obtain ⟨cdD, hcD, _⟩ := any_some hdct
    refine Bool.eq_false_iff.mpr fun q => ?_
    have e : D = tp := Value.ref.inj (beq_iff_eq.mp q)
    subst e
    unfold clsIn at hcD
    split at hcD
    · rename_i c' d' cd' sl' ho
      have z := (X _ _ ho).symm.trans htp
      cases z
    · cases hcD
  ca := fun X ⟨_, I⟩ k => pu_classE hga hgt hsub hdct ha hn htk hm X I k
theorem pu_kit {C : Addr} {cv : Value} {b : Bool} (h : kitCls K (.ref C) cv = some b) (hb : cv = .ref C → b = true) : kitOne K (.ref C) cv = some b := by
  unfold kitOne
  split
  · rename_i e
    rw [hb (beq_iff_eq.mp e).symm]
  · exact h
theorem kit_own {A D : Addr} {b : Bool} (ic : isClsIn K D = true) (ty : typeIn K (.ref D) = some (.type "type")) (su : subIn K (.ref A) (.ref D) = some b) (self : mroIn K A (.ref A) = some true) : kitOne K (.ref A) (.ref D) = some b := by
  refine pu_kit ?_ fun e => ?_
  · show (if ((clsIn K D).isSome && typeIn K (.ref D) == some (.type "type")) = true then subIn K (.ref A) (.ref D) else none) = some b
    rw [if_pos (by rw [show (clsIn K D).isSome = true from ic, ty]; simp), su]
  · cases e
    have su' : mroIn K A (.ref A) = some b := su
    rw [self] at su'
    exact (Option.some.inj su').symm
theorem kit_bi {A : Addr} {T : String} {b : Bool} (km : kitMeta T = true) (su : subIn K (.ref A) (.type T) = some b) : kitOne K (.ref A) (.type T) = some b := by
  refine pu_kit ?_ fun e => ?_
  · show (if kitMeta T = true then subIn K (.ref A) (.type T) else none) = some b
    rw [if_pos km, su]
  · cases e
end
end PySem.W
namespace Pu
open PySem PySem.Spec L2
/-! ### try .. except C as e -/
def hitS (hits : List (Addr × Bool)) (C : Addr) (f : Bool → Prop) : Prop := ∃ b, (C, b) ∈ hits ∧ f b
def sufPD (i : Nat) (PD : PEnds) : PEnds := { nx := fun ρ2 => PD.nx (ρ2.set i none), rt := PD.rt, bk := fun ρ2 => PD.bk (ρ2.set i none), ct := fun ρ2 => PD.ct (ρ2.set i none), rn := PD.rn, xr := fun _ _ _ _ => False }
def tryPD (i : Nat) (hits : List (Addr × Bool)) (q : Addr → Addr → Addr → PTS) (PD : PEnds) : PEnds :=
  { nx := PD.nx, rt := PD.rt, bk := PD.bk, ct := PD.ct, rn := PD.rn, xr := fun C ns ds ρ' => hitS hits C fun b => (b = true → ∀ a e, q a C e (sufPD i PD) (ρ'.set i (some (.sh (.exo a C e ns ds))))) ∧ (b = false → PD.xr C ns ds ρ') }
def qTryAs (i : Nat) (hits : List (Addr × Bool)) (p : PTS) (q : Addr → Addr → Addr → PTS) : PTS := fun PD ρ => p (tryPD i hits q PD) ρ
def isExo (P : Addr → Addr → Addr → List Str → List D → Prop) : D → Prop
  | .exo a C e ns ds => P a C e ns ds
  | _ => False
theorem isExo_inv {P : Addr → Addr → Addr → List Str → List D → Prop} {d : D} (h : isExo P d) : ∃ a C e ns ds, d = .exo a C e ns ds ∧ P a C e ns ds := by
  cases d <;> first | exact h.elim | exact ⟨_, _, _, _, _, rfl, h⟩
section
variable {X : Cx} {x n : Str} {c : Value} {i : Nat} {body suite : List Stmt} {b₀ : Stmt} {np pos pos' p2 : Pos} {p : PTS} {q : Addr → Addr → Addr → PTS} {hits : List (Addr × Bool)}
theorem s_tryAs (hs : X.stack = X.env :: X.outer) (hf : X.env.frame = some X.env.locals) (hN : X.N.Nodup) (hc : Names X x c)
    (hb : ∀ (pn : List (Addr × Obj)) (xe : Value → Shared → Prop), PassesOwn (model X.prog X.w) X.A X.env xe → pss (X.tr pn xe) body p)
    (hsu : ∀ (a : Addr) (oe : Obj) (C e : Addr) (pn : List (Addr × Obj)), Zc (.ref C) (some e) oe → (∃ vs, oe.data = .fields vs) → pss (X.suite a ((a, oe) :: pn)) (b₀ :: suite) (q a C e))
    (hh : ∀ C b, (C, b) ∈ hits → PySem.W.exmOne X.K (.ref C) c = some b) (hi : X.N[i]? = some n := by rfl) (hln : X.env.kindOf n = some .local := by rfl) :
    ps X (.Try body [.ExceptHandler (some (.Name x np)) (some n) (b₀ :: suite) pos'] [] [] pos) (qTryAs i hits p q) := by
  refine PS_weak (ps_try_as (tb := fun W => LS W X.K p) (ts := fun a cls d E σ H => ∃ C e, cls = .ref C ∧ d = some e ∧ LS (fun _ _ _ _ => False) X.K (q a C e) E σ H) (Wout := xW X) hs hf hN hi hln hc takes_xW (fun W pn xe tk hp => ?_) fun a oe cls d pn hz hfl => ?_) ?_
  · exact PSs_weak (hb pn xe hp) fun E σ H ⟨B, F, ρ, PD, s, z, e⟩ => ⟨B, F, ρ, PD, s, z, ⟨e.nx, e.rt, e.bk, e.ct, e.rn, fun F' ρ' σ' H' C ns ds dd vs s' l' h1 h2 h3 h4 => xW_of tk (e.ex F' ρ' σ' H' C ns ds dd vs s' l' h1 h2 h3 h4)⟩⟩
  · refine ⟨fun pins s σ H E I ⟨C, e, ec, ed, h⟩ => ?_⟩
    subst ec; subst ed
    refine (hsu a oe C e pn hz hfl).run pins s σ H E I ?_
    obtain ⟨B, F, ρ, PD, s, z, e⟩ := h
    exact ⟨B, F, ρ, PD, s, z, ⟨e.nx, e.rt, e.bk, e.ct, e.rn, fun F' ρ' σ' H' C ns ds dd vs s' l' h1 h2 h3 h4 => (e.ex F' ρ' σ' H' C ns ds dd vs s' l' h1 h2 h3 h4).elim⟩⟩
  · rintro E σ H ⟨B, F, ρ, PD, s, z, e⟩
    refine ⟨B, F, ρ, _, s, z, ⟨e.nx, e.rt, e.bk, e.ct, e.rn, fun F' ρ' σ' H' C ns ds dd vs s' l' h1 h2 h3 h4 => ?_⟩⟩
    obtain ⟨b, hm, h5, h6⟩ := h1
    refine ⟨b, hh C b hm, fun hb a ha => ⟨C, dd, rfl, rfl, B, F', _, _, ⟨s'.ext, s'.st.set_sh (d := .exo a C dd ns ds) i ?_⟩, h5 hb a dd, ?_⟩, fun hb => e.ex F' ρ' σ' H' C ns ds dd vs s' l' (h6 hb) h2 h3 h4⟩
    · simp only [Rep]; exact ⟨vs, trivial, h2, h3, h4⟩
    · have e' := e.up l'
      refine ⟨fun F4 ρ4 σ4 H4 s4 l4 q4 => e'.nx F4 _ _ H4 ⟨s4.ext, s4.st.drop i none⟩ l4 q4, e'.rt, fun F4 ρ4 σ4 H4 s4 l4 q4 => e'.bk F4 _ _ H4 ⟨s4.ext, s4.st.drop i none⟩ l4 q4, fun F4 ρ4 σ4 H4 s4 l4 q4 => e'.ct F4 _ _ H4 ⟨s4.ext, s4.st.drop i none⟩ l4 q4, e'.rn, fun F4 ρ4 σ4 H4 C4 ns4 ds4 dd4 vs4 s4 l4 q4 => q4.elim⟩
/-! ### in the suite: e.f, isinstance(e, D) -/
variable {a C C0 ex : Addr} {oe : Obj} {pn : List (Addr × Obj)} {e : Expr} {po : PTE} {f : Str}
def pXf (a C0 ex C : Addr) (f : Str) (p : PTE) : PTE := fun ρ P => p ρ (isExo fun a' C' e' ns ds => (a' = a ∧ C' = C0 ∧ e' = ex ∧ C0 = C) ∧ isSome P (lookN f ns ds))
theorem e_xf (T : XfC X.K C) (hno : PySem.W.findIn X.K (.ref C) f = some none) (hz : Zc (.ref C0) (some ex) oe) (hf : ∃ vs, oe.data = .fields vs) (he : pe (X.suite a ((a, oe) :: pn)) e po) (hb : attributeBase e f X.env (eval e X.env) = eval e X.env := by rfl) :
    pe (X.suite a ((a, oe) :: pn)) (.Attribute e f pos) (pXf a C0 ex C f po) :=
  PE_weak (pe_xf T hno hz hf he hb) fun σ H Q ⟨N, F, ρ, P, s, q, k⟩ => ⟨N, F, ρ, _, s, q, fun d v F1 H1 p1 x1 r1 => by
    obtain ⟨a', C', e', ns, ds, rfl, ⟨rfl, rfl, rfl, rfl⟩, h⟩ := isExo_inv p1
    obtain ⟨y, h1, h2⟩ := isSome_inv h
    simp only [Rep] at r1
    obtain ⟨vs, rfl, hz', hl, rr⟩ := r1
    obtain ⟨u, h6, h7⟩ := lookN_ok rr h1
    exact ⟨rfl, rfl, e', _, u, rfl, x1.fits.fz _ _ hz', h6, k _ _ _ _ h2 x1 h7⟩⟩
def pIsX (a C0 ex : Addr) (hits : List (Addr × Bool)) (p : PTE) : PTE := fun ρ P => p ρ (isExo fun a' C' e' ns ds => (a' = a ∧ C' = C0 ∧ e' = ex) ∧ hitS hits C0 fun b => P (.bl b))
theorem call_isX {cv : Value} {c : V} (hz : Zc (.ref C0) (some ex) oe) (hf : ∃ vs, oe.data = .fields vs) (hcv : ∀ u, RelV c u → u = cv) :
    CallR (X.suite a ((a, oe) :: pn)) (.builtin "isinstance") (fun xs H Q => xs = [.ref a, c] ∧ ∃ b, ExcC X.K C0 ∧ PySem.W.kitOne X.K (.ref C0) cv = some b ∧ (∃ fs, H ex = some (.xd fs)) ∧ Q (.bl b) H) := by
  intro pins s σ H xs us Q I r h
  obtain ⟨rfl, b, Z, hk, ⟨fs, hx⟩, q⟩ := h
  cases r with
  | cons rx rr =>
    cases rr with
    | cons rt rr =>
      cases rr
      cases rx
      have ec := hcv _ rt
      subst ec
      obtain ⟨hget, _⟩ := I.pin (a, oe) (List.mem_append.mpr (.inl List.mem_cons_self))
      obtain ⟨vs, hv⟩ := hf
      obtain ⟨mA, hns, _⟩ := (show ObjOk X.prog X.w H s.heap ex (.xd fs) from I.hok ex _ hx)
      obtain ⟨od, ho, hl⟩ := lookIn_ns hns
      have J : ∃ od, PySem.W.InstAt s.heap a oe C0 (some od) := ⟨od, hget, hz.1, by unfold PySem.W.notCls; rw [hv] <;> rfl, by rw [hz.2]; exact ho⟩
      exact PySem.W.kia_one (PySem.W.pu_kitx Z.hg Z.hk Z.hs Z.hd Z.ha Z.hn Z.ht Z.hm) I.kIn J hk (fun z => nomatch z) fun tk => ⟨.bl b, H, I.kept (t' := tk) fun _ _ z => z, rfl, q⟩
theorem isX_ok {cv : Value} {c : V} (hk : ∀ C b, (C, b) ∈ hits → ExcC X.K C ∧ PySem.W.kitOne X.K (.ref C) cv = some b) : ∀ σ H Q, L X.K (pIsX a C0 ex hits po) σ H Q → tCB (fun xs H Q => xs = [.ref a, c] ∧ ∃ b, ExcC X.K C0 ∧ PySem.W.kitOne X.K (.ref C0) cv = some b ∧ (∃ fs, H ex = some (.xd fs)) ∧ Q (.bl b) H) (tCons (L X.K po) (tCons (tC c) tNil)) σ H Q := fun σ H Q ⟨N, F, ρ, P, s, q, k⟩ =>
  ⟨N, F, ρ, _, s, q, fun d v F1 H1 p1 x1 r1 => by
    obtain ⟨a', C', e', ns, ds, rfl, ⟨rfl, rfl, rfl⟩, b, hm, h⟩ := isExo_inv p1
    simp only [Rep] at r1
    obtain ⟨vs, rfl, hz', hl, rr⟩ := r1
    exact ⟨rfl, b, (hk _ b hm).1, (hk _ b hm).2, ⟨_, x1.fits.fz _ _ hz'⟩, k _ _ _ _ h x1 rep_bl⟩⟩
variable {D : Addr}
theorem e_isX (hz : Zc (.ref C0) (some ex) oe) (hf : ∃ vs, oe.data = .fields vs) (hk : ∀ C b, (C, b) ∈ hits → ExcC X.K C ∧ PySem.W.kitOne X.K (.ref C) (.ref D) = some b) (hm2 : X.mg x = some (.ref D)) (he : pe (X.suite a ((a, oe) :: pn)) e po) (hm : X.mg "isinstance" = none) {p' : Pos} (hg : Gl X "isinstance" := by rfl) (hg2 : Gl X x := by rfl) (hd2 : (x == ("__debug__" : Str)) = false := by decide)
    (hs2 : starEach [.Name x p2] X.env = [(false, eval (.Name x p2) X.env)] := by rfl) (hst : starEach [e, .Name x p2] X.env = (false, eval e X.env) :: starEach [.Name x p2] X.env := by rfl) (hpl : (backTo pos (starEach [.Name x p2] X.env)).any (·.1) = false := by rfl) : pe (X.suite a ((a, oe) :: pn)) (.Call (.Name "isinstance" p') [e, .Name x p2] [] pos) (pIsX a C0 ex hits po) :=
  PE_weak (pe_callB (call_isX (cv := .ref D) (c := .ref D) hz hf fun u h => h) hg hm PyProof.Rows.boot_isinstance (pa_cons he (pa_cons (pe_glob (v := .ref D) (u := .ref D) hg2 hm2 rfl hd2) pa_nil hs2) hst) (by decide) (by decide) hst hpl) fun σ H Q h => isX_ok hk σ H Q h
theorem e_isXB {T : String} (hz : Zc (.ref C0) (some ex) oe) (hf : ∃ vs, oe.data = .fields vs) (hk : ∀ C b, (C, b) ∈ hits → ExcC X.K C ∧ PySem.W.kitOne X.K (.ref C) (.type T) = some b) (hm2 : X.mg x = none) (hv2 : bootBuiltins x = some (.type T)) (he : pe (X.suite a ((a, oe) :: pn)) e po) (hm : X.mg "isinstance" = none) {p' : Pos} (hg : Gl X "isinstance" := by rfl) (hg2 : Gl X x := by rfl) (hn2 : x ≠ "__name__" := by decide) (hd2 : (x == ("__debug__" : Str)) = false := by decide)
    (hs2 : starEach [.Name x p2] X.env = [(false, eval (.Name x p2) X.env)] := by rfl) (hst : starEach [e, .Name x p2] X.env = (false, eval e X.env) :: starEach [.Name x p2] X.env := by rfl) (hpl : (backTo pos (starEach [.Name x p2] X.env)).any (·.1) = false := by rfl) : pe (X.suite a ((a, oe) :: pn)) (.Call (.Name "isinstance" p') [e, .Name x p2] [] pos) (pIsX a C0 ex hits po) :=
  PE_weak (pe_callB (call_isX (cv := .type T) (c := .ty T) hz hf fun u h => h) hg hm PyProof.Rows.boot_isinstance (pa_cons he (pa_cons (pe_bltn (v := .ty T) hg2 hm2 hv2 rfl hn2 hd2) pa_nil hs2) hst) (by decide) (by decide) hst hpl) fun σ H Q h => isX_ok hk σ H Q h
end
end Pu
namespace Pu
open PySem PySem.Spec L2
theorem boot_ValueError : bootBuiltins "ValueError" = some (.type "ValueError") := by decide +kernel
theorem boot_Exception : bootBuiltins "Exception" = some (.type "Exception") := by decide +kernel
/-! ### defs that hand back None or a new object -/
def onNon (p : Prop) : D → Prop
  | .non => p
  | _ => False
def nonOr (p : Prop) (g : DK) : DK
  | .non => p
  | d => g d
theorem onNon_inv {p : Prop} {d : D} (h : onNon p d) : d = .non ∧ p := by
  cases d <;> first | exact h.elim | exact ⟨rfl, h⟩
theorem nonOr_ow {K : Fg} {F : FS} {H : Hp} {a : Addr} {p : Prop} {g : DK} {d : D} (h : nonOr p g d) (o : OwnAt K F H a d) : g d := by
  cases d with
  | non => exact o.elim
  | _ => exact h
def spNn (K : Fg) (c : Pr) : Sp := fun vs H Q _ => ∃ F ds P, Fits F H ∧ Reps K F ds vs ∧ c ds P ∧ (∀ F' H', P .non → Ext No F H F' H' → Q .non H') ∧ KontN K F H P Q
def endNn (P : DK) : PEnds := { nx := fun _ => P .non, rt := fun d _ => onNon (P .non) d, bk := fun _ => False, ct := fun _ => False, rn := fun d _ => P d, xr := fun _ _ _ _ => False }
theorem fn_okNn {P : Program} {w : World} {K : Fg} {mg : Str → Option Value} {base : Heap} {x qual : Str} {st : Stmt} {f : Addr} {fd : FuncData} {N ps : List Str} {k : Nat} {c : Pr} (G : Fun K x qual st f fd) (S : FnScope N ps (defScope st)) (hlen : ∀ ds P, c ds P → ds.length = ps.length)
    (hbody : ∀ (cdv : Value) (A : Around) (outer : List PySem.Env) (s : Shared) (H : Hp) (E : XK), Room k (A.deeper (PyProof.Rows.envOfC qual (defScope st) s.heap.objs.size f cdv)) →
      ∃ p, pss (cxOf CX0 P w K mg base N qual (defScope st) f cdv A outer s H E).nox (defBody st) p ∧ ∀ ds R, c ds R → p (endNn R) (startE N ds)) : FnOk P w K mg base CX0 (k + 1) f fd ps (spNn K c) := by
  refine G.ok S (fun vs H Q E ⟨F, ds, R, _, r, h, _⟩ => by rw [r.length]; exact hlen ds R h) (fun cdv A outer s H vs Q E hr ⟨F, ds, R, ft, r, h, k0, k⟩ => ?_)
  obtain ⟨p, hp, hq⟩ := hbody cdv A outer s H E hr
  have s0 : FSt K ⟨No, F, H⟩ F (startE N ds) (L2.start N vs) H := ⟨Ext.refl ft, start_st ft r⟩
  refine ⟨_, hp, ⟨No, F, H⟩, F, startE N ds, endNn R, s0, hq ds R h, ⟨fun F' ρ σ H' s' _ q => k0 F' H' q s'.ext, fun F' ρ σ H' d v s' _ q r' => ?_, fun F' ρ σ H' s' _ q => q.elim, fun F' ρ σ H' s' _ q => q.elim, fun F' ρ σ H' d a s' _ q hn hz hi ow => k d a F' H' q s'.ext hn hz hi ow, fun F' ρ σ H' C ns ds dd vs s' _ q => q.elim⟩⟩
  obtain ⟨rfl, q⟩ := onNon_inv q
  simp only [Rep] at r'
  subst r'
  exact k0 F' H' q s'.ext
section
variable {X : Cx} {K : Fg} {k : Nat} {f : Addr} {fd : FuncData} {pl : List Str} {c : Pr} {x : Str} {p p' pos pos2 : Pos} {e : Expr} {es : List Expr} {t : PTA} {i : Nat}
def qSetNn (i : Nat) (c : Pr) (t : PTA) : PTS := fun PD ρ => t ρ fun ds => c ds (nonOr (PD.nx (ρ.set i (some (.sh .non)))) fun d => PD.nx (ρ.set i (some (.ow true d))))
def qRetNn (c : Pr) (t : PTA) : PTS := fun PD ρ => t ρ fun ds => c ds (nonOr (PD.rt .non ρ) fun d => PD.rn d ρ)
theorem e_callNn (G : FnOk X.prog X.w X.K X.mg X.base CX0 k f fd pl (spNn X.K c)) (hr : Room k X.A) (hm : X.mg x = some (.ref f)) (hk : PySem.W.keepIn X.K (.ref f) = true) (hb : Binds X.K fd pl []) (ha : pa X (e :: es) t) (hg : Gl X x := by rfl)
    (hdb : (x == ("__debug__" : Str)) = false := by decide) (he : starEach (e :: es) X.env = (false, eval e X.env) :: starEach es X.env := by rfl) (hpl : (backTo pos (starEach es X.env)).any (·.1) = false := by rfl) : pe X (.Call (.Name x p) (e :: es) [] pos) (pCallD c [] t) :=
  PE_weak (pe_call G hr hg hm hk hb Paired.nil pass0 ha hdb he hpl) fun σ H Q ⟨N, F, ρ, P, s, q, kk⟩ => ⟨N, F, ρ, _, s, q, fun ds vs F1 H1 p1 x1 r1 => by
    rw [List.append_nil] at p1 ⊢
    refine ⟨F1, ds, P, x1.fits, r1, p1, fun F' H' q' y => kk _ _ F' H' q' (x1.then0 y) rep_non, fun d a F' H' q' y hn hz hi ow => ?_⟩
    obtain ⟨o, eo⟩ := some_of_ne ow.there
    exact kk d (.ref a) (F'.add a o) H' q' (x1.then0 (y.frz hn hz eo)) (ow.rep eo FS.add_same (Le.add hz hi))⟩
theorem s_setNn (hN : X.N.Nodup) (G : FnOk X.prog X.w X.K X.mg X.base CX0 k f fd pl (spNn X.K c)) (hr : Room k X.A) (hm : X.mg x = some (.ref f)) (hk : PySem.W.keepIn X.K (.ref f) = true) (hb : Binds X.K fd pl []) (ha : pa X (e :: es) t) {y : Str} (hi : X.N[i]? = some y := by rfl)
    (hy : Loc X.env.scope y := by first | exact Or.inl rfl | exact Or.inr rfl) (hg : Gl X x := by rfl) (hdb : (x == ("__debug__" : Str)) = false := by decide) (he : starEach (e :: es) X.env = (false, eval e X.env) :: starEach es X.env := by rfl) (hpl : (backTo pos (starEach es X.env)).any (·.1) = false := by rfl)
    (hs2 : swapsWith (.Call (.Name x p) (e :: es) [] pos) (some (.Name y p')) pos2.line X.env = pure false := by rfl) (hf : X.fn y = true ∨ X.env.scope.names.lookup y = some .local := by first | exact .inl rfl | exact .inr rfl | assumption) :
    ps X (.Assign [.Name y p'] (.Call (.Name x p) (e :: es) [] pos) pos2) (qSetNn i c t) :=
  PS_weak (ps_set hN hi hy (pe_call G hr hg hm hk hb Paired.nil pass0 ha hdb he hpl) hs2 hf) fun E σ H ⟨B, F, ρ, PD, s, q, e⟩ => ⟨B.N, F, ρ, _, s.st, q, fun ds vs F1 H1 p1 x1 r1 => by
    show spNn X.K c (vs ++ []) H1 _ E0
    rw [List.append_nil]
    have s1 := s.go x1
    have l1 := x1.le s.ext.fits
    refine ⟨F1, ds, _, x1.fits, r1, p1, fun F2 H2 q' y => ?_, fun d a F2 H2 q' y hn hz hi ow => ?_⟩
    · have s2 := s1.go y
      exact e.nx F2 _ _ H2 ⟨s2.ext, s2.st.set_sh i rep_non⟩ (l1.trans (y.le x1.fits)) q'
    · exact e.nx F2 _ _ H2 ⟨(s1.go y).ext, s1.st.adopt y (c := true) i (s.ext.dom _ (x1.dom _ hn)) hn hz hi ow⟩ (l1.trans (y.le x1.fits)) (nonOr_ow q' ow)⟩
theorem s_retNn (G : FnOk X.prog X.w X.K X.mg X.base CX0 k f fd pl (spNn X.K c)) (hr : Room k X.A) (hm : X.mg x = some (.ref f)) (hk : PySem.W.keepIn X.K (.ref f) = true) (hb : Binds X.K fd pl []) (ha : pa X (e :: es) t)
    (hg : Gl X x := by rfl) (hdb : (x == ("__debug__" : Str)) = false := by decide) (he : starEach (e :: es) X.env = (false, eval e X.env) :: starEach es X.env := by rfl) (hpl : (backTo pos (starEach es X.env)).any (·.1) = false := by rfl) :
    ps X (.Return (some (.Call (.Name x p) (e :: es) [] pos)) pos2) (qRetNn c t) :=
  PS_weak (ps_ret (pe_call G hr hg hm hk hb Paired.nil pass0 ha hdb he hpl)) fun E σ H ⟨B, F, ρ, PD, s, q, e⟩ => ⟨B.N, F, ρ, _, s.st, q, fun ds vs F1 H1 p1 x1 r1 => by
    show spNn X.K c (vs ++ []) H1 _ E0
    rw [List.append_nil]
    have s1 := s.go x1
    have l1 := x1.le s.ext.fits
    refine ⟨F1, ds, _, x1.fits, r1, p1, fun F2 H2 q' y => ?_, fun d a F2 H2 q' y hn hz hi ow => ?_⟩
    · exact e.rt F2 _ _ H2 .non .non (s1.go y) (l1.trans (y.le x1.fits)) q' rep_non
    · exact e.rn F2 _ _ H2 d a (s1.go y) (l1.trans (y.le x1.fits)) (nonOr_ow q' ow) (s.ext.dom _ (x1.dom _ hn)) hz hi ow⟩
theorem nonOr_non {p : Prop} {g : DK} : nonOr p g .non = p := id rfl
theorem nonOr_lst {p : Prop} {g : DK} {ds : List D} : nonOr p g (.lst ds) = g (.lst ds) := id rfl
theorem onNon_non {p : Prop} : onNon p .non = p := id rfl
theorem excOr_exc {f : Addr → List Str → List D → Prop} {g : DK} {C : Addr} {ns : List Str} {ds : List D} : excOr f g (.exc C ns ds) = f C ns ds := id rfl
theorem excOr_bl {f : Addr → List Str → List D → Prop} {g : DK} {b : Bool} : excOr f g (.bl b) = g (.bl b) := id rfl
theorem excOr_int {f : Addr → List Str → List D → Prop} {g : DK} {b : Int} : excOr f g (.int b) = g (.int b) := id rfl
theorem excOr_str {f : Addr → List Str → List D → Prop} {g : DK} {b : Str} : excOr f g (.str b) = g (.str b) := id rfl
theorem excOr_non {f : Addr → List Str → List D → Prop} {g : DK} : excOr f g .non = g .non := id rfl
theorem excOr_lst {f : Addr → List Str → List D → Prop} {g : DK} {b : List D} : excOr f g (.lst b) = g (.lst b) := id rfl
theorem excOr_tup {f : Addr → List Str → List D → Prop} {g : DK} {b : List D} : excOr f g (.tup b) = g (.tup b) := id rfl
theorem isExo_exo {P : Addr → Addr → Addr → List Str → List D → Prop} {a C e : Addr} {ns : List Str} {ds : List D} : isExo P (.exo a C e ns ds) = P a C e ns ds := id rfl
end
end Pu
namespace Pu
open PySem PySem.Spec L2
section
variable {X : Cx} {pos apos cpos : Pos} {K : Fg} {F F' : FS} {H H' : Hp} {s z : Str} {ds es : List D} {d e : D} {P : DK} {ρ : Env} {σ : L2.St} {a : Addr} {vs : List V}
/-! ### rfind -/
theorem m_rfind : mtS X "str.rfind" (s1W fun a b => .int (Txt.rfind a b)) := ⟨_, mt_rfind, fun d x ds xs F H P Q f r rs h k => by
  obtain ⟨a, b, h1, h2, h3⟩ := s1W_inv h r rs
  exact ⟨a, b, h1, h2, k.int f h3⟩⟩
def s3W (g : Str → Str → Int → Int → D) : D → List D → DK → Prop
  | .str a, [.str b, .int i, .int j], P => P (g a b i j)
  | _, _, _ => False
theorem s3W_inv {g : Str → Str → Int → Int → D} {x : V} {xs : List V} (h : s3W g d ds P) (r : RepT K F H d x) (rs : RepTs K F H ds xs) : ∃ a b i j, x = .str a ∧ xs = [.str b, .int i, .int j] ∧ P (g a b i j) := by
  unfold s3W at h
  split at h
  · rename_i a b i j
    obtain ⟨v, q, rfl, h1, h2⟩ := rs
    obtain ⟨v2, q2, rfl, h3, h4⟩ := h2
    obtain ⟨v3, rfl, h5⟩ := repTs1 h4
    exact ⟨a, b, i, j, r.str, by rw [h1.str, h3.int, h5.int], h⟩
  · exact h.elim
theorem m_rfind3 : mtS X "str.rfind" (s3W fun a b i j => .int (Txt.rfindIn a b i j)) := ⟨_, mt_rfind4, fun d x ds xs F H P Q f r rs h k => by
  obtain ⟨a, b, i, j, h1, h2, h3⟩ := s3W_inv h r rs
  exact ⟨a, b, i, j, h1, h2, k.int f h3⟩⟩
theorem s3W_str {g : Str → Str → Int → Int → D} {b : Str} {i j : Int} : s3W g (.str z) [.str b, .int i, .int j] P = P (g z b i j) := id rfl
/-! ### a dict of the module: k in T, T[k] -/
def pInK (neg : Bool) (ks : List Str) (p : PTE) : PTE := fun ρ P => p ρ (isStr fun z => P (.bl (neg != decide (z ∈ ks))))
def pAtK (ks : List Str) (ds : List D) (p : PTE) : PTE := fun ρ P => p ρ (isStr fun z => isSome P (lookN z ks ds))
def tInK (neg : Bool) (ks : List Str) (te : TE) : TE := fun σ H Q => te σ H fun x H1 => ∃ z, x = .str z ∧ Q (.bl (neg != decide (z ∈ ks))) H1
def tAtK (K : Fg) (ks : List Str) (ds : List D) (te : TE) : TE := fun σ H Q => te σ H fun x H1 => ∃ z d, x = .str z ∧ lookN z ks ds = some d ∧ ∀ r, (∀ F, Rep K F d r) → Q r H1
theorem lookN_mem {z : Str} : ∀ {ks : List Str} {ds : List D}, ks.length = ds.length → (lookN z ks ds).isSome = decide (z ∈ ks)
  | [], [], _ => rfl
  | k :: ks, d :: ds, h => by
    rw [lookN_cons]
    by_cases q : z = k
    · rw [if_pos q]; simp [q]
    · rw [if_neg q, lookN_mem (by simpa using h)]; simp [q]
theorem entsIn_len : ∀ {ks : List Str} {ds : List D} {es : List DictEntry}, entsIn K ks ds es = true → ks.length = ds.length
  | [], [], [], _ => rfl
  | k :: ks, d :: ds, e :: es, h => by
    simp only [entsIn, Bool.and_eq_true] at h
    simp [entsIn_len h.2]
theorem KTab.len {w : World} {ks : List Str} (T : KTab K w a ks ds) : ks.length = ds.length := by
  obtain ⟨_, _, _, _, _, h⟩ := T.ex
  exact entsIn_len h
theorem kt_in {pins : List (Addr × Obj)} {s0 : Shared} {A : Around} {E : Value → Shared → Prop} {ks : List Str} {Q : Value → Shared → Prop} (kt : KTab X.K X.w a ks ds) (I : Inv X pins σ H s0) {t : Tok} (h : ∀ s', Inv X pins σ H s' → Q (.bool (decide (z ∈ ks))) s') :
    wpAny (model X.prog X.w) A (compareOp .In (.str z t) (.ref a)) Q E s0 := by
  obtain ⟨fn, hm, hsys, hl⟩ := kt.find I.kIn (prog := X.prog) z
  refine wpAny_in_of (strKind_is X.prog X.w z t) hsys hm ?_
  have e : (fn z).isSome = decide (z ∈ ks) := by
    rw [← lookN_mem kt.len]
    cases e1 : lookN z ks ds with
    | none => rw [e1] at hl; rw [(show fn z = none from hl)]; rfl
    | some d => rw [e1] at hl; obtain ⟨u, hu, _⟩ := (show ∃ u, fn z = some u ∧ repIn X.K d u = true from hl); rw [hu]; rfl
  rw [e]
  exact h _ (I.tok _)
theorem pc_kin {o i : Expr} {ks : List Str} {te : TE} (ho : PE X o (tC (.ref a))) (kt : KTab X.K X.w a ks ds) (hi : PE X i te) : PC X .In i o (tInK false ks te) := by
  refine ⟨fun pins s σ H Q I h => ?_⟩
  refine thn (hi.run pins s σ H _ I h) fun iv s1 ⟨y, H1, I1, ry, z, ey, q1⟩ => thn (ho.run pins s1 σ H1 (fun x H2 => x = .ref a ∧ H2 = H1) I1 ⟨rfl, rfl⟩) fun u s2 ⟨x, H2, I2, rx, ex, eH⟩ => ?_
  subst ex
  subst eH
  subst ey
  obtain rfl : u = Value.ref a := rx
  obtain ⟨t, rfl⟩ := (show ∃ t, iv = Value.str z t from ry)
  exact kt_in kt I2 fun s3 I3 => ⟨.bl _, _, I3, rfl, by simpa using q1⟩
theorem pe_katK {o i : Expr} {ks : List Str} {te : TE} (ho : PE X o (tC (.ref a))) (kt : KTab X.K X.w a ks ds) (hi : PE X i te) (hs : NoSl i) : PE X (.Subscript o i pos) (tAtK X.K ks ds te) := by
  refine ⟨fun pins s σ H Q I h => ?_⟩
  refine subD_of PySem.F.slot_dict_getitem.lookup hs (thn (ho.run pins s σ H (fun x H2 => x = .ref a ∧ H2 = H) I ⟨rfl, rfl⟩) fun u s1 ⟨x, H1, I1, rx, ex, eH⟩ => ?_)
  subst ex
  subst eH
  refine thn (hi.run pins s1 σ H1 _ I1 h) fun iv s2 ⟨y, H2, I2, ry, z, d, ey, el, q2⟩ => ?_
  subst ey
  obtain rfl : u = Value.ref a := rx
  obtain ⟨t, rfl⟩ := (show ∃ t, iv = Value.str z t from ry)
  obtain ⟨fn, hm, hsys, hl⟩ := kt.find I2.kIn (prog := X.prog) z
  rw [el] at hl
  obtain ⟨w, hw, hr⟩ := (show ∃ u, fn z = some u ∧ repIn X.K d u = true from hl)
  obtain ⟨v, h1, h2⟩ := repIn_ok hr
  exact ⟨hm.typeIs, wpAny_getItem_of (strKind_is X.prog X.w z t) hm hw ⟨v, H2, I2.tok _, h1, q2 v h2⟩⟩
theorem e_inK {o i : Expr} {ks : List Str} {p : PTE} (ho : PE X o (tC (.ref a))) (kt : KTab X.K X.w a ks ds) (hi : pr X i p) (hm : behindInMarks .In o = false := by first | exact nomark _ | rfl | with_unfolding_all rfl) : pe X (.Compare i [.In] [o] pos) (pInK false ks p) :=
  PE_weak (pe_cmp (pc_kin ho kt hi) hm) fun σ H Q ⟨N, F, ρ, P, s, h, k⟩ => ⟨N, F, ρ, _, s, h, fun d v F1 H1 p1 x1 r1 => by
    obtain ⟨z, rfl, p1⟩ := isStr_inv p1
    exact ⟨z, r1.str, k _ _ _ _ p1 x1 rfl⟩⟩
theorem t_inK {o i : Expr} {ks : List Str} {p : PTE} (ho : PE X o (tC (.ref a))) (kt : KTab X.K X.w a ks ds) (hi : pr X i p) (hm : behindInMarks .In o = false := by first | exact nomark _ | rfl | with_unfolding_all rfl) : pt X (.Compare i [.In] [o] pos) (tst (pInK false ks p)) :=
  PT_weak (pt_cmp (pc_kin ho kt hi) hm) fun σ H Q ⟨N, F, ρ, P, s, h, k⟩ => ⟨N, F, ρ, _, s, h, fun d v F1 H1 p1 x1 r1 => by
    obtain ⟨z, rfl, p1⟩ := isStr_inv p1
    exact ⟨z, r1.str, _, rfl, k _ _ _ p1 x1⟩⟩
theorem e_atK {o i : Expr} {ks : List Str} {p : PTE} (ho : PE X o (tC (.ref a))) (kt : KTab X.K X.w a ks ds) (hi : pr X i p) (hs : NoSl i := by exact fun _ _ => rfl) : pe X (.Subscript o i pos) (pAtK ks ds p) :=
  PE_weak (pe_katK ho kt hi hs) fun σ H Q ⟨N, F, ρ, P, s, h, k⟩ => ⟨N, F, ρ, _, s, h, fun d v F1 H1 p1 x1 r1 => by
    obtain ⟨z, rfl, p1⟩ := isStr_inv p1
    obtain ⟨d2, e2, p2⟩ := isSome_inv p1
    exact ⟨z, d2, r1.str, e2, fun r hr => k _ _ _ _ p2 x1 (hr _)⟩⟩
theorem pInK_eq {b : Bool} {ks : List Str} {p : PTE} : pInK b ks p ρ P = p ρ (isStr fun z => P (.bl (b != decide (z ∈ ks)))) := id rfl
theorem pAtK_eq {ks : List Str} {p : PTE} : pAtK ks ds p ρ P = p ρ (isStr fun z => isSomeD P Tg.mk (lookN z ks ds)) := id rfl
end
end Pu
namespace Pu
open PySem PySem.Spec PyProof.Rows L2 RT
section
variable {prog : Program} {w : World} {A : Around} {E : Value → Shared → Prop} {s : Shared}
/-! ### list(reversed(a list)) -/
theorem lr_extend {it l S : Addr} {items : Array Value} {c₀ : Nat} {R : Result → Shared → Prop} (hh : A.in1.handled = none) (hit : s.heap.IsRevIter it l ((items.size : Int) - 1)) (hl : s.heap.IsList l items) (hne : l ≠ it) (hSi : S ≠ it) (hSl : S ≠ l) (hn : items.size ≤ sizeLine)
    (hS : s.heap.get? S = some { cls := .type "list", data := .seq #[] c₀ })
    (hR : ∀ s' acc' c', Moved (S :: [it]) (fun a b => b = a) s s' → s'.heap.get? S = some { cls := .type "list", dict := none, data := .seq acc' c', slots := #[] } → ItemsOf (fun i v => items[items.size - 1 - i]? = some v) acc' items.size → R (.ok (.ret .none)) s') :
    wpAny (model prog w) A.in1 (Builtin.List.listExtendWith (.ref S) (.ref it) .none)
      (fun fin s' => match fin with | .done f => R (.ok f) s' | .again c' => c'.quiet = true ∧ codeAny (model prog w) A c' R s') (fun e s' => R (.error e) s') s := by
  have W := (Walks.listRev (prog := prog) (w := w) (A := A.in1) hh it l hne items).toS
  have hSf : S ∉ [it, l] := by simp only [List.mem_cons, List.not_mem_nil, or_false, not_or]; exact ⟨hSi, hSl⟩
  have hT : s.TypeIs (.ref it) "list_reverseiterator" := hit.typeIs
  have h1 : Builtin.List.listSameRef (.ref S) (.ref it) = false := by simp [Builtin.List.listSameRef, hSi]
  unfold Builtin.List.listExtendWith
  refine wpAny_bind (wpAny_typeOf hT ?_)
  rw [if_neg (by rw [h1]; decide)]
  refine wpAny_bind (wpAny_pyIter_revIter hit ?_)
  refine wpAny_bind (wpAny_holding ?_)
  unfold Builtin.List.listLengthHint
  refine wpAny_bind (wpAny_specialOf hT nolen_lri ?_)
  show wpAny _ A.in1 (specialOf (Value.ref it) (Str.ofString "__length_hint__") >>= _) _ _ _
  refine wpAny_bind (wpAny_specialOf hT hint_lri ?_)
  generalize hid : ("list_reverseiterator.__length_hint__" : String) = id0
  wp_delta
  rw [show splitId id0 = some ("list_reverseiterator", "__length_hint__") from by subst hid; decide +kernel]
  subst hid
  refine wpAny_bind (wpAny_isInstance (b := true) hT (by rw [isSubtype_type]; kernel_rfl) ?_)
  refine wpAny_pure ?_
  rw [if_neg (by decide)]
  have e0 : ((items.size : Nat) : Int) - 1 - ((0 : Nat) : Int) = (items.size : Int) - 1 := by omega
  refine wpAny_pure ⟨plainId_quiet F.plain_extend_loop _, codeAny_extend_loopS W hn _ hSf _ items.size 0 _ _ _ rfl (Nat.zero_le _) ⟨Nat.zero_le _, by rw [e0]; exact hit, hl⟩ hS (ItemsOf.nil _) fun s' acc' c' hm hS' hacc => ?_⟩
  exact hR s' acc' c' hm hS' hacc
theorem lr_init {it l S : Addr} {items : Array Value} {R : Result → Shared → Prop} (hh : A.in1.handled = none) (hit : s.heap.IsRevIter it l ((items.size : Int) - 1)) (hl : s.heap.IsList l items) (hne : l ≠ it) (hSi : S ≠ it) (hSl : S ≠ l) (hn : items.size ≤ sizeLine)
    (hS : s.heap.get? S = some { cls := .type "list", data := .seq #[] })
    (hR : ∀ s' acc' c', Moved (S :: [it]) (fun a b => b = a) s s' → s'.heap.get? S = some { cls := .type "list", dict := none, data := .seq acc' c', slots := #[] } → ItemsOf (fun i v => items[items.size - 1 - i]? = some v) acc' items.size → R (.ok (.ret .none)) s') :
    wpAny (model prog w) A.in1 (Builtin.«list.__init__» ⟨[.ref S, .ref it], []⟩)
      (fun fin s' => match fin with | .done f => R (.ok f) s' | .again c' => c'.quiet = true ∧ codeAny (model prog w) A c' R s') (fun e s' => R (.error e) s') s := by
  show wpAny _ A.in1 (do let old ← Builtin.List.listItems (.ref S); Builtin.List.listUpdate (.ref S) (fun _ => #[]); letGo old.toList.reverse; Builtin.List.listExtendWith (.ref S) (.ref it) .none) _ _ s
  refine wpAny_bind ?_
  unfold Builtin.List.listItems
  refine wpAny_bind (wpAny_seqItems hS rfl (wpAny_pure ?_))
  show wpAny _ A.in1 (updateSeq S (fun _ => #[]) >>= fun _ => letGo (#[] : Array Value).toList.reverse >>= fun _ => Builtin.List.listExtendWith (.ref S) (.ref it) .none) _ _ s
  refine wpAny_bind (wpAny_updateSeq hS rfl ?_)
  have hS₂ := Heap.get?_update_self (Obj.mapSeq (fun _ => (#[] : Array Value))) hS rfl
  have oth : ∀ b o, b ≠ S → s.heap.get? b = some o → (s.heap.update S (Obj.mapSeq (fun _ => (#[] : Array Value)))).get? b = some o :=
    fun b o hb e => (Heap.get?_update_other _ _ (Ne.symm hb)).trans e
  refine wpAny_bind (wpAny_letGo ?_)
  refine lr_extend hh (hit.at fun o e => oth it o (Ne.symm hSi) e) ?_ hne hSi hSl hn hS₂ fun s' acc' c' hm hS' hacc => ?_
  · obtain ⟨ol, h1, h2⟩ := hl
    exact ⟨ol, oth l ol (Ne.symm hSl) h1, h2⟩
  · exact hR s' acc' c' (Moved.trans (fun _ _ _ h1 h2 => h2.trans h1) ((Moved.refl (wr := [S, it]) (G := fun a b => b = a) fun _ => rfl).then_heap (Nat.le_refl _) fun b o hb e => oth b o (fun h => hb (h ▸ List.mem_cons_self)) e) hm) hS' hacc
theorem call_listRev {it l : Addr} {items : Array Value} {Q : Value → Shared → Prop} (hh : A.handled = none) (hit : s.heap.IsRevIter it l ((items.size : Int) - 1)) (hl : s.heap.IsList l items) (hne : l ≠ it) (hn : items.size ≤ sizeLine)
    (hQ : ∀ s' acc' c', Moved (s.heap.objs.size :: [it]) (fun a b => b = a) { s with heap := s.heap.push { cls := .type "list", data := .seq #[] } } s' →
      s'.heap.get? s.heap.objs.size = some { cls := .type "list", dict := none, data := .seq acc' c', slots := #[] } → ItemsOf (fun i v => items[items.size - 1 - i]? = some v) acc' items.size → Q (.ref s.heap.objs.size) s') :
    wpAny (model prog w) A (call (.type "list") [.ref it]) Q E s := by
  obtain ⟨oi, hoi, _⟩ := id hit
  obtain ⟨ol, hol, _⟩ := id hl
  have hSi : s.heap.objs.size ≠ it := Nat.ne_of_gt (Heap.lt_size hoi)
  have hSl : s.heap.objs.size ≠ l := Nat.ne_of_gt (Heap.lt_size hol)
  refine callType_codes (Q₁ := fun obj s₁ => obj = .ref s.heap.objs.size ∧ s₁ = { s with heap := s.heap.push { cls := .type "list", data := .seq #[] } }) F.called_list (F.typeCall_list_1 _) F.entry_list_init
    (code_list_new _ ⟨rfl, rfl⟩) fun obj s₁ h₁ => ?_
  obtain ⟨rfl, rfl⟩ := h₁
  have hS : (s.heap.push { cls := .type "list", data := .seq #[] }).get? s.heap.objs.size = some { cls := .type "list", data := .seq #[] } := Heap.get?_push_size _ rfl
  refine ⟨⟨_, hS, rfl⟩, F.args_list_init_2 _ _, lr_init hh (hit.at fun o e => Heap.get?_push_of_some _ e) (hl.push _) hne hSi hSl hn hS fun s' acc' c' hm hS' hacc => ?_⟩
  exact ⟨rfl, hQ s' acc' c' hm hS' hacc⟩
end
section
variable {X : Cx}
def tLstRev (K : PySem.W.Frag) (te : TE) : TE := fun σ H Q => te σ H fun v H1 => ∃ (a : Addr) (xs : List V), v = .ref a ∧ SqL K H1 a xs ∧ ∀ q, H1 q = none → Q (.ref q) (upd H1 q (.lst xs.reverse))
theorem pe_listRev {e : Expr} {te : TE} {p p2 pos pos2 : Pos} (hc : X.calm = true) (hg : Gl X "list") (hm : X.mg "list" = none) (hg2 : Gl X "reversed") (hm2 : X.mg "reversed" = none) (he : PE X e te)
    (hs : starEach [e] X.env = (false, eval e X.env) :: starEach [] X.env := by rfl)
    (hs2 : starEach [.Call (.Name "reversed" p2) [e] [] pos2] X.env = (false, eval (.Call (.Name "reversed" p2) [e] [] pos2) X.env) :: starEach [] X.env := by rfl) :
    PE X (.Call (.Name "list" p) [.Call (.Name "reversed" p2) [e] [] pos2] [] pos) (tLstRev X.K te) := by
  refine ⟨fun pins s σ H Q I h => ?_⟩
  refine Call_ (ld_blt I hg hm PyProof.Rows.boot_list (PyProof.Rows.callWith_type1 (args_cons (Call_ (ld_blt I hg2 hm2 PyProof.Rows.boot_reversed (PyProof.Rows.callWith_type1 (args_cons (thn (he.run pins s σ H _ I h) fun u s1 ⟨v, H1, I1, r1, q1⟩ => args_nil ?_) hs) hs rfl))) hs2) hs2))
  obtain ⟨a, xs, ev, hq, q⟩ := q1
  subst ev
  obtain rfl : u = Value.ref a := r1
  obtain ⟨its, rv, p', hz⟩ := I1.list hq
  refine call_reversed_list p'.isList (args_nil ?_)
  obtain ⟨f0, f1, f2, f3, f4, f5⟩ := I1.fpOk (H' := H1) (b := s1.heap.objs.size) (Nat.le_refl _) (I1.hok.fresh (Nat.le_refl _))
  have hl := p'.isList
  obtain ⟨ol, hol, _⟩ := id hl
  have hne : a ≠ s1.heap.objs.size := Nat.ne_of_lt (Heap.lt_size hol)
  have hn : its.toArray.size ≤ sizeLine := by rw [List.size_toArray, ← rv.length]; exact hz
  refine call_listRev (s := { s1 with heap := s1.heap.push (revObj a ((its.toArray.size : Int) - 1)) }) (I1.ok.hd hc) ⟨_, Heap.get?_push_size _ rfl, rfl, rfl⟩ (hl.push _) hne hn fun s' acc c' hm' hS' hi => ?_
  have e2 := Moved.eq_with hm'
  have hkeep : ∀ b o, b ∉ [s1.heap.objs.size] → s1.heap.get? b = some o → s'.heap.get? b = some o := fun b o hb e => by
    refine hm'.heap b o (fun hmem => ?_) (Heap.get?_push_of_some _ (Heap.get?_push_of_some _ e))
    rcases List.mem_cons.mp hmem with e' | hmem
    · have hlt := Heap.lt_size e
      have hT : s1.heap.objs.size ≤ ({ s1 with heap := s1.heap.push (revObj a ((its.toArray.size : Int) - 1)) } : Shared).heap.objs.size := by simp [Heap.push, Array.size_push]
      rw [e'] at hlt
      exact absurd (Nat.lt_of_lt_of_le hlt hT) (Nat.lt_irrefl _)
    · exact hb hmem
  have hT : s1.heap.objs.size ≤ ({ s1 with heap := s1.heap.push (revObj a ((its.toArray.size : Int) - 1)) } : Shared).heap.objs.size := by simp [Heap.push, Array.size_push]
  rw [e2]
  have I3 := Inv.turnedNew (t' := s'.toks) (ob := .lst xs.reverse) I1 hkeep (fun b hb => by rw [List.mem_singleton] at hb; subst hb; exact ⟨f0, f1, f2, f3, f4, f5⟩) hT (show ObjOk X.prog X.w _ _ _ (.lst xs.reverse) from ⟨by rw [List.length_reverse]; exact hz, acc.toList, c', vals_rev rv hi, by rw [Array.toArray_toList]; exact hS'⟩)
  exact ⟨.ref _, _, I3, rfl, q _ (I1.hok.fresh hT)⟩
/-- list(reversed(xs)): a new list -/
def revLW : D → DK → Prop
  | .lst ds, P => P (.lst ds.reverse)
  | .klst ds, P => P (.lst ds.reverse)
  | _, _ => False
def pRevL (p : PTE) : PTE := fun ρ P => p ρ fun d => revLW d P
theorem f_listRev {e : Expr} {q : PTE} {p p2 pos pos2 : Pos} (hc : X.calm = true) (hg : Gl X "list") (hm : X.mg "list" = none) (hg2 : Gl X "reversed") (hm2 : X.mg "reversed" = none) (he : pr X e q)
    (hs : starEach [e] X.env = (false, eval e X.env) :: starEach [] X.env := by rfl)
    (hs2 : starEach [.Call (.Name "reversed" p2) [e] [] pos2] X.env = (false, eval (.Call (.Name "reversed" p2) [e] [] pos2) X.env) :: starEach [] X.env := by rfl) :
    pf X (.Call (.Name "list" p) [.Call (.Name "reversed" p2) [e] [] pos2] [] pos) (pRevL q) :=
  PE_weak (pe_listRev hc hg hm hg2 hm2 he hs hs2) fun σ H Q ⟨N, F, ρ, P, s, h, k⟩ => ⟨N, F, ρ, _, s, h, fun d v F1 H1 p1 x1 r1 => by
    cases d <;> try exact p1.elim
    · obtain ⟨a, vs, rfl, h1, q1⟩ := r1.lst x1.fits
      exact ⟨a, vs, rfl, SqL.of h1, (KontN.ext k x1).lst x1.fits p1 q1.reverse⟩
    · obtain ⟨a, vs, rfl, h1, q1⟩ := r1.klst x1.fits
      exact ⟨a, vs, rfl, h1, (KontN.ext k x1).lst x1.fits p1 q1.reverse⟩⟩
theorem e_listRev {e : Expr} {q : PTE} {p p2 pos pos2 : Pos} (hc : X.calm = true) (hg : Gl X "list") (hm : X.mg "list" = none) (hg2 : Gl X "reversed") (hm2 : X.mg "reversed" = none) (he : pr X e q)
    (hs : starEach [e] X.env = (false, eval e X.env) :: starEach [] X.env := by rfl)
    (hs2 : starEach [.Call (.Name "reversed" p2) [e] [] pos2] X.env = (false, eval (.Call (.Name "reversed" p2) [e] [] pos2) X.env) :: starEach [] X.env := by rfl) :
    pe X (.Call (.Name "list" p) [.Call (.Name "reversed" p2) [e] [] pos2] [] pos) (pRevL q) :=
  PE_weak (pe_listRev hc hg hm hg2 hm2 he hs hs2) fun σ H Q ⟨N, F, ρ, P, s, h, k⟩ => ⟨N, F, ρ, _, s, h, fun d v F1 H1 p1 x1 r1 => by
    cases d <;> try exact p1.elim
    · obtain ⟨a, vs, rfl, h1, q1⟩ := r1.lst x1.fits
      exact ⟨a, vs, rfl, SqL.of h1, (Kont.ext k x1).lst x1.fits p1 q1.reverse⟩
    · obtain ⟨a, vs, rfl, h1, q1⟩ := r1.klst x1.fits
      exact ⟨a, vs, rfl, h1, (Kont.ext k x1).lst x1.fits p1 q1.reverse⟩⟩
theorem revLW_lst {ds : List D} {P : DK} : revLW (.lst ds) P = P (.lst ds.reverse) := id rfl
theorem revLW_klst {ds : List D} {P : DK} : revLW (.klst ds) P = P (.lst ds.reverse) := id rfl
end
end Pu
namespace Pu
open PySem PySem.Spec L2
section
variable {X : Cx} {pos apos cpos : Pos} {K : Fg} {F F' : FS} {H H' : Hp} {s z : Str} {ds es : List D} {d e : D} {P : DK} {ρ : Env} {σ : L2.St} {a : Addr} {vs : List V}
/-! ### a text times an int -/
def repS (z : Str) (n : Nat) : Str := ⟨(List.replicate n z.cps.toList).flatten.toArray⟩
def rRepS : R2 := fun x y H Q => ∃ z k, x = .str z ∧ y = .int k ∧ -(2 ^ 63) ≤ k ∧ k < 2 ^ 63 ∧ z.length * k.toNat ≤ sizeLine ∧ Q (.str (repS z k.toNat)) H
theorem foldS (x : Array Nat) : ∀ (m : Nat) (b : Array Nat), (List.replicate m x).foldl (· ++ ·) b = b ++ (List.replicate m x.toList).flatten.toArray
  | 0, b => by simp
  | m + 1, b => by
    rw [List.replicate_succ, List.foldl_cons, foldS x m, List.replicate_succ, List.flatten_cons]
    rw [Array.append_assoc]
    congr 1
    apply Array.toList_inj.mp
    simp
theorem op_repS : OpR X (binaryOp .Mult) rRepS := by
  intro pins s σ H x y v u Q I rx ry h
  obtain ⟨z, k, rfl, rfl, h1, h2, hz, q⟩ := h
  obtain ⟨t, rfl⟩ := rx
  obtain ⟨t', rfl⟩ := ry
  have hle : z.length * k.toNat ≤ 16777216 := by rw [← sizeLine_eq]; exact hz
  refine PySem.P.mul_str (by
    have a1 : ¬ k < -(2 ^ 63) := by omega
    have a2 : ¬ k ≥ 2 ^ 63 := by omega
    rw [decide_eq_false a1, decide_eq_false a2]; rfl) (fun g1 _ => ?_) (fun g1 _ => ?_) ?_
  · have a1 : (2 ^ 63 - 1) / k ≥ z.length := by
      rw [ge_iff_le, Int.le_ediv_iff_mul_le (by omega)]
      have : ((z.length * k.toNat : Nat) : Int) ≤ 16777216 := Int.ofNat_le.mpr hle
      rw [Int.natCast_mul, Int.toNat_of_nonneg (by omega)] at this
      omega
    omega
  · exact decide_eq_false (Nat.not_lt.mpr hz)
  · split
    · rename_i g
      refine ⟨by decide, .str (repS z k.toNat), H, I.tok _, ⟨s.toks, ?_⟩, q⟩
      have : k.toNat = 0 := by omega
      rw [this]; rfl
    · split
      · rename_i g1 g2
        refine ⟨.str (repS z k.toNat), H, I, ⟨t, ?_⟩, q⟩
        rw [Bool.or_eq_true, beq_iff_eq, beq_iff_eq] at g2
        have : repS z k.toNat = z := by
          unfold repS
          rcases g2 with g2 | g2
          · subst g2; simp
          · have : z.cps.toList = [] := by
              have := g2
              unfold Str.length at this
              simpa using this
            rw [this]
            have e : z = ⟨#[]⟩ := by
              cases z; simp at this; rw [this]
            rw [e]
            simp
        rw [this]
      · rename_i g1 g2
        refine ⟨?_, .str (repS z k.toNat), H, I.tok _, ⟨s.toks, ?_⟩, q⟩
        · rw [foldS]
          simp only [Str.length, Array.empty_append, List.size_toArray]
          rw [PyProof.Rows.lm_len_rep_flat]
          unfold Str.length at hz
          rw [Array.length_toList, Nat.mul_comm]
          exact hz
        · rw [foldS, Array.empty_append]
          rfl
def mulSW : D → D → DK → Prop
  | .str z, .int k, P => -(2 ^ 63) ≤ k ∧ k < 2 ^ 63 ∧ z.length * k.toNat ≤ sizeLine ∧ P (.str (repS z k.toNat))
  | _, _, _ => False
theorem o_mulS : opS X (binaryOp .Mult) mulSW := by
  refine ⟨_, op_repS, fun d e x y F H P Q f r1 r2 h k => ?_⟩
  cases d <;> try exact h.elim
  cases e <;> try exact h.elim
  exact ⟨_, _, r1.str, r2.int, h.1, h.2.1, h.2.2.1, k.str f h.2.2.2⟩
theorem mulSW_str {i : Int} : mulSW (.str z) (.int i) P = (-(2 ^ 63) ≤ i ∧ i < 2 ^ 63 ∧ z.length * i.toNat ≤ sizeLine ∧ P (.str (repS z i.toNat))) := id rfl
end
end Pu
namespace Pu
open PySem PySem.Spec L2
/-! the readings as equations, to be used ahead of what stands within -/
theorem r_pVar {i : Nat} {ρ : Env} {P : DK} : pVar i ρ P = (atShD P Tg.mk ρ[i]?) := id rfl
theorem r_pVarR {i : Nat} {ρ : Env} {P : DK} : pVarR i ρ P = (atAnyD P Tg.mk ρ[i]?) := id rfl
theorem r_pC {d : D} {x0 : Env} {P : DK} : pC d x0 P = (P d) := id rfl
theorem r_pOp {w : D → D → DK → Prop} {pa pb : PTE} {ρ : Env} {P : DK} : pOp w pa pb ρ P = (pa ρ fun d => pb ρ fun e => w d e P) := id rfl
theorem r_tst {p : PTE} {ρ : Env} {P : Bool → Prop} : tst p ρ P = (p ρ (isBl P)) := id rfl
theorem r_pAndT {p q : PTT} {ρ : Env} {P : Bool → Prop} : pAndT p q ρ P = (p ρ fun c => if c = true then q ρ P else P false) := id rfl
theorem r_pOrT {p q : PTT} {ρ : Env} {P : Bool → Prop} : pOrT p q ρ P = (p ρ fun c => if c = true then P true else q ρ P) := id rfl
theorem r_pNotT {p : PTT} {ρ : Env} {P : Bool → Prop} : pNotT p ρ P = (p ρ fun c => P (!c)) := id rfl
theorem r_pTru {p : PTE} {ρ : Env} {P : Bool → Prop} : pTru p ρ P = (p ρ fun d => truW d P) := id rfl
theorem r_pAnd {p q : PTE} {ρ : Env} {P : DK} : pAnd p q ρ P = (p ρ (isBl fun c => if c = true then q ρ P else P (.bl false))) := id rfl
theorem r_pOr {p q : PTE} {ρ : Env} {P : DK} : pOr p q ρ P = (p ρ (isBl fun c => if c = true then P (.bl true) else q ρ P)) := id rfl
theorem r_pNot {p : PTE} {ρ : Env} {P : DK} : pNot p ρ P = (p ρ (isBl fun c => P (.bl (!c)))) := id rfl
theorem r_pIf {t : PTT} {p q : PTE} {ρ : Env} {P : DK} : pIf t p q ρ P = (t ρ fun c => if c = true then p ρ P else q ρ P) := id rfl
theorem r_pUn {w : D → DK → Prop} {pa : PTE} {ρ : Env} {P : DK} : pUn w pa ρ P = (pa ρ fun d => w d P) := id rfl
theorem r_pIsN {b : Bool} {pa : PTE} {ρ : Env} {P : DK} : pIsN b pa ρ P = (pa ρ fun d => P (.bl (d.isNon == b))) := id rfl
theorem r_pChain {w w' : D → D → DK → Prop} {pa pb pc : PTE} {ρ : Env} {P : DK} : pChain w w' pa pb pc ρ P = (pa ρ fun d => pb ρ fun e => w d e (isBl fun k => if k = true then pc ρ fun g => w' e g P else P (.bl false))) := id rfl
theorem r_pNil {x0 : Env} {P : List D → Prop} : pNil x0 P = (P []) := id rfl
theorem r_pCons {p : PTE} {q : PTA} {ρ : Env} {P : List D → Prop} : pCons p q ρ P = (p ρ fun d => q ρ fun ds => P (d :: ds)) := id rfl
theorem r_pTup {t : PTA} {ρ : Env} {P : DK} : pTup t ρ P = (t ρ fun ds => ds.length ≤ sizeLine ∧ P (.tup ds)) := id rfl
theorem r_pLst {t : PTA} {ρ : Env} {P : DK} : pLst t ρ P = (t ρ fun ds => ds.length ≤ sizeLine ∧ P (.lst ds)) := id rfl
theorem r_pCall {w : List D → DK → Prop} {t : PTA} {ρ : Env} {P : DK} : pCall w t ρ P = (t ρ fun ds => w ds P) := id rfl
theorem r_pIsi {n : String} {p : PTE} {ρ : Env} {P : DK} : pIsi n p ρ P = (p ρ fun d => isSomeD (fun t => P (.bl (subT t n))) Tg.mk (tyN d)) := id rfl
theorem r_qSeq {p q : PTS} {PD : PEnds} {ρ : Env} : qSeq p q PD ρ = (p { PD with nx := q PD } ρ) := id rfl
theorem r_qNext {PD : PEnds} {ρ : Env} : qNext PD ρ = (PD.nx ρ) := id rfl
theorem r_qBreak {PD : PEnds} {ρ : Env} : qBreak PD ρ = (PD.bk ρ) := id rfl
theorem r_qCont {PD : PEnds} {ρ : Env} : qCont PD ρ = (PD.ct ρ) := id rfl
theorem r_qNever {x0 : PEnds} {x1 : Env} : qNever x0 x1 = (False) := id rfl
theorem r_qDrop {p : PTE} {PD : PEnds} {ρ : Env} : qDrop p PD ρ = (p ρ fun _ => PD.nx ρ) := id rfl
theorem r_qRet {p : PTE} {PD : PEnds} {ρ : Env} : qRet p PD ρ = (p ρ fun d => PD.rt d ρ) := id rfl
theorem r_qRetN {PD : PEnds} {ρ : Env} : qRetN PD ρ = (PD.rt .non ρ) := id rfl
theorem r_qSet {i : Nat} {p : PTE} {PD : PEnds} {ρ : Env} : qSet i p PD ρ = (p ρ fun d => PD.nx (ρ.set i (some (.sh d)))) := id rfl
theorem r_qSetN {i : Nat} {p : PTE} {PD : PEnds} {ρ : Env} : qSetN i p PD ρ = (p ρ fun d => PD.nx (ρ.set i (some (.ow true d)))) := id rfl
theorem r_qIf {t : PTT} {p q : PTS} {PD : PEnds} {ρ : Env} : qIf t p q PD ρ = (t ρ fun c => if c = true then p PD ρ else q PD ρ) := id rfl
theorem r_qFrz {i : Nat} {q : PTS} {PD : PEnds} {ρ : Env} : qFrz i q PD ρ = (atOwTD (fun d => q PD (ρ.set i (some (.sh d)))) Tg.mk ρ[i]?) := id rfl
theorem r_qApp {i : Nat} {p : PTE} {PD : PEnds} {ρ : Env} : qApp i p PD ρ = (atOwLD (fun c ds => p ρ fun d => ds.length < sizeLine ∧ PD.nx (ρ.set i (some (.ow c (.lst (ds ++ [d])))))) Tg.mk ρ[i]?) := id rfl
theorem r_gN {i : Nat} {d : D} {ρ : Env} {Q : Env → Prop} : gN i d ρ Q = (Q (ρ.set i (some (.sh d)))) := id rfl
theorem r_pSeq {p : PTE} {ρ : Env} {P : List D → Prop} : pSeq p ρ P = (p ρ fun d => isSomeD P Tg.mk (asList d)) := id rfl
theorem r_pRange1 {p : PTE} {ρ : Env} {P : List D → Prop} : pRange1 p ρ P = (p ρ (isInt fun n => -(2 ^ 62) ≤ n ∧ n < 2 ^ 62 ∧ P (rangeD 0 n.toNat))) := id rfl
theorem r_pRange2 {p q : PTE} {ρ : Env} {P : List D → Prop} : pRange2 p q ρ P = (p ρ (isInt fun i => q ρ (isInt fun j => (-(2 ^ 62) ≤ i ∧ i < 2 ^ 62 ∧ -(2 ^ 62) ≤ j ∧ j < 2 ^ 62) ∧ P (rangeD i (j - i).toNat)))) := id rfl
theorem r_qFor {w : PTA} {g : PTG} {body : PTS} {PD : PEnds} {ρ : Env} : qFor w g body PD ρ = (w ρ fun ds => forI g body PD ds ρ) := id rfl
theorem r_qWhile {t : PTT} {body : PTS} {PD : PEnds} {ρ : Env} : qWhile t body PD ρ = (whileI t body PD ρ) := id rfl
theorem r_pComp {vs : List Nat} {w : PTA} {g : PTG} {t : PTT} {e : PTE} {ρ : Env} {P : DK} : pComp vs w g t e ρ P = (w ρ fun ds => compI vs g t e ρ P ds) := id rfl
theorem r_pYes {x0 : Env} {P : Bool → Prop} : pYes x0 P = (P true) := id rfl
theorem r_pCallD {c : Pr} {dds : List D} {t : PTA} {ρ : Env} {P : DK} : pCallD c dds t ρ P = (t ρ fun ds => c (ds ++ dds) P) := id rfl
theorem r_pMake {C : Addr} {c : PrIo} {dds : List D} {t : PTA} {ρ : Env} {P : DK} : pMake C c dds t ρ P = (t ρ fun ds => c (.ins C [] []) (ds ++ dds) fun d d1 => d = .non ∧ P d1) := id rfl
theorem r_pMeth {C : Addr} {m : Str} {c : Pr} {dds : List D} {po : PTE} {t : PTA} {ρ : Env} {P : DK} : pMeth C m c dds po t ρ P = (po ρ fun d => isIns (fun C' ns _ => C' = C ∧ ns.contains m = false ∧ (t ρ fun ds => c (d :: (ds ++ dds)) P)) d) := id rfl
theorem r_qSetIx {i : Nat} {pi p : PTE} {PD : PEnds} {ρ : Env} : qSetIx i pi p PD ρ = (atOwLD (fun c ds => p ρ fun d => pi ρ (isInt fun n => isSomeD (fun j => PD.nx (ρ.set i (some (.ow c (.lst (ds.set j d)))))) Tg.mk (ixN ds.length n))) Tg.mk ρ[i]?) := id rfl
theorem r_qAsg {p : PTE} {g : PTG} {PD : PEnds} {ρ : Env} : qAsg p g PD ρ = (p ρ fun d => g d ρ PD.nx) := id rfl
theorem r_qAug {i : Nat} {w : D → D → DK → Prop} {p : PTE} {PD : PEnds} {ρ : Env} : qAug i w p PD ρ = (atShD (fun d => p ρ fun e => w d e fun z => PD.nx (ρ.set i (some (.sh z)))) Tg.mk ρ[i]?) := id rfl
theorem r_pUnD {w : D → DK → Prop} {pa : PTE} {ρ : Env} {P : DK} : pUnD w pa ρ P = (pa ρ fun d => w d P) := id rfl
theorem r_pNoPart {x0 : Env} {P : Option Int → Prop} : pNoPart x0 P = (P none) := id rfl
theorem r_pPart {p : PTE} {ρ : Env} {P : Option Int → Prop} : pPart p ρ P = (p ρ (isInt fun i => P (some i))) := id rfl
theorem r_pSlice {w : D → Option Int → Option Int → DK → Prop} {p : PTE} {l h : PTO} {ρ : Env} {P : DK} : pSlice w p l h ρ P = (p ρ fun d => l ρ fun lo => h ρ fun hi => w d lo hi P) := id rfl
theorem r_pFld {C : Addr} {f : Str} {p : PTE} {ρ : Env} {P : DK} : pFld C f p ρ P = (p ρ (isIns fun C' ns ds => C' = C ∧ isSomeD P Tg.mk (lookN f ns ds))) := id rfl
theorem r_qFld {i : Nat} {C : Addr} {f : Str} {p : PTE} {PD : PEnds} {ρ : Env} : qFld i C f p PD ρ = (atIoD (fun b C' ns ds => C' = C ∧ ns.length < 1000 ∧ p ρ fun x => PD.nx (ρ.set i (some (.ow b (.ins C (putNs f ns) (putDs f x ns ds)))))) Tg.mk ρ[i]?) := id rfl
theorem r_pZip {p q : PTE} {ρ : Env} {P : List D → Prop} : pZip p q ρ P = (p ρ fun d => q ρ fun e => isSomeD (fun ds => isSomeD (fun es => P (zipD ds es)) Tg.mk (asL e)) Tg.mk (asL d)) := id rfl
theorem r_qSetPop {j i : Nat} {PD : PEnds} {ρ : Env} : qSetPop j i PD ρ = (popW i (fun d ρ' => PD.nx (ρ'.set j (some (.sh d)))) ρ) := id rfl
theorem r_qPop {i : Nat} {PD : PEnds} {ρ : Env} : qPop i PD ρ = (popW i (fun _ ρ' => PD.nx ρ') ρ) := id rfl
theorem r_qRev {i : Nat} {PD : PEnds} {ρ : Env} : qRev i PD ρ = (atOwLD (fun c ds => PD.nx (ρ.set i (some (.ow c (.lst ds.reverse))))) Tg.mk ρ[i]?) := id rfl
theorem r_qClr {i : Nat} {PD : PEnds} {ρ : Env} : qClr i PD ρ = (atOwLD (fun c _ => PD.nx (ρ.set i (some (.ow c (.lst []))))) Tg.mk ρ[i]?) := id rfl
theorem r_qIns {i : Nat} {p q : PTE} {PD : PEnds} {ρ : Env} : qIns i p q PD ρ = (atOwLD (fun c ds => p ρ (isInt fun k => q ρ fun d => ds.length < sizeLine ∧ 0 ≤ k ∧ k < 2 ^ 63 ∧ PD.nx (ρ.set i (some (.ow c (.lst (ds.take k.toNat ++ [d] ++ ds.drop k.toNat))))))) Tg.mk ρ[i]?) := id rfl
theorem r_qAsg2 {p : PTE} {g1 g2 : PTG} {PD : PEnds} {ρ : Env} : qAsg2 p g1 g2 PD ρ = (p ρ fun d => g1 d ρ fun ρ1 => g2 d ρ1 PD.nx) := id rfl
theorem r_qAsg3 {p : PTE} {g1 g2 g3 : PTG} {PD : PEnds} {ρ : Env} : qAsg3 p g1 g2 g3 PD ρ = (p ρ fun d => g1 d ρ fun ρ1 => g2 d ρ1 fun ρ2 => g3 d ρ2 PD.nx) := id rfl
theorem r_pChain3 {w w' w2 : D → D → DK → Prop} {pa pb pc pd : PTE} {ρ : Env} {P : DK} : pChain3 w w' w2 pa pb pc pd ρ P = (pa ρ fun d => pb ρ fun e => w d e (isBl fun k => if k = true then pc ρ fun g => w' e g (isBl fun k2 => if k2 = true then pd ρ fun h => w2 g h P else P (.bl false)) else P (.bl false))) := id rfl
theorem r_pEnu {p : PTE} {ρ : Env} {P : List D → Prop} : pEnu p ρ P = (p ρ fun d => isSomeD (fun ds => P (enumI 0 ds)) Tg.mk (asList d)) := id rfl
theorem r_pEnuK {p p2 : PTE} {ρ : Env} {P : List D → Prop} : pEnuK p p2 ρ P = (p ρ fun d => p2 ρ (isInt fun k => isSomeD (fun ds => -(2 ^ 63) ≤ k ∧ k < 2 ^ 63 ∧ P (enumI k ds)) Tg.mk (asList d))) := id rfl
theorem r_qRetF {p : PTE} {PD : PEnds} {ρ : Env} : qRetF p PD ρ = (p ρ fun d => PD.rn d ρ) := id rfl
theorem r_qRetO {i : Nat} {PD : PEnds} {ρ : Env} : qRetO i PD ρ = (atOwTD (fun d => PD.rn d ρ) Tg.mk ρ[i]?) := id rfl
theorem r_qForO {i : Nat} {g : PTG} {body : PTS} {PD : PEnds} {ρ : Env} : qForO i g body PD ρ = (atOwLD (fun c ds => ∀ a : Addr, forI g body (lentTo i a c (.lst ds) PD) ds (ρ.set i (some (.sh (.rf a))))) Tg.mk ρ[i]?) := id rfl
theorem r_pCallB {c : Pr} {dds : List D} {t : PTA} {ρ : Env} {P : DK} : pCallB c dds t ρ P = (t ρ fun ds => c (ds ++ dds) fun d => hard d ∧ P d) := id rfl
theorem r_pCallBN {c : Pr} {dds : List D} {t : PTA} {ρ : Env} {P : DK} : pCallBN c dds t ρ P = (t ρ fun ds => c (ds ++ dds) fun d => hardIn d ∧ P d) := id rfl
theorem r_pBM {T : String} {w : D → List D → DK → Prop} {po : PTE} {t : PTA} {ρ : Env} {P : DK} : pBM T w po t ρ P = (po ρ fun d => tyD T d ∧ t ρ fun ds => w d ds P) := id rfl
theorem r_pBM0 {T : String} {w : D → DK → Prop} {po : PTE} {ρ : Env} {P : DK} : pBM0 T w po ρ P = (po ρ fun d => tyD T d ∧ w d P) := id rfl
theorem r_pGetK {ks : List Str} {ds : List D} {p q : PTE} {ρ : Env} {P : DK} : pGetK ks ds p q ρ P = (p ρ (isStr fun z => q ρ fun d => P ((lookN z ks ds).getD d))) := id rfl
theorem r_pGetK1 {ks : List Str} {ds : List D} {p : PTE} {ρ : Env} {P : DK} : pGetK1 ks ds p ρ P = (p ρ (isStr fun z => P ((lookN z ks ds).getD .non))) := id rfl
theorem r_qUp {i : Nat} {q : PTS} {PD : PEnds} {ρ : Env} : qUp i q PD ρ = (atOwLD (fun c ds => q PD (ρ.set i (some (.o2 c .lst (ds.map fun d => (false, d)))))) Tg.mk ρ[i]?) := id rfl
theorem r_qAppN {i : Nat} {p : PTE} {PD : PEnds} {ρ : Env} : qAppN i p PD ρ = (atO2D (fun c cs => p ρ fun d => cs.length < sizeLine ∧ PD.nx (ρ.set i (some (.o2 c .lst (cs ++ [(true, d)]))))) Tg.mk ρ[i]?) := id rfl
theorem r_qAppK {i : Nat} {pi p : PTE} {PD : PEnds} {ρ : Env} : qAppK i pi p PD ρ = (atO2D (fun c cs => pi ρ (isInt fun k => kidAt k cs fun j ds => p ρ fun d => ds.length < sizeLine ∧ PD.nx (ρ.set i (some (.o2 c .lst (cs.set j (true, .lst (ds ++ [d])))))))) Tg.mk ρ[i]?) := id rfl
theorem r_pKid {i : Nat} {pi : PTE} {ρ : Env} {P : DK} : pKid i pi ρ P = (atO2D (fun _ cs => pi ρ (isInt fun k => kidAt k cs fun _ ds => P (.lst ds))) Tg.mk ρ[i]?) := id rfl
theorem r_qSetL1 {i : Nat} {p : PTE} {PD : PEnds} {ρ : Env} : qSetL1 i p PD ρ = (p ρ fun d => PD.nx (ρ.set i (some (.o2 true .lst [(true, d)])))) := id rfl
theorem r_qTupPop {j i : Nat} {z : Str} {PD : PEnds} {ρ : Env} : qTupPop j i z PD ρ = (popK i (fun ds ρ' => PD.nx (ρ'.set j (some (.sh (.tup [.str z, .tup ds]))))) ρ) := id rfl
theorem r_pStarA {p : PTE} {ρ : Env} {P : List D → Prop} : pStarA p ρ P = (p ρ fun d => isSomeD P Tg.mk (asList d)) := id rfl
theorem r_pLend {i : Nat} {p : PTE} {ρ : Env} {P : DK} : pLend i p ρ P = (atO2D (fun _ cs => p (ρ.set i (some (.sh (.lst (cs.map Prod.snd))))) fun d => hard d ∧ P d) Tg.mk ρ[i]?) := id rfl
theorem r_tLend {i : Nat} {t : PTT} {ρ : Env} {P : Bool → Prop} : tLend i t ρ P = (atO2D (fun _ cs => t (ρ.set i (some (.sh (.lst (cs.map Prod.snd))))) P) Tg.mk ρ[i]?) := id rfl
theorem r_qAlias {i j : Nat} {pn pk p : PTE} {q : PTS} {PD : PEnds} {ρ : Env} : qAlias i j pn pk p q PD ρ = (i ≠ j ∧ j < ρ.length ∧ atO2D (fun c cs => pn ρ (isInt fun n => kidAt n cs fun jj ds => p (ρ.set j none) fun d => pk (ρ.set j none) (isInt fun m => isSomeD (fun mm => q PD ((ρ.set j none).set i (some (.o2 c .lst (cs.set jj (true, .lst (ds.set mm d))))))) Tg.mk (ixN ds.length m)))) Tg.mk ρ[i]?) := id rfl
theorem r_qSetC2 {i : Nat} {vs : List Nat} {w : PTA} {g : PTG} {e : PTE} {PD : PEnds} {ρ : Env} : qSetC2 i vs w g e PD ρ = (w ρ fun ds => compI vs g pYes e ρ (ofLst fun acc => PD.nx (ρ.set i (some (.o2 true .lst (acc.map fun d => (true, d)))))) ds) := id rfl
theorem r_pDNewK {x0 : Env} {P : DK} : pDNewK x0 P = (P (.dK [] [])) := id rfl
theorem r_pDNewT {x0 : Env} {P : DK} : pDNewT x0 P = (P (.dT [] [])) := id rfl
theorem r_qDPut {i : Nat} {pk p : PTE} {PD : PEnds} {ρ : Env} : qDPut i pk p PD ρ = (atOwAD (fun c d => p ρ fun x => pk ρ fun k => dPutW d k x fun d' => PD.nx (ρ.set i (some (.ow c d')))) Tg.mk ρ[i]?) := id rfl
theorem r_pRange3 {p q r : PTE} {ρ : Env} {P : List D → Prop} : pRange3 p q r ρ P = (p ρ (isInt fun i => q ρ (isInt fun j => r ρ (isInt fun c => (0 < c ∧ c < 1073741824 ∧ -(2 ^ 62) ≤ i ∧ i < 2 ^ 62 ∧ -(2 ^ 62) ≤ j ∧ j < 2 ^ 62) ∧ P (rangeC i c (stepN i j c)))))) := id rfl
theorem r_pProp {C : Addr} {c : Pr} {po : PTE} {ρ : Env} {P : DK} : pProp C c po ρ P = (po ρ fun d => isIns (fun C' _ _ => C' = C ∧ c [d] P) d) := id rfl
theorem r_pIsiO {C : Addr} {p : PTE} {ρ : Env} {P : DK} : pIsiO C p ρ P = (p ρ fun d => isSomeD (fun b => P (.bl b)) Tg.mk (isO C d)) := id rfl
theorem r_pOwnAdd {C : Addr} {c : Pr} {pa pb : PTE} {ρ : Env} {P : DK} : pOwnAdd C c pa pb ρ P = (pa ρ fun d => pb ρ fun e => isIns (fun C' _ _ => C' = C ∧ isIns (fun C2 _ _ => C2 = C ∧ c [d, e] P) e) d) := id rfl
theorem r_pOwnEq {C : Addr} {c : Pr} {pa pb : PTE} {ρ : Env} {P : DK} : pOwnEq C c pa pb ρ P = (pa ρ fun d => pb ρ fun e => isIns (fun C' _ _ => C' = C ∧ isSomeD (fun _ => c [d, e] P) Tg.mk (isO C e)) d) := id rfl
theorem r_qSetX {i : Nat} {c : Pr} {t : PTA} {PD : PEnds} {ρ : Env} : qSetX i c t PD ρ = (t ρ fun ds => c ds (excOr (fun C ns fs => PD.xr C ns fs ρ) fun d => PD.nx (ρ.set i (some (.sh d))))) := id rfl
theorem r_qRetX {c : Pr} {t : PTA} {PD : PEnds} {ρ : Env} : qRetX c t PD ρ = (t ρ fun ds => c ds (excOr (fun C ns fs => PD.xr C ns fs ρ) fun d => PD.rt d ρ)) := id rfl
theorem r_qDropX {c : Pr} {t : PTA} {PD : PEnds} {ρ : Env} : qDropX c t PD ρ = (t ρ fun ds => c ds (excOr (fun C ns fs => PD.xr C ns fs ρ) fun d => PD.nx ρ)) := id rfl
theorem r_qRaise {C : Addr} {ns : List Str} {t : PTA} {PD : PEnds} {ρ : Env} : qRaise C ns t PD ρ = (t ρ fun ds => ds.length = ns.length ∧ (∀ d, d ∈ ds → flatX d) ∧ PD.xr C ns.reverse ds.reverse ρ) := id rfl
theorem r_pXf {a C0 ex C : Addr} {f : Str} {p : PTE} {ρ : Env} {P : DK} : pXf a C0 ex C f p ρ P = (p ρ (isExo fun a' C' e' ns ds => (a' = a ∧ C' = C0 ∧ e' = ex ∧ C0 = C) ∧ isSomeD P Tg.mk (lookN f ns ds))) := id rfl
theorem r_qSetNn {i : Nat} {c : Pr} {t : PTA} {PD : PEnds} {ρ : Env} : qSetNn i c t PD ρ = (t ρ fun ds => c ds (nonOr (PD.nx (ρ.set i (some (.sh .non)))) fun d => PD.nx (ρ.set i (some (.ow true d))))) := id rfl
theorem r_qRetNn {c : Pr} {t : PTA} {PD : PEnds} {ρ : Env} : qRetNn c t PD ρ = (t ρ fun ds => c ds (nonOr (PD.rt .non ρ) fun d => PD.rn d ρ)) := id rfl
theorem r_pInK {neg : Bool} {ks : List Str} {p : PTE} {ρ : Env} {P : DK} : pInK neg ks p ρ P = (p ρ (isStr fun z => P (.bl (neg != decide (z ∈ ks))))) := id rfl
theorem r_pAtK {ks : List Str} {ds : List D} {p : PTE} {ρ : Env} {P : DK} : pAtK ks ds p ρ P = (p ρ (isStr fun z => isSomeD P Tg.mk (lookN z ks ds))) := id rfl
theorem r_pRevL {p : PTE} {ρ : Env} {P : DK} : pRevL p ρ P = (p ρ fun d => revLW d P) := id rfl
theorem r_nxOf {R : DK} {ρ : Env} : (endOf R).nx ρ = R .non := id rfl
theorem r_rtOf {R : DK} {d : D} {ρ : Env} : (endOf R).rt d ρ = R d := id rfl
theorem r_nxIo {R : D → D → Prop} {ρ : Env} : (endIo R).nx ρ = atOwFD (R .non) Tg.mk ρ[0]? := id rfl
theorem r_rtIo {R : D → D → Prop} {d : D} {ρ : Env} : (endIo R).rt d ρ = atOwFD (R d) Tg.mk ρ[0]? := id rfl
theorem r_qTryAs {i : Nat} {hits : List (Addr × Bool)} {p : PTS} {q : Addr → Addr → Addr → PTS} {PD : PEnds} {ρ : Env} : qTryAs i hits p q PD ρ = p (tryPD i hits q PD) ρ := id rfl
theorem r_pIsX {a C0 ex : Addr} {hits : List (Addr × Bool)} {p : PTE} {ρ : Env} {P : DK} : pIsX a C0 ex hits p ρ P = p ρ (isExo fun a' C' e' ns ds => (a' = a ∧ C' = C0 ∧ e' = ex) ∧ hitS hits C0 fun b => P (.bl b)) := id rfl
theorem r_nxX {R : DK} {ρ : Env} : (endX R).nx ρ = R .non := id rfl
theorem r_rtX {R : DK} {d : D} {ρ : Env} : (endX R).rt d ρ = R d := id rfl
theorem r_xrX {R : DK} {C : Addr} {ns : List Str} {ds : List D} {ρ : Env} : (endX R).xr C ns ds ρ = R (.exc C ns ds) := id rfl
theorem r_nxNn {R : DK} {ρ : Env} : (endNn R).nx ρ = R .non := id rfl
theorem r_rtNn {R : DK} {d : D} {ρ : Env} : (endNn R).rt d ρ = onNon (R .non) d := id rfl
theorem r_rnNn {R : DK} {d : D} {ρ : Env} : (endNn R).rn d ρ = R d := id rfl
theorem r_nxT {i : Nat} {h : List (Addr × Bool)} {q : Addr → Addr → Addr → PTS} {PD : PEnds} {ρ : Env} : (tryPD i h q PD).nx ρ = PD.nx ρ := id rfl
theorem r_rtT {i : Nat} {h : List (Addr × Bool)} {q : Addr → Addr → Addr → PTS} {PD : PEnds} {d : D} {ρ : Env} : (tryPD i h q PD).rt d ρ = PD.rt d ρ := id rfl
theorem r_nxS {i : Nat} {PD : PEnds} {ρ : Env} : (sufPD i PD).nx ρ = PD.nx (ρ.set i none) := id rfl
theorem r_rtS {i : Nat} {PD : PEnds} {d : D} {ρ : Env} : (sufPD i PD).rt d ρ = PD.rt d ρ := id rfl
theorem r_nxNw {R : DK} {ρ : Env} : (endNw R).nx ρ = False := id rfl
theorem r_rtNw {R : DK} {d : D} {ρ : Env} : (endNw R).rt d ρ = False := id rfl
theorem r_rnNw {R : DK} {d : D} {ρ : Env} : (endNw R).rn d ρ = R d := id rfl
theorem r_rnOf {R : DK} {d : D} {ρ : Env} : (endOf R).rn d ρ = R d := id rfl
def atRfD (a : Addr) (P : Prop) (_ : TgP P) (x : Option (Option Sl)) : Prop := atRf a P x
theorem atRf_rf {a : Addr} {P : Prop} {t : TgP P} : atRfD a P t (some (some (.sh (.rf a)))) = P := by
  show (a = a ∧ P) = P
  simp
theorem r_lentNx {i : Nat} {a : Addr} {c : Bool} {d : D} {PD : PEnds} {ρ : Env} : (lentTo i a c d PD).nx ρ = atRfD a (PD.nx (ρ.set i (some (.ow c d)))) TgP.mk ρ[i]? := id rfl
theorem r_lentRt {i : Nat} {a : Addr} {c : Bool} {d d' : D} {PD : PEnds} {ρ : Env} : (lentTo i a c d PD).rt d' ρ = atRfD a (PD.rt d' (ρ.set i (some (.ow c d)))) TgP.mk ρ[i]? := id rfl
end Pu
namespace Pu
open PySem PySem.Spec L2
local macro_rules | `(tactic| walk_at "pu") => `(tactic| simp only [↓r_qSeq, ↓r_qNext, ↓r_qBreak, ↓r_qCont, ↓r_qRet, ↓r_qRetN, ↓r_qSet, ↓r_qSetN, ↓r_qAsg, ↓r_qAug, ↓r_qApp, ↓r_qFrz, ↓r_qIf, ↓r_qDrop, ↓r_qSetIx, ↓r_qFor, ↓r_qWhile, ↓r_tst, ↓r_pOp, ↓r_pUn, ↓r_pC, ↓r_pVar, ↓r_pVarR, ↓r_pCall, ↓r_pCallD, ↓r_pCons, ↓r_pNil, ↓r_pAndT, ↓r_pOrT, ↓r_pNotT, ↓r_pTru, ↓r_pAnd, ↓r_pOr, ↓r_pNot, ↓r_pIf, ↓r_pIsN, ↓r_pChain, ↓r_pTup, ↓r_pLst, ↓r_pIsi, ↓r_pSeq, ↓r_pRange1, ↓r_pRange2, ↓r_pComp, ↓r_pYes, ↓r_gN, ↓r_listW, ↓r_tupleW, ↓ltW_int, ↓leW_int, ↓gtW_int, ↓geW_int, ↓subW_int, ↓fdivW_int, ↓modW_int, ↓powW_int, ↓atSh_shD, ↓atAny_shD, ↓atAny_owD, ↓atOwT_owD, ↓atOwL_owD, ↓atOwF_owD, ↓isBl_bl, ↓isInt_int, ↓isSome_someD, ↓isSome_noneD, ↓isIns_ins, ↓on1_1, ↓on2_2, ↓addW_int, ↓addW_ib, ↓addW_str, ↓addW_lst, ↓iaddW_int, ↓iaddW_str, ↓mulW_int, ↓mulW_lst, ↓eqW_int, ↓eqW_str, ↓eqW_bl, ↓eqW_nn, ↓eqW_ni, ↓eqW_in, ↓eqW_is, ↓eqW_si, ↓eqW_tt, ↓eqW_ll, ↓neW_int, ↓neW_str, ↓neW_bl, ↓neW_nn, ↓neW_ni, ↓neW_in, ↓neW_is, ↓neW_si, ↓neW_tt, ↓neW_ll, ↓negW_int, ↓absW_int, ↓intfW_int, ↓intfW_bl, ↓lenW_str, ↓lenW_lst, ↓lenW_klst, ↓lenW_tup, ↓max2W_mx, ↓min2W_mn, itemW_lstD, itemW_klstD, itemW_tupD, itemW_strD, asList_lst, asList_klst, asList_tup, tyN_non, tyN_bl, tyN_int, tyN_str, tyN_tup, tyN_lst, tyN_dK, tyN_dT, ↓truW_non, ↓truW_bl, ↓truW_int, ↓truW_str, ↓truW_lst, ↓truW_klst, ↓truW_tup, isNon_non, isNon_bl, isNon_int, isNon_str, isNon_tup, isNon_lst, isNon_klst, isNon_ins, isNon_dK, ↓gT_tup, ↓gConsP_cons, ↓gNilP_nil, wipeE_nil, wipeE_cons, atI_0, atI_1, atI_2, atI_3, atI_4, atI_5, atI_6, atI_7, atI_8, atI_9, ixN_0, ixN_1, ixN_2, ixN_3, ixN_4, List.getElem?_cons_zero, List.getElem?_cons_succ, List.getElem?_nil, List.set_cons_zero, List.set_cons_succ, List.length_cons, List.length_nil, List.length_map, Nat.reduceAdd, Int.reduceAdd, Nat.reduceLT, Nat.lt_irrefl, List.append_nil, List.nil_append, decide_eq_true_eq, decide_eq_false_iff_not, Bool.not_eq_true', Bool.not_true, Bool.not_false, ite_true, ite_false, if_true, if_false, Bool.false_eq_true, Bool.true_eq_false, ↓reduceIte, and_true, true_and, subT, String.reduceEq, decide_true, decide_false, Bool.or_false, Bool.false_or, Bool.or_true, Bool.true_or, Bool.and_true, Bool.and_false, Bool.true_and, Bool.false_and, Bool.or_self, Bool.and_self, ↓notTW_bl, ↓notTW_non, ↓notTW_int, ↓notTW_str, ↓notTW_tup, ↓notTW_lst, ↓notTW_klst, ↓isTW_bl, ↓isTW_non, ↓isTW_int, ↓isTW_str, ↓isTW_tup, ↓isTW_lst, ↓isTW_klst, ↓addW_tup, ↓inW_tup, ↓inW_lst, ↓inW_klst, ↓intLW_lst, ↓intLW_klst, ↓blLW_lst, ↓sliceW_lst, ↓sliceW_klst, ↓sliceW_tup, ↓sliceW_str, ↓sliceF_lst, ↓sliceF_klst, ↓catF_lst, ↓atIo_ow, asL_lst, asL_klst, ↓r_pUnD, ↓r_pSlice, ↓r_pNoPart, ↓r_pPart, ↓r_pEnum, ↓r_pZip, ↓r_pStr, ↓r_qExt, ↓r_qSetPop, ↓r_popW, ↓r_qPop, ↓r_qRev, ↓r_qClr, ↓r_qIns, ↓r_qFld, ↓r_pFld, ↓r_pMeth, ↓r_pMake, intsOf_map, blsOf_map, ↓r_sumG, List.map_map, Bool.not_not, ↓enumW_lst, ↓enumW_klst, ↓strW_str, ↓extW_lst, toV_str, toV_int, toV_bl, toV_non, flat_str, flat_int, flat_bl, flat_non, ne_ff, ne_tt, List.all_cons, List.all_nil, List.map_cons, List.map_nil, lz0, lz1, lz2, lz3, lz4, lz5, lz6, lz7, lz8, lz9, lz10, lz11, lz12, lz13, lz14, lz15, lz16, lw0, lw1, lw2, lw3, lw4, lw5, lw6, lw7, lw8, lw9, lw10, lw11, lw12, lw13, lw14, lw15, lw16, List.cons_append, Int.reduceToNat, Int.reducePow, Int.reduceLE, Int.reduceLT, Int.reduceNeg, Int.reduceSub, Int.reduceMul, Nat.reducePow, Nat.reduceLeDiff, Nat.reduceSub, Nat.reduceMul, atI_cast, ixN_cast, Int.zero_add, List.length_set, List.length_reverse, cutT_0, cutT_1, cutT_2, cutT_3, cutT_4, cutT_5, cutT_6, cutT_7, cutT_8, cutT_9, cutT_10, cutT_11, cutT_12, cutF_0, cutF_1, cutF_2, cutF_3, cutF_4, cutF_5, cutF_6, cutF_7, cutF_8, cutF_9, cutF_10, cutF_11, cutF_12, cutT_n, cutF_n, cut_nn, cutT_m1, List.take_succ_cons, List.take_zero, List.drop_succ_cons, List.drop_zero, Int.toNat_natCast, beq_tt, beq_ff, ↓r_pEnu, ↓r_pEnuK, ↓r_qRetF, ↓r_qRetO, ↓r_qForO, ↓r_pCallB, ↓r_pCallBN, hard_non, hard_bl, hard_int, hard_str, hard_tup, hards_nil, hards_cons, hardIn_lst, enumI_nil, enumI_cons, eq_self, ↓r_qAsg2, ↓r_qAsg3, ↓r_pChain3, intsOf_nil, intsOf_cons, blsOf_nil, blsOf_cons, ↓maxG_cons, ↓minG_cons, Option.map_some, Option.map_none, List.foldl_cons, List.foldl_nil, Int.cast_ofNat_Int, Int.reduceEq, Int.reduceNe, not_true_eq_false, not_false_eq_true, ↓r_pBM, ↓r_pBM0, ↓r_pGetK, ↓isStr_str, tyD_str, tyD_lst, tyD_klst, ↓s1W_str, ↓s0W_str, ↓joinW_str, joinD_eq, strsOf_map, strsOf_nil, strsOf_cons, ↓lcountW_lst, ↓lcountW_klst, ↓ltX_int, ↓leX_int, ↓gtX_int, ↓geX_int, ↓ltX_str, ↓ltX_tup, ↓leX_tup, ↓gtX_tup, ↓geX_tup, ↓inW_ch, ↓r_qUp, ↓r_qAppN, ↓r_qAppK, ↓r_pKid, ↓r_qSetL1, ↓r_qTupPop, ↓r_kidAt, ↓r_popK, ↓atO2_o2, ↓atKid_l, ↓strfW_int, ↓lindexW_lst, ↓lindexW_klst, ↓r_pStarA, ↓r_pLend, ↓r_tLend, ↓r_qAlias, ↓r_qSetC2, ↓ofLst_lst, ↓tupLW_lst, ↓tupsOf_map, ↓on3_3, ↓max3W_mx, ↓min3W_mx, atI_m1, List.getLast?_singleton, List.getLast?_cons_cons, ↓lenW_ktup, itemW_ktupD, asList_ktup, isNon_ktup, isK_tup, isK_lst, isK_klst, ↓gT_ktup, ↓isTW_ktup, ↓notTW_ktup, ↓inW_ktup, hard_ktup, tyN_ktup, ↓truW_ktup, ↓r_qDPut, ↓r_pDNewK, ↓r_pDNewT, ↓atOwA_ow, ↓dItemW_k, ↓dItemW_t, ↓dLookW_k, ↓dLookW_t, ↓dPutW_k, ↓dPutW_t, keyD_int, keyD_str, keysD_nil, keysD_int, keysD_str, ↓r_pRange3, ↓r_pProp, ↓r_pIsiO, ↓r_pOwnAdd, ↓r_pOwnEq, isO_ins, isO_non, isO_bl, isO_int, isO_str, isO_tup, isO_ktup, isO_lst, isO_dK, ↓r_qSetX, ↓r_qRetX, ↓r_qDropX, ↓r_qRaise, ↓r_qTryAs, ↓r_pXf, ↓r_pIsX, ↓r_qSetNn, ↓r_qRetNn, nonOr_non, nonOr_lst, onNon_non, excOr_exc, excOr_bl, excOr_int, excOr_str, excOr_non, excOr_lst, excOr_tup, isExo_exo, ↓r_pInK, ↓r_pAtK, ↓r_pRevL, ↓s3W_str, ↓revLW_lst, ↓revLW_klst, ↓mulSW_str, ↓r_nxOf, ↓r_rtOf, ↓r_nxIo, ↓r_rtIo, ↓r_nxNw, ↓r_rtNw, ↓r_rnNw, ↓r_rnOf, ↓atRf_rf, ↓r_lentNx, ↓r_lentRt, ↓r_nxX, ↓r_rtX, ↓r_xrX, ↓r_nxNn, ↓r_rtNn, ↓r_rnNn, ↓r_nxT, ↓r_rtT, ↓r_nxS, ↓r_rtS])
local macro_rules | `(tactic| walk_at "pul") => `(tactic| simp only [↓forW_nil, ↓forW_cons, ↓compW_nil, ↓compW_cons, List.cons_append, ↓r_qSeq, ↓r_qNext, ↓r_qBreak, ↓r_qCont, ↓r_qRet, ↓r_qRetN, ↓r_qSet, ↓r_qSetN, ↓r_qAsg, ↓r_qAug, ↓r_qApp, ↓r_qFrz, ↓r_qIf, ↓r_qDrop, ↓r_qSetIx, ↓r_qFor, ↓r_qWhile, ↓r_tst, ↓r_pOp, ↓r_pUn, ↓r_pC, ↓r_pVar, ↓r_pVarR, ↓r_pCall, ↓r_pCallD, ↓r_pCons, ↓r_pNil, ↓r_pAndT, ↓r_pOrT, ↓r_pNotT, ↓r_pTru, ↓r_pAnd, ↓r_pOr, ↓r_pNot, ↓r_pIf, ↓r_pIsN, ↓r_pChain, ↓r_pTup, ↓r_pLst, ↓r_pIsi, ↓r_pSeq, ↓r_pRange1, ↓r_pRange2, ↓r_pComp, ↓r_pYes, ↓r_gN, ↓r_listW, ↓r_tupleW, ↓ltW_int, ↓leW_int, ↓gtW_int, ↓geW_int, ↓subW_int, ↓fdivW_int, ↓modW_int, ↓powW_int, ↓atSh_shD, ↓atAny_shD, ↓atAny_owD, ↓atOwT_owD, ↓atOwL_owD, ↓atOwF_owD, ↓isBl_bl, ↓isInt_int, ↓isSome_someD, ↓isSome_noneD, ↓isIns_ins, ↓on1_1, ↓on2_2, ↓addW_int, ↓addW_ib, ↓addW_str, ↓addW_lst, ↓iaddW_int, ↓iaddW_str, ↓mulW_int, ↓mulW_lst, ↓eqW_int, ↓eqW_str, ↓eqW_bl, ↓eqW_nn, ↓eqW_ni, ↓eqW_in, ↓eqW_is, ↓eqW_si, ↓eqW_tt, ↓eqW_ll, ↓neW_int, ↓neW_str, ↓neW_bl, ↓neW_nn, ↓neW_ni, ↓neW_in, ↓neW_is, ↓neW_si, ↓neW_tt, ↓neW_ll, ↓negW_int, ↓absW_int, ↓intfW_int, ↓intfW_bl, ↓lenW_str, ↓lenW_lst, ↓lenW_klst, ↓lenW_tup, ↓max2W_mx, ↓min2W_mn, itemW_lstD, itemW_klstD, itemW_tupD, itemW_strD, asList_lst, asList_klst, asList_tup, tyN_non, tyN_bl, tyN_int, tyN_str, tyN_tup, tyN_lst, tyN_dK, tyN_dT, ↓truW_non, ↓truW_bl, ↓truW_int, ↓truW_str, ↓truW_lst, ↓truW_klst, ↓truW_tup, isNon_non, isNon_bl, isNon_int, isNon_str, isNon_tup, isNon_lst, isNon_klst, isNon_ins, isNon_dK, ↓gT_tup, ↓gConsP_cons, ↓gNilP_nil, wipeE_nil, wipeE_cons, atI_0, atI_1, atI_2, atI_3, atI_4, atI_5, atI_6, atI_7, atI_8, atI_9, ixN_0, ixN_1, ixN_2, ixN_3, ixN_4, List.getElem?_cons_zero, List.getElem?_cons_succ, List.getElem?_nil, List.set_cons_zero, List.set_cons_succ, List.length_cons, List.length_nil, List.length_map, Nat.reduceAdd, Int.reduceAdd, Nat.reduceLT, Nat.lt_irrefl, List.append_nil, List.nil_append, decide_eq_true_eq, decide_eq_false_iff_not, Bool.not_eq_true', Bool.not_true, Bool.not_false, ite_true, ite_false, if_true, if_false, Bool.false_eq_true, Bool.true_eq_false, ↓reduceIte, and_true, true_and, subT, String.reduceEq, decide_true, decide_false, Bool.or_false, Bool.false_or, Bool.or_true, Bool.true_or, Bool.and_true, Bool.and_false, Bool.true_and, Bool.false_and, Bool.or_self, Bool.and_self, ↓notTW_bl, ↓notTW_non, ↓notTW_int, ↓notTW_str, ↓notTW_tup, ↓notTW_lst, ↓notTW_klst, ↓isTW_bl, ↓isTW_non, ↓isTW_int, ↓isTW_str, ↓isTW_tup, ↓isTW_lst, ↓isTW_klst, ↓addW_tup, ↓inW_tup, ↓inW_lst, ↓inW_klst, ↓intLW_lst, ↓intLW_klst, ↓blLW_lst, ↓sliceW_lst, ↓sliceW_klst, ↓sliceW_tup, ↓sliceW_str, ↓sliceF_lst, ↓sliceF_klst, ↓catF_lst, ↓atIo_ow, asL_lst, asL_klst, ↓r_pUnD, ↓r_pSlice, ↓r_pNoPart, ↓r_pPart, ↓r_pEnum, ↓r_pZip, ↓r_pStr, ↓r_qExt, ↓r_qSetPop, ↓r_popW, ↓r_qPop, ↓r_qRev, ↓r_qClr, ↓r_qIns, ↓r_qFld, ↓r_pFld, ↓r_pMeth, ↓r_pMake, intsOf_map, blsOf_map, ↓r_sumG, List.map_map, Bool.not_not, ↓enumW_lst, ↓enumW_klst, ↓strW_str, ↓extW_lst, toV_str, toV_int, toV_bl, toV_non, flat_str, flat_int, flat_bl, flat_non, ne_ff, ne_tt, List.all_cons, List.all_nil, List.map_cons, List.map_nil, lz0, lz1, lz2, lz3, lz4, lz5, lz6, lz7, lz8, lz9, lz10, lz11, lz12, lz13, lz14, lz15, lz16, lw0, lw1, lw2, lw3, lw4, lw5, lw6, lw7, lw8, lw9, lw10, lw11, lw12, lw13, lw14, lw15, lw16, List.cons_append, Int.reduceToNat, Int.reducePow, Int.reduceLE, Int.reduceLT, Int.reduceNeg, Int.reduceSub, Int.reduceMul, Nat.reducePow, Nat.reduceLeDiff, Nat.reduceSub, Nat.reduceMul, atI_cast, ixN_cast, Int.zero_add, List.length_set, List.length_reverse, cutT_0, cutT_1, cutT_2, cutT_3, cutT_4, cutT_5, cutT_6, cutT_7, cutT_8, cutT_9, cutT_10, cutT_11, cutT_12, cutF_0, cutF_1, cutF_2, cutF_3, cutF_4, cutF_5, cutF_6, cutF_7, cutF_8, cutF_9, cutF_10, cutF_11, cutF_12, cutT_n, cutF_n, cut_nn, cutT_m1, List.take_succ_cons, List.take_zero, List.drop_succ_cons, List.drop_zero, Int.toNat_natCast, beq_tt, beq_ff, ↓r_pEnu, ↓r_pEnuK, ↓r_qRetF, ↓r_qRetO, ↓r_qForO, ↓r_pCallB, ↓r_pCallBN, hard_non, hard_bl, hard_int, hard_str, hard_tup, hards_nil, hards_cons, hardIn_lst, enumI_nil, enumI_cons, eq_self, ↓r_qAsg2, ↓r_qAsg3, ↓r_pChain3, intsOf_nil, intsOf_cons, blsOf_nil, blsOf_cons, ↓maxG_cons, ↓minG_cons, Option.map_some, Option.map_none, List.foldl_cons, List.foldl_nil, Int.cast_ofNat_Int, Int.reduceEq, Int.reduceNe, not_true_eq_false, not_false_eq_true, ↓r_pBM, ↓r_pBM0, ↓r_pGetK, ↓isStr_str, tyD_str, tyD_lst, tyD_klst, ↓s1W_str, ↓s0W_str, ↓joinW_str, joinD_eq, strsOf_map, strsOf_nil, strsOf_cons, ↓lcountW_lst, ↓lcountW_klst, ↓ltX_int, ↓leX_int, ↓gtX_int, ↓geX_int, ↓ltX_str, ↓ltX_tup, ↓leX_tup, ↓gtX_tup, ↓geX_tup, ↓inW_ch, ↓r_qUp, ↓r_qAppN, ↓r_qAppK, ↓r_pKid, ↓r_qSetL1, ↓r_qTupPop, ↓r_kidAt, ↓r_popK, ↓atO2_o2, ↓atKid_l, ↓strfW_int, ↓lindexW_lst, ↓lindexW_klst, ↓r_pStarA, ↓r_pLend, ↓r_tLend, ↓r_qAlias, ↓r_qSetC2, ↓ofLst_lst, ↓tupLW_lst, ↓tupsOf_map, ↓on3_3, ↓max3W_mx, ↓min3W_mx, atI_m1, List.getLast?_singleton, List.getLast?_cons_cons, ↓lenW_ktup, itemW_ktupD, asList_ktup, isNon_ktup, isK_tup, isK_lst, isK_klst, ↓gT_ktup, ↓isTW_ktup, ↓notTW_ktup, ↓inW_ktup, hard_ktup, tyN_ktup, ↓truW_ktup, ↓r_qDPut, ↓r_pDNewK, ↓r_pDNewT, ↓atOwA_ow, ↓dItemW_k, ↓dItemW_t, ↓dLookW_k, ↓dLookW_t, ↓dPutW_k, ↓dPutW_t, keyD_int, keyD_str, keysD_nil, keysD_int, keysD_str, ↓r_pRange3, ↓r_pProp, ↓r_pIsiO, ↓r_pOwnAdd, ↓r_pOwnEq, isO_ins, isO_non, isO_bl, isO_int, isO_str, isO_tup, isO_ktup, isO_lst, isO_dK, ↓r_qSetX, ↓r_qRetX, ↓r_qDropX, ↓r_qRaise, ↓r_qTryAs, ↓r_pXf, ↓r_pIsX, ↓r_qSetNn, ↓r_qRetNn, nonOr_non, nonOr_lst, onNon_non, excOr_exc, excOr_bl, excOr_int, excOr_str, excOr_non, excOr_lst, excOr_tup, isExo_exo, ↓r_pInK, ↓r_pAtK, ↓r_pRevL, ↓s3W_str, ↓revLW_lst, ↓revLW_klst, ↓mulSW_str, ↓r_nxOf, ↓r_rtOf, ↓r_nxIo, ↓r_rtIo, ↓r_nxNw, ↓r_rtNw, ↓r_rnNw, ↓r_rnOf, ↓atRf_rf, ↓r_lentNx, ↓r_lentRt, ↓r_nxX, ↓r_rtX, ↓r_xrX, ↓r_nxNn, ↓r_rtNn, ↓r_rnNn, ↓r_nxT, ↓r_rtT, ↓r_nxS, ↓r_rtS])
/-! ### the laws' small helpers -/
abbrev N_rare : List Str := ["pool", "many"]
def q_rare : PTS := qRet (pOp eqW (pCallD drawC [] (pCons (pVar 0) (pCons (pVar 1) pNil))) (pOp subW (pVarR 1) (pC (.int 1))))
theorem st_rare (d0 d1 : D) : startE N_rare [d0, d1] = [some (.sh d0), some (.sh d1)] := rfl
theorem len_rare (ds : List D) (R : DK) (h : c_rare ds R) : ds.length = 2 := by
  obtain ⟨_, rfl, _⟩ := h; rfl
theorem pure_rare (ds : List D) (R : DK) (h : c_rare ds R) : q_rare (endOf R) (startE N_rare ds) := by
  obtain ⟨m, rfl, h0, h1, h⟩ := h
  rw [st_rare]
  unfold q_rare
  walk_at "pu"
  refine drawI h0 h1 fun r r0 r1 => ?_
  walk_at "pu"
  exact h _
abbrev N_few : List Str := ["pool", "usual", "most"]
def q_few : PTS := qSeq (qIf (pTru (pCallD c_rare [] (pCons (pVar 0) (pCons (pC (.int 12)) pNil)))) (qRet (pCallD drawC [] (pCons (pVar 0) (pCons (pOp addW (pVarR 2) (pC (.int 1))) pNil)))) (qNext))
  (qRet (pCallD drawC [] (pCons (pVar 0) (pCons (pOp addW (pVarR 1) (pC (.int 1))) pNil))))
theorem st_few (d0 d1 d2 : D) : startE N_few [d0, d1, d2] = [some (.sh d0), some (.sh d1), some (.sh d2)] := rfl
theorem len_few (ds : List D) (R : DK) (h : c_few ds R) : ds.length = 3 := by
  obtain ⟨_, _, rfl, _⟩ := h; rfl
theorem pure_few (ds : List D) (R : DK) (h : c_few ds R) : q_few (endOf R) (startE N_few ds) := by
  obtain ⟨u, m, rfl, h0, h1, h2, h3, h⟩ := h
  rw [st_few]
  unfold q_few
  walk_at "pu"
  refine ⟨12, rfl, by decide, by decide, fun b => ?_⟩
  walk_at "pu"
  split
  · exact drawI (by omega) (log_lt (n := 61) (by omega) (by omega)) fun r r0 r1 => h r r0 (.inr (by omega))
  · exact drawI (by omega) (log_lt (n := 61) (by omega) (by omega)) fun r r0 r1 => h r r0 (.inl (by omega))
abbrev N_pick : List Str := ["pool", "row"]
def q_pick : PTS := qRet (pOp itemW (pVarR 1) (pCallD drawC [] (pCons (pVar 0) (pCons (pCall (on1 lenW) (pCons (pVarR 1) pNil)) pNil))))
theorem st_pick (d0 d1 : D) : startE N_pick [d0, d1] = [some (.sh d0), some (.sh d1)] := rfl
theorem len_pick (ds : List D) (R : DK) (h : c_pick ds R) : ds.length = 2 := by
  obtain ⟨_, _, rfl, _⟩ := h; rfl
theorem pick_at {α : Type} {es : List α} {r : Int} {P : α → Prop} (r0 : 0 ≤ r) (r1 : r < es.length) (h : ∀ x ∈ es, P x) : isSome P (atI es r) := by
  rw [atI_of r0]
  have hl : r.toNat < es.length := by omega
  rw [List.getElem?_eq_getElem hl]
  exact h _ (List.getElem_mem hl)
theorem pure_pick (ds : List D) (R : DK) (h : c_pick ds R) : q_pick (endOf R) (startE N_pick ds) := by
  obtain ⟨d, es, rfl, e, hne, hl, h⟩ := h
  rw [st_pick]
  unfold q_pick
  have hp : 0 < es.length := List.length_pos_iff.mpr hne
  cases d with
  | tup xs =>
    cases e
    walk_at "pu"
    refine drawI (by omega) (log_lt (n := 60) (by omega) (by omega)) fun r r0 r1 => ?_
    walk_at "pu"
    exact pick_at r0 r1 h
  | lst xs =>
    cases e
    walk_at "pu"
    refine drawI (by omega) (log_lt (n := 60) (by omega) (by omega)) fun r r0 r1 => ?_
    walk_at "pu"
    exact pick_at r0 r1 h
  | klst xs =>
    cases e
    walk_at "pu"
    refine drawI (by omega) (log_lt (n := 60) (by omega) (by omega)) fun r r0 r1 => ?_
    walk_at "pu"
    exact pick_at r0 r1 h
  | str z =>
    have e : (if z.length ≤ sizeLine then some (signsD z) else none) = some es := e
    split at e
    · rename_i zl
      cases e
      have hz : z.cps.toList.length = z.length := Array.length_toList
      have hs : (signsD z).length = z.length := by unfold signsD; rw [List.length_map, hz]
      rw [hs] at hp
      walk_at "pu"
      refine ⟨zl, ?_⟩
      refine drawI (by omega) (log_lt (n := 60) (by omega) (by rw [sizeLine_eq] at zl; omega)) fun r r0 r1 => ?_
      walk_at "pu"
      refine ⟨zl, ?_⟩
      have hl : r.toNat < z.cps.toList.length := by omega
      rw [atI_of r0, List.getElem?_eq_getElem hl]
      exact h _ (by unfold signsD; exact List.mem_map_of_mem (List.getElem_mem hl))
    · cases e
  | _ => cases e
theorem pickS {z : Str} {P : DK} (h0 : 0 < z.length) (hl : z.length ≤ 1000) (h : ∀ c : Nat, P (.str ⟨#[c]⟩)) : c_pick [.pool, .str z] P := by
  have hz : z.cps.toList.length = z.length := Array.length_toList
  have hs : (signsD z).length = z.length := by unfold signsD; rw [List.length_map, hz]
  refine ⟨.str z, signsD z, rfl, if_pos (lsz (by omega)), fun w => by rw [w] at hs; simp at hs; omega, by omega, fun x hx => ?_⟩
  obtain ⟨c, _, rfl⟩ := List.mem_map.mp hx
  exact h c
end Pu
namespace Pu
open PySem PySem.Spec L2
local macro_rules | `(tactic| walk_at "pu") => `(tactic| simp only [↓r_qSeq, ↓r_qNext, ↓r_qBreak, ↓r_qCont, ↓r_qRet, ↓r_qRetN, ↓r_qSet, ↓r_qSetN, ↓r_qAsg, ↓r_qAug, ↓r_qApp, ↓r_qFrz, ↓r_qIf, ↓r_qDrop, ↓r_qSetIx, ↓r_qFor, ↓r_qWhile, ↓r_tst, ↓r_pOp, ↓r_pUn, ↓r_pC, ↓r_pVar, ↓r_pVarR, ↓r_pCall, ↓r_pCallD, ↓r_pCons, ↓r_pNil, ↓r_pAndT, ↓r_pOrT, ↓r_pNotT, ↓r_pTru, ↓r_pAnd, ↓r_pOr, ↓r_pNot, ↓r_pIf, ↓r_pIsN, ↓r_pChain, ↓r_pTup, ↓r_pLst, ↓r_pIsi, ↓r_pSeq, ↓r_pRange1, ↓r_pRange2, ↓r_pComp, ↓r_pYes, ↓r_gN, ↓r_listW, ↓r_tupleW, ↓ltW_int, ↓leW_int, ↓gtW_int, ↓geW_int, ↓subW_int, ↓fdivW_int, ↓modW_int, ↓powW_int, ↓atSh_shD, ↓atAny_shD, ↓atAny_owD, ↓atOwT_owD, ↓atOwL_owD, ↓atOwF_owD, ↓isBl_bl, ↓isInt_int, ↓isSome_someD, ↓isSome_noneD, ↓isIns_ins, ↓on1_1, ↓on2_2, ↓addW_int, ↓addW_ib, ↓addW_str, ↓addW_lst, ↓iaddW_int, ↓iaddW_str, ↓mulW_int, ↓mulW_lst, ↓eqW_int, ↓eqW_str, ↓eqW_bl, ↓eqW_nn, ↓eqW_ni, ↓eqW_in, ↓eqW_is, ↓eqW_si, ↓eqW_tt, ↓eqW_ll, ↓neW_int, ↓neW_str, ↓neW_bl, ↓neW_nn, ↓neW_ni, ↓neW_in, ↓neW_is, ↓neW_si, ↓neW_tt, ↓neW_ll, ↓negW_int, ↓absW_int, ↓intfW_int, ↓intfW_bl, ↓lenW_str, ↓lenW_lst, ↓lenW_klst, ↓lenW_tup, ↓max2W_mx, ↓min2W_mn, itemW_lstD, itemW_klstD, itemW_tupD, itemW_strD, asList_lst, asList_klst, asList_tup, tyN_non, tyN_bl, tyN_int, tyN_str, tyN_tup, tyN_lst, tyN_dK, tyN_dT, ↓truW_non, ↓truW_bl, ↓truW_int, ↓truW_str, ↓truW_lst, ↓truW_klst, ↓truW_tup, isNon_non, isNon_bl, isNon_int, isNon_str, isNon_tup, isNon_lst, isNon_klst, isNon_ins, isNon_dK, ↓gT_tup, ↓gConsP_cons, ↓gNilP_nil, wipeE_nil, wipeE_cons, atI_0, atI_1, atI_2, atI_3, atI_4, atI_5, atI_6, atI_7, atI_8, atI_9, ixN_0, ixN_1, ixN_2, ixN_3, ixN_4, List.getElem?_cons_zero, List.getElem?_cons_succ, List.getElem?_nil, List.set_cons_zero, List.set_cons_succ, List.length_cons, List.length_nil, List.length_map, Nat.reduceAdd, Int.reduceAdd, Nat.reduceLT, Nat.lt_irrefl, List.append_nil, List.nil_append, decide_eq_true_eq, decide_eq_false_iff_not, Bool.not_eq_true', Bool.not_true, Bool.not_false, ite_true, ite_false, if_true, if_false, Bool.false_eq_true, Bool.true_eq_false, ↓reduceIte, and_true, true_and, subT, String.reduceEq, decide_true, decide_false, Bool.or_false, Bool.false_or, Bool.or_true, Bool.true_or, Bool.and_true, Bool.and_false, Bool.true_and, Bool.false_and, Bool.or_self, Bool.and_self, ↓notTW_bl, ↓notTW_non, ↓notTW_int, ↓notTW_str, ↓notTW_tup, ↓notTW_lst, ↓notTW_klst, ↓isTW_bl, ↓isTW_non, ↓isTW_int, ↓isTW_str, ↓isTW_tup, ↓isTW_lst, ↓isTW_klst, ↓addW_tup, ↓inW_tup, ↓inW_lst, ↓inW_klst, ↓intLW_lst, ↓intLW_klst, ↓blLW_lst, ↓sliceW_lst, ↓sliceW_klst, ↓sliceW_tup, ↓sliceW_str, ↓sliceF_lst, ↓sliceF_klst, ↓catF_lst, ↓atIo_ow, asL_lst, asL_klst, ↓r_pUnD, ↓r_pSlice, ↓r_pNoPart, ↓r_pPart, ↓r_pEnum, ↓r_pZip, ↓r_pStr, ↓r_qExt, ↓r_qSetPop, ↓r_popW, ↓r_qPop, ↓r_qRev, ↓r_qClr, ↓r_qIns, ↓r_qFld, ↓r_pFld, ↓r_pMeth, ↓r_pMake, intsOf_map, blsOf_map, ↓r_sumG, List.map_map, Bool.not_not, ↓enumW_lst, ↓enumW_klst, ↓strW_str, ↓extW_lst, toV_str, toV_int, toV_bl, toV_non, flat_str, flat_int, flat_bl, flat_non, ne_ff, ne_tt, List.all_cons, List.all_nil, List.map_cons, List.map_nil, lz0, lz1, lz2, lz3, lz4, lz5, lz6, lz7, lz8, lz9, lz10, lz11, lz12, lz13, lz14, lz15, lz16, lw0, lw1, lw2, lw3, lw4, lw5, lw6, lw7, lw8, lw9, lw10, lw11, lw12, lw13, lw14, lw15, lw16, List.cons_append, Int.reduceToNat, Int.reducePow, Int.reduceLE, Int.reduceLT, Int.reduceNeg, Int.reduceSub, Int.reduceMul, Nat.reducePow, Nat.reduceLeDiff, Nat.reduceSub, Nat.reduceMul, atI_cast, ixN_cast, Int.zero_add, List.length_set, List.length_reverse, cutT_0, cutT_1, cutT_2, cutT_3, cutT_4, cutT_5, cutT_6, cutT_7, cutT_8, cutT_9, cutT_10, cutT_11, cutT_12, cutF_0, cutF_1, cutF_2, cutF_3, cutF_4, cutF_5, cutF_6, cutF_7, cutF_8, cutF_9, cutF_10, cutF_11, cutF_12, cutT_n, cutF_n, cut_nn, cutT_m1, List.take_succ_cons, List.take_zero, List.drop_succ_cons, List.drop_zero, Int.toNat_natCast, beq_tt, beq_ff, ↓r_pEnu, ↓r_pEnuK, ↓r_qRetF, ↓r_qRetO, ↓r_qForO, ↓r_pCallB, ↓r_pCallBN, hard_non, hard_bl, hard_int, hard_str, hard_tup, hards_nil, hards_cons, hardIn_lst, enumI_nil, enumI_cons, eq_self, ↓r_qAsg2, ↓r_qAsg3, ↓r_pChain3, intsOf_nil, intsOf_cons, blsOf_nil, blsOf_cons, ↓maxG_cons, ↓minG_cons, Option.map_some, Option.map_none, List.foldl_cons, List.foldl_nil, Int.cast_ofNat_Int, Int.reduceEq, Int.reduceNe, not_true_eq_false, not_false_eq_true, ↓r_pBM, ↓r_pBM0, ↓r_pGetK, ↓isStr_str, tyD_str, tyD_lst, tyD_klst, ↓s1W_str, ↓s0W_str, ↓joinW_str, joinD_eq, strsOf_map, strsOf_nil, strsOf_cons, ↓lcountW_lst, ↓lcountW_klst, ↓ltX_int, ↓leX_int, ↓gtX_int, ↓geX_int, ↓ltX_str, ↓ltX_tup, ↓leX_tup, ↓gtX_tup, ↓geX_tup, ↓inW_ch, ↓r_qUp, ↓r_qAppN, ↓r_qAppK, ↓r_pKid, ↓r_qSetL1, ↓r_qTupPop, ↓r_kidAt, ↓r_popK, ↓atO2_o2, ↓atKid_l, ↓strfW_int, ↓lindexW_lst, ↓lindexW_klst, ↓r_pStarA, ↓r_pLend, ↓r_tLend, ↓r_qAlias, ↓r_qSetC2, ↓ofLst_lst, ↓tupLW_lst, ↓tupsOf_map, ↓on3_3, ↓max3W_mx, ↓min3W_mx, atI_m1, List.getLast?_singleton, List.getLast?_cons_cons, ↓lenW_ktup, itemW_ktupD, asList_ktup, isNon_ktup, isK_tup, isK_lst, isK_klst, ↓gT_ktup, ↓isTW_ktup, ↓notTW_ktup, ↓inW_ktup, hard_ktup, tyN_ktup, ↓truW_ktup, ↓r_qDPut, ↓r_pDNewK, ↓r_pDNewT, ↓atOwA_ow, ↓dItemW_k, ↓dItemW_t, ↓dLookW_k, ↓dLookW_t, ↓dPutW_k, ↓dPutW_t, keyD_int, keyD_str, keysD_nil, keysD_int, keysD_str, ↓r_pRange3, ↓r_pProp, ↓r_pIsiO, ↓r_pOwnAdd, ↓r_pOwnEq, isO_ins, isO_non, isO_bl, isO_int, isO_str, isO_tup, isO_ktup, isO_lst, isO_dK, ↓r_qSetX, ↓r_qRetX, ↓r_qDropX, ↓r_qRaise, ↓r_qTryAs, ↓r_pXf, ↓r_pIsX, ↓r_qSetNn, ↓r_qRetNn, nonOr_non, nonOr_lst, onNon_non, excOr_exc, excOr_bl, excOr_int, excOr_str, excOr_non, excOr_lst, excOr_tup, isExo_exo, ↓r_pInK, ↓r_pAtK, ↓r_pRevL, ↓s3W_str, ↓revLW_lst, ↓revLW_klst, ↓mulSW_str, ↓r_nxOf, ↓r_rtOf, ↓r_nxIo, ↓r_rtIo, ↓r_nxNw, ↓r_rtNw, ↓r_rnNw, ↓r_rnOf, ↓atRf_rf, ↓r_lentNx, ↓r_lentRt, ↓r_nxX, ↓r_rtX, ↓r_xrX, ↓r_nxNn, ↓r_rtNn, ↓r_rnNn, ↓r_nxT, ↓r_rtT, ↓r_nxS, ↓r_rtS])
local macro_rules | `(tactic| walk_at "pul") => `(tactic| simp only [↓forW_nil, ↓forW_cons, ↓compW_nil, ↓compW_cons, List.cons_append, ↓r_qSeq, ↓r_qNext, ↓r_qBreak, ↓r_qCont, ↓r_qRet, ↓r_qRetN, ↓r_qSet, ↓r_qSetN, ↓r_qAsg, ↓r_qAug, ↓r_qApp, ↓r_qFrz, ↓r_qIf, ↓r_qDrop, ↓r_qSetIx, ↓r_qFor, ↓r_qWhile, ↓r_tst, ↓r_pOp, ↓r_pUn, ↓r_pC, ↓r_pVar, ↓r_pVarR, ↓r_pCall, ↓r_pCallD, ↓r_pCons, ↓r_pNil, ↓r_pAndT, ↓r_pOrT, ↓r_pNotT, ↓r_pTru, ↓r_pAnd, ↓r_pOr, ↓r_pNot, ↓r_pIf, ↓r_pIsN, ↓r_pChain, ↓r_pTup, ↓r_pLst, ↓r_pIsi, ↓r_pSeq, ↓r_pRange1, ↓r_pRange2, ↓r_pComp, ↓r_pYes, ↓r_gN, ↓r_listW, ↓r_tupleW, ↓ltW_int, ↓leW_int, ↓gtW_int, ↓geW_int, ↓subW_int, ↓fdivW_int, ↓modW_int, ↓powW_int, ↓atSh_shD, ↓atAny_shD, ↓atAny_owD, ↓atOwT_owD, ↓atOwL_owD, ↓atOwF_owD, ↓isBl_bl, ↓isInt_int, ↓isSome_someD, ↓isSome_noneD, ↓isIns_ins, ↓on1_1, ↓on2_2, ↓addW_int, ↓addW_ib, ↓addW_str, ↓addW_lst, ↓iaddW_int, ↓iaddW_str, ↓mulW_int, ↓mulW_lst, ↓eqW_int, ↓eqW_str, ↓eqW_bl, ↓eqW_nn, ↓eqW_ni, ↓eqW_in, ↓eqW_is, ↓eqW_si, ↓eqW_tt, ↓eqW_ll, ↓neW_int, ↓neW_str, ↓neW_bl, ↓neW_nn, ↓neW_ni, ↓neW_in, ↓neW_is, ↓neW_si, ↓neW_tt, ↓neW_ll, ↓negW_int, ↓absW_int, ↓intfW_int, ↓intfW_bl, ↓lenW_str, ↓lenW_lst, ↓lenW_klst, ↓lenW_tup, ↓max2W_mx, ↓min2W_mn, itemW_lstD, itemW_klstD, itemW_tupD, itemW_strD, asList_lst, asList_klst, asList_tup, tyN_non, tyN_bl, tyN_int, tyN_str, tyN_tup, tyN_lst, tyN_dK, tyN_dT, ↓truW_non, ↓truW_bl, ↓truW_int, ↓truW_str, ↓truW_lst, ↓truW_klst, ↓truW_tup, isNon_non, isNon_bl, isNon_int, isNon_str, isNon_tup, isNon_lst, isNon_klst, isNon_ins, isNon_dK, ↓gT_tup, ↓gConsP_cons, ↓gNilP_nil, wipeE_nil, wipeE_cons, atI_0, atI_1, atI_2, atI_3, atI_4, atI_5, atI_6, atI_7, atI_8, atI_9, ixN_0, ixN_1, ixN_2, ixN_3, ixN_4, List.getElem?_cons_zero, List.getElem?_cons_succ, List.getElem?_nil, List.set_cons_zero, List.set_cons_succ, List.length_cons, List.length_nil, List.length_map, Nat.reduceAdd, Int.reduceAdd, Nat.reduceLT, Nat.lt_irrefl, List.append_nil, List.nil_append, decide_eq_true_eq, decide_eq_false_iff_not, Bool.not_eq_true', Bool.not_true, Bool.not_false, ite_true, ite_false, if_true, if_false, Bool.false_eq_true, Bool.true_eq_false, ↓reduceIte, and_true, true_and, subT, String.reduceEq, decide_true, decide_false, Bool.or_false, Bool.false_or, Bool.or_true, Bool.true_or, Bool.and_true, Bool.and_false, Bool.true_and, Bool.false_and, Bool.or_self, Bool.and_self, ↓notTW_bl, ↓notTW_non, ↓notTW_int, ↓notTW_str, ↓notTW_tup, ↓notTW_lst, ↓notTW_klst, ↓isTW_bl, ↓isTW_non, ↓isTW_int, ↓isTW_str, ↓isTW_tup, ↓isTW_lst, ↓isTW_klst, ↓addW_tup, ↓inW_tup, ↓inW_lst, ↓inW_klst, ↓intLW_lst, ↓intLW_klst, ↓blLW_lst, ↓sliceW_lst, ↓sliceW_klst, ↓sliceW_tup, ↓sliceW_str, ↓sliceF_lst, ↓sliceF_klst, ↓catF_lst, ↓atIo_ow, asL_lst, asL_klst, ↓r_pUnD, ↓r_pSlice, ↓r_pNoPart, ↓r_pPart, ↓r_pEnum, ↓r_pZip, ↓r_pStr, ↓r_qExt, ↓r_qSetPop, ↓r_popW, ↓r_qPop, ↓r_qRev, ↓r_qClr, ↓r_qIns, ↓r_qFld, ↓r_pFld, ↓r_pMeth, ↓r_pMake, intsOf_map, blsOf_map, ↓r_sumG, List.map_map, Bool.not_not, ↓enumW_lst, ↓enumW_klst, ↓strW_str, ↓extW_lst, toV_str, toV_int, toV_bl, toV_non, flat_str, flat_int, flat_bl, flat_non, ne_ff, ne_tt, List.all_cons, List.all_nil, List.map_cons, List.map_nil, lz0, lz1, lz2, lz3, lz4, lz5, lz6, lz7, lz8, lz9, lz10, lz11, lz12, lz13, lz14, lz15, lz16, lw0, lw1, lw2, lw3, lw4, lw5, lw6, lw7, lw8, lw9, lw10, lw11, lw12, lw13, lw14, lw15, lw16, List.cons_append, Int.reduceToNat, Int.reducePow, Int.reduceLE, Int.reduceLT, Int.reduceNeg, Int.reduceSub, Int.reduceMul, Nat.reducePow, Nat.reduceLeDiff, Nat.reduceSub, Nat.reduceMul, atI_cast, ixN_cast, Int.zero_add, List.length_set, List.length_reverse, cutT_0, cutT_1, cutT_2, cutT_3, cutT_4, cutT_5, cutT_6, cutT_7, cutT_8, cutT_9, cutT_10, cutT_11, cutT_12, cutF_0, cutF_1, cutF_2, cutF_3, cutF_4, cutF_5, cutF_6, cutF_7, cutF_8, cutF_9, cutF_10, cutF_11, cutF_12, cutT_n, cutF_n, cut_nn, cutT_m1, List.take_succ_cons, List.take_zero, List.drop_succ_cons, List.drop_zero, Int.toNat_natCast, beq_tt, beq_ff, ↓r_pEnu, ↓r_pEnuK, ↓r_qRetF, ↓r_qRetO, ↓r_qForO, ↓r_pCallB, ↓r_pCallBN, hard_non, hard_bl, hard_int, hard_str, hard_tup, hards_nil, hards_cons, hardIn_lst, enumI_nil, enumI_cons, eq_self, ↓r_qAsg2, ↓r_qAsg3, ↓r_pChain3, intsOf_nil, intsOf_cons, blsOf_nil, blsOf_cons, ↓maxG_cons, ↓minG_cons, Option.map_some, Option.map_none, List.foldl_cons, List.foldl_nil, Int.cast_ofNat_Int, Int.reduceEq, Int.reduceNe, not_true_eq_false, not_false_eq_true, ↓r_pBM, ↓r_pBM0, ↓r_pGetK, ↓isStr_str, tyD_str, tyD_lst, tyD_klst, ↓s1W_str, ↓s0W_str, ↓joinW_str, joinD_eq, strsOf_map, strsOf_nil, strsOf_cons, ↓lcountW_lst, ↓lcountW_klst, ↓ltX_int, ↓leX_int, ↓gtX_int, ↓geX_int, ↓ltX_str, ↓ltX_tup, ↓leX_tup, ↓gtX_tup, ↓geX_tup, ↓inW_ch, ↓r_qUp, ↓r_qAppN, ↓r_qAppK, ↓r_pKid, ↓r_qSetL1, ↓r_qTupPop, ↓r_kidAt, ↓r_popK, ↓atO2_o2, ↓atKid_l, ↓strfW_int, ↓lindexW_lst, ↓lindexW_klst, ↓r_pStarA, ↓r_pLend, ↓r_tLend, ↓r_qAlias, ↓r_qSetC2, ↓ofLst_lst, ↓tupLW_lst, ↓tupsOf_map, ↓on3_3, ↓max3W_mx, ↓min3W_mx, atI_m1, List.getLast?_singleton, List.getLast?_cons_cons, ↓lenW_ktup, itemW_ktupD, asList_ktup, isNon_ktup, isK_tup, isK_lst, isK_klst, ↓gT_ktup, ↓isTW_ktup, ↓notTW_ktup, ↓inW_ktup, hard_ktup, tyN_ktup, ↓truW_ktup, ↓r_qDPut, ↓r_pDNewK, ↓r_pDNewT, ↓atOwA_ow, ↓dItemW_k, ↓dItemW_t, ↓dLookW_k, ↓dLookW_t, ↓dPutW_k, ↓dPutW_t, keyD_int, keyD_str, keysD_nil, keysD_int, keysD_str, ↓r_pRange3, ↓r_pProp, ↓r_pIsiO, ↓r_pOwnAdd, ↓r_pOwnEq, isO_ins, isO_non, isO_bl, isO_int, isO_str, isO_tup, isO_ktup, isO_lst, isO_dK, ↓r_qSetX, ↓r_qRetX, ↓r_qDropX, ↓r_qRaise, ↓r_qTryAs, ↓r_pXf, ↓r_pIsX, ↓r_qSetNn, ↓r_qRetNn, nonOr_non, nonOr_lst, onNon_non, excOr_exc, excOr_bl, excOr_int, excOr_str, excOr_non, excOr_lst, excOr_tup, isExo_exo, ↓r_pInK, ↓r_pAtK, ↓r_pRevL, ↓s3W_str, ↓revLW_lst, ↓revLW_klst, ↓mulSW_str, ↓r_nxOf, ↓r_rtOf, ↓r_nxIo, ↓r_rtIo, ↓r_nxNw, ↓r_rtNw, ↓r_rnNw, ↓r_rnOf, ↓atRf_rf, ↓r_lentNx, ↓r_lentRt, ↓r_nxX, ↓r_rtX, ↓r_xrX, ↓r_nxNn, ↓r_rtNn, ↓r_rnNn, ↓r_nxT, ↓r_rtT, ↓r_nxS, ↓r_rtS])
/-! ### _law_same -/
/-- data, less than n levels deep, no row too long -/
def sm : Nat → D → Prop
  | 0, _ => False
  | _ + 1, .non => True
  | _ + 1, .bl _ => True
  | _ + 1, .int _ => True
  | _ + 1, .str _ => True
  | n + 1, .tup ds => ds.length < 2 ^ 60 ∧ ∀ x, x ∈ ds → sm n x
  | n + 1, .lst ds => ds.length < 2 ^ 60 ∧ ∀ x, x ∈ ds → sm n x
  | _ + 1, _ => False
def same : Nat → D → D → Prop
  | 0, _, _ => False
  | n + 1, got, .tup es => ∃ ds, got = .tup ds ∧ ds.length = es.length ∧ ∀ (i : Nat) (x y : D), ds[i]? = some x → es[i]? = some y → same n x y
  | n + 1, got, .lst es => ∃ ds, got = .lst ds ∧ ds.length = es.length ∧ ∀ (i : Nat) (x y : D), ds[i]? = some x → es[i]? = some y → same n x y
  | _ + 1, got, due => got = due
theorem same_refl : ∀ {n : Nat} {d : D}, sm n d → same n d d
  | 0, _, h => h.elim
  | n + 1, .non, _ => rfl
  | n + 1, .bl _, _ => rfl
  | n + 1, .int _, _ => rfl
  | n + 1, .str _, _ => rfl
  | n + 1, .tup ds, h => ⟨ds, rfl, rfl, fun i x y h1 h2 => by rw [h1] at h2; cases h2; exact same_refl (h.2 x (List.mem_of_getElem? h1))⟩
  | n + 1, .lst ds, h => ⟨ds, rfl, rfl, fun i x y h1 h2 => by rw [h1] at h2; cases h2; exact same_refl (h.2 x (List.mem_of_getElem? h1))⟩
  | n + 1, .klst _, h => h.elim
  | n + 1, .dK _ _, h => h.elim
  | n + 1, .dT _ _, h => h.elim
  | n + 1, .ins _ _ _, h => h.elim
  | n + 1, .pool, h => h.elim
  | n + 1, .rf _, h => h.elim
def c_same (n : Nat) : Pr := fun ds P => ∃ got due, ds = [got, due] ∧ sm n got ∧ sm n due ∧ ∀ r : Bool, (r = true ↔ same n got due) → P (.bl r)
abbrev N_same : List Str := ["got", "due", "k"]
def b_same_1 (n : Nat) : PTS := qIf (pNotT (pTru (pCallD (c_same n) [] (pCons (pOp itemW (pVarR 0) (pVarR 2)) (pCons (pOp itemW (pVarR 1) (pVarR 2)) pNil))))) (qRet (pC (.bl false))) (qNext)
def q_same (n : Nat) : PTS := qSeq (qIf (tst (pIsN true (pVarR 1))) (qRet (pIsN true (pVarR 0))) (qNext))
  (qSeq (qIf (tst (pUnD (isTW true) (pVarR 1))) (qRet (pUnD (isTW true) (pVarR 0))) (qNext))
  (qSeq (qIf (tst (pUnD (isTW false) (pVarR 1))) (qRet (pUnD (isTW false) (pVarR 0))) (qNext))
  (qSeq (qIf (pTru (pIsi "int" (pVarR 1))) (qRet (pAnd (pIsi "int" (pVarR 0)) (pAnd (pNot (pIsi "bool" (pVarR 0))) (pOp eqW (pVarR 0) (pVarR 1))))) (qNext))
  (qSeq (qIf (pTru (pIsi "str" (pVarR 1))) (qRet (pAnd (pIsi "str" (pVarR 0)) (pOp eqW (pVarR 0) (pVarR 1)))) (qNext))
  (qSeq (qIf (pTru (pIsi "tuple" (pVarR 1))) (qIf (pOrT (pNotT (pTru (pIsi "tuple" (pVarR 0)))) (tst (pOp neW (pCall (on1 lenW) (pCons (pVarR 0) pNil)) (pCall (on1 lenW) (pCons (pVarR 1) pNil))))) (qRet (pC (.bl false))) (qNext)) (qIf (pOrT (pNotT (pTru (pIsi "list" (pVarR 0)))) (tst (pOp neW (pCall (on1 lenW) (pCons (pVarR 0) pNil)) (pCall (on1 lenW) (pCons (pVarR 1) pNil))))) (qRet (pC (.bl false))) (qNext)))
  (qSeq (qFor (pRange1 (pCall (on1 lenW) (pCons (pVarR 1) pNil))) (gN 2) (b_same_1 n))
  (qRet (pC (.bl true)))))))))
theorem st_same (d0 d1 : D) : startE N_same [d0, d1] = [some (.sh d0), some (.sh d1), none] := rfl
theorem zero_same (ds : List D) (P : DK) : ¬ c_same 0 ds P := fun ⟨_, _, _, h, _⟩ => h
theorem len_same (n : Nat) (ds : List D) (R : DK) (h : c_same (n + 1) ds R) : ds.length = 2 := by
  obtain ⟨_, _, rfl, _⟩ := h; rfl
/-- the loop: items one by one -/
theorem same_loop {n : Nat} {R : DK} {got due : D} {ds es : List D} (hg : ∀ P i, itemW got (.int i) P = isSomeD P Tg.mk (atI ds i)) (hd : ∀ P i, itemW due (.int i) P = isSomeD P Tg.mk (atI es i)) (hl : ds.length = es.length)
    (h1 : ∀ x, x ∈ ds → sm n x) (h2 : ∀ x, x ∈ es → sm n x) (r : ∀ r : Bool, (r = true ↔ ∀ (i : Nat) (x y : D), ds[i]? = some x → es[i]? = some y → same n x y) → R (.bl r)) :
    forI (gN 2) (b_same_1 n) { nx := qRet (pC (.bl true)) (endOf R), rt := (endOf R).rt, bk := (endOf R).bk, ct := (endOf R).ct, rn := (endOf R).rn, xr := (endOf R).xr } (rangeD 0 es.length) [some (.sh got), some (.sh due), none] := by
  refine forI_range (fun k ρ => ∃ a, ρ = [some (.sh got), some (.sh due), a] ∧ ∀ i x y, i < k → ds[i]? = some x → es[i]? = some y → same n x y) ⟨_, rfl, fun i x y h => by omega⟩ ?_ ?_
  · rintro k ρ hk ⟨a, rfl, q⟩ A kA
    unfold b_same_1
    walk_at "pu"
    rw [hg]
    walk_at "pu"
    have hk2 : k < ds.length := by omega
    rw [List.getElem?_eq_getElem hk2]
    walk_at "pu"
    rw [hd]
    walk_at "pu"
    rw [List.getElem?_eq_getElem hk]
    walk_at "pu"
    refine ⟨_, _, rfl, h1 _ (List.getElem_mem hk2), h2 _ (List.getElem_mem hk), fun s hs => ?_⟩
    walk_at "pu"
    cases s with
    | false => exact r _ (iff_f fun z => by have := hs.mpr (z k _ _ (List.getElem?_eq_getElem hk2) (List.getElem?_eq_getElem hk)); cases this)
    | true =>
      refine kA _ ⟨_, rfl, fun i x y hi e1 e2 => ?_⟩
      by_cases e : i = k
      · subst e
        rw [List.getElem?_eq_getElem hk2] at e1
        rw [List.getElem?_eq_getElem hk] at e2
        cases e1; cases e2
        exact hs.mp rfl
      · exact q i x y (by omega) e1 e2
  · rintro ρ ⟨a, rfl, q⟩
    walk_at "pu"
    exact r _ (iff_t fun i x y e1 e2 => q i x y (by obtain ⟨h, _⟩ := List.getElem?_eq_some_iff.mp e2; exact h) e1 e2)
theorem pure_same (n : Nat) (ds : List D) (R : DK) (h : c_same (n + 1) ds R) : q_same n (endOf R) (startE N_same ds) := by
  obtain ⟨got, due, rfl, hg, hd, r⟩ := h
  rw [st_same]
  unfold q_same
  cases due with
  | non =>
    walk_at "pu"
    cases got <;> first | exact hg.elim | exact r _ (iff_t rfl) | exact r _ (iff_f (fun h => (by cases h)))
  | bl b =>
    cases b <;> walk_at "pu" <;> cases got <;> try exact hg.elim
    all_goals (walk_at "pu")
    all_goals first | exact r _ (iff_f (fun h => (by cases h))) | (rename_i b; cases b <;> first | exact r _ (iff_t rfl) | exact r _ (iff_f (fun h => (by cases h))))
  | int i =>
    cases got <;> try exact hg.elim
    all_goals (walk_at "pu")
    all_goals first | exact r _ (iff_f (fun h => (by cases h))) | skip
    rename_i j
    exact r _ (by rw [decide_eq_true_eq]; exact ⟨fun h => by rw [h]; rfl, fun h => D.int.inj h⟩)
  | str i =>
    cases got <;> try exact hg.elim
    all_goals (walk_at "pu")
    all_goals first | exact r _ (iff_f (fun h => (by cases h))) | skip
    rename_i j
    exact r _ (by rw [decide_eq_true_eq]; exact ⟨fun h => by rw [h]; rfl, fun h => D.str.inj h⟩)
  | tup es =>
    cases got <;> try exact hg.elim
    all_goals (walk_at "pu")
    all_goals first | exact r _ (iff_f (fun ⟨_, h, _⟩ => (by cases h))) | skip
    rename_i xs
    split
    · rename_i hl
      exact r _ (iff_f fun ⟨ys, e, h, _⟩ => by cases e; omega)
    · rename_i hl
      refine ⟨by omega, by have := hd.1; omega, same_loop (fun P i => itemW_tupD) (fun P i => itemW_tupD) (by omega) hg.2 hd.2 fun s hs => r s (hs.trans ⟨fun q => ⟨xs, rfl, by omega, q⟩, fun ⟨ys, e, _, q⟩ => by cases e; exact q⟩)⟩
  | lst es =>
    cases got <;> try exact hg.elim
    all_goals (walk_at "pu")
    all_goals first | exact r _ (iff_f (fun ⟨_, h, _⟩ => (by cases h))) | skip
    rename_i xs
    split
    · rename_i hl
      exact r _ (iff_f fun ⟨ys, e, h, _⟩ => by cases e; omega)
    · rename_i hl
      refine ⟨by omega, by have := hd.1; omega, same_loop (fun P i => itemW_lstD) (fun P i => itemW_lstD) (by omega) hg.2 hd.2 fun s hs => r s (hs.trans ⟨fun q => ⟨xs, rfl, by omega, q⟩, fun ⟨ys, e, _, q⟩ => by cases e; exact q⟩)⟩
  | _ => exact hd.elim
end Pu
namespace Gly
open PySem PySem.Spec L2 Pu
open PySem.StrLaws PySem.Builtin.Str
/-! plain laws of texts: count and the last place of one character -/
theorem count_nl (x : Str) (c : Nat) : Txt.count x ⟨#[c]⟩ = (x.cps.toList.count c : Nat) := by
  rw [PyProof.Rows.count_cnt]
  generalize x.cps.toList = l
  induction l with
  | nil => rfl
  | cons n r ih =>
    rw [PyProof.Rows.cnt_cons, ih, List.count_cons]
    by_cases h : n = c <;> simp [h] <;> omega
theorem last_mem (s sub : Str) (hi : Nat) : ∀ (l : List Nat) (st : Option Nat) (a : Nat), (forIn l st (lastBody s sub hi)).run = some a → a ∈ l ∨ st = some a
  | [], st, a, h => .inr h
  | b :: l, st, a, h => by
    rw [List.forIn_cons] at h
    unfold lastBody at h
    by_cases hc : b + sub.length ≤ hi ∧ subAt s sub b = true
    · rw [if_pos hc] at h
      rcases last_mem s sub hi l (some b) a h with q | q
      · exact .inl (List.mem_cons_of_mem _ q)
      · cases q; exact .inl (List.mem_cons_self ..)
    · rw [if_neg hc] at h
      rcases last_mem s sub hi l st a h with q | q
      · exact .inl (List.mem_cons_of_mem _ q)
      · exact .inr q
theorem last_in (x y : Str) (lo hi : Nat) : (lastOccurrence x y lo hi = none ∧ ∀ i, lo ≤ i → ¬ At x y hi i) ∨ ∃ i, lastOccurrence x y lo hi = some i ∧ lo ≤ i ∧ At x y hi i ∧ ∀ k, i < k → ¬ At x y hi k := by
  rw [last_eq]
  have key := last_run x y hi (List.range' lo (hi + 1 - lo)) [] none (fun _ h => nomatch h) (fun _ h => nomatch h) (by simpa using List.pairwise_lt_range' (s := lo) (n := hi + 1 - lo))
  have mem : ∀ i, lo ≤ i → At x y hi i → i ∈ [] ++ List.range' lo (hi + 1 - lo) := fun i hl hi' => by have := hi'.1; simp [List.mem_range'] ; refine ⟨i - lo, ?_, ?_⟩ <;> omega
  cases hr : (forIn (List.range' lo (hi + 1 - lo)) none (lastBody x y hi)).run with
  | none => rw [hr] at key; exact .inl ⟨rfl, fun i hl hi' => key i (mem i hl hi') hi'⟩
  | some a =>
    have hm : a ∈ List.range' lo (hi + 1 - lo) := by
      rcases last_mem x y hi _ _ a hr with q | q
      · exact q
      · cases q
    have hlo : lo ≤ a := by
      obtain ⟨k, _, e⟩ := List.mem_range'.1 hm
      omega
    rw [hr] at key
    exact .inr ⟨a, rfl, hlo, key.1, fun k hk hA => key.2 k (mem k (by omega) hA) hk hA⟩
theorem at_one (x : Str) (c hi i : Nat) (h : hi ≤ x.length) : At x ⟨#[c]⟩ hi i ↔ i < hi ∧ x.cps.toList[i]? = some c := by
  have e : (⟨#[c]⟩ : Str).length = 1 := rfl
  have q := subAt_one x c i
  unfold At
  rw [e] at q ⊢
  constructor
  · rintro ⟨h1, h2⟩
    exact ⟨by omega, q.1 ⟨by omega, h2⟩⟩
  · rintro ⟨h1, h2⟩
    exact ⟨by omega, (q.2 h2).2⟩
/-- the last place of a character of a row -/
def lastC (c : Nat) : List Nat → Int
  | [] => -1
  | n :: r => if c ∈ r then lastC c r + 1 else if n = c then 0 else -1
theorem lastC_non {c : Nat} : ∀ {l : List Nat}, c ∉ l → lastC c l = -1
  | [], _ => rfl
  | n :: r, h => by
    have h1 : c ∉ r := fun q => h (List.mem_cons_of_mem _ q)
    have h2 : ¬ n = c := fun q => h (by rw [q]; exact List.mem_cons_self ..)
    simp only [lastC, if_neg h1, if_neg h2]
theorem lastC_at {c : Nat} : ∀ {l : List Nat} {i : Nat}, l[i]? = some c → (∀ k, i < k → l[k]? ≠ some c) → lastC c l = i
  | [], i, h, _ => by simp at h
  | n :: r, 0, h, h2 => by
    have h1 : c ∉ r := fun q => by
      obtain ⟨k, hk⟩ := List.mem_iff_getElem?.1 q
      exact h2 (k + 1) (by omega) (by simpa using hk)
    simp only [List.getElem?_cons_zero, Option.some.injEq] at h
    simp [lastC, h1, h]
  | n :: r, i + 1, h, h2 => by
    simp only [List.getElem?_cons_succ] at h
    have h1 : c ∈ r := List.mem_of_getElem? h
    have := lastC_at h fun k hk => by
      have := h2 (k + 1) (by omega)
      simpa using this
    simp only [lastC, if_pos h1, this]
    omega
theorem rfind_lastC (x : Str) (c : Nat) : Txt.rfind x ⟨#[c]⟩ = lastC c x.cps.toList := by
  unfold Txt.rfind
  rcases last_in x ⟨#[c]⟩ 0 x.length with ⟨h1, h2⟩ | ⟨i, h1, _, h3, h4⟩
  · rw [h1]
    refine (lastC_non fun q => ?_).symm
    obtain ⟨k, hk⟩ := List.mem_iff_getElem?.1 q
    refine h2 k (Nat.zero_le _) ((at_one x c _ k (Nat.le_refl _)).2 ⟨?_, hk⟩)
    have := (List.getElem?_eq_some_iff.1 hk).1
    simpa [Str.length] using this
  · rw [h1]
    refine (lastC_at ((at_one x c _ i (Nat.le_refl _)).1 h3).2 fun k hk e => h4 k hk ((at_one x c _ k (Nat.le_refl _)).2 ⟨?_, e⟩)).symm
    have := (List.getElem?_eq_some_iff.1 e).1
    simpa [Str.length] using this
theorem lastC_app {c : Nat} : ∀ (l m : List Nat), lastC c (l ++ m) = if c ∈ m then l.length + lastC c m else lastC c l
  | [], m => by
    by_cases h : c ∈ m
    · simp [h]
    · simp [h, lastC_non h, lastC]
  | n :: r, m => by
    rw [List.cons_append]
    by_cases h : c ∈ m
    · have h1 : c ∈ r ++ m := List.mem_append_right _ h
      simp only [lastC, if_pos h1, lastC_app r m, if_pos h, List.length_cons]
      omega
    · have h1 : c ∈ r ++ m ↔ c ∈ r := by simp [h]
      simp only [lastC, h1, lastC_app r m, if_neg h]
theorem rfindIn_lastC (x : Str) (c lo hi : Nat) (h1 : lo ≤ hi) (h2 : hi ≤ x.length) (hc : c ∈ (x.cps.toList.take hi).drop lo) : Txt.rfindIn x ⟨#[c]⟩ lo hi = lastC c (x.cps.toList.take hi) := by
  have e1 : fromIndex x.length (lo : Int) = lo := by unfold fromIndex; split <;> omega
  have e2 : toIndexW x.length (hi : Int) = hi := by unfold toIndexW; split <;> omega
  unfold Txt.rfindIn
  rw [e1, e2]
  obtain ⟨k, hk⟩ := List.mem_iff_getElem?.1 hc
  rw [List.getElem?_drop] at hk
  have hk2 : lo + k < hi ∧ x.cps.toList[lo + k]? = some c := by
    rw [List.getElem?_take] at hk
    split at hk
    · exact ⟨by assumption, hk⟩
    · cases hk
  rcases last_in x ⟨#[c]⟩ lo hi with ⟨_, q2⟩ | ⟨i, q1, q2, q3, q4⟩
  · exact absurd ((at_one x c hi (lo + k) h2).2 hk2) (q2 _ (by omega))
  · rw [q1]
    have q5 := (at_one x c hi i h2).1 q3
    refine (lastC_at (by rw [List.getElem?_take, if_pos q5.1]; exact q5.2) fun j hj e => ?_).symm
    rw [List.getElem?_take] at e
    split at e
    · exact q4 j hj ((at_one x c hi j h2).2 ⟨by assumption, e⟩)
    · cases e
/-! texts by their signs -/
def Tx (l : List Nat) : Str := ⟨l.toArray⟩
theorem Tx_cps (s : Str) : Tx s.cps.toList = s := by cases s; simp [Tx]
theorem Tx_list (l : List Nat) : (Tx l).cps.toList = l := by simp [Tx]
theorem Tx_len (l : List Nat) : (Tx l).length = l.length := by simp [Tx, Str.length]
theorem Tx_inj {a b : List Nat} (h : Tx a = Tx b) : a = b := by
  have := congrArg (fun s : Str => s.cps.toList) h
  simpa [Tx] using this
theorem Tx_eq {a b : List Nat} : (Tx a = Tx b) = (a = b) := propext ⟨Tx_inj, fun h => by rw [h]⟩
theorem Tx_add (a b : List Nat) : Tx a ++ Tx b = Tx (a ++ b) := SX.S_cat a b
theorem inW_Tx {b : Bool} {c : Nat} {z : Str} {P : DK} : inW b (.str (Tx [c])) (.str z) P = P (.bl (b != decide (c ∈ z.cps.toList))) := by
  show (∃ k, Tx [c] = ⟨#[k]⟩ ∧ P (.bl (b != decide (k ∈ z.cps.toList)))) = _
  apply propext
  constructor
  · rintro ⟨k, e, h⟩
    have : c = k := by simpa [Tx] using e
    subst this
    exact h
  · exact fun h => ⟨c, rfl, h⟩
theorem sIx_n {n d : Nat} {i : Int} (h : 0 ≤ i) : HT.sIx n d (some i) = min i.toNat n := by
  have : i = (i.toNat : Int) := by omega
  rw [this, HT.sIx_nat, Int.toNat_natCast]
theorem cut_nat {l : List Nat} {i j : Int} (hi : 0 ≤ i) (hj : 0 ≤ j) : cutS (Tx l) (some i) (some j) = Tx ((l.take j.toNat).drop i.toNat) := by
  unfold cutS
  rw [sIx_n hi, sIx_n hj, Tx_list, Tx_len]
  unfold Tx
  congr 1
  congr 1
  apply List.ext_getElem?
  intro k
  simp only [List.getElem?_take, List.getElem?_drop]
  by_cases h1 : i.toNat ≤ l.length
  · have e : min i.toNat l.length = i.toNat := by omega
    rw [e]
    split <;> split <;> first
      | rfl
      | exact (List.getElem?_eq_none (by omega)).symm
      | exact List.getElem?_eq_none (by omega)
  · split <;> split <;> first
      | rfl
      | (exfalso; omega)
      | exact (List.getElem?_eq_none (by omega)).symm
theorem cut_to {l : List Nat} {j : Int} (hj : 0 ≤ j) : cutS (Tx l) none (some j) = Tx (l.take j.toNat) := by
  have : cutS (Tx l) none (some j) = cutS (Tx l) (some 0) (some j) := by
    unfold cutS
    rw [sIx_n (Int.le_refl 0)]
    simp [HT.sIx]
  rw [this, cut_nat (Int.le_refl 0) hj]
  rfl
theorem cut_from {l : List Nat} {i : Int} (hi : 0 ≤ i) : cutS (Tx l) (some i) none = Tx (l.drop i.toNat) := by
  have : cutS (Tx l) (some i) none = cutS (Tx l) (some i) (some (l.length : Int)) := by
    unfold cutS
    rw [sIx_n (n := (Tx l).length) (d := (Tx l).length) (i := l.length) (by omega), Tx_len, Int.toNat_natCast, Nat.min_self]
    rfl
  rw [this, cut_nat hi (by omega)]
  congr 1
  rw [Int.toNat_natCast, List.take_length]
theorem cut_mid {a t s : List Nat} {i j : Int} (hi : i = a.length) (hj : j = (a.length + t.length : Nat)) : cutS (Tx (a ++ t ++ s)) (some i) (some j) = Tx t := by
  rw [cut_nat (by omega) (by omega), hi, hj, Int.toNat_natCast, Int.toNat_natCast]
  congr 1
  rw [List.take_append_of_le_length (by simp), List.take_of_length_le (by simp), List.drop_left]
theorem cut_beg {a s : List Nat} {j : Int} (hj : j = a.length) : cutS (Tx (a ++ s)) none (some j) = Tx a := by
  rw [cut_to (by omega), hj, Int.toNat_natCast, List.take_left]
theorem cut_end {a s : List Nat} {i : Int} (hi : i = a.length) : cutS (Tx (a ++ s)) (some i) none = Tx s := by
  rw [cut_from (by omega), hi, Int.toNat_natCast, List.drop_left]
theorem joinL_flat : ∀ ys : List (List Nat), TL.joinL [] ys = ys.flatten
  | [] => rfl
  | [p] => by simp [TL.joinL]
  | p :: q :: r => by rw [TL.joinL, joinL_flat (q :: r)]; simp
theorem join_Tx (ys : List (List Nat)) : Txt.join (Tx []) (ys.map Tx) = Tx ys.flatten := by
  have := SX.join_S [] ys
  rw [joinL_flat] at this
  exact this
theorem rep_Tx (l : List Nat) (n : Nat) : repS (Tx l) n = Tx (List.replicate n l).flatten := by
  unfold repS
  rw [Tx_list]
  rfl
theorem count_Tx (l : List Nat) (c : Nat) : Txt.count (Tx l) (Tx [c]) = (l.count c : Nat) := by
  have := count_nl (Tx l) c
  rw [Tx_list] at this
  exact this
theorem rfind_Tx (l : List Nat) (c : Nat) : Txt.rfind (Tx l) (Tx [c]) = lastC c l := by
  have := rfind_lastC (Tx l) c
  rw [Tx_list] at this
  exact this
theorem rfindIn_Tx (l : List Nat) (c : Nat) (i j : Int) (h0 : 0 ≤ i) (h1 : i ≤ j) (h2 : j ≤ l.length) (hc : c ∈ (l.take j.toNat).drop i.toNat) : Txt.rfindIn (Tx l) (Tx [c]) i j = lastC c (l.take j.toNat) := by
  have := rfindIn_lastC (Tx l) c i.toNat j.toNat (by omega) (by rw [Tx_len]; omega) (by rw [Tx_list]; exact hc)
  rw [Tx_list, Int.toNat_of_nonneg h0, Int.toNat_of_nonneg (by omega)] at this
  exact this
theorem sz_Tx {l : List Nat} {n : Nat} (h : l.length ≤ n) (hn : n ≤ 16777216) : (Tx l).length ≤ sizeLine := by rw [Tx_len]; exact lsz (by omega)
theorem ch_Tx (c : Nat) : (⟨#[c]⟩ : Str) = Tx [c] := id rfl
theorem Tx1 {a b : Nat} : (Tx [a] = Tx [b]) = (a = b) := by rw [Tx_eq]; simp
theorem memK (c : Nat) : ∀ cs : List Nat, Tx [c] ∈ cs.map (fun c => Tx [c]) ↔ c ∈ cs
  | [] => by simp
  | b :: cs => by rw [List.map_cons, List.mem_cons, List.mem_cons, memK c cs, Tx1]
theorem pickT {l : List Nat} {P : DK} (h0 : l ≠ []) (hl : l.length ≤ 1000) (h : ∀ c : Nat, c ∈ l → P (.str (Tx [c]))) : c_pick [.pool, .str (Tx l)] P := by
  have hz : (Tx l).length = l.length := Tx_len l
  refine ⟨.str (Tx l), signsD (Tx l), rfl, if_pos (lsz (by omega)), fun w => ?_, ?_, fun x hx => ?_⟩
  · unfold signsD at w
    rw [Tx_list, List.map_eq_nil_iff] at w
    exact h0 w
  · unfold signsD
    rw [Tx_list, List.length_map]
    omega
  · unfold signsD at hx
    rw [Tx_list] at hx
    obtain ⟨c, hc, rfl⟩ := List.mem_map.mp hx
    exact h c hc
theorem pickD {xs : List D} {P : DK} (h0 : xs ≠ []) (hl : xs.length < 2 ^ 60) (h : ∀ x, x ∈ xs → P x) : c_pick [.pool, .lst xs] P := ⟨.lst xs, xs, rfl, rfl, h0, hl, h⟩
theorem fewS {u m : Int} {P : DK} (hu : 0 ≤ u) (hu2 : u < 2 ^ 60) (hm : 0 ≤ m) (hm2 : m < 2 ^ 60) (h : ∀ n : Nat, (n : Int) ≤ u ∨ (n : Int) ≤ m → P (.int n)) : c_few [.pool, .int u, .int m] P := by
  refine ⟨u, m, rfl, hu, hu2, hm, hm2, fun r h0 h1 => ?_⟩
  have := h r.toNat (by rw [Int.toNat_of_nonneg h0]; exact h1)
  rwa [Int.toNat_of_nonneg h0] at this
theorem rareS {m : Int} {P : DK} (h0 : 0 < m) (hb : m < 2 ^ 64) (h : ∀ b : Bool, P (.bl b)) : c_rare [.pool, .int m] P := ⟨m, rfl, h0, log_lt (n := 64) (by omega) hb, h⟩
def sT (v : List Nat) : D := .str (Tx v)
theorem strsOf_sT : ∀ l : List (List Nat), strsOf (l.map sT) = some (l.map Tx)
  | [] => rfl
  | v :: l => by
    show (strsOf (l.map sT)).map (List.cons (Tx v)) = _
    rw [strsOf_sT l]
    rfl
theorem lens_T (l : List (List Nat)) : (l.map Tx).map (·.length) = l.map List.length := by
  rw [List.map_map]
  exact List.map_congr_left fun v _ => Tx_len v
theorem inV_strs {k : Str} {ks : List Str} : inV (.str k) (ks.map V.str) = true ↔ k ∈ ks := by
  unfold inV
  rw [List.any_eq_true]
  constructor
  · rintro ⟨y, hy, h⟩
    obtain ⟨z, hz, rfl⟩ := List.mem_map.mp hy
    have : z = k := by simpa [eqV] using h
    rw [← this]; exact hz
  · intro h
    exact ⟨_, List.mem_map_of_mem h, by simp [eqV]⟩
theorem inV2 {k a b : Str} : inV (.str k) [.str a, .str b] = true ↔ (k = a ∨ k = b) := by
  have := inV_strs (k := k) (ks := [a, b])
  simpa only [List.map_cons, List.map_nil, List.mem_cons, List.not_mem_nil, or_false] using this
end Gly
namespace Gly
open PySem PySem.Spec L2 Pu
def chL : List Nat := ("abcdefghijklmnopqrstuvwxyzABCDEFGHIJKLMNOPQRSTUVWXYZ" : Str).cps.toList
def chM : List Nat := ("0123456789!\"'()*+,-./:;<=>?\x40[]`|" : Str).cps.toList
def chW : List Nat := chL ++ chM
def chB : List Nat := [32, 10]
/-- no character of z stands first -/
def Off (z : List Nat) : List Nat → Prop
  | [] => True
  | c :: _ => c ∉ z
/-- a token's kind, value and text; what stands behind it in the text -/
inductive Tok1 : Str → List Nat → List Nat → List Nat → Prop
  | word {t s} : t ≠ [] → (∀ c, c ∈ t → c ∈ chW) → Off chW s → Tok1 "word" t t s
  | par {t s} : t ≠ [] → (∀ c, c ∈ t → c ∈ chB) → Off chB s → 1 < t.count 10 → Tok1 "par" [10, 10] t s
  | blank {t s} : t ≠ [] → (∀ c, c ∈ t → c ∈ chB) → Off chB s → ¬ 1 < t.count 10 → Tok1 "blank" [32] t s
  | name {v s} : v ≠ [] → (∀ c, c ∈ v → c ∈ chL) → Off chL s → Tok1 "name" v (92 :: v) s
  | param {d s} : d ∈ ("123456789" : Str).cps.toList → Tok1 "param" [d] [35, d] s
  | one {k c s} : (k, c) ∈ [(("open" : Str), 123), ("shut", 125), ("dollar", 36), ("tie", 126), ("amp", 38), ("up", 94), ("down", 95)] → Tok1 k [c] [c] s
  | hyph {s} : Tok1 "hyph" [92, 45] [92, 45] s
  | cut {s} : Tok1 "cut" [92, 92] [92, 92] s
/-- kind, value, text -/
abbrev Mk0 := Str × List Nat × List Nat
def mD (t : Mk0) : D := .tup [.str t.1, .str (Tx t.2.1), .str (Tx t.2.2)]
def flat0 : List Mk0 → List Nat
  | [] => []
  | t :: ts => t.2.2 ++ flat0 ts
def Good : List Mk0 → Prop
  | [] => True
  | t :: ts => Tok1 t.1 t.2.1 t.2.2 (flat0 ts) ∧ Good ts
/-- the tokens with their places, behind the text a -/
abbrev Wk := Str × List Nat × Int × Int
def wD (t : Wk) : D := .tup [.str t.1, .str (Tx t.2.1), .int t.2.2.1, .int t.2.2.2]
def placed : List Nat → List Mk0 → List Wk
  | _, [] => []
  | a, t :: ts => (t.1, t.2.1, 1 + ((a.count 10 : Nat) : Int), a.length - lastC 10 a) :: placed (a ++ t.2.2) ts
/-- a token as it is written -/
def form (k : Str) (v : List Nat) : List Nat := if k = "name" then 92 :: v else if k = "param" then 35 :: v else v
def joined : Bool → List Wk → List Nat
  | _, [] => []
  | b, t :: ts => (if b = true ∧ t.1 = "word" ∧ (∃ c, t.2.1.head? = some c ∧ c ∈ chL) then [32] else []) ++ form t.1 t.2.1 ++ joined (decide (t.1 = "name")) ts
structure WOk (ts : List Wk) : Prop where
  len : ts.length ≤ 1200
  ne : ∀ t, t ∈ ts → t.2.1 ≠ []
  sum : (ts.map fun t => t.2.1.length + 2).sum ≤ 1500000
def signK (c : Nat) : Str := if c ∈ ("+-*/" : Str).cps.toList then "oper" else if c ∈ ("=<>" : Str).cps.toList then "rel" else if c ∈ ("([" : Str).cps.toList then "open" else if c ∈ (")]" : Str).cps.toList then "shut"
  else if c ∈ (",;" : Str).cps.toList then "comma" else "plain"
/-- what may stand behind a token of the kind k0 -/
inductive Fit (k0 : Str) : Mk0 → Prop
  | word {t} : t ≠ [] → (∀ c, c ∈ t → c ∈ chW) → k0 ≠ "word" → (k0 = "name" → ∃ c, t.head? = some c ∧ c ∈ chM) → Fit k0 ("word", t, t)
  | par {t} : t ≠ [] → (∀ c, c ∈ t → c ∈ chB) → k0 ≠ "blank" → k0 ≠ "par" → 1 < t.count 10 → Fit k0 ("par", [10, 10], t)
  | blank {t} : t ≠ [] → (∀ c, c ∈ t → c ∈ chB) → k0 ≠ "blank" → k0 ≠ "par" → ¬ 1 < t.count 10 → Fit k0 ("blank", [32], t)
  | name {v} : v ≠ [] → (∀ c, c ∈ v → c ∈ chL) → Fit k0 ("name", v, 92 :: v)
  | param {d} : d ∈ ("123456789" : Str).cps.toList → Fit k0 ("param", [d], [35, d])
  | one {k c} : (k, c) ∈ [(("open" : Str), 123), ("shut", 125), ("dollar", 36), ("tie", 126), ("amp", 38), ("up", 94), ("down", 95)] → Fit k0 (k, [c], [c])
  | hyph : Fit k0 ("hyph", [92, 45], [92, 45])
  | cut : Fit k0 ("cut", [92, 92], [92, 92])
abbrev c_law_pool : Pr := Pu.poolC
abbrev c_law_draw : Pr := Pu.drawC
def c_is_word_char : Pr := fun ds P => ∃ c, ds = [.str (Tx [c])] ∧ P (.bl (decide (c ∈ chW)))
def c_is_letter : Pr := fun ds P => ∃ c, ds = [.str (Tx [c])] ∧ P (.bl (decide (c ∈ chL)))
def c_is_digit : Pr := fun ds P => ∃ c, ds = [.str (Tx [c])] ∧ P (.bl (decide (c ∈ ("0123456789" : Str).cps.toList)))
def c_run_end : Pr := fun ds P => ∃ (a r s : List Nat) (z : Str), ds = [.str (Tx (a ++ r ++ s)), .int a.length, .str z] ∧ (a ++ r ++ s).length ≤ 1000000 ∧ (∀ c, c ∈ r → c ∈ z.cps.toList) ∧ Off z.cps.toList s ∧ P (.int (a.length + r.length : Nat))
def c_token_at : Pr := fun ds P => ∃ (a t s v : List Nat) (k : Str) (l m : Int), ds = [.str (Tx (a ++ t ++ s)), .int a.length, .int l, .int m] ∧ (a ++ t ++ s).length ≤ 1000000 ∧ Tok1 k v t s ∧ P (.tup [.str k, .str (Tx v), .int (a.length + t.length : Nat)])
def c_param_at : Pr := fun ds P => ∃ (a s : List Nat) (d : Nat) (l m : Int), ds = [.str (Tx (a ++ [35, d] ++ s)), .int a.length, .int l, .int m] ∧ (a ++ [35, d] ++ s).length ≤ 1000000 ∧ d ∈ ("123456789" : Str).cps.toList ∧ P (.tup [.str "param", .str (Tx [d]), .int (a.length + 2 : Nat)])
def c_escape_at : Pr := fun ds P => ∃ (a t s v : List Nat) (k : Str) (l m : Int), ds = [.str (Tx (a ++ t ++ s)), .int a.length, .int l, .int m] ∧ (a ++ t ++ s).length ≤ 1000000 ∧ Tok1 k v t s ∧ t.head? = some 92 ∧ P (.tup [.str k, .str (Tx v), .int (a.length + t.length : Nat)])
def c_tokenize : Pr := fun ds P => ∃ ts, ds = [.str (Tx (flat0 ts))] ∧ (flat0 ts).length ≤ 1000000 ∧ Good ts ∧ P (.lst ((placed [] ts).map wD))
def c_sign_kind : Pr := fun ds P => ∃ c, ds = [.str (Tx [c])] ∧ P (.str (signK c))
def c_written : Pr := fun ds P => ∃ ts, ds = [.lst (ts.map wD)] ∧ WOk ts ∧ P (.str (Tx (joined false ts)))
def c_size_of : Pr := fun ds P => ∃ t, ds = [wD t] ∧ t.2.1.length ≤ 2000000 ∧ P (.int ((form t.1 t.2.1).length : Nat))
def c_written_token : Pr := fun ds P => ∃ t, ds = [wD t] ∧ t.2.1.length ≤ 2000000 ∧ P (.str (Tx (form t.1 t.2.1)))
def c_law_letters : Pr := fun ds P => ds = [] ∧ P (.str (Tx chL))
def c_law_marks : Pr := fun ds P => ds = [] ∧ P (.str (Tx chM))
def c_law_run : Pr := fun ds P => ∃ (z : List Nat) (n : Int), ds = [.pool, .str (Tx z), .int n] ∧ z ≠ [] ∧ z.length ≤ 200 ∧ 0 ≤ n ∧ n ≤ 1000000 ∧ ∀ r : List Nat, r ≠ [] → r.length ≤ 7000 → (∀ c, c ∈ r → c ∈ z) → P (.str (Tx r))
def c_law_token : Pr := fun ds P => ∃ (k : Str) (n : Int), ds = [.pool, .str k, .int n] ∧ 0 ≤ n ∧ n ≤ 1000000 ∧ ∀ t, Fit k t → t.2.2.length ≤ 7100 → P (mD t)
def c_law_tokens : Pr := fun ds P => ds = [.pool] ∧ ∀ ts, Good ts → ts.length ≤ 1100 → (flat0 ts).length ≤ 900000 → P (.lst (ts.map mD))
def c_law_spot : Pr := fun ds P => ∃ a s : List Nat, ds = [.str (Tx (a ++ s)), .int a.length] ∧ (a ++ s).length ≤ 1000000 ∧ P (.tup [.int (1 + ((a.count 10 : Nat) : Int)), .int (a.length - lastC 10 a)])
def c_law_form : Pr := fun ds P => ∃ (k : Str) (v : List Nat) (es : List D), ds = [.tup (.str k :: .str (Tx v) :: es)] ∧ v.length ≤ 2000000 ∧ P (.str (Tx (form k v)))
def c_law_joined : Pr := fun ds P => ∃ ts, ds = [.lst (ts.map wD)] ∧ WOk ts ∧ P (.str (Tx (joined false ts)))
def c_law_writes : Pr := fun ds P => ∃ ts, ds = [.lst (ts.map wD), .str (Tx (joined false ts))] ∧ WOk ts ∧ P (.bl true)
def c_law_tables : Pr := fun ds P => ds = [] ∧ P (.bl true)
def c_law_kinds : Pr := fun ds P => ds = [] ∧ P (.bl true)
abbrev c_law : Pr := Pu.lawC
end Gly
namespace Gly
open PySem PySem.Spec L2 Pu
def ks_SIGN_KINDS : List Str := ["+", "-", "*", "/", "=", "<", ">", "(", "[", ")", "]", ",", ";"]
def ds_SIGN_KINDS : List D := [.str "oper", .str "oper", .str "oper", .str "oper", .str "rel", .str "rel", .str "rel", .str "open", .str "open", .str "shut", .str "shut", .str "comma", .str "comma"]
def ks_SINGLES : List Str := ["{", "}", "$", "~", "&", "^", "_"]
def ds_SINGLES : List D := [.str "open", .str "shut", .str "dollar", .str "tie", .str "amp", .str "up", .str "down"]
abbrev N_is_word_char : List Str := ["char"]
def q_is_word_char : PTS := qRet (pOp (inW false) (pVarR 0) (pC (.str "abcdefghijklmnopqrstuvwxyzABCDEFGHIJKLMNOPQRSTUVWXYZ0123456789!\"'()*+,-./:;<=>?\x40[]`|")))
theorem st_is_word_char (d0 : D) : startE N_is_word_char [d0] = [some (.sh d0)] := rfl
abbrev N_is_letter : List Str := ["char"]
def q_is_letter : PTS := qRet (pOp (inW false) (pVarR 0) (pC (.str "abcdefghijklmnopqrstuvwxyzABCDEFGHIJKLMNOPQRSTUVWXYZ")))
theorem st_is_letter (d0 : D) : startE N_is_letter [d0] = [some (.sh d0)] := rfl
abbrev N_is_digit : List Str := ["char"]
def q_is_digit : PTS := qRet (pOp (inW false) (pVarR 0) (pC (.str "0123456789")))
theorem st_is_digit (d0 : D) : startE N_is_digit [d0] = [some (.sh d0)] := rfl
abbrev N_sign_kind : List Str := ["char"]
def q_sign_kind : PTS := qRet (pGetK ks_SIGN_KINDS ds_SIGN_KINDS (pVarR 0) (pC (.str "plain")))
theorem st_sign_kind (d0 : D) : startE N_sign_kind [d0] = [some (.sh d0)] := rfl
abbrev N_tokenize : List Str := ["text", "tokens", "at", "line", "column", "kind", "value", "end", "feeds"]
def b_tokenize_1 : PTS := qSeq (qAsg (pCallD c_token_at [] (pCons (pVar 0) (pCons (pVar 2) (pCons (pVar 3) (pCons (pVar 4) pNil))))) (gT 3 (gConsP (gN 5) (gConsP (gN 6) (gConsP (gN 7) (gNilP))))))
  (qSeq (qApp 1 (pTup (pCons (pVar 5) (pCons (pVar 6) (pCons (pVar 3) (pCons (pVar 4) pNil))))))
  (qSeq (qSet 8 (pBM "str" (s1W fun a b => .int (Txt.count a b)) (pSlice sliceW (pVarR 0) (pPart (pVarR 2)) (pPart (pVarR 7))) (pCons (pC (.str "\n")) pNil)))
  (qSeq (qIf (tst (pOp gtX (pVarR 8) (pC (.int 0)))) (qSeq (qAug 3 iaddW (pVarR 8))
  (qSet 4 (pOp subW (pVarR 7) (pBM "str" (s3W fun a b i j => .int (Txt.rfindIn a b i j)) (pVarR 0) (pCons (pC (.str "\n")) (pCons (pVarR 2) (pCons (pVarR 7) pNil))))))) (qAug 4 iaddW (pOp subW (pVarR 7) (pVarR 2))))
  (qSet 2 (pVar 7)))))
def q_tokenize : PTS := qSeq (qSetN 1 (pLst (pNil)))
  (qSeq (qSet 2 (pC (.int 0)))
  (qSeq (qSet 3 (pC (.int 1)))
  (qSeq (qSet 4 (pC (.int 1)))
  (qSeq (qWhile (tst (pOp ltX (pVarR 2) (pCall (on1 lenW) (pCons (pVarR 0) pNil)))) b_tokenize_1)
  (qRetO 1)))))
theorem st_tokenize (d0 : D) : startE N_tokenize [d0] = [some (.sh d0), none, none, none, none, none, none, none, none] := rfl
abbrev N_token_at : List Str := ["text", "at", "line", "column", "char", "end"]
def q_token_at : PTS := qSeq (qSet 4 (pOp itemW (pVarR 0) (pVarR 1)))
  (qSeq (qIf (tst (pInK false ks_SINGLES (pVarR 4))) (qRet (pTup (pCons (pAtK ks_SINGLES ds_SINGLES (pVarR 4)) (pCons (pVar 4) (pCons (pOp addW (pVarR 1) (pC (.int 1))) pNil))))) (qNext))
  (qSeq (qIf (pTru (pCallD c_is_word_char [] (pCons (pVar 4) pNil))) (qSeq (qSet 5 (pCallD c_run_end [] (pCons (pVar 0) (pCons (pVar 1) (pCons (pC (.str "abcdefghijklmnopqrstuvwxyzABCDEFGHIJKLMNOPQRSTUVWXYZ0123456789!\"'()*+,-./:;<=>?\x40[]`|")) pNil)))))
  (qRet (pTup (pCons (pC (.str "word")) (pCons (pSlice sliceW (pVarR 0) (pPart (pVarR 1)) (pPart (pVarR 5))) (pCons (pVar 5) pNil)))))) (qNext))
  (qSeq (qIf (pOrT (tst (pOp eqW (pVarR 4) (pC (.str " ")))) (tst (pOp eqW (pVarR 4) (pC (.str "\n"))))) (qSeq (qSet 5 (pCallD c_run_end [] (pCons (pVar 0) (pCons (pVar 1) (pCons (pC (.str " \n")) pNil)))))
  (qSeq (qIf (tst (pOp gtX (pBM "str" (s1W fun a b => .int (Txt.count a b)) (pSlice sliceW (pVarR 0) (pPart (pVarR 1)) (pPart (pVarR 5))) (pCons (pC (.str "\n")) pNil)) (pC (.int 1)))) (qRet (pTup (pCons (pC (.str "par")) (pCons (pC (.str "\n\n")) (pCons (pVar 5) pNil))))) (qNext))
  (qRet (pTup (pCons (pC (.str "blank")) (pCons (pC (.str " ")) (pCons (pVar 5) pNil))))))) (qNext))
  (qSeq (qIf (tst (pOp eqW (pVarR 4) (pC (.str "#")))) (qRet (pCallD c_param_at [] (pCons (pVar 0) (pCons (pVar 1) (pCons (pVar 2) (pCons (pVar 3) pNil)))))) (qNext))
  (qSeq (qIf (tst (pOp eqW (pVarR 4) (pC (.str "\\")))) (qRet (pCallD c_escape_at [] (pCons (pVar 0) (pCons (pVar 1) (pCons (pVar 2) (pCons (pVar 3) pNil)))))) (qNext))
  (qNever))))))
theorem st_token_at (d0 d1 d2 d3 : D) : startE N_token_at [d0, d1, d2, d3] = [some (.sh d0), some (.sh d1), some (.sh d2), some (.sh d3), none, none] := rfl
abbrev N_param_at : List Str := ["text", "at", "line", "column", "digit"]
def q_param_at : PTS := qSeq (qSet 4 (pSlice sliceW (pVarR 0) (pPart (pOp addW (pVarR 1) (pC (.int 1)))) (pPart (pOp addW (pVarR 1) (pC (.int 2))))))
  (qSeq (qIf (pOrT (tst (pOp eqW (pVarR 4) (pC (.str "")))) (tst (pOp (inW true) (pVarR 4) (pC (.str "123456789"))))) (qNever) (qNext))
  (qRet (pTup (pCons (pC (.str "param")) (pCons (pVar 4) (pCons (pOp addW (pVarR 1) (pC (.int 2))) pNil))))))
theorem st_param_at (d0 d1 d2 d3 : D) : startE N_param_at [d0, d1, d2, d3] = [some (.sh d0), some (.sh d1), some (.sh d2), some (.sh d3), none] := rfl
abbrev N_escape_at : List Str := ["text", "at", "line", "column", "behind", "end"]
def q_escape_at : PTS := qSeq (qSet 4 (pSlice sliceW (pVarR 0) (pPart (pOp addW (pVarR 1) (pC (.int 1)))) (pPart (pOp addW (pVarR 1) (pC (.int 2))))))
  (qSeq (qIf (tst (pOp eqW (pVarR 4) (pC (.str "-")))) (qRet (pTup (pCons (pC (.str "hyph")) (pCons (pC (.str "\\-")) (pCons (pOp addW (pVarR 1) (pC (.int 2))) pNil))))) (qNext))
  (qSeq (qIf (tst (pOp eqW (pVarR 4) (pC (.str "\\")))) (qRet (pTup (pCons (pC (.str "cut")) (pCons (pC (.str "\\\\")) (pCons (pOp addW (pVarR 1) (pC (.int 2))) pNil))))) (qNext))
  (qSeq (qSet 5 (pCallD c_run_end [] (pCons (pVar 0) (pCons (pOp addW (pVarR 1) (pC (.int 1))) (pCons (pC (.str "abcdefghijklmnopqrstuvwxyzABCDEFGHIJKLMNOPQRSTUVWXYZ")) pNil)))))
  (qSeq (qIf (tst (pOp eqW (pVarR 5) (pOp addW (pVarR 1) (pC (.int 1))))) (qNever) (qNext))
  (qRet (pTup (pCons (pC (.str "name")) (pCons (pSlice sliceW (pVarR 0) (pPart (pOp addW (pVarR 1) (pC (.int 1)))) (pPart (pVarR 5))) (pCons (pVar 5) pNil)))))))))
theorem st_escape_at (d0 d1 d2 d3 : D) : startE N_escape_at [d0, d1, d2, d3] = [some (.sh d0), some (.sh d1), some (.sh d2), some (.sh d3), none, none] := rfl
abbrev N_run_end : List Str := ["text", "at", "chars", "end"]
def b_run_end_1 : PTS := qAug 3 iaddW (pC (.int 1))
def q_run_end : PTS := qSeq (qSet 3 (pVar 1))
  (qSeq (qWhile (pAndT (tst (pOp ltX (pVarR 3) (pCall (on1 lenW) (pCons (pVarR 0) pNil)))) (tst (pOp (inW false) (pOp itemW (pVarR 0) (pVarR 3)) (pVarR 2)))) b_run_end_1)
  (qRet (pVar 3)))
theorem st_run_end (d0 d1 d2 : D) : startE N_run_end [d0, d1, d2] = [some (.sh d0), some (.sh d1), some (.sh d2), none] := rfl
abbrev N_written : List Str := ["tokens", "parts", "behind_name", "token"]
def b_written_1 : PTS := qSeq (qIf (pAndT (pTru (pVarR 2)) (pAndT (tst (pOp eqW (pOp itemW (pVarR 3) (pC (.int 0))) (pC (.str "word")))) (pTru (pCallD c_is_letter [] (pCons (pOp itemW (pOp itemW (pVarR 3) (pC (.int 1))) (pC (.int 0))) pNil))))) (qApp 1 (pC (.str " "))) (qNext))
  (qSeq (qApp 1 (pCallD c_written_token [] (pCons (pVar 3) pNil)))
  (qSet 2 (pOp eqW (pOp itemW (pVarR 3) (pC (.int 0))) (pC (.str "name")))))
def q_written : PTS := qSeq (qSetN 1 (pLst (pNil)))
  (qSeq (qSet 2 (pC (.bl false)))
  (qSeq (qFor (pSeq (pVar 0)) (gN 3) b_written_1)
  (qRet (pBM "str" joinW (pC (.str "")) (pCons (pVarR 1) pNil)))))
theorem st_written (d0 : D) : startE N_written [d0] = [some (.sh d0), none, none, none] := rfl
abbrev N_size_of : List Str := ["token"]
def q_size_of : PTS := qRet (pCall (on1 lenW) (pCons (pCallD c_written_token [] (pCons (pVar 0) pNil)) pNil))
theorem st_size_of (d0 : D) : startE N_size_of [d0] = [some (.sh d0)] := rfl
abbrev N_written_token : List Str := ["token"]
def q_written_token : PTS := qSeq (qIf (tst (pOp eqW (pOp itemW (pVarR 0) (pC (.int 0))) (pC (.str "name")))) (qRet (pOp addW (pC (.str "\\")) (pOp itemW (pVarR 0) (pC (.int 1))))) (qNext))
  (qSeq (qIf (tst (pOp eqW (pOp itemW (pVarR 0) (pC (.int 0))) (pC (.str "param")))) (qRet (pOp addW (pC (.str "#")) (pOp itemW (pVarR 0) (pC (.int 1))))) (qNext))
  (qRet (pOp itemW (pVarR 0) (pC (.int 1)))))
theorem st_written_token (d0 : D) : startE N_written_token [d0] = [some (.sh d0)] := rfl
abbrev N_law_letters : List Str := []
def q_law_letters : PTS := qRet (pC (.str "abcdefghijklmnopqrstuvwxyzABCDEFGHIJKLMNOPQRSTUVWXYZ"))
theorem st_law_letters : startE N_law_letters [] = [] := rfl
abbrev N_law_marks : List Str := []
def q_law_marks : PTS := qRet (pC (.str "0123456789!\"'()*+,-./:;<=>?\x40[]`|"))
theorem st_law_marks : startE N_law_marks [] = [] := rfl
abbrev N_law_run : List Str := ["pool", "chars", "size", "run", "k"]
def q_law_run : PTS := qSeq (qSet 3 (pBM "str" joinW (pC (.str "")) (pCons (pComp [4] (pRange1 (pOp addW (pC (.int 1)) (pCallD Pu.c_few [] (pCons (pVar 0) (pCons (pC (.int 3)) (pCons (pC (.int 39)) pNil)))))) (gN 4) (pYes) (pCallD Pu.c_pick [] (pCons (pVar 0) (pCons (pVar 1) pNil)))) pNil)))
  (qSeq (qIf (pTru (pCallD Pu.c_rare [] (pCons (pVar 0) (pCons (pC (.int 120)) pNil)))) (qSet 3 (pOp mulSW (pVarR 3) (pOp addW (pC (.int 1)) (pCallD c_law_draw [] (pCons (pVar 0) (pCons (pOp addW (pC (.int 1)) (pOp fdivW (pCall (on2 max2W) (pCons (pC (.int 0)) (pCons (pOp subW (pC (.int 6600)) (pVarR 2)) pNil))) (pCall (on1 lenW) (pCons (pVarR 3) pNil)))) pNil)))))) (qNext))
  (qRet (pVar 3)))
theorem st_law_run (d0 d1 d2 : D) : startE N_law_run [d0, d1, d2] = [some (.sh d0), some (.sh d1), some (.sh d2), none, none] := rfl
abbrev N_law_token : List Str := ["pool", "ahead", "size", "way", "value", "run", "kinds", "one"]
def q_law_token : PTS := qSeq (qSet 3 (pCallD c_law_draw [] (pCons (pVar 0) (pCons (pC (.int 12)) pNil))))
  (qSeq (qIf (pAndT (tst (pOp ltX (pVarR 3) (pC (.int 4)))) (tst (pOp neW (pVarR 1) (pC (.str "word"))))) (qSeq (qSet 4 (pCallD c_law_run [] (pCons (pVar 0) (pCons (pOp addW (pCallD c_law_letters [] pNil) (pCallD c_law_marks [] pNil)) (pCons (pVar 2) pNil)))))
  (qSeq (qIf (tst (pOp eqW (pVarR 1) (pC (.str "name")))) (qSet 4 (pOp addW (pCallD Pu.c_pick [] (pCons (pVar 0) (pCons (pCallD c_law_marks [] pNil) pNil))) (pVarR 4))) (qNext))
  (qRet (pTup (pCons (pC (.str "word")) (pCons (pVar 4) (pCons (pVar 4) pNil))))))) (qNext))
  (qSeq (qIf (pAndT (tst (pOp ltX (pVarR 3) (pC (.int 7)))) (tst (pOp (inW true) (pVarR 1) (pTup (pCons (pC (.str "blank")) (pCons (pC (.str "par")) pNil)))))) (qSeq (qSet 5 (pCallD c_law_run [] (pCons (pVar 0) (pCons (pC (.str " \n")) (pCons (pVar 2) pNil)))))
  (qSeq (qIf (tst (pOp gtX (pBM "str" (s1W fun a b => .int (Txt.count a b)) (pVarR 5) (pCons (pC (.str "\n")) pNil)) (pC (.int 1)))) (qRet (pTup (pCons (pC (.str "par")) (pCons (pC (.str "\n\n")) (pCons (pVar 5) pNil))))) (qNext))
  (qRet (pTup (pCons (pC (.str "blank")) (pCons (pC (.str " ")) (pCons (pVar 5) pNil))))))) (qNext))
  (qSeq (qIf (tst (pOp ltX (pVarR 3) (pC (.int 9)))) (qSeq (qSet 4 (pCallD c_law_run [] (pCons (pVar 0) (pCons (pCallD c_law_letters [] pNil) (pCons (pVar 2) pNil)))))
  (qRet (pTup (pCons (pC (.str "name")) (pCons (pVar 4) (pCons (pOp addW (pC (.str "\\")) (pVarR 4)) pNil)))))) (qNext))
  (qSeq (qIf (tst (pOp eqW (pVarR 3) (pC (.int 9)))) (qSeq (qSet 4 (pCallD Pu.c_pick [] (pCons (pVar 0) (pCons (pC (.str "123456789")) pNil))))
  (qRet (pTup (pCons (pC (.str "param")) (pCons (pVar 4) (pCons (pOp addW (pC (.str "#")) (pVarR 4)) pNil)))))) (qNext))
  (qSeq (qSet 6 (pLst (pCons (pTup (pCons (pC (.str "open")) (pCons (pC (.str "{")) pNil))) (pCons (pTup (pCons (pC (.str "shut")) (pCons (pC (.str "}")) pNil))) (pCons (pTup (pCons (pC (.str "dollar")) (pCons (pC (.str "$")) pNil))) (pCons (pTup (pCons (pC (.str "tie")) (pCons (pC (.str "~")) pNil))) (pCons (pTup (pCons (pC (.str "amp")) (pCons (pC (.str "&")) pNil))) (pCons (pTup (pCons (pC (.str "up")) (pCons (pC (.str "^")) pNil))) (pCons (pTup (pCons (pC (.str "down")) (pCons (pC (.str "_")) pNil))) pNil)))))))))
  (qSeq (qSet 7 (pCallD Pu.c_pick [] (pCons (pVar 0) (pCons (pOp addW (pVarR 6) (pLst (pCons (pTup (pCons (pC (.str "hyph")) (pCons (pC (.str "\\-")) pNil))) (pCons (pTup (pCons (pC (.str "cut")) (pCons (pC (.str "\\\\")) pNil))) pNil)))) pNil))))
  (qRet (pTup (pCons (pOp itemW (pVarR 7) (pC (.int 0))) (pCons (pOp itemW (pVarR 7) (pC (.int 1))) (pCons (pOp itemW (pVarR 7) (pC (.int 1))) pNil)))))))))))
theorem st_law_token (d0 d1 d2 : D) : startE N_law_token [d0, d1, d2] = [some (.sh d0), some (.sh d1), some (.sh d2), none, none, none, none, none] := rfl
abbrev N_law_tokens : List Str := ["pool", "found", "size", "ahead", "k"]
def b_law_tokens_1 : PTS := qSeq (qApp 1 (pCallD c_law_token [] (pCons (pVar 0) (pCons (pVar 3) (pCons (pVar 2) pNil)))))
  (qSeq (qSet 3 (pOp itemW (pOp itemW (pVarR 1) (pUn negW (pC (.int 1)))) (pC (.int 0))))
  (qSet 2 (pOp addW (pVarR 2) (pCall (on1 lenW) (pCons (pOp itemW (pOp itemW (pVarR 1) (pUn negW (pC (.int 1)))) (pC (.int 2))) pNil)))))
def q_law_tokens : PTS := qSeq (qSetN 1 (pLst (pNil)))
  (qSeq (qSet 2 (pC (.int 0)))
  (qSeq (qSet 3 (pC (.str "")))
  (qSeq (qFor (pRange1 (pCallD Pu.c_few [] (pCons (pVar 0) (pCons (pC (.int 12)) (pCons (pC (.int 60)) pNil))))) (gN 4) b_law_tokens_1)
  (qSeq (qIf (pAndT (pTru (pCallD Pu.c_rare [] (pCons (pVar 0) (pCons (pC (.int 20)) pNil)))) (tst (pOp leX (pVarR 2) (pC (.int 100))))) (qSetN 1 (pOp repF (pOp addW (pVarR 1) (pLst (pCons (pTup (pCons (pC (.str "tie")) (pCons (pC (.str "~")) (pCons (pC (.str "~")) pNil)))) pNil))) (pOp addW (pC (.int 1)) (pCallD c_law_draw [] (pCons (pVar 0) (pCons (pOp fdivW (pC (.int 900)) (pOp addW (pVarR 2) (pC (.int 2)))) pNil)))))) (qNext))
  (qFrz 1 (qRet (pVar 1)))))))
theorem st_law_tokens (d0 : D) : startE N_law_tokens [d0] = [some (.sh d0), none, none, none, none] := rfl
abbrev N_law_spot : List Str := ["text", "at", "ahead"]
def q_law_spot : PTS := qSeq (qSet 2 (pSlice sliceW (pVarR 0) (pNoPart) (pPart (pVarR 1))))
  (qRet (pTup (pCons (pOp addW (pC (.int 1)) (pBM "str" (s1W fun a b => .int (Txt.count a b)) (pVarR 2) (pCons (pC (.str "\n")) pNil))) (pCons (pOp subW (pVarR 1) (pBM "str" (s1W fun a b => .int (Txt.rfind a b)) (pVarR 2) (pCons (pC (.str "\n")) pNil))) pNil))))
theorem st_law_spot (d0 d1 : D) : startE N_law_spot [d0, d1] = [some (.sh d0), some (.sh d1), none] := rfl
abbrev N_law_form : List Str := ["token"]
def q_law_form : PTS := qSeq (qIf (tst (pOp eqW (pOp itemW (pVarR 0) (pC (.int 0))) (pC (.str "name")))) (qRet (pOp addW (pC (.str "\\")) (pOp itemW (pVarR 0) (pC (.int 1))))) (qNext))
  (qSeq (qIf (tst (pOp eqW (pOp itemW (pVarR 0) (pC (.int 0))) (pC (.str "param")))) (qRet (pOp addW (pC (.str "#")) (pOp itemW (pVarR 0) (pC (.int 1))))) (qNext))
  (qRet (pOp itemW (pVarR 0) (pC (.int 1)))))
theorem st_law_form (d0 : D) : startE N_law_form [d0] = [some (.sh d0)] := rfl
abbrev N_law_joined : List Str := ["tokens", "text", "k"]
def b_law_joined_1 : PTS := qSeq (qIf (pAndT (tst (pOp gtX (pVarR 2) (pC (.int 0)))) (pAndT (tst (pOp eqW (pOp itemW (pOp itemW (pVarR 0) (pOp subW (pVarR 2) (pC (.int 1)))) (pC (.int 0))) (pC (.str "name")))) (pAndT (tst (pOp eqW (pOp itemW (pOp itemW (pVarR 0) (pVarR 2)) (pC (.int 0))) (pC (.str "word")))) (tst (pOp (inW false) (pOp itemW (pOp itemW (pOp itemW (pVarR 0) (pVarR 2)) (pC (.int 1))) (pC (.int 0))) (pCallD c_law_letters [] pNil)))))) (qSet 1 (pOp addW (pVarR 1) (pC (.str " ")))) (qNext))
  (qSet 1 (pOp addW (pVarR 1) (pCallD c_law_form [] (pCons (pOp itemW (pVarR 0) (pVarR 2)) pNil))))
def q_law_joined : PTS := qSeq (qSet 1 (pC (.str "")))
  (qSeq (qFor (pRange1 (pCall (on1 lenW) (pCons (pVarR 0) pNil))) (gN 2) b_law_joined_1)
  (qRet (pVar 1)))
theorem st_law_joined (d0 : D) : startE N_law_joined [d0] = [some (.sh d0), none, none] := rfl
abbrev N_law_writes : List Str := ["tokens", "due", "handed"]
def q_law_writes : PTS := qSeq (qSet 2 (pCall (on1 listW) (pCons (pVarR 0) pNil)))
  (qRet (pAnd (pCallD (Pu.c_same 20) [] (pCons (pCallD c_written [] (pCons (pVar 2) pNil)) (pCons (pVar 1) pNil))) (pCallD (Pu.c_same 20) [] (pCons (pVar 2) (pCons (pVar 0) pNil)))))
theorem st_law_writes (d0 d1 : D) : startE N_law_writes [d0, d1] = [some (.sh d0), some (.sh d1), none] := rfl
abbrev N_law_tables : List Str := ["chars", "special", "row", "char"]
def b_law_tables_1 : PTS := qIf (tst (pOp neW (pBM "str" (s1W fun a b => .int (Txt.count a b)) (pOp itemW (pVarR 2) (pC (.int 0))) (pCons (pVarR 3) pNil)) (pC (.int 1)))) (qRet (pC (.bl false))) (qNext)
def b_law_tables_2 : PTS := qSeq (qIf (pOrT (pNotT (pTru (pIsi "str" (pOp itemW (pVarR 2) (pC (.int 0)))))) (tst (pOp neW (pCall (on1 lenW) (pCons (pOp itemW (pVarR 2) (pC (.int 0))) pNil)) (pCall (on1 lenW) (pCons (pOp itemW (pVarR 2) (pC (.int 1))) pNil))))) (qRet (pC (.bl false))) (qNext))
  (qFor (pStr (pOp itemW (pVarR 2) (pC (.int 1)))) (gN 3) b_law_tables_1)
def b_law_tables_3 : PTS := qSeq (qIf (pNotT (pTru (pCallD (Pu.c_same 20) [] (pCons (pCallD c_is_word_char [] (pCons (pVar 3) pNil)) (pCons (pOp (inW false) (pVarR 3) (pVarR 0)) pNil))))) (qRet (pC (.bl false))) (qNext))
  (qSeq (qIf (pNotT (pTru (pCallD (Pu.c_same 20) [] (pCons (pCallD c_is_letter [] (pCons (pVar 3) pNil)) (pCons (pOp (inW false) (pVarR 3) (pCallD c_law_letters [] pNil)) pNil))))) (qRet (pC (.bl false))) (qNext))
  (qIf (pNotT (pTru (pCallD (Pu.c_same 20) [] (pCons (pCallD c_is_digit [] (pCons (pVar 3) pNil)) (pCons (pOp (inW false) (pVarR 3) (pC (.str "0123456789"))) pNil))))) (qRet (pC (.bl false))) (qNext)))
def q_law_tables : PTS := qSeq (qSet 0 (pOp addW (pCallD c_law_letters [] pNil) (pCallD c_law_marks [] pNil)))
  (qSeq (qSet 1 (pC (.str "\\{}$~#&^_")))
  (qSeq (qFor (pSeq (pLst (pCons (pTup (pCons (pC (.str "abcdefghijklmnopqrstuvwxyzABCDEFGHIJKLMNOPQRSTUVWXYZ")) (pCons (pCallD c_law_letters [] pNil) pNil))) (pCons (pTup (pCons (pC (.str "0123456789")) (pCons (pC (.str "0123456789")) pNil))) (pCons (pTup (pCons (pC (.str "\\{}$~#&^_")) (pCons (pVar 1) pNil))) (pCons (pTup (pCons (pC (.str "abcdefghijklmnopqrstuvwxyzABCDEFGHIJKLMNOPQRSTUVWXYZ0123456789!\"'()*+,-./:;<=>?\x40[]`|")) (pCons (pVar 0) pNil))) pNil)))))) (gN 2) b_law_tables_2)
  (qSeq (qFor (pStr (pOp addW (pOp addW (pVarR 0) (pVarR 1)) (pC (.str " \n\t")))) (gN 3) b_law_tables_3)
  (qRet (pCallD (Pu.c_same 20) [] (pCons (pC (.int 6000)) (pCons (pC (.int 6000)) pNil)))))))
theorem st_law_tables : startE N_law_tables [] = [none, none, none, none] := rfl
abbrev N_law_kinds : List Str := ["groups", "char", "kind", "row"]
def b_law_kinds_1 : PTS := qIf (tst (pOp (inW false) (pVarR 1) (pOp itemW (pVarR 3) (pC (.int 1))))) (qSet 2 (pOp itemW (pVarR 3) (pC (.int 0)))) (qNext)
def b_law_kinds_2 : PTS := qSeq (qSet 2 (pC (.str "plain")))
  (qSeq (qFor (pSeq (pVar 0)) (gN 3) b_law_kinds_1)
  (qIf (pNotT (pTru (pCallD (Pu.c_same 20) [] (pCons (pCallD c_sign_kind [] (pCons (pVar 1) pNil)) (pCons (pVar 2) pNil))))) (qRet (pC (.bl false))) (qNext)))
def q_law_kinds : PTS := qSeq (qSet 0 (pLst (pCons (pTup (pCons (pC (.str "oper")) (pCons (pC (.str "+-*/")) pNil))) (pCons (pTup (pCons (pC (.str "rel")) (pCons (pC (.str "=<>")) pNil))) (pCons (pTup (pCons (pC (.str "open")) (pCons (pC (.str "([")) pNil))) (pCons (pTup (pCons (pC (.str "shut")) (pCons (pC (.str ")]")) pNil))) (pCons (pTup (pCons (pC (.str "comma")) (pCons (pC (.str ",;")) pNil))) pNil)))))))
  (qSeq (qFor (pStr (pOp addW (pCallD c_law_letters [] pNil) (pCallD c_law_marks [] pNil))) (gN 1) b_law_kinds_2)
  (qRet (pC (.bl true))))
theorem st_law_kinds : startE N_law_kinds [] = [none, none, none, none] := rfl
abbrev N_law : List Str := ["script", "pool", "made", "text", "due", "at", "one", "told", "token", "other"]
def b_law_1 : PTS := qSeq (qApp 4 (pOp addW (pSlice sliceW (pVarR 6) (pNoPart) (pPart (pC (.int 2)))) (pCallD c_law_spot [] (pCons (pVar 3) (pCons (pVar 5) pNil)))))
  (qSet 5 (pOp addW (pVarR 5) (pCall (on1 lenW) (pCons (pOp itemW (pVarR 6) (pC (.int 2))) pNil))))
def b_law_2 : PTS := qIf (pNotT (pTru (pCallD (Pu.c_same 20) [] (pCons (pCallD c_size_of [] (pCons (pVar 8) pNil)) (pCons (pCall (on1 lenW) (pCons (pCallD c_law_form [] (pCons (pVar 8) pNil)) pNil)) pNil))))) (qRet (pC (.bl false))) (qNext)
def q_law : PTS := qSeq (qSet 1 (pCallD c_law_pool [] (pCons (pVar 0) pNil)))
  (qSeq (qSet 2 (pCallD c_law_tokens [] (pCons (pVar 1) pNil)))
  (qSeq (qSet 3 (pBM "str" joinW (pC (.str "")) (pCons (pComp [6] (pSeq (pVarR 2)) (gN 6) (pYes) (pOp itemW (pVarR 6) (pC (.int 2)))) pNil)))
  (qSeq (qSetN 4 (pLst (pNil)))
  (qSeq (qSet 5 (pC (.int 0)))
  (qSeq (qFor (pSeq (pVar 2)) (gN 6) b_law_1)
  (qSeq (qSetN 7 (pCallD c_tokenize [] (pCons (pVar 3) pNil)))
  (qSeq (qIf (pNotT (pTru (pCallB (Pu.c_same 20) [] (pCons (pVarR 7) (pCons (pVarR 4) pNil))))) (qRet (pC (.bl false))) (qNext))
  (qSeq (qRev 7)
  (qSeq (qApp 7 (pC .non))
  (qFrz 4 (qSeq (qIf (pNotT (pTru (pCallD (Pu.c_same 20) [] (pCons (pCallD c_tokenize [] (pCons (pVar 3) pNil)) (pCons (pVar 4) pNil))))) (qRet (pC (.bl false))) (qNext))
  (qSeq (qFor (pSeq (pVar 4)) (gN 8) b_law_2)
  (qSeq (qSetN 9 (pComp [8] (pSeq (pVarR 4)) (gN 8) (tst (pOp (inW true) (pOp itemW (pVarR 8) (pC (.int 0))) (pTup (pCons (pC (.str "blank")) (pCons (pC (.str "par")) pNil))))) (pVar 8)))
  (qSeq (qIf (tst (pOp eqW (pCallD c_law_draw [] (pCons (pVar 1) (pCons (pC (.int 2)) pNil))) (pC (.int 1)))) (qSet 9 (pRevL (pVarR 4))) (qFrz 9 (qNext)))
  (qSeq (qSet 9 (pOp addW (pVarR 9) (pLst (pCons (pTup (pCons (pC (.str "name")) (pCons (pC (.str "Ab")) (pCons (pC (.int 9)) (pCons (pC (.int 1)) pNil))))) (pCons (pTup (pCons (pC (.str "word")) (pCons (pC (.str "c-")) (pCons (pC (.int 2)) (pCons (pC (.int 7)) pNil))))) (pCons (pTup (pCons (pC (.str "word")) (pCons (pC (.str "d")) (pCons (pC (.int 1)) (pCons (pC (.int 1)) pNil))))) (pCons (pTup (pCons (pC (.str "name")) (pCons (pC (.str "e")) (pCons (pC (.int 1)) (pCons (pC (.int 1)) pNil))))) (pCons (pTup (pCons (pC (.str "word")) (pCons (pC (.str "1f")) (pCons (pC (.int 1)) (pCons (pC (.int 1)) pNil))))) pNil))))))))
  (qSeq (qIf (pOrT (pNotT (pTru (pCallD c_law_writes [] (pCons (pVar 4) (pCons (pBM "str" joinW (pC (.str "")) (pCons (pComp [6] (pSeq (pVarR 2)) (gN 6) (pYes) (pCallD c_law_form [] (pCons (pVar 6) pNil))) pNil)) pNil))))) (pNotT (pTru (pCallD c_law_writes [] (pCons (pVar 9) (pCons (pCallD c_law_joined [] (pCons (pVar 9) pNil)) pNil)))))) (qRet (pC (.bl false))) (qNext))
  (qRet (pAnd (pCallD c_law_tables [] pNil) (pCallD c_law_kinds [] pNil)))))))))))))))))))
theorem st_law (d0 : D) : startE N_law [d0] = [some (.sh d0), none, none, none, none, none, none, none, none, none] := rfl
end Gly
namespace Gly
open PySem PySem.Spec L2 Pu
local macro_rules | `(tactic| walk_at "pu") => `(tactic| simp only [↓r_qSeq, ↓r_qNext, ↓r_qBreak, ↓r_qCont, ↓r_qRet, ↓r_qRetN, ↓r_qSet, ↓r_qSetN, ↓r_qAsg, ↓r_qAug, ↓r_qApp, ↓r_qFrz, ↓r_qIf, ↓r_qDrop, ↓r_qSetIx, ↓r_qFor, ↓r_qWhile, ↓r_tst, ↓r_pOp, ↓r_pUn, ↓r_pC, ↓r_pVar, ↓r_pVarR, ↓r_pCall, ↓r_pCallD, ↓r_pCons, ↓r_pNil, ↓r_pAndT, ↓r_pOrT, ↓r_pNotT, ↓r_pTru, ↓r_pAnd, ↓r_pOr, ↓r_pNot, ↓r_pIf, ↓r_pIsN, ↓r_pChain, ↓r_pTup, ↓r_pLst, ↓r_pIsi, ↓r_pSeq, ↓r_pRange1, ↓r_pRange2, ↓r_pComp, ↓r_pYes, ↓r_gN, ↓r_listW, ↓r_tupleW, ↓ltW_int, ↓leW_int, ↓gtW_int, ↓geW_int, ↓subW_int, ↓fdivW_int, ↓modW_int, ↓powW_int, ↓atSh_shD, ↓atAny_shD, ↓atAny_owD, ↓atOwT_owD, ↓atOwL_owD, ↓atOwF_owD, ↓isBl_bl, ↓isInt_int, ↓isSome_someD, ↓isSome_noneD, ↓isIns_ins, ↓on1_1, ↓on2_2, ↓addW_int, ↓addW_ib, ↓addW_str, ↓addW_lst, ↓iaddW_int, ↓iaddW_str, ↓mulW_int, ↓mulW_lst, ↓eqW_int, ↓eqW_str, ↓eqW_bl, ↓eqW_nn, ↓eqW_ni, ↓eqW_in, ↓eqW_is, ↓eqW_si, ↓eqW_tt, ↓eqW_ll, ↓neW_int, ↓neW_str, ↓neW_bl, ↓neW_nn, ↓neW_ni, ↓neW_in, ↓neW_is, ↓neW_si, ↓neW_tt, ↓neW_ll, ↓negW_int, ↓absW_int, ↓intfW_int, ↓intfW_bl, ↓lenW_str, ↓lenW_lst, ↓lenW_klst, ↓lenW_tup, ↓max2W_mx, ↓min2W_mn, itemW_lstD, itemW_klstD, itemW_tupD, itemW_strD, asList_lst, asList_klst, asList_tup, tyN_non, tyN_bl, tyN_int, tyN_str, tyN_tup, tyN_lst, tyN_dK, tyN_dT, ↓truW_non, ↓truW_bl, ↓truW_int, ↓truW_str, ↓truW_lst, ↓truW_klst, ↓truW_tup, isNon_non, isNon_bl, isNon_int, isNon_str, isNon_tup, isNon_lst, isNon_klst, isNon_ins, isNon_dK, ↓gT_tup, ↓gConsP_cons, ↓gNilP_nil, wipeE_nil, wipeE_cons, atI_0, atI_1, atI_2, atI_3, atI_4, atI_5, atI_6, atI_7, atI_8, atI_9, ixN_0, ixN_1, ixN_2, ixN_3, ixN_4, List.getElem?_cons_zero, List.getElem?_cons_succ, List.getElem?_nil, List.set_cons_zero, List.set_cons_succ, List.length_cons, List.length_nil, List.length_map, Nat.reduceAdd, Int.reduceAdd, Nat.reduceLT, Nat.lt_irrefl, List.append_nil, List.nil_append, decide_eq_true_eq, decide_eq_false_iff_not, Bool.not_eq_true', Bool.not_true, Bool.not_false, ite_true, ite_false, if_true, if_false, Bool.false_eq_true, Bool.true_eq_false, ↓reduceIte, and_true, true_and, subT, String.reduceEq, decide_true, decide_false, Bool.or_false, Bool.false_or, Bool.or_true, Bool.true_or, Bool.and_true, Bool.and_false, Bool.true_and, Bool.false_and, Bool.or_self, Bool.and_self, ↓notTW_bl, ↓notTW_non, ↓notTW_int, ↓notTW_str, ↓notTW_tup, ↓notTW_lst, ↓notTW_klst, ↓isTW_bl, ↓isTW_non, ↓isTW_int, ↓isTW_str, ↓isTW_tup, ↓isTW_lst, ↓isTW_klst, ↓addW_tup, ↓inW_tup, ↓inW_lst, ↓inW_klst, ↓intLW_lst, ↓intLW_klst, ↓blLW_lst, ↓sliceW_lst, ↓sliceW_klst, ↓sliceW_tup, ↓sliceW_str, ↓sliceF_lst, ↓sliceF_klst, ↓catF_lst, ↓atIo_ow, asL_lst, asL_klst, ↓r_pUnD, ↓r_pSlice, ↓r_pNoPart, ↓r_pPart, ↓r_pEnum, ↓r_pZip, ↓r_pStr, ↓r_qExt, ↓r_qSetPop, ↓r_popW, ↓r_qPop, ↓r_qRev, ↓r_qClr, ↓r_qIns, ↓r_qFld, ↓r_pFld, ↓r_pMeth, ↓r_pMake, intsOf_map, blsOf_map, ↓r_sumG, List.map_map, Bool.not_not, ↓enumW_lst, ↓enumW_klst, ↓strW_str, ↓extW_lst, toV_str, toV_int, toV_bl, toV_non, flat_str, flat_int, flat_bl, flat_non, ne_ff, ne_tt, List.all_cons, List.all_nil, List.map_cons, List.map_nil, lz0, lz1, lz2, lz3, lz4, lz5, lz6, lz7, lz8, lz9, lz10, lz11, lz12, lz13, lz14, lz15, lz16, lw0, lw1, lw2, lw3, lw4, lw5, lw6, lw7, lw8, lw9, lw10, lw11, lw12, lw13, lw14, lw15, lw16, List.cons_append, Int.reduceToNat, Int.reducePow, Int.reduceLE, Int.reduceLT, Int.reduceNeg, Int.reduceSub, Int.reduceMul, Nat.reducePow, Nat.reduceLeDiff, Nat.reduceSub, Nat.reduceMul, atI_cast, ixN_cast, Int.zero_add, List.length_set, List.length_reverse, cutT_0, cutT_1, cutT_2, cutT_3, cutT_4, cutT_5, cutT_6, cutT_7, cutT_8, cutT_9, cutT_10, cutT_11, cutT_12, cutF_0, cutF_1, cutF_2, cutF_3, cutF_4, cutF_5, cutF_6, cutF_7, cutF_8, cutF_9, cutF_10, cutF_11, cutF_12, cutT_n, cutF_n, cut_nn, cutT_m1, List.take_succ_cons, List.take_zero, List.drop_succ_cons, List.drop_zero, Int.toNat_natCast, beq_tt, beq_ff, ↓r_pEnu, ↓r_pEnuK, ↓r_qRetF, ↓r_qRetO, ↓r_qForO, ↓r_pCallB, ↓r_pCallBN, hard_non, hard_bl, hard_int, hard_str, hard_tup, hards_nil, hards_cons, hardIn_lst, enumI_nil, enumI_cons, eq_self, ↓r_qAsg2, ↓r_qAsg3, ↓r_pChain3, intsOf_nil, intsOf_cons, blsOf_nil, blsOf_cons, ↓maxG_cons, ↓minG_cons, Option.map_some, Option.map_none, List.foldl_cons, List.foldl_nil, Int.cast_ofNat_Int, Int.reduceEq, Int.reduceNe, not_true_eq_false, not_false_eq_true, ↓r_pBM, ↓r_pBM0, ↓r_pGetK, ↓isStr_str, tyD_str, tyD_lst, tyD_klst, ↓s1W_str, ↓s0W_str, ↓joinW_str, joinD_eq, strsOf_map, strsOf_nil, strsOf_cons, ↓lcountW_lst, ↓lcountW_klst, ↓ltX_int, ↓leX_int, ↓gtX_int, ↓geX_int, ↓ltX_str, ↓ltX_tup, ↓leX_tup, ↓gtX_tup, ↓geX_tup, ↓inW_ch, ↓r_qUp, ↓r_qAppN, ↓r_qAppK, ↓r_pKid, ↓r_qSetL1, ↓r_qTupPop, ↓r_kidAt, ↓r_popK, ↓atO2_o2, ↓atKid_l, ↓strfW_int, ↓lindexW_lst, ↓lindexW_klst, ↓r_pStarA, ↓r_pLend, ↓r_tLend, ↓r_qAlias, ↓r_qSetC2, ↓ofLst_lst, ↓tupLW_lst, ↓tupsOf_map, ↓on3_3, ↓max3W_mx, ↓min3W_mx, atI_m1, List.getLast?_singleton, List.getLast?_cons_cons, ↓lenW_ktup, itemW_ktupD, asList_ktup, isNon_ktup, isK_tup, isK_lst, isK_klst, ↓gT_ktup, ↓isTW_ktup, ↓notTW_ktup, ↓inW_ktup, hard_ktup, tyN_ktup, ↓truW_ktup, ↓r_qDPut, ↓r_pDNewK, ↓r_pDNewT, ↓atOwA_ow, ↓dItemW_k, ↓dItemW_t, ↓dLookW_k, ↓dLookW_t, ↓dPutW_k, ↓dPutW_t, keyD_int, keyD_str, keysD_nil, keysD_int, keysD_str, ↓r_pRange3, ↓r_pProp, ↓r_pIsiO, ↓r_pOwnAdd, ↓r_pOwnEq, isO_ins, isO_non, isO_bl, isO_int, isO_str, isO_tup, isO_ktup, isO_lst, isO_dK, ↓r_qSetX, ↓r_qRetX, ↓r_qDropX, ↓r_qRaise, ↓r_qTryAs, ↓r_pXf, ↓r_pIsX, ↓r_qSetNn, ↓r_qRetNn, nonOr_non, nonOr_lst, onNon_non, excOr_exc, excOr_bl, excOr_int, excOr_str, excOr_non, excOr_lst, excOr_tup, isExo_exo, ↓r_pInK, ↓r_pAtK, ↓r_pRevL, ↓s3W_str, ↓revLW_lst, ↓revLW_klst, ↓mulSW_str, ↓r_nxOf, ↓r_rtOf, ↓r_nxIo, ↓r_rtIo, ↓r_nxNw, ↓r_rtNw, ↓r_rnNw, ↓r_rnOf, ↓atRf_rf, ↓r_lentNx, ↓r_lentRt, ↓r_nxX, ↓r_rtX, ↓r_xrX, ↓r_nxNn, ↓r_rtNn, ↓r_rnNn, ↓r_nxT, ↓r_rtT, ↓r_nxS, ↓r_rtS])
local macro_rules | `(tactic| walk_at "pul") => `(tactic| simp only [↓forW_nil, ↓forW_cons, ↓compW_nil, ↓compW_cons, List.cons_append, ↓r_qSeq, ↓r_qNext, ↓r_qBreak, ↓r_qCont, ↓r_qRet, ↓r_qRetN, ↓r_qSet, ↓r_qSetN, ↓r_qAsg, ↓r_qAug, ↓r_qApp, ↓r_qFrz, ↓r_qIf, ↓r_qDrop, ↓r_qSetIx, ↓r_qFor, ↓r_qWhile, ↓r_tst, ↓r_pOp, ↓r_pUn, ↓r_pC, ↓r_pVar, ↓r_pVarR, ↓r_pCall, ↓r_pCallD, ↓r_pCons, ↓r_pNil, ↓r_pAndT, ↓r_pOrT, ↓r_pNotT, ↓r_pTru, ↓r_pAnd, ↓r_pOr, ↓r_pNot, ↓r_pIf, ↓r_pIsN, ↓r_pChain, ↓r_pTup, ↓r_pLst, ↓r_pIsi, ↓r_pSeq, ↓r_pRange1, ↓r_pRange2, ↓r_pComp, ↓r_pYes, ↓r_gN, ↓r_listW, ↓r_tupleW, ↓ltW_int, ↓leW_int, ↓gtW_int, ↓geW_int, ↓subW_int, ↓fdivW_int, ↓modW_int, ↓powW_int, ↓atSh_shD, ↓atAny_shD, ↓atAny_owD, ↓atOwT_owD, ↓atOwL_owD, ↓atOwF_owD, ↓isBl_bl, ↓isInt_int, ↓isSome_someD, ↓isSome_noneD, ↓isIns_ins, ↓on1_1, ↓on2_2, ↓addW_int, ↓addW_ib, ↓addW_str, ↓addW_lst, ↓iaddW_int, ↓iaddW_str, ↓mulW_int, ↓mulW_lst, ↓eqW_int, ↓eqW_str, ↓eqW_bl, ↓eqW_nn, ↓eqW_ni, ↓eqW_in, ↓eqW_is, ↓eqW_si, ↓eqW_tt, ↓eqW_ll, ↓neW_int, ↓neW_str, ↓neW_bl, ↓neW_nn, ↓neW_ni, ↓neW_in, ↓neW_is, ↓neW_si, ↓neW_tt, ↓neW_ll, ↓negW_int, ↓absW_int, ↓intfW_int, ↓intfW_bl, ↓lenW_str, ↓lenW_lst, ↓lenW_klst, ↓lenW_tup, ↓max2W_mx, ↓min2W_mn, itemW_lstD, itemW_klstD, itemW_tupD, itemW_strD, asList_lst, asList_klst, asList_tup, tyN_non, tyN_bl, tyN_int, tyN_str, tyN_tup, tyN_lst, tyN_dK, tyN_dT, ↓truW_non, ↓truW_bl, ↓truW_int, ↓truW_str, ↓truW_lst, ↓truW_klst, ↓truW_tup, isNon_non, isNon_bl, isNon_int, isNon_str, isNon_tup, isNon_lst, isNon_klst, isNon_ins, isNon_dK, ↓gT_tup, ↓gConsP_cons, ↓gNilP_nil, wipeE_nil, wipeE_cons, atI_0, atI_1, atI_2, atI_3, atI_4, atI_5, atI_6, atI_7, atI_8, atI_9, ixN_0, ixN_1, ixN_2, ixN_3, ixN_4, List.getElem?_cons_zero, List.getElem?_cons_succ, List.getElem?_nil, List.set_cons_zero, List.set_cons_succ, List.length_cons, List.length_nil, List.length_map, Nat.reduceAdd, Int.reduceAdd, Nat.reduceLT, Nat.lt_irrefl, List.append_nil, List.nil_append, decide_eq_true_eq, decide_eq_false_iff_not, Bool.not_eq_true', Bool.not_true, Bool.not_false, ite_true, ite_false, if_true, if_false, Bool.false_eq_true, Bool.true_eq_false, ↓reduceIte, and_true, true_and, subT, String.reduceEq, decide_true, decide_false, Bool.or_false, Bool.false_or, Bool.or_true, Bool.true_or, Bool.and_true, Bool.and_false, Bool.true_and, Bool.false_and, Bool.or_self, Bool.and_self, ↓notTW_bl, ↓notTW_non, ↓notTW_int, ↓notTW_str, ↓notTW_tup, ↓notTW_lst, ↓notTW_klst, ↓isTW_bl, ↓isTW_non, ↓isTW_int, ↓isTW_str, ↓isTW_tup, ↓isTW_lst, ↓isTW_klst, ↓addW_tup, ↓inW_tup, ↓inW_lst, ↓inW_klst, ↓intLW_lst, ↓intLW_klst, ↓blLW_lst, ↓sliceW_lst, ↓sliceW_klst, ↓sliceW_tup, ↓sliceW_str, ↓sliceF_lst, ↓sliceF_klst, ↓catF_lst, ↓atIo_ow, asL_lst, asL_klst, ↓r_pUnD, ↓r_pSlice, ↓r_pNoPart, ↓r_pPart, ↓r_pEnum, ↓r_pZip, ↓r_pStr, ↓r_qExt, ↓r_qSetPop, ↓r_popW, ↓r_qPop, ↓r_qRev, ↓r_qClr, ↓r_qIns, ↓r_qFld, ↓r_pFld, ↓r_pMeth, ↓r_pMake, intsOf_map, blsOf_map, ↓r_sumG, List.map_map, Bool.not_not, ↓enumW_lst, ↓enumW_klst, ↓strW_str, ↓extW_lst, toV_str, toV_int, toV_bl, toV_non, flat_str, flat_int, flat_bl, flat_non, ne_ff, ne_tt, List.all_cons, List.all_nil, List.map_cons, List.map_nil, lz0, lz1, lz2, lz3, lz4, lz5, lz6, lz7, lz8, lz9, lz10, lz11, lz12, lz13, lz14, lz15, lz16, lw0, lw1, lw2, lw3, lw4, lw5, lw6, lw7, lw8, lw9, lw10, lw11, lw12, lw13, lw14, lw15, lw16, List.cons_append, Int.reduceToNat, Int.reducePow, Int.reduceLE, Int.reduceLT, Int.reduceNeg, Int.reduceSub, Int.reduceMul, Nat.reducePow, Nat.reduceLeDiff, Nat.reduceSub, Nat.reduceMul, atI_cast, ixN_cast, Int.zero_add, List.length_set, List.length_reverse, cutT_0, cutT_1, cutT_2, cutT_3, cutT_4, cutT_5, cutT_6, cutT_7, cutT_8, cutT_9, cutT_10, cutT_11, cutT_12, cutF_0, cutF_1, cutF_2, cutF_3, cutF_4, cutF_5, cutF_6, cutF_7, cutF_8, cutF_9, cutF_10, cutF_11, cutF_12, cutT_n, cutF_n, cut_nn, cutT_m1, List.take_succ_cons, List.take_zero, List.drop_succ_cons, List.drop_zero, Int.toNat_natCast, beq_tt, beq_ff, ↓r_pEnu, ↓r_pEnuK, ↓r_qRetF, ↓r_qRetO, ↓r_qForO, ↓r_pCallB, ↓r_pCallBN, hard_non, hard_bl, hard_int, hard_str, hard_tup, hards_nil, hards_cons, hardIn_lst, enumI_nil, enumI_cons, eq_self, ↓r_qAsg2, ↓r_qAsg3, ↓r_pChain3, intsOf_nil, intsOf_cons, blsOf_nil, blsOf_cons, ↓maxG_cons, ↓minG_cons, Option.map_some, Option.map_none, List.foldl_cons, List.foldl_nil, Int.cast_ofNat_Int, Int.reduceEq, Int.reduceNe, not_true_eq_false, not_false_eq_true, ↓r_pBM, ↓r_pBM0, ↓r_pGetK, ↓isStr_str, tyD_str, tyD_lst, tyD_klst, ↓s1W_str, ↓s0W_str, ↓joinW_str, joinD_eq, strsOf_map, strsOf_nil, strsOf_cons, ↓lcountW_lst, ↓lcountW_klst, ↓ltX_int, ↓leX_int, ↓gtX_int, ↓geX_int, ↓ltX_str, ↓ltX_tup, ↓leX_tup, ↓gtX_tup, ↓geX_tup, ↓inW_ch, ↓r_qUp, ↓r_qAppN, ↓r_qAppK, ↓r_pKid, ↓r_qSetL1, ↓r_qTupPop, ↓r_kidAt, ↓r_popK, ↓atO2_o2, ↓atKid_l, ↓strfW_int, ↓lindexW_lst, ↓lindexW_klst, ↓r_pStarA, ↓r_pLend, ↓r_tLend, ↓r_qAlias, ↓r_qSetC2, ↓ofLst_lst, ↓tupLW_lst, ↓tupsOf_map, ↓on3_3, ↓max3W_mx, ↓min3W_mx, atI_m1, List.getLast?_singleton, List.getLast?_cons_cons, ↓lenW_ktup, itemW_ktupD, asList_ktup, isNon_ktup, isK_tup, isK_lst, isK_klst, ↓gT_ktup, ↓isTW_ktup, ↓notTW_ktup, ↓inW_ktup, hard_ktup, tyN_ktup, ↓truW_ktup, ↓r_qDPut, ↓r_pDNewK, ↓r_pDNewT, ↓atOwA_ow, ↓dItemW_k, ↓dItemW_t, ↓dLookW_k, ↓dLookW_t, ↓dPutW_k, ↓dPutW_t, keyD_int, keyD_str, keysD_nil, keysD_int, keysD_str, ↓r_pRange3, ↓r_pProp, ↓r_pIsiO, ↓r_pOwnAdd, ↓r_pOwnEq, isO_ins, isO_non, isO_bl, isO_int, isO_str, isO_tup, isO_ktup, isO_lst, isO_dK, ↓r_qSetX, ↓r_qRetX, ↓r_qDropX, ↓r_qRaise, ↓r_qTryAs, ↓r_pXf, ↓r_pIsX, ↓r_qSetNn, ↓r_qRetNn, nonOr_non, nonOr_lst, onNon_non, excOr_exc, excOr_bl, excOr_int, excOr_str, excOr_non, excOr_lst, excOr_tup, isExo_exo, ↓r_pInK, ↓r_pAtK, ↓r_pRevL, ↓s3W_str, ↓revLW_lst, ↓revLW_klst, ↓mulSW_str, ↓r_nxOf, ↓r_rtOf, ↓r_nxIo, ↓r_rtIo, ↓r_nxNw, ↓r_rtNw, ↓r_rnNw, ↓r_rnOf, ↓atRf_rf, ↓r_lentNx, ↓r_lentRt, ↓r_nxX, ↓r_rtX, ↓r_xrX, ↓r_nxNn, ↓r_rtNn, ↓r_rnNn, ↓r_nxT, ↓r_rtT, ↓r_nxS, ↓r_rtS])
theorem len_is_letter (ds : List D) (R : DK) (h : c_is_letter ds R) : ds.length = 1 := by
  obtain ⟨_, rfl, _⟩ := h; rfl
theorem pure_is_letter (ds : List D) (R : DK) (h : c_is_letter ds R) : q_is_letter (endOf R) (startE N_is_letter ds) := by
  obtain ⟨c, rfl, r⟩ := h
  rw [st_is_letter]
  unfold q_is_letter
  walk_at "pu"
  rw [inW_Tx]
  show R (.bl (false != decide (c ∈ chL)))
  rw [Bool.false_bne]
  exact r
theorem len_is_digit (ds : List D) (R : DK) (h : c_is_digit ds R) : ds.length = 1 := by
  obtain ⟨_, rfl, _⟩ := h; rfl
theorem pure_is_digit (ds : List D) (R : DK) (h : c_is_digit ds R) : q_is_digit (endOf R) (startE N_is_digit ds) := by
  obtain ⟨c, rfl, r⟩ := h
  rw [st_is_digit]
  unfold q_is_digit
  walk_at "pu"
  rw [inW_Tx, Bool.false_bne]
  exact r
theorem chW_eq : ("abcdefghijklmnopqrstuvwxyzABCDEFGHIJKLMNOPQRSTUVWXYZ0123456789!\"'()*+,-./:;<=>?\x40[]`|" : Str).cps.toList = chW := by decide +kernel
theorem len_is_word_char (ds : List D) (R : DK) (h : c_is_word_char ds R) : ds.length = 1 := by
  obtain ⟨_, rfl, _⟩ := h; rfl
theorem pure_is_word_char (ds : List D) (R : DK) (h : c_is_word_char ds R) : q_is_word_char (endOf R) (startE N_is_word_char ds) := by
  obtain ⟨c, rfl, r⟩ := h
  rw [st_is_word_char]
  unfold q_is_word_char
  walk_at "pu"
  rw [inW_Tx, Bool.false_bne, chW_eq]
  exact r
theorem len_run_end (ds : List D) (R : DK) (h : c_run_end ds R) : ds.length = 3 := by
  obtain ⟨_, _, _, _, rfl, _⟩ := h; rfl
theorem pure_run_end (ds : List D) (R : DK) (h : c_run_end ds R) : q_run_end (endOf R) (startE N_run_end ds) := by
  obtain ⟨a, r, s, z, rfl, hl, hr, ho, p⟩ := h
  rw [st_run_end]
  unfold q_run_end b_run_end_1
  walk_at "pu"
  have eN : (Tx (a ++ r ++ s)).length = a.length + r.length + s.length := by rw [Tx_len]; simp only [List.length_append]
  have hl' : a.length + r.length + s.length ≤ 1000000 := by simpa only [List.length_append] using hl
  refine whileI_inv (fun m ρ => ∃ e : Nat, ρ = [some (.sh (.str (Tx (a ++ r ++ s)))), some (.sh (.int a.length)), some (.sh (.str z)), some (.sh (.int e))] ∧ a.length ≤ e ∧ e ≤ a.length + r.length ∧ m = a.length + r.length - e) r.length ⟨a.length, rfl, Nat.le_refl _, by omega, by omega⟩ ?_
  rintro m ρ ⟨e, rfl, h1, h2, h3⟩
  walk_at "pu"
  have hz : (Tx (a ++ r ++ s)).length ≤ sizeLine := lsz (by omega)
  refine ⟨hz, ?_⟩
  by_cases q : e < a.length + r.length + s.length
  · rw [if_pos (by omega)]
    refine ⟨hz, ?_⟩
    rw [Tx_list]
    have hq : e < (a ++ r ++ s).length := by simp only [List.length_append]; omega
    rw [List.getElem?_eq_getElem hq]
    show inW false (D.str (Tx [(a ++ r ++ s)[e]])) (D.str z) _
    rw [inW_Tx]
    by_cases q2 : e < a.length + r.length
    · have hm : (a ++ r ++ s)[e] ∈ z.cps.toList := by
        refine hr _ ?_
        rw [List.getElem_append_left (by simp only [List.length_append]; omega), List.getElem_append_right h1]
        exact List.getElem_mem _
      rw [decide_eq_true hm]
      walk_at "pu"
      exact ⟨m - 1, by omega, e + 1, rfl, by omega, by omega, by omega⟩
    · have he : e = a.length + r.length := by omega
      subst he
      have hm : ¬ (a ++ r ++ s)[a.length + r.length] ∈ z.cps.toList := by
        rw [List.getElem_append_right (by simp)]
        cases s with
        | nil => simp at q
        | cons c s => simpa [Off] using ho
      rw [decide_eq_false hm]
      walk_at "pu"
      exact p
  · rw [if_neg (by omega)]
    have he : e = a.length + r.length := by omega
    subst he
    exact p
theorem lit_nil : ("" : Str) = Tx [] := by decide +kernel
theorem lit_hyph : ("-" : Str) = Tx [45] := by decide +kernel
theorem lit_back : ("\\" : Str) = Tx [92] := by decide +kernel
theorem lit_hash : ("#" : Str) = Tx [35] := by decide +kernel
theorem lit_sp : (" " : Str) = Tx [32] := by decide +kernel
theorem lit_nl : ("\n" : Str) = Tx [10] := by decide +kernel
theorem lit_2nl : ("\n\n" : Str) = Tx [10, 10] := by decide +kernel
theorem lit_spnl : (" \n" : Str) = Tx [32, 10] := by decide +kernel
theorem lit_bh : ("\\-" : Str) = Tx [92, 45] := by decide +kernel
theorem lit_bb : ("\\\\" : Str) = Tx [92, 92] := by decide +kernel
def chS : List Nat := [123, 125, 36, 126, 38, 94, 95]
theorem ks_S : ks_SINGLES = chS.map (fun c => Tx [c]) := by decide +kernel
theorem inS {c : Nat} : (Tx [c] ∈ ks_SINGLES) = (c ∈ chS) := by rw [ks_S]; exact propext (memK c chS)
local macro_rules | `(tactic| walk_at "pu") => `(tactic| simp only [↓r_qSeq, ↓r_qNext, ↓r_qBreak, ↓r_qCont, ↓r_qRet, ↓r_qRetN, ↓r_qSet, ↓r_qSetN, ↓r_qAsg, ↓r_qAug, ↓r_qApp, ↓r_qFrz, ↓r_qIf, ↓r_qDrop, ↓r_qSetIx, ↓r_qFor, ↓r_qWhile, ↓r_tst, ↓r_pOp, ↓r_pUn, ↓r_pC, ↓r_pVar, ↓r_pVarR, ↓r_pCall, ↓r_pCallD, ↓r_pCons, ↓r_pNil, ↓r_pAndT, ↓r_pOrT, ↓r_pNotT, ↓r_pTru, ↓r_pAnd, ↓r_pOr, ↓r_pNot, ↓r_pIf, ↓r_pIsN, ↓r_pChain, ↓r_pTup, ↓r_pLst, ↓r_pIsi, ↓r_pSeq, ↓r_pRange1, ↓r_pRange2, ↓r_pComp, ↓r_pYes, ↓r_gN, ↓r_listW, ↓r_tupleW, ↓ltW_int, ↓leW_int, ↓gtW_int, ↓geW_int, ↓subW_int, ↓fdivW_int, ↓modW_int, ↓powW_int, ↓atSh_shD, ↓atAny_shD, ↓atAny_owD, ↓atOwT_owD, ↓atOwL_owD, ↓atOwF_owD, ↓isBl_bl, ↓isInt_int, ↓isSome_someD, ↓isSome_noneD, ↓isIns_ins, ↓on1_1, ↓on2_2, ↓addW_int, ↓addW_ib, ↓addW_str, ↓addW_lst, ↓iaddW_int, ↓iaddW_str, ↓mulW_int, ↓mulW_lst, ↓eqW_int, ↓eqW_str, ↓eqW_bl, ↓eqW_nn, ↓eqW_ni, ↓eqW_in, ↓eqW_is, ↓eqW_si, ↓eqW_tt, ↓eqW_ll, ↓neW_int, ↓neW_str, ↓neW_bl, ↓neW_nn, ↓neW_ni, ↓neW_in, ↓neW_is, ↓neW_si, ↓neW_tt, ↓neW_ll, ↓negW_int, ↓absW_int, ↓intfW_int, ↓intfW_bl, ↓lenW_str, ↓lenW_lst, ↓lenW_klst, ↓lenW_tup, ↓max2W_mx, ↓min2W_mn, itemW_lstD, itemW_klstD, itemW_tupD, itemW_strD, asList_lst, asList_klst, asList_tup, tyN_non, tyN_bl, tyN_int, tyN_str, tyN_tup, tyN_lst, tyN_dK, tyN_dT, ↓truW_non, ↓truW_bl, ↓truW_int, ↓truW_str, ↓truW_lst, ↓truW_klst, ↓truW_tup, isNon_non, isNon_bl, isNon_int, isNon_str, isNon_tup, isNon_lst, isNon_klst, isNon_ins, isNon_dK, ↓gT_tup, ↓gConsP_cons, ↓gNilP_nil, wipeE_nil, wipeE_cons, atI_0, atI_1, atI_2, atI_3, atI_4, atI_5, atI_6, atI_7, atI_8, atI_9, ixN_0, ixN_1, ixN_2, ixN_3, ixN_4, List.getElem?_cons_zero, List.getElem?_cons_succ, List.getElem?_nil, List.set_cons_zero, List.set_cons_succ, List.length_cons, List.length_nil, List.length_map, Nat.reduceAdd, Int.reduceAdd, Nat.reduceLT, Nat.lt_irrefl, List.append_nil, List.nil_append, decide_eq_true_eq, decide_eq_false_iff_not, Bool.not_eq_true', Bool.not_true, Bool.not_false, ite_true, ite_false, if_true, if_false, Bool.false_eq_true, Bool.true_eq_false, ↓reduceIte, and_true, true_and, subT, String.reduceEq, decide_true, decide_false, Bool.or_false, Bool.false_or, Bool.or_true, Bool.true_or, Bool.and_true, Bool.and_false, Bool.true_and, Bool.false_and, Bool.or_self, Bool.and_self, ↓notTW_bl, ↓notTW_non, ↓notTW_int, ↓notTW_str, ↓notTW_tup, ↓notTW_lst, ↓notTW_klst, ↓isTW_bl, ↓isTW_non, ↓isTW_int, ↓isTW_str, ↓isTW_tup, ↓isTW_lst, ↓isTW_klst, ↓addW_tup, ↓inW_tup, ↓inW_lst, ↓inW_klst, ↓intLW_lst, ↓intLW_klst, ↓blLW_lst, ↓sliceW_lst, ↓sliceW_klst, ↓sliceW_tup, ↓sliceW_str, ↓sliceF_lst, ↓sliceF_klst, ↓catF_lst, ↓atIo_ow, asL_lst, asL_klst, ↓r_pUnD, ↓r_pSlice, ↓r_pNoPart, ↓r_pPart, ↓r_pEnum, ↓r_pZip, ↓r_pStr, ↓r_qExt, ↓r_qSetPop, ↓r_popW, ↓r_qPop, ↓r_qRev, ↓r_qClr, ↓r_qIns, ↓r_qFld, ↓r_pFld, ↓r_pMeth, ↓r_pMake, intsOf_map, blsOf_map, ↓r_sumG, List.map_map, Bool.not_not, ↓enumW_lst, ↓enumW_klst, ↓strW_str, ↓extW_lst, toV_str, toV_int, toV_bl, toV_non, flat_str, flat_int, flat_bl, flat_non, ne_ff, ne_tt, List.all_cons, List.all_nil, List.map_cons, List.map_nil, lz0, lz1, lz2, lz3, lz4, lz5, lz6, lz7, lz8, lz9, lz10, lz11, lz12, lz13, lz14, lz15, lz16, lw0, lw1, lw2, lw3, lw4, lw5, lw6, lw7, lw8, lw9, lw10, lw11, lw12, lw13, lw14, lw15, lw16, List.cons_append, Int.reduceToNat, Int.reducePow, Int.reduceLE, Int.reduceLT, Int.reduceNeg, Int.reduceSub, Int.reduceMul, Nat.reducePow, Nat.reduceLeDiff, Nat.reduceSub, Nat.reduceMul, atI_cast, ixN_cast, Int.zero_add, List.length_set, List.length_reverse, cutT_0, cutT_1, cutT_2, cutT_3, cutT_4, cutT_5, cutT_6, cutT_7, cutT_8, cutT_9, cutT_10, cutT_11, cutT_12, cutF_0, cutF_1, cutF_2, cutF_3, cutF_4, cutF_5, cutF_6, cutF_7, cutF_8, cutF_9, cutF_10, cutF_11, cutF_12, cutT_n, cutF_n, cut_nn, cutT_m1, List.take_succ_cons, List.take_zero, List.drop_succ_cons, List.drop_zero, Int.toNat_natCast, beq_tt, beq_ff, ↓r_pEnu, ↓r_pEnuK, ↓r_qRetF, ↓r_qRetO, ↓r_qForO, ↓r_pCallB, ↓r_pCallBN, hard_non, hard_bl, hard_int, hard_str, hard_tup, hards_nil, hards_cons, hardIn_lst, enumI_nil, enumI_cons, eq_self, ↓r_qAsg2, ↓r_qAsg3, ↓r_pChain3, intsOf_nil, intsOf_cons, blsOf_nil, blsOf_cons, ↓maxG_cons, ↓minG_cons, Option.map_some, Option.map_none, List.foldl_cons, List.foldl_nil, Int.cast_ofNat_Int, Int.reduceEq, Int.reduceNe, not_true_eq_false, not_false_eq_true, ↓r_pBM, ↓r_pBM0, ↓r_pGetK, ↓isStr_str, tyD_str, tyD_lst, tyD_klst, ↓s1W_str, ↓s0W_str, ↓joinW_str, joinD_eq, strsOf_map, strsOf_nil, strsOf_cons, ↓lcountW_lst, ↓lcountW_klst, ↓ltX_int, ↓leX_int, ↓gtX_int, ↓geX_int, ↓ltX_str, ↓ltX_tup, ↓leX_tup, ↓gtX_tup, ↓geX_tup, ↓inW_ch, ↓r_qUp, ↓r_qAppN, ↓r_qAppK, ↓r_pKid, ↓r_qSetL1, ↓r_qTupPop, ↓r_kidAt, ↓r_popK, ↓atO2_o2, ↓atKid_l, ↓strfW_int, ↓lindexW_lst, ↓lindexW_klst, ↓r_pStarA, ↓r_pLend, ↓r_tLend, ↓r_qAlias, ↓r_qSetC2, ↓ofLst_lst, ↓tupLW_lst, ↓tupsOf_map, ↓on3_3, ↓max3W_mx, ↓min3W_mx, atI_m1, List.getLast?_singleton, List.getLast?_cons_cons, ↓lenW_ktup, itemW_ktupD, asList_ktup, isNon_ktup, isK_tup, isK_lst, isK_klst, ↓gT_ktup, ↓isTW_ktup, ↓notTW_ktup, ↓inW_ktup, hard_ktup, tyN_ktup, ↓truW_ktup, ↓r_qDPut, ↓r_pDNewK, ↓r_pDNewT, ↓atOwA_ow, ↓dItemW_k, ↓dItemW_t, ↓dLookW_k, ↓dLookW_t, ↓dPutW_k, ↓dPutW_t, keyD_int, keyD_str, keysD_nil, keysD_int, keysD_str, ↓r_pRange3, ↓r_pProp, ↓r_pIsiO, ↓r_pOwnAdd, ↓r_pOwnEq, isO_ins, isO_non, isO_bl, isO_int, isO_str, isO_tup, isO_ktup, isO_lst, isO_dK, ↓r_qSetX, ↓r_qRetX, ↓r_qDropX, ↓r_qRaise, ↓r_qTryAs, ↓r_pXf, ↓r_pIsX, ↓r_qSetNn, ↓r_qRetNn, nonOr_non, nonOr_lst, onNon_non, excOr_exc, excOr_bl, excOr_int, excOr_str, excOr_non, excOr_lst, excOr_tup, isExo_exo, ↓r_pInK, ↓r_pAtK, ↓r_pRevL, ↓s3W_str, ↓revLW_lst, ↓revLW_klst, ↓mulSW_str, ↓r_nxOf, ↓r_rtOf, ↓r_nxIo, ↓r_rtIo, ↓r_nxNw, ↓r_rtNw, ↓r_rnNw, ↓r_rnOf, ↓atRf_rf, ↓r_lentNx, ↓r_lentRt, ↓r_nxX, ↓r_rtX, ↓r_xrX, ↓r_nxNn, ↓r_rtNn, ↓r_rnNn, ↓r_nxT, ↓r_rtT, ↓r_nxS, ↓r_rtS, ch_Tx, inS, Tx1, lit_hyph, lit_back, lit_hash, lit_sp, lit_nl])
local macro_rules | `(tactic| walk_at "pul") => `(tactic| simp only [↓forW_nil, ↓forW_cons, ↓compW_nil, ↓compW_cons, List.cons_append, ↓r_qSeq, ↓r_qNext, ↓r_qBreak, ↓r_qCont, ↓r_qRet, ↓r_qRetN, ↓r_qSet, ↓r_qSetN, ↓r_qAsg, ↓r_qAug, ↓r_qApp, ↓r_qFrz, ↓r_qIf, ↓r_qDrop, ↓r_qSetIx, ↓r_qFor, ↓r_qWhile, ↓r_tst, ↓r_pOp, ↓r_pUn, ↓r_pC, ↓r_pVar, ↓r_pVarR, ↓r_pCall, ↓r_pCallD, ↓r_pCons, ↓r_pNil, ↓r_pAndT, ↓r_pOrT, ↓r_pNotT, ↓r_pTru, ↓r_pAnd, ↓r_pOr, ↓r_pNot, ↓r_pIf, ↓r_pIsN, ↓r_pChain, ↓r_pTup, ↓r_pLst, ↓r_pIsi, ↓r_pSeq, ↓r_pRange1, ↓r_pRange2, ↓r_pComp, ↓r_pYes, ↓r_gN, ↓r_listW, ↓r_tupleW, ↓ltW_int, ↓leW_int, ↓gtW_int, ↓geW_int, ↓subW_int, ↓fdivW_int, ↓modW_int, ↓powW_int, ↓atSh_shD, ↓atAny_shD, ↓atAny_owD, ↓atOwT_owD, ↓atOwL_owD, ↓atOwF_owD, ↓isBl_bl, ↓isInt_int, ↓isSome_someD, ↓isSome_noneD, ↓isIns_ins, ↓on1_1, ↓on2_2, ↓addW_int, ↓addW_ib, ↓addW_str, ↓addW_lst, ↓iaddW_int, ↓iaddW_str, ↓mulW_int, ↓mulW_lst, ↓eqW_int, ↓eqW_str, ↓eqW_bl, ↓eqW_nn, ↓eqW_ni, ↓eqW_in, ↓eqW_is, ↓eqW_si, ↓eqW_tt, ↓eqW_ll, ↓neW_int, ↓neW_str, ↓neW_bl, ↓neW_nn, ↓neW_ni, ↓neW_in, ↓neW_is, ↓neW_si, ↓neW_tt, ↓neW_ll, ↓negW_int, ↓absW_int, ↓intfW_int, ↓intfW_bl, ↓lenW_str, ↓lenW_lst, ↓lenW_klst, ↓lenW_tup, ↓max2W_mx, ↓min2W_mn, itemW_lstD, itemW_klstD, itemW_tupD, itemW_strD, asList_lst, asList_klst, asList_tup, tyN_non, tyN_bl, tyN_int, tyN_str, tyN_tup, tyN_lst, tyN_dK, tyN_dT, ↓truW_non, ↓truW_bl, ↓truW_int, ↓truW_str, ↓truW_lst, ↓truW_klst, ↓truW_tup, isNon_non, isNon_bl, isNon_int, isNon_str, isNon_tup, isNon_lst, isNon_klst, isNon_ins, isNon_dK, ↓gT_tup, ↓gConsP_cons, ↓gNilP_nil, wipeE_nil, wipeE_cons, atI_0, atI_1, atI_2, atI_3, atI_4, atI_5, atI_6, atI_7, atI_8, atI_9, ixN_0, ixN_1, ixN_2, ixN_3, ixN_4, List.getElem?_cons_zero, List.getElem?_cons_succ, List.getElem?_nil, List.set_cons_zero, List.set_cons_succ, List.length_cons, List.length_nil, List.length_map, Nat.reduceAdd, Int.reduceAdd, Nat.reduceLT, Nat.lt_irrefl, List.append_nil, List.nil_append, decide_eq_true_eq, decide_eq_false_iff_not, Bool.not_eq_true', Bool.not_true, Bool.not_false, ite_true, ite_false, if_true, if_false, Bool.false_eq_true, Bool.true_eq_false, ↓reduceIte, and_true, true_and, subT, String.reduceEq, decide_true, decide_false, Bool.or_false, Bool.false_or, Bool.or_true, Bool.true_or, Bool.and_true, Bool.and_false, Bool.true_and, Bool.false_and, Bool.or_self, Bool.and_self, ↓notTW_bl, ↓notTW_non, ↓notTW_int, ↓notTW_str, ↓notTW_tup, ↓notTW_lst, ↓notTW_klst, ↓isTW_bl, ↓isTW_non, ↓isTW_int, ↓isTW_str, ↓isTW_tup, ↓isTW_lst, ↓isTW_klst, ↓addW_tup, ↓inW_tup, ↓inW_lst, ↓inW_klst, ↓intLW_lst, ↓intLW_klst, ↓blLW_lst, ↓sliceW_lst, ↓sliceW_klst, ↓sliceW_tup, ↓sliceW_str, ↓sliceF_lst, ↓sliceF_klst, ↓catF_lst, ↓atIo_ow, asL_lst, asL_klst, ↓r_pUnD, ↓r_pSlice, ↓r_pNoPart, ↓r_pPart, ↓r_pEnum, ↓r_pZip, ↓r_pStr, ↓r_qExt, ↓r_qSetPop, ↓r_popW, ↓r_qPop, ↓r_qRev, ↓r_qClr, ↓r_qIns, ↓r_qFld, ↓r_pFld, ↓r_pMeth, ↓r_pMake, intsOf_map, blsOf_map, ↓r_sumG, List.map_map, Bool.not_not, ↓enumW_lst, ↓enumW_klst, ↓strW_str, ↓extW_lst, toV_str, toV_int, toV_bl, toV_non, flat_str, flat_int, flat_bl, flat_non, ne_ff, ne_tt, List.all_cons, List.all_nil, List.map_cons, List.map_nil, lz0, lz1, lz2, lz3, lz4, lz5, lz6, lz7, lz8, lz9, lz10, lz11, lz12, lz13, lz14, lz15, lz16, lw0, lw1, lw2, lw3, lw4, lw5, lw6, lw7, lw8, lw9, lw10, lw11, lw12, lw13, lw14, lw15, lw16, List.cons_append, Int.reduceToNat, Int.reducePow, Int.reduceLE, Int.reduceLT, Int.reduceNeg, Int.reduceSub, Int.reduceMul, Nat.reducePow, Nat.reduceLeDiff, Nat.reduceSub, Nat.reduceMul, atI_cast, ixN_cast, Int.zero_add, List.length_set, List.length_reverse, cutT_0, cutT_1, cutT_2, cutT_3, cutT_4, cutT_5, cutT_6, cutT_7, cutT_8, cutT_9, cutT_10, cutT_11, cutT_12, cutF_0, cutF_1, cutF_2, cutF_3, cutF_4, cutF_5, cutF_6, cutF_7, cutF_8, cutF_9, cutF_10, cutF_11, cutF_12, cutT_n, cutF_n, cut_nn, cutT_m1, List.take_succ_cons, List.take_zero, List.drop_succ_cons, List.drop_zero, Int.toNat_natCast, beq_tt, beq_ff, ↓r_pEnu, ↓r_pEnuK, ↓r_qRetF, ↓r_qRetO, ↓r_qForO, ↓r_pCallB, ↓r_pCallBN, hard_non, hard_bl, hard_int, hard_str, hard_tup, hards_nil, hards_cons, hardIn_lst, enumI_nil, enumI_cons, eq_self, ↓r_qAsg2, ↓r_qAsg3, ↓r_pChain3, intsOf_nil, intsOf_cons, blsOf_nil, blsOf_cons, ↓maxG_cons, ↓minG_cons, Option.map_some, Option.map_none, List.foldl_cons, List.foldl_nil, Int.cast_ofNat_Int, Int.reduceEq, Int.reduceNe, not_true_eq_false, not_false_eq_true, ↓r_pBM, ↓r_pBM0, ↓r_pGetK, ↓isStr_str, tyD_str, tyD_lst, tyD_klst, ↓s1W_str, ↓s0W_str, ↓joinW_str, joinD_eq, strsOf_map, strsOf_nil, strsOf_cons, ↓lcountW_lst, ↓lcountW_klst, ↓ltX_int, ↓leX_int, ↓gtX_int, ↓geX_int, ↓ltX_str, ↓ltX_tup, ↓leX_tup, ↓gtX_tup, ↓geX_tup, ↓inW_ch, ↓r_qUp, ↓r_qAppN, ↓r_qAppK, ↓r_pKid, ↓r_qSetL1, ↓r_qTupPop, ↓r_kidAt, ↓r_popK, ↓atO2_o2, ↓atKid_l, ↓strfW_int, ↓lindexW_lst, ↓lindexW_klst, ↓r_pStarA, ↓r_pLend, ↓r_tLend, ↓r_qAlias, ↓r_qSetC2, ↓ofLst_lst, ↓tupLW_lst, ↓tupsOf_map, ↓on3_3, ↓max3W_mx, ↓min3W_mx, atI_m1, List.getLast?_singleton, List.getLast?_cons_cons, ↓lenW_ktup, itemW_ktupD, asList_ktup, isNon_ktup, isK_tup, isK_lst, isK_klst, ↓gT_ktup, ↓isTW_ktup, ↓notTW_ktup, ↓inW_ktup, hard_ktup, tyN_ktup, ↓truW_ktup, ↓r_qDPut, ↓r_pDNewK, ↓r_pDNewT, ↓atOwA_ow, ↓dItemW_k, ↓dItemW_t, ↓dLookW_k, ↓dLookW_t, ↓dPutW_k, ↓dPutW_t, keyD_int, keyD_str, keysD_nil, keysD_int, keysD_str, ↓r_pRange3, ↓r_pProp, ↓r_pIsiO, ↓r_pOwnAdd, ↓r_pOwnEq, isO_ins, isO_non, isO_bl, isO_int, isO_str, isO_tup, isO_ktup, isO_lst, isO_dK, ↓r_qSetX, ↓r_qRetX, ↓r_qDropX, ↓r_qRaise, ↓r_qTryAs, ↓r_pXf, ↓r_pIsX, ↓r_qSetNn, ↓r_qRetNn, nonOr_non, nonOr_lst, onNon_non, excOr_exc, excOr_bl, excOr_int, excOr_str, excOr_non, excOr_lst, excOr_tup, isExo_exo, ↓r_pInK, ↓r_pAtK, ↓r_pRevL, ↓s3W_str, ↓revLW_lst, ↓revLW_klst, ↓mulSW_str, ↓r_nxOf, ↓r_rtOf, ↓r_nxIo, ↓r_rtIo, ↓r_nxNw, ↓r_rtNw, ↓r_rnNw, ↓r_rnOf, ↓atRf_rf, ↓r_lentNx, ↓r_lentRt, ↓r_nxX, ↓r_rtX, ↓r_xrX, ↓r_nxNn, ↓r_rtNn, ↓r_rnNn, ↓r_nxT, ↓r_rtT, ↓r_nxS, ↓r_rtS, ch_Tx, inS, Tx1, lit_hyph, lit_back, lit_hash, lit_sp, lit_nl])
theorem inDig {c : Nat} {b : Bool} {P : DK} : inW b (.str (Tx [c])) (.str "123456789") P = P (.bl (b != decide (c ∈ ("123456789" : Str).cps.toList))) := inW_Tx
theorem len_param_at (ds : List D) (R : DK) (h : c_param_at ds R) : ds.length = 4 := by
  obtain ⟨_, _, _, _, _, rfl, _⟩ := h; rfl
theorem pure_param_at (ds : List D) (R : DK) (h : c_param_at ds R) : q_param_at (endOf R) (startE N_param_at ds) := by
  obtain ⟨a, s, d, l, m, rfl, hl, hd, p⟩ := h
  rw [st_param_at]
  unfold q_param_at
  walk_at "pu"
  refine ⟨sz_Tx hl (by omega), ?_⟩
  have e : cutS (Tx (a ++ [35, d] ++ s)) (some ((a.length : Int) + 1)) (some ((a.length : Int) + 2)) = Tx [d] := by
    have := cut_mid (a := a ++ [35]) (t := [d]) (s := s) (i := (a.length : Int) + 1) (j := (a.length : Int) + 2) (by simp) (by simp; omega)
    simpa using this
  rw [e, lit_nil]
  rw [if_neg (by rw [Tx_eq]; simp), inDig, decide_eq_true hd]
  walk_at "pu"
  rw [Int.natCast_add] at p
  exact p
theorem chL_no : ∀ c, c ∈ chL → c ≠ 45 ∧ c ≠ 92 := by decide +kernel
def zL : Str := "abcdefghijklmnopqrstuvwxyzABCDEFGHIJKLMNOPQRSTUVWXYZ"
theorem chL_eq : zL.cps.toList = chL := rfl
theorem chW_no : ∀ c, c ∈ chW → c ∉ chS ∧ c ≠ 32 ∧ c ≠ 10 ∧ c ≠ 35 ∧ c ≠ 92 := by decide +kernel
theorem chB_no : ∀ c, c ∈ chB → c ∉ chS ∧ c ∉ chW ∧ (c = 32 ∨ c = 10) := by decide +kernel
theorem len_escape_at (ds : List D) (R : DK) (h : c_escape_at ds R) : ds.length = 4 := by
  obtain ⟨_, _, _, _, _, _, _, rfl, _⟩ := h; rfl
theorem pure_escape_at (ds : List D) (R : DK) (h : c_escape_at ds R) : q_escape_at (endOf R) (startE N_escape_at ds) := by
  obtain ⟨a, t, s, v, k, l, m, rfl, hl, ht, h92, p⟩ := h
  rw [st_escape_at]
  unfold q_escape_at
  walk_at "pu"
  have hz := sz_Tx hl (by omega)
  refine ⟨hz, ?_⟩
  have cut2 : ∀ (c : Nat) (r : List Nat), t = 92 :: c :: r → cutS (Tx (a ++ t ++ s)) (some ((a.length : Int) + 1)) (some ((a.length : Int) + 2)) = Tx [c] := by
    rintro c r rfl
    have := cut_mid (a := a ++ [92]) (t := [c]) (s := r ++ s) (i := (a.length : Int) + 1) (j := (a.length : Int) + 2) (by simp) (by simp; omega)
    simpa using this
  cases ht with
  | word h1 h2 h3 => 
    exfalso
    cases t with
    | nil => cases h92
    | cons c t => cases h92; exact (chW_no 92 (h2 92 (List.mem_cons_self ..))).2.2.2.2 rfl
  | par h1 h2 h3 h4 => 
    exfalso
    cases t with
    | nil => cases h92
    | cons c t => cases h92; exact absurd (h2 92 (List.mem_cons_self ..)) (by decide)
  | blank h1 h2 h3 h4 => 
    exfalso
    cases t with
    | nil => cases h92
    | cons c t => cases h92; exact absurd (h2 92 (List.mem_cons_self ..)) (by decide)
  | param h1 => cases h92
  | one h1 => 
    exfalso
    cases h92
    simp at h1
  | hyph =>
    rw [cut2 45 [] rfl]
    walk_at "pu"
    rw [lit_bh]
    exact p
  | cut =>
    rw [cut2 92 [] rfl]
    walk_at "pu"
    rw [lit_bb]
    exact p
  | name h1 h2 h3 =>
    cases v with
    | nil => exact absurd rfl h1
    | cons c v =>
    have hc := chL_no c (h2 c (List.mem_cons_self ..))
    rw [cut2 c v rfl]
    walk_at "pu"
    rw [if_neg hc.1]
    try (walk_at "pu")
    rw [if_neg hc.2]
    try (walk_at "pu")
    refine ⟨a ++ [92], c :: v, s, zL, by simp [zL], by simpa using hl, by rw [chL_eq]; exact h2, by rw [chL_eq]; exact h3, ?_⟩
    try (walk_at "pu")
    rw [if_neg (by simp; omega)]
    try (walk_at "pu")
    have hz2 : (Tx (a ++ 92 :: c :: v ++ s)).length ≤ sizeLine := hz
    refine ⟨hz2, ?_⟩
    have e := cut_mid (a := a ++ [92]) (t := c :: v) (s := s) (i := (a.length : Int) + 1) (j := ((a ++ [92]).length + (c :: v).length : Nat)) (by simp) rfl
    rw [show a ++ [92] ++ (c :: v) ++ s = a ++ 92 :: c :: v ++ s by simp] at e
    rw [List.length_cons] at e
    rw [e]
    have e2 : (a ++ [92]).length + (v.length + 1) = a.length + (92 :: c :: v).length := by simp; omega
    rw [e2]
    exact p

theorem look_S : ∀ k c, (k, c) ∈ [(("open" : Str), 123), ("shut", 125), ("dollar", 36), ("tie", 126), ("amp", 38), ("up", 94), ("down", 95)] → lookN (Tx [c]) ks_SINGLES ds_SINGLES = some (D.str k) := by
  intro k c h
  simp only [List.mem_cons, List.not_mem_nil, or_false, Prod.mk.injEq] at h
  rcases h with ⟨rfl, rfl⟩ | ⟨rfl, rfl⟩ | ⟨rfl, rfl⟩ | ⟨rfl, rfl⟩ | ⟨rfl, rfl⟩ | ⟨rfl, rfl⟩ | ⟨rfl, rfl⟩ <;> kernel_rfl
theorem tok_head {k : Str} {v t s : List Nat} (h : Tok1 k v t s) : ∃ c r, t = c :: r := by
  have ne : ∀ {l : List Nat}, l ≠ [] → ∃ c r, l = c :: r := fun {l} h => by
    cases l with
    | nil => exact absurd rfl h
    | cons c r => exact ⟨c, r, rfl⟩
  cases h <;> first | exact ⟨_, _, rfl⟩ | (apply ne; assumption)
def zB : Str := " \n"
def zW : Str := "abcdefghijklmnopqrstuvwxyzABCDEFGHIJKLMNOPQRSTUVWXYZ0123456789!\"'()*+,-./:;<=>?\x40[]`|"
theorem chB_eq : zB.cps.toList = chB := rfl
theorem chW_eqz : zW.cps.toList = chW := chW_eq
theorem len_token_at (ds : List D) (R : DK) (h : c_token_at ds R) : ds.length = 4 := by
  obtain ⟨_, _, _, _, _, _, _, rfl, _⟩ := h; rfl
theorem pure_token_at (ds : List D) (R : DK) (h : c_token_at ds R) : q_token_at (endOf R) (startE N_token_at ds) := by
  obtain ⟨a, t, s, v, k, l, m, rfl, hl, ht, p⟩ := h
  rw [st_token_at]
  unfold q_token_at
  walk_at "pu"
  have hz := sz_Tx hl (by omega)
  refine ⟨hz, ?_⟩
  have hat : ∀ (c : Nat) (r : List Nat), t = c :: r → (Tx (a ++ t ++ s)).cps.toList[a.length]? = some c := by
    rintro c r rfl
    rw [Tx_list]
    simp
  obtain ⟨c, r, hc⟩ := tok_head ht
  rw [hat c r hc]
  walk_at "pu"
  have cm := cut_mid (a := a) (t := t) (s := s) (i := a.length) (j := (a.length + t.length : Nat)) rfl rfl
  have key : ∀ {A B : Prop}, (c = 32 ∨ c = 10) → A → (if c = 32 then A else if c = 10 then A else B) := fun h hA => by
    rcases h with h | h
    · rw [if_pos h]; exact hA
    · rw [if_neg (by omega), if_pos h]; exact hA
  by_cases hx : c = 92
  · subst hx
    rw [if_neg (by decide)]
    refine ⟨92, rfl, ?_⟩
    rw [decide_eq_false (by decide +kernel)]
    walk_at "pu"
    rw [if_neg (by decide), if_neg (by decide), if_neg (by decide)]
    exact ⟨a, t, s, v, k, l, m, rfl, hl, ht, by rw [hc]; rfl, p⟩
  cases ht with
  | one h1 =>
    cases hc
    rw [if_pos (by simp [chS] at h1 ⊢; omega), look_S k c h1]
    walk_at "pu"
    rw [Int.natCast_add] at p
    exact p
  | word h1 h2 h3 => 
    have hm := h2 c (by rw [hc]; exact List.mem_cons_self ..)
    obtain ⟨n1, n2, n3, n4, n5⟩ := chW_no c hm
    rw [if_neg n1]
    refine ⟨c, rfl, ?_⟩
    rw [decide_eq_true hm]
    walk_at "pu"
    refine ⟨a, t, s, zW, rfl, hl, by rw [chW_eqz]; exact h2, by rw [chW_eqz]; exact h3, ?_⟩
    walk_at "pu"
    refine ⟨hz, ?_⟩
    rw [cm]
    exact p
  | par h1 h2 h3 h4 => 
    obtain ⟨n1, n2, n3⟩ := chB_no c (h2 c (by rw [hc]; exact List.mem_cons_self ..))
    rw [if_neg n1]
    refine ⟨c, rfl, ?_⟩
    rw [decide_eq_false n2]
    walk_at "pu"
    refine key n3 ⟨a, t, s, zB, rfl, hl, by rw [chB_eq]; exact h2, by rw [chB_eq]; exact h3, ?_⟩
    walk_at "pu"
    refine ⟨hz, ?_⟩
    rw [cm, count_Tx, if_pos (by omega), lit_2nl]
    exact p
  | blank h1 h2 h3 h4 => 
    obtain ⟨n1, n2, n3⟩ := chB_no c (h2 c (by rw [hc]; exact List.mem_cons_self ..))
    rw [if_neg n1]
    refine ⟨c, rfl, ?_⟩
    rw [decide_eq_false n2]
    walk_at "pu"
    refine key n3 ⟨a, t, s, zB, rfl, hl, by rw [chB_eq]; exact h2, by rw [chB_eq]; exact h3, ?_⟩
    walk_at "pu"
    refine ⟨hz, ?_⟩
    rw [cm, count_Tx, if_neg (by omega)]
    exact p
  | param h1 =>
    cases hc
    rw [if_neg (by decide)]
    refine ⟨35, rfl, ?_⟩
    rw [decide_eq_false (by decide +kernel)]
    walk_at "pu"
    rw [if_neg (by decide), if_neg (by decide)]
    exact ⟨a, s, _, l, m, rfl, hl, h1, p⟩
  | name h1 h2 h3 => cases hc; exact absurd rfl hx
  | hyph => cases hc; exact absurd rfl hx
  | cut => cases hc; exact absurd rfl hx
theorem lastC_lt : ∀ (l : List Nat) (c : Nat), -1 ≤ lastC c l ∧ lastC c l < l.length
  | [], _ => by simp [lastC]
  | n :: r, c => by
    have := lastC_lt r c
    simp only [lastC, List.length_cons]
    split
    · omega
    · split <;> omega
theorem len_tokenize (ds : List D) (R : DK) (h : c_tokenize ds R) : ds.length = 1 := by
  obtain ⟨_, rfl, _⟩ := h; rfl
theorem placed_len : ∀ (a : List Nat) (ts : List Mk0), (placed a ts).length = ts.length
  | _, [] => rfl
  | a, t :: ts => by rw [placed, List.length_cons, List.length_cons, placed_len]
theorem flat_ge : ∀ {ts : List Mk0}, Good ts → ts.length ≤ (flat0 ts).length
  | [], _ => Nat.le_refl _
  | t :: ts, h => by
    obtain ⟨c, r, e⟩ := tok_head h.1
    have := flat_ge h.2
    rw [flat0, List.length_append, e, List.length_cons, List.length_cons]
    omega
theorem pure_tokenize (ds : List D) (R : DK) (h : c_tokenize ds R) : q_tokenize (endNw R) (startE N_tokenize ds) := by
  obtain ⟨ts, rfl, hl, hg, p⟩ := h
  rw [st_tokenize]
  unfold q_tokenize
  walk_at "pu"
  refine whileI_inv (fun m ρ => ∃ (a : List Nat) (acc : List Wk) (r : List Mk0) (x y z w : Option Sl), ρ = [some (.sh (.str (Tx (flat0 ts)))), some (.ow true (.lst (acc.map wD))), some (.sh (.int a.length)), some (.sh (.int (1 + ((a.count 10 : Nat) : Int)))), some (.sh (.int (a.length - lastC 10 a))), x, y, z, w] ∧ a ++ flat0 r = flat0 ts ∧ acc ++ placed a r = placed [] ts ∧ Good r ∧ m = r.length) ts.length ⟨[], [], ts, _, _, _, _, rfl, rfl, rfl, hg, rfl⟩ ?_
  rintro m ρ ⟨a, acc, r, x, y, z, w, rfl, e1, e2, hr, rfl⟩
  walk_at "pu"
  have hz : (Tx (flat0 ts)).length ≤ sizeLine := sz_Tx hl (by omega)
  refine ⟨hz, ?_⟩
  rw [Tx_len]
  cases r with
  | nil =>
    have e3 : a = flat0 ts := by rw [← e1]; simp [flat0]
    rw [if_neg (by rw [← e3]; omega)]
    have e4 : acc = placed [] ts := by rw [← e2]; simp [placed]
    rw [e4]
    exact p
  | cons t r =>
    obtain ⟨k, v, tx⟩ := t
    have hr1 : Tok1 k v tx (flat0 r) := hr.1
    obtain ⟨c0, r0, ht⟩ := tok_head hr1
    have e3 : flat0 ts = a ++ tx ++ flat0 r := by rw [← e1]; simp [flat0]
    have e4 : (flat0 ts).length = a.length + tx.length + (flat0 r).length := by rw [e3]; simp; omega
    have h0 : 0 < tx.length := by rw [ht]; simp
    rw [if_pos (by omega)]
    unfold b_tokenize_1
    walk_at "pu"
    refine ⟨a, tx, flat0 r, v, k, _, _, by rw [e3], by rw [← e3]; exact hl, hr1, ?_⟩
    walk_at "pu"
    have hacc : acc.length < (placed [] ts).length := by rw [← e2, List.length_append]; simp [placed]
    rw [placed_len] at hacc
    have := flat_ge hg
    refine ⟨lszl (by omega), hz, ?_⟩
    have cm := cut_mid (a := a) (t := tx) (s := flat0 r) (i := a.length) (j := (a.length + tx.length : Nat)) rfl rfl
    rw [← e3] at cm
    rw [cm, count_Tx]
    have step : ∀ (ρ : Pu.Env) (x y z w : Option Sl), ρ = [some (.sh (.str (Tx (flat0 ts)))), some (.ow true (.lst (acc.map wD ++ [wD (k, v, 1 + ((a.count 10 : Nat) : Int), a.length - lastC 10 a)]))), some (.sh (.int (a.length + tx.length : Nat))), some (.sh (.int (1 + (((a ++ tx).count 10 : Nat) : Int)))), some (.sh (.int ((a ++ tx).length - lastC 10 (a ++ tx)))), x, y, z, w] →
        ∃ m, m < ((k, v, tx) :: r).length ∧ ∃ (a : List Nat) (acc : List Wk) (r : List Mk0) (x y z w : Option Sl), ρ = [some (.sh (.str (Tx (flat0 ts)))), some (.ow true (.lst (acc.map wD))), some (.sh (.int a.length)), some (.sh (.int (1 + ((a.count 10 : Nat) : Int)))), some (.sh (.int (a.length - lastC 10 a))), x, y, z, w] ∧ a ++ flat0 r = flat0 ts ∧ acc ++ placed a r = placed [] ts ∧ Good r ∧ m = r.length := by
      rintro ρ x y z w rfl
      refine ⟨r.length, by simp, a ++ tx, acc ++ [(k, v, 1 + ((a.count 10 : Nat) : Int), a.length - lastC 10 a)], r, x, y, z, w, by simp, by rw [← e1]; simp [flat0], by rw [← e2]; simp [placed], hr.2, rfl⟩
    have hcnt : (a ++ tx).count 10 = a.count 10 + tx.count 10 := List.count_append
    have hlast := lastC_app (c := 10) a tx
    by_cases hf : 0 < tx.count 10
    · have hm : 10 ∈ tx := List.count_pos_iff.1 hf
      rw [if_pos (by omega)]
      try (walk_at "pu")
      refine step _ (some (.sh (.str k))) (some (.sh (.str (Tx v)))) (some (.sh (.int (a.length + tx.length : Nat)))) (some (.sh (.int (tx.count 10 : Nat)))) ?_
      rw [rfindIn_Tx _ _ _ _ (by omega) (by omega) (by rw [e4]; omega) (by
        rw [e3, Int.toNat_natCast, Int.toNat_natCast, List.take_append_of_le_length (by simp), List.take_of_length_le (by simp), List.drop_left]
        exact hm)]
      rw [e3, Int.toNat_natCast, List.take_append_of_le_length (by simp), List.take_of_length_le (by simp), ← e3, hcnt]
      simp [wD, Int.add_assoc]
    · have hm : ¬ 10 ∈ tx := fun q => hf (List.count_pos_iff.2 q)
      rw [if_neg (by omega)]
      try (walk_at "pu")
      refine step _ (some (.sh (.str k))) (some (.sh (.str (Tx v)))) (some (.sh (.int (a.length + tx.length : Nat)))) (some (.sh (.int (tx.count 10 : Nat)))) ?_
      rw [hlast, if_neg hm, hcnt]
      simp [wD]
      omega
theorem lit_0 : ("" : Str) = Tx [] := by decide +kernel
local macro_rules | `(tactic| walk_at "pu") => `(tactic| simp only [↓r_qSeq, ↓r_qNext, ↓r_qBreak, ↓r_qCont, ↓r_qRet, ↓r_qRetN, ↓r_qSet, ↓r_qSetN, ↓r_qAsg, ↓r_qAug, ↓r_qApp, ↓r_qFrz, ↓r_qIf, ↓r_qDrop, ↓r_qSetIx, ↓r_qFor, ↓r_qWhile, ↓r_tst, ↓r_pOp, ↓r_pUn, ↓r_pC, ↓r_pVar, ↓r_pVarR, ↓r_pCall, ↓r_pCallD, ↓r_pCons, ↓r_pNil, ↓r_pAndT, ↓r_pOrT, ↓r_pNotT, ↓r_pTru, ↓r_pAnd, ↓r_pOr, ↓r_pNot, ↓r_pIf, ↓r_pIsN, ↓r_pChain, ↓r_pTup, ↓r_pLst, ↓r_pIsi, ↓r_pSeq, ↓r_pRange1, ↓r_pRange2, ↓r_pComp, ↓r_pYes, ↓r_gN, ↓r_listW, ↓r_tupleW, ↓ltW_int, ↓leW_int, ↓gtW_int, ↓geW_int, ↓subW_int, ↓fdivW_int, ↓modW_int, ↓powW_int, ↓atSh_shD, ↓atAny_shD, ↓atAny_owD, ↓atOwT_owD, ↓atOwL_owD, ↓atOwF_owD, ↓isBl_bl, ↓isInt_int, ↓isSome_someD, ↓isSome_noneD, ↓isIns_ins, ↓on1_1, ↓on2_2, ↓addW_int, ↓addW_ib, ↓addW_str, ↓addW_lst, ↓iaddW_int, ↓iaddW_str, ↓mulW_int, ↓mulW_lst, ↓eqW_int, ↓eqW_str, ↓eqW_bl, ↓eqW_nn, ↓eqW_ni, ↓eqW_in, ↓eqW_is, ↓eqW_si, ↓eqW_tt, ↓eqW_ll, ↓neW_int, ↓neW_str, ↓neW_bl, ↓neW_nn, ↓neW_ni, ↓neW_in, ↓neW_is, ↓neW_si, ↓neW_tt, ↓neW_ll, ↓negW_int, ↓absW_int, ↓intfW_int, ↓intfW_bl, ↓lenW_str, ↓lenW_lst, ↓lenW_klst, ↓lenW_tup, ↓max2W_mx, ↓min2W_mn, itemW_lstD, itemW_klstD, itemW_tupD, itemW_strD, asList_lst, asList_klst, asList_tup, tyN_non, tyN_bl, tyN_int, tyN_str, tyN_tup, tyN_lst, tyN_dK, tyN_dT, ↓truW_non, ↓truW_bl, ↓truW_int, ↓truW_str, ↓truW_lst, ↓truW_klst, ↓truW_tup, isNon_non, isNon_bl, isNon_int, isNon_str, isNon_tup, isNon_lst, isNon_klst, isNon_ins, isNon_dK, ↓gT_tup, ↓gConsP_cons, ↓gNilP_nil, wipeE_nil, wipeE_cons, atI_0, atI_1, atI_2, atI_3, atI_4, atI_5, atI_6, atI_7, atI_8, atI_9, ixN_0, ixN_1, ixN_2, ixN_3, ixN_4, List.getElem?_cons_zero, List.getElem?_cons_succ, List.getElem?_nil, List.set_cons_zero, List.set_cons_succ, List.length_cons, List.length_nil, List.length_map, Nat.reduceAdd, Int.reduceAdd, Nat.reduceLT, Nat.lt_irrefl, List.append_nil, List.nil_append, decide_eq_true_eq, decide_eq_false_iff_not, Bool.not_eq_true', Bool.not_true, Bool.not_false, ite_true, ite_false, if_true, if_false, Bool.false_eq_true, Bool.true_eq_false, ↓reduceIte, and_true, true_and, subT, String.reduceEq, decide_true, decide_false, Bool.or_false, Bool.false_or, Bool.or_true, Bool.true_or, Bool.and_true, Bool.and_false, Bool.true_and, Bool.false_and, Bool.or_self, Bool.and_self, ↓notTW_bl, ↓notTW_non, ↓notTW_int, ↓notTW_str, ↓notTW_tup, ↓notTW_lst, ↓notTW_klst, ↓isTW_bl, ↓isTW_non, ↓isTW_int, ↓isTW_str, ↓isTW_tup, ↓isTW_lst, ↓isTW_klst, ↓addW_tup, ↓inW_tup, ↓inW_lst, ↓inW_klst, ↓intLW_lst, ↓intLW_klst, ↓blLW_lst, ↓sliceW_lst, ↓sliceW_klst, ↓sliceW_tup, ↓sliceW_str, ↓sliceF_lst, ↓sliceF_klst, ↓catF_lst, ↓atIo_ow, asL_lst, asL_klst, ↓r_pUnD, ↓r_pSlice, ↓r_pNoPart, ↓r_pPart, ↓r_pEnum, ↓r_pZip, ↓r_pStr, ↓r_qExt, ↓r_qSetPop, ↓r_popW, ↓r_qPop, ↓r_qRev, ↓r_qClr, ↓r_qIns, ↓r_qFld, ↓r_pFld, ↓r_pMeth, ↓r_pMake, intsOf_map, blsOf_map, ↓r_sumG, List.map_map, Bool.not_not, ↓enumW_lst, ↓enumW_klst, ↓strW_str, ↓extW_lst, toV_str, toV_int, toV_bl, toV_non, flat_str, flat_int, flat_bl, flat_non, ne_ff, ne_tt, List.all_cons, List.all_nil, List.map_cons, List.map_nil, lz0, lz1, lz2, lz3, lz4, lz5, lz6, lz7, lz8, lz9, lz10, lz11, lz12, lz13, lz14, lz15, lz16, lw0, lw1, lw2, lw3, lw4, lw5, lw6, lw7, lw8, lw9, lw10, lw11, lw12, lw13, lw14, lw15, lw16, List.cons_append, Int.reduceToNat, Int.reducePow, Int.reduceLE, Int.reduceLT, Int.reduceNeg, Int.reduceSub, Int.reduceMul, Nat.reducePow, Nat.reduceLeDiff, Nat.reduceSub, Nat.reduceMul, atI_cast, ixN_cast, Int.zero_add, List.length_set, List.length_reverse, cutT_0, cutT_1, cutT_2, cutT_3, cutT_4, cutT_5, cutT_6, cutT_7, cutT_8, cutT_9, cutT_10, cutT_11, cutT_12, cutF_0, cutF_1, cutF_2, cutF_3, cutF_4, cutF_5, cutF_6, cutF_7, cutF_8, cutF_9, cutF_10, cutF_11, cutF_12, cutT_n, cutF_n, cut_nn, cutT_m1, List.take_succ_cons, List.take_zero, List.drop_succ_cons, List.drop_zero, Int.toNat_natCast, beq_tt, beq_ff, ↓r_pEnu, ↓r_pEnuK, ↓r_qRetF, ↓r_qRetO, ↓r_qForO, ↓r_pCallB, ↓r_pCallBN, hard_non, hard_bl, hard_int, hard_str, hard_tup, hards_nil, hards_cons, hardIn_lst, enumI_nil, enumI_cons, eq_self, ↓r_qAsg2, ↓r_qAsg3, ↓r_pChain3, intsOf_nil, intsOf_cons, blsOf_nil, blsOf_cons, ↓maxG_cons, ↓minG_cons, Option.map_some, Option.map_none, List.foldl_cons, List.foldl_nil, Int.cast_ofNat_Int, Int.reduceEq, Int.reduceNe, not_true_eq_false, not_false_eq_true, ↓r_pBM, ↓r_pBM0, ↓r_pGetK, ↓isStr_str, tyD_str, tyD_lst, tyD_klst, ↓s1W_str, ↓s0W_str, ↓joinW_str, joinD_eq, strsOf_map, strsOf_nil, strsOf_cons, ↓lcountW_lst, ↓lcountW_klst, ↓ltX_int, ↓leX_int, ↓gtX_int, ↓geX_int, ↓ltX_str, ↓ltX_tup, ↓leX_tup, ↓gtX_tup, ↓geX_tup, ↓inW_ch, ↓r_qUp, ↓r_qAppN, ↓r_qAppK, ↓r_pKid, ↓r_qSetL1, ↓r_qTupPop, ↓r_kidAt, ↓r_popK, ↓atO2_o2, ↓atKid_l, ↓strfW_int, ↓lindexW_lst, ↓lindexW_klst, ↓r_pStarA, ↓r_pLend, ↓r_tLend, ↓r_qAlias, ↓r_qSetC2, ↓ofLst_lst, ↓tupLW_lst, ↓tupsOf_map, ↓on3_3, ↓max3W_mx, ↓min3W_mx, atI_m1, List.getLast?_singleton, List.getLast?_cons_cons, ↓lenW_ktup, itemW_ktupD, asList_ktup, isNon_ktup, isK_tup, isK_lst, isK_klst, ↓gT_ktup, ↓isTW_ktup, ↓notTW_ktup, ↓inW_ktup, hard_ktup, tyN_ktup, ↓truW_ktup, ↓r_qDPut, ↓r_pDNewK, ↓r_pDNewT, ↓atOwA_ow, ↓dItemW_k, ↓dItemW_t, ↓dLookW_k, ↓dLookW_t, ↓dPutW_k, ↓dPutW_t, keyD_int, keyD_str, keysD_nil, keysD_int, keysD_str, ↓r_pRange3, ↓r_pProp, ↓r_pIsiO, ↓r_pOwnAdd, ↓r_pOwnEq, isO_ins, isO_non, isO_bl, isO_int, isO_str, isO_tup, isO_ktup, isO_lst, isO_dK, ↓r_qSetX, ↓r_qRetX, ↓r_qDropX, ↓r_qRaise, ↓r_qTryAs, ↓r_pXf, ↓r_pIsX, ↓r_qSetNn, ↓r_qRetNn, nonOr_non, nonOr_lst, onNon_non, excOr_exc, excOr_bl, excOr_int, excOr_str, excOr_non, excOr_lst, excOr_tup, isExo_exo, ↓r_pInK, ↓r_pAtK, ↓r_pRevL, ↓s3W_str, ↓revLW_lst, ↓revLW_klst, ↓mulSW_str, ↓r_nxOf, ↓r_rtOf, ↓r_nxIo, ↓r_rtIo, ↓r_nxNw, ↓r_rtNw, ↓r_rnNw, ↓r_rnOf, ↓atRf_rf, ↓r_lentNx, ↓r_lentRt, ↓r_nxX, ↓r_rtX, ↓r_xrX, ↓r_nxNn, ↓r_rtNn, ↓r_rnNn, ↓r_nxT, ↓r_rtT, ↓r_nxS, ↓r_rtS, ch_Tx, Tx1, lit_hyph, lit_back, lit_hash, lit_sp, lit_nl, lit_0])
local macro_rules | `(tactic| walk_at "pul") => `(tactic| simp only [↓forW_nil, ↓forW_cons, ↓compW_nil, ↓compW_cons, List.cons_append, ↓r_qSeq, ↓r_qNext, ↓r_qBreak, ↓r_qCont, ↓r_qRet, ↓r_qRetN, ↓r_qSet, ↓r_qSetN, ↓r_qAsg, ↓r_qAug, ↓r_qApp, ↓r_qFrz, ↓r_qIf, ↓r_qDrop, ↓r_qSetIx, ↓r_qFor, ↓r_qWhile, ↓r_tst, ↓r_pOp, ↓r_pUn, ↓r_pC, ↓r_pVar, ↓r_pVarR, ↓r_pCall, ↓r_pCallD, ↓r_pCons, ↓r_pNil, ↓r_pAndT, ↓r_pOrT, ↓r_pNotT, ↓r_pTru, ↓r_pAnd, ↓r_pOr, ↓r_pNot, ↓r_pIf, ↓r_pIsN, ↓r_pChain, ↓r_pTup, ↓r_pLst, ↓r_pIsi, ↓r_pSeq, ↓r_pRange1, ↓r_pRange2, ↓r_pComp, ↓r_pYes, ↓r_gN, ↓r_listW, ↓r_tupleW, ↓ltW_int, ↓leW_int, ↓gtW_int, ↓geW_int, ↓subW_int, ↓fdivW_int, ↓modW_int, ↓powW_int, ↓atSh_shD, ↓atAny_shD, ↓atAny_owD, ↓atOwT_owD, ↓atOwL_owD, ↓atOwF_owD, ↓isBl_bl, ↓isInt_int, ↓isSome_someD, ↓isSome_noneD, ↓isIns_ins, ↓on1_1, ↓on2_2, ↓addW_int, ↓addW_ib, ↓addW_str, ↓addW_lst, ↓iaddW_int, ↓iaddW_str, ↓mulW_int, ↓mulW_lst, ↓eqW_int, ↓eqW_str, ↓eqW_bl, ↓eqW_nn, ↓eqW_ni, ↓eqW_in, ↓eqW_is, ↓eqW_si, ↓eqW_tt, ↓eqW_ll, ↓neW_int, ↓neW_str, ↓neW_bl, ↓neW_nn, ↓neW_ni, ↓neW_in, ↓neW_is, ↓neW_si, ↓neW_tt, ↓neW_ll, ↓negW_int, ↓absW_int, ↓intfW_int, ↓intfW_bl, ↓lenW_str, ↓lenW_lst, ↓lenW_klst, ↓lenW_tup, ↓max2W_mx, ↓min2W_mn, itemW_lstD, itemW_klstD, itemW_tupD, itemW_strD, asList_lst, asList_klst, asList_tup, tyN_non, tyN_bl, tyN_int, tyN_str, tyN_tup, tyN_lst, tyN_dK, tyN_dT, ↓truW_non, ↓truW_bl, ↓truW_int, ↓truW_str, ↓truW_lst, ↓truW_klst, ↓truW_tup, isNon_non, isNon_bl, isNon_int, isNon_str, isNon_tup, isNon_lst, isNon_klst, isNon_ins, isNon_dK, ↓gT_tup, ↓gConsP_cons, ↓gNilP_nil, wipeE_nil, wipeE_cons, atI_0, atI_1, atI_2, atI_3, atI_4, atI_5, atI_6, atI_7, atI_8, atI_9, ixN_0, ixN_1, ixN_2, ixN_3, ixN_4, List.getElem?_cons_zero, List.getElem?_cons_succ, List.getElem?_nil, List.set_cons_zero, List.set_cons_succ, List.length_cons, List.length_nil, List.length_map, Nat.reduceAdd, Int.reduceAdd, Nat.reduceLT, Nat.lt_irrefl, List.append_nil, List.nil_append, decide_eq_true_eq, decide_eq_false_iff_not, Bool.not_eq_true', Bool.not_true, Bool.not_false, ite_true, ite_false, if_true, if_false, Bool.false_eq_true, Bool.true_eq_false, ↓reduceIte, and_true, true_and, subT, String.reduceEq, decide_true, decide_false, Bool.or_false, Bool.false_or, Bool.or_true, Bool.true_or, Bool.and_true, Bool.and_false, Bool.true_and, Bool.false_and, Bool.or_self, Bool.and_self, ↓notTW_bl, ↓notTW_non, ↓notTW_int, ↓notTW_str, ↓notTW_tup, ↓notTW_lst, ↓notTW_klst, ↓isTW_bl, ↓isTW_non, ↓isTW_int, ↓isTW_str, ↓isTW_tup, ↓isTW_lst, ↓isTW_klst, ↓addW_tup, ↓inW_tup, ↓inW_lst, ↓inW_klst, ↓intLW_lst, ↓intLW_klst, ↓blLW_lst, ↓sliceW_lst, ↓sliceW_klst, ↓sliceW_tup, ↓sliceW_str, ↓sliceF_lst, ↓sliceF_klst, ↓catF_lst, ↓atIo_ow, asL_lst, asL_klst, ↓r_pUnD, ↓r_pSlice, ↓r_pNoPart, ↓r_pPart, ↓r_pEnum, ↓r_pZip, ↓r_pStr, ↓r_qExt, ↓r_qSetPop, ↓r_popW, ↓r_qPop, ↓r_qRev, ↓r_qClr, ↓r_qIns, ↓r_qFld, ↓r_pFld, ↓r_pMeth, ↓r_pMake, intsOf_map, blsOf_map, ↓r_sumG, List.map_map, Bool.not_not, ↓enumW_lst, ↓enumW_klst, ↓strW_str, ↓extW_lst, toV_str, toV_int, toV_bl, toV_non, flat_str, flat_int, flat_bl, flat_non, ne_ff, ne_tt, List.all_cons, List.all_nil, List.map_cons, List.map_nil, lz0, lz1, lz2, lz3, lz4, lz5, lz6, lz7, lz8, lz9, lz10, lz11, lz12, lz13, lz14, lz15, lz16, lw0, lw1, lw2, lw3, lw4, lw5, lw6, lw7, lw8, lw9, lw10, lw11, lw12, lw13, lw14, lw15, lw16, List.cons_append, Int.reduceToNat, Int.reducePow, Int.reduceLE, Int.reduceLT, Int.reduceNeg, Int.reduceSub, Int.reduceMul, Nat.reducePow, Nat.reduceLeDiff, Nat.reduceSub, Nat.reduceMul, atI_cast, ixN_cast, Int.zero_add, List.length_set, List.length_reverse, cutT_0, cutT_1, cutT_2, cutT_3, cutT_4, cutT_5, cutT_6, cutT_7, cutT_8, cutT_9, cutT_10, cutT_11, cutT_12, cutF_0, cutF_1, cutF_2, cutF_3, cutF_4, cutF_5, cutF_6, cutF_7, cutF_8, cutF_9, cutF_10, cutF_11, cutF_12, cutT_n, cutF_n, cut_nn, cutT_m1, List.take_succ_cons, List.take_zero, List.drop_succ_cons, List.drop_zero, Int.toNat_natCast, beq_tt, beq_ff, ↓r_pEnu, ↓r_pEnuK, ↓r_qRetF, ↓r_qRetO, ↓r_qForO, ↓r_pCallB, ↓r_pCallBN, hard_non, hard_bl, hard_int, hard_str, hard_tup, hards_nil, hards_cons, hardIn_lst, enumI_nil, enumI_cons, eq_self, ↓r_qAsg2, ↓r_qAsg3, ↓r_pChain3, intsOf_nil, intsOf_cons, blsOf_nil, blsOf_cons, ↓maxG_cons, ↓minG_cons, Option.map_some, Option.map_none, List.foldl_cons, List.foldl_nil, Int.cast_ofNat_Int, Int.reduceEq, Int.reduceNe, not_true_eq_false, not_false_eq_true, ↓r_pBM, ↓r_pBM0, ↓r_pGetK, ↓isStr_str, tyD_str, tyD_lst, tyD_klst, ↓s1W_str, ↓s0W_str, ↓joinW_str, joinD_eq, strsOf_map, strsOf_nil, strsOf_cons, ↓lcountW_lst, ↓lcountW_klst, ↓ltX_int, ↓leX_int, ↓gtX_int, ↓geX_int, ↓ltX_str, ↓ltX_tup, ↓leX_tup, ↓gtX_tup, ↓geX_tup, ↓inW_ch, ↓r_qUp, ↓r_qAppN, ↓r_qAppK, ↓r_pKid, ↓r_qSetL1, ↓r_qTupPop, ↓r_kidAt, ↓r_popK, ↓atO2_o2, ↓atKid_l, ↓strfW_int, ↓lindexW_lst, ↓lindexW_klst, ↓r_pStarA, ↓r_pLend, ↓r_tLend, ↓r_qAlias, ↓r_qSetC2, ↓ofLst_lst, ↓tupLW_lst, ↓tupsOf_map, ↓on3_3, ↓max3W_mx, ↓min3W_mx, atI_m1, List.getLast?_singleton, List.getLast?_cons_cons, ↓lenW_ktup, itemW_ktupD, asList_ktup, isNon_ktup, isK_tup, isK_lst, isK_klst, ↓gT_ktup, ↓isTW_ktup, ↓notTW_ktup, ↓inW_ktup, hard_ktup, tyN_ktup, ↓truW_ktup, ↓r_qDPut, ↓r_pDNewK, ↓r_pDNewT, ↓atOwA_ow, ↓dItemW_k, ↓dItemW_t, ↓dLookW_k, ↓dLookW_t, ↓dPutW_k, ↓dPutW_t, keyD_int, keyD_str, keysD_nil, keysD_int, keysD_str, ↓r_pRange3, ↓r_pProp, ↓r_pIsiO, ↓r_pOwnAdd, ↓r_pOwnEq, isO_ins, isO_non, isO_bl, isO_int, isO_str, isO_tup, isO_ktup, isO_lst, isO_dK, ↓r_qSetX, ↓r_qRetX, ↓r_qDropX, ↓r_qRaise, ↓r_qTryAs, ↓r_pXf, ↓r_pIsX, ↓r_qSetNn, ↓r_qRetNn, nonOr_non, nonOr_lst, onNon_non, excOr_exc, excOr_bl, excOr_int, excOr_str, excOr_non, excOr_lst, excOr_tup, isExo_exo, ↓r_pInK, ↓r_pAtK, ↓r_pRevL, ↓s3W_str, ↓revLW_lst, ↓revLW_klst, ↓mulSW_str, ↓r_nxOf, ↓r_rtOf, ↓r_nxIo, ↓r_rtIo, ↓r_nxNw, ↓r_rtNw, ↓r_rnNw, ↓r_rnOf, ↓atRf_rf, ↓r_lentNx, ↓r_lentRt, ↓r_nxX, ↓r_rtX, ↓r_xrX, ↓r_nxNn, ↓r_rtNn, ↓r_rnNn, ↓r_nxT, ↓r_rtT, ↓r_nxS, ↓r_rtS, ch_Tx, Tx1, lit_hyph, lit_back, lit_hash, lit_sp, lit_nl, lit_0])
theorem len_written_token (ds : List D) (R : DK) (h : c_written_token ds R) : ds.length = 1 := by
  obtain ⟨_, rfl, _⟩ := h; rfl
theorem form_len (k : Str) (v : List Nat) : (form k v).length ≤ v.length + 1 := by
  unfold form
  split
  · simp
  · split <;> simp
theorem pure_written_token (ds : List D) (R : DK) (h : c_written_token ds R) : q_written_token (endOf R) (startE N_written_token ds) := by
  obtain ⟨⟨k, v, l, c⟩, rfl, hl, p⟩ := h
  rw [st_written_token]
  unfold q_written_token wD
  walk_at "pu"
  unfold form at p
  simp only [Tx_add, Tx_len] at p ⊢
  split
  · rename_i h1
    rw [if_pos h1] at p
    exact ⟨by simp only [List.length_cons, List.length_nil]; exact lsz (by simp only at hl; omega), p⟩
  · rename_i h1
    rw [if_neg h1] at p
    split
    · rename_i h2
      rw [if_pos h2] at p
      exact ⟨by simp only [List.length_cons, List.length_nil]; exact lsz (by simp only at hl; omega), p⟩
    · rename_i h2
      rw [if_neg h2] at p
      exact p
theorem len_law_form (ds : List D) (R : DK) (h : c_law_form ds R) : ds.length = 1 := by
  obtain ⟨_, _, _, rfl, _⟩ := h; rfl
theorem pure_law_form (ds : List D) (R : DK) (h : c_law_form ds R) : q_law_form (endOf R) (startE N_law_form ds) := by
  obtain ⟨k, v, es, rfl, hl, p⟩ := h
  rw [st_law_form]
  unfold q_law_form
  walk_at "pu"
  unfold form at p
  simp only [Tx_add, Tx_len] at p ⊢
  split
  · rename_i h1
    rw [if_pos h1] at p
    exact ⟨by simp only [List.length_cons, List.length_nil]; exact lsz (by omega), p⟩
  · rename_i h1
    rw [if_neg h1] at p
    split
    · rename_i h2
      rw [if_pos h2] at p
      exact ⟨by simp only [List.length_cons, List.length_nil]; exact lsz (by omega), p⟩
    · rename_i h2
      rw [if_neg h2] at p
      exact p
theorem len_size_of (ds : List D) (R : DK) (h : c_size_of ds R) : ds.length = 1 := by
  obtain ⟨_, rfl, _⟩ := h; rfl
theorem pure_size_of (ds : List D) (R : DK) (h : c_size_of ds R) : q_size_of (endOf R) (startE N_size_of ds) := by
  obtain ⟨t, rfl, hl, p⟩ := h
  rw [st_size_of]
  unfold q_size_of
  walk_at "pu"
  refine ⟨t, rfl, hl, ?_⟩
  walk_at "pu"
  have := form_len t.1 t.2.1
  refine ⟨sz_Tx (n := 2000001) (by omega) (by omega), ?_⟩
  rw [Tx_len]
  exact p
theorem len_sign_kind (ds : List D) (R : DK) (h : c_sign_kind ds R) : ds.length = 1 := by
  obtain ⟨_, rfl, _⟩ := h; rfl
theorem look_none (c : Nat) : ∀ (cs : List Nat) (ds : List D), c ∉ cs → lookN (Tx [c]) (cs.map fun c => Tx [c]) ds = none
  | [], ds, _ => by cases ds <;> rfl
  | b :: cs, [], _ => rfl
  | b :: cs, d :: ds, h => by
    rw [List.map_cons]
    unfold lookN
    rw [if_neg (by rw [Tx1]; intro q; exact h (by rw [q]; exact List.mem_cons_self ..))]
    exact look_none c cs ds fun q => h (List.mem_cons_of_mem _ q)
def chK : List Nat := [43, 45, 42, 47, 61, 60, 62, 40, 91, 41, 93, 44, 59]
theorem ks_K : ks_SIGN_KINDS = chK.map (fun c => Tx [c]) := by decide +kernel
theorem pure_sign_kind (ds : List D) (R : DK) (h : c_sign_kind ds R) : q_sign_kind (endOf R) (startE N_sign_kind ds) := by
  obtain ⟨c, rfl, p⟩ := h
  rw [st_sign_kind]
  unfold q_sign_kind
  walk_at "pu"
  by_cases hc : c ∈ chK
  · simp only [chK, List.mem_cons, List.not_mem_nil, or_false] at hc
    rcases hc with rfl | rfl | rfl | rfl | rfl | rfl | rfl | rfl | rfl | rfl | rfl | rfl | rfl <;> exact p
  · rw [ks_K, look_none c chK _ hc]
    have e : signK c = "plain" := by
      unfold signK
      rw [if_neg, if_neg, if_neg, if_neg, if_neg] <;> (intro q; apply hc; clear p hc; revert c; decide +kernel)
    rw [e] at p
    exact p

theorem len_law_letters (ds : List D) (R : DK) (h : c_law_letters ds R) : ds.length = 0 := by
  obtain ⟨rfl, _⟩ := h; rfl
theorem lit_L : ("abcdefghijklmnopqrstuvwxyzABCDEFGHIJKLMNOPQRSTUVWXYZ" : Str) = Tx chL := by decide +kernel
theorem lit_M : ("0123456789!\"'()*+,-./:;<=>?\x40[]`|" : Str) = Tx chM := by decide +kernel
theorem lit_W : ("abcdefghijklmnopqrstuvwxyzABCDEFGHIJKLMNOPQRSTUVWXYZ0123456789!\"'()*+,-./:;<=>?\x40[]`|" : Str) = Tx chW := by decide +kernel
theorem pure_law_letters (ds : List D) (R : DK) (h : c_law_letters ds R) : q_law_letters (endOf R) (startE N_law_letters ds) := by
  obtain ⟨rfl, p⟩ := h
  rw [st_law_letters]
  unfold q_law_letters
  walk_at "pu"
  rw [lit_L]
  exact p
theorem len_law_marks (ds : List D) (R : DK) (h : c_law_marks ds R) : ds.length = 0 := by
  obtain ⟨rfl, _⟩ := h; rfl
theorem pure_law_marks (ds : List D) (R : DK) (h : c_law_marks ds R) : q_law_marks (endOf R) (startE N_law_marks ds) := by
  obtain ⟨rfl, p⟩ := h
  rw [st_law_marks]
  unfold q_law_marks
  walk_at "pu"
  rw [lit_M]
  exact p
theorem len_law_spot (ds : List D) (R : DK) (h : c_law_spot ds R) : ds.length = 2 := by
  obtain ⟨_, _, rfl, _⟩ := h; rfl
theorem pure_law_spot (ds : List D) (R : DK) (h : c_law_spot ds R) : q_law_spot (endOf R) (startE N_law_spot ds) := by
  obtain ⟨a, s, rfl, hl, p⟩ := h
  rw [st_law_spot]
  unfold q_law_spot
  walk_at "pu"
  refine ⟨sz_Tx hl (by omega), ?_⟩
  rw [cut_beg rfl, count_Tx, rfind_Tx]
  exact p
/-! written -/
/-- whether the last token is a name -/
def nm (ts : List Wk) : Bool := match ts.getLast? with | some t => decide (t.1 = "name") | none => false
theorem nm_app (ts : List Wk) (t : Wk) : nm (ts ++ [t]) = decide (t.1 = "name") := by unfold nm; rw [List.getLast?_append]; rfl
/-- the pieces of the written form -/
def pcs (b : Bool) (t : Wk) : List (List Nat) := (if b = true ∧ t.1 = "word" ∧ (∃ c, t.2.1.head? = some c ∧ c ∈ chL) then [[32]] else []) ++ [form t.1 t.2.1]
def pieces : Bool → List Wk → List (List Nat)
  | _, [] => []
  | b, t :: ts => pcs b t ++ pieces (decide (t.1 = "name")) ts
theorem pieces_flat : ∀ (b : Bool) (ts : List Wk), (pieces b ts).flatten = joined b ts
  | _, [] => rfl
  | b, t :: ts => by
    rw [pieces, joined, List.flatten_append, pieces_flat]
    congr 1
    unfold pcs
    split <;> simp
theorem pieces_app (b : Bool) : ∀ (ts us : List Wk) , pieces b (ts ++ us) = pieces b ts ++ pieces (match ts.getLast? with | some t => decide (t.1 = "name") | none => b) us
  | [], us => rfl
  | [t], us => by simp [pieces]
  | t :: u :: ts, us => by
    have e1 := pieces_app (decide (t.1 = "name")) (u :: ts) us
    rw [List.getLast?_cons_cons]
    show pcs b t ++ pieces _ ((u :: ts) ++ us) = (pcs b t ++ pieces _ (u :: ts)) ++ _
    rw [e1, List.append_assoc]
    congr 2
theorem pieces_snoc (ts : List Wk) (t : Wk) : pieces false (ts ++ [t]) = pieces false ts ++ pcs (nm ts) t := by
  rw [pieces_app]
  unfold nm
  simp [pieces]
theorem len_written (ds : List D) (R : DK) (h : c_written ds R) : ds.length = 1 := by
  obtain ⟨_, rfl, _⟩ := h; rfl
theorem sum_mono {α : Type} {f g : α → Nat} : ∀ {l : List α}, (∀ x, x ∈ l → f x ≤ g x) → (l.map f).sum ≤ (l.map g).sum
  | [], _ => Nat.le_refl _
  | x :: l, h => by
    have := sum_mono (f := f) (g := g) (l := l) fun y hy => h y (List.mem_cons_of_mem _ hy)
    have := h x (List.mem_cons_self ..)
    simp only [List.map_cons, List.sum_cons]
    omega
theorem pieces_sum : ∀ (b : Bool) (ts : List Wk), ((pieces b ts).map List.length).sum ≤ (ts.map fun t => t.2.1.length + 2).sum
  | _, [] => Nat.le_refl _
  | b, t :: ts => by
    have := pieces_sum (decide (t.1 = "name")) ts
    have h2 := form_len t.1 t.2.1
    rw [pieces, List.map_append, List.sum_append, List.map_cons, List.sum_cons]
    have : ((pcs b t).map List.length).sum ≤ t.2.1.length + 2 := by
      unfold pcs
      split <;> simp <;> omega
    omega
theorem pieces_cnt : ∀ (b : Bool) (ts : List Wk), (pieces b ts).length ≤ 2 * ts.length
  | _, [] => Nat.le_refl _
  | b, t :: ts => by
    have := pieces_cnt (decide (t.1 = "name")) ts
    rw [pieces, List.length_append, List.length_cons]
    have : (pcs b t).length ≤ 2 := by
      unfold pcs
      split <;> simp
    omega
theorem wD_mk {k : Str} {v : List Nat} {l c : Int} : wD (k, v, l, c) = .tup [.str k, sT v, .int l, .int c] := id rfl
theorem sT_eq {v : List Nat} : sT v = .str (Tx v) := id rfl
local macro_rules | `(tactic| walk_at "pu") => `(tactic| simp only [↓r_qSeq, ↓r_qNext, ↓r_qBreak, ↓r_qCont, ↓r_qRet, ↓r_qRetN, ↓r_qSet, ↓r_qSetN, ↓r_qAsg, ↓r_qAug, ↓r_qApp, ↓r_qFrz, ↓r_qIf, ↓r_qDrop, ↓r_qSetIx, ↓r_qFor, ↓r_qWhile, ↓r_tst, ↓r_pOp, ↓r_pUn, ↓r_pC, ↓r_pVar, ↓r_pVarR, ↓r_pCall, ↓r_pCallD, ↓r_pCons, ↓r_pNil, ↓r_pAndT, ↓r_pOrT, ↓r_pNotT, ↓r_pTru, ↓r_pAnd, ↓r_pOr, ↓r_pNot, ↓r_pIf, ↓r_pIsN, ↓r_pChain, ↓r_pTup, ↓r_pLst, ↓r_pIsi, ↓r_pSeq, ↓r_pRange1, ↓r_pRange2, ↓r_pComp, ↓r_pYes, ↓r_gN, ↓r_listW, ↓r_tupleW, ↓ltW_int, ↓leW_int, ↓gtW_int, ↓geW_int, ↓subW_int, ↓fdivW_int, ↓modW_int, ↓powW_int, ↓atSh_shD, ↓atAny_shD, ↓atAny_owD, ↓atOwT_owD, ↓atOwL_owD, ↓atOwF_owD, ↓isBl_bl, ↓isInt_int, ↓isSome_someD, ↓isSome_noneD, ↓isIns_ins, ↓on1_1, ↓on2_2, ↓addW_int, ↓addW_ib, ↓addW_str, ↓addW_lst, ↓iaddW_int, ↓iaddW_str, ↓mulW_int, ↓mulW_lst, ↓eqW_int, ↓eqW_str, ↓eqW_bl, ↓eqW_nn, ↓eqW_ni, ↓eqW_in, ↓eqW_is, ↓eqW_si, ↓eqW_tt, ↓eqW_ll, ↓neW_int, ↓neW_str, ↓neW_bl, ↓neW_nn, ↓neW_ni, ↓neW_in, ↓neW_is, ↓neW_si, ↓neW_tt, ↓neW_ll, ↓negW_int, ↓absW_int, ↓intfW_int, ↓intfW_bl, ↓lenW_str, ↓lenW_lst, ↓lenW_klst, ↓lenW_tup, ↓max2W_mx, ↓min2W_mn, itemW_lstD, itemW_klstD, itemW_tupD, itemW_strD, asList_lst, asList_klst, asList_tup, tyN_non, tyN_bl, tyN_int, tyN_str, tyN_tup, tyN_lst, tyN_dK, tyN_dT, ↓truW_non, ↓truW_bl, ↓truW_int, ↓truW_str, ↓truW_lst, ↓truW_klst, ↓truW_tup, isNon_non, isNon_bl, isNon_int, isNon_str, isNon_tup, isNon_lst, isNon_klst, isNon_ins, isNon_dK, ↓gT_tup, ↓gConsP_cons, ↓gNilP_nil, wipeE_nil, wipeE_cons, atI_0, atI_1, atI_2, atI_3, atI_4, atI_5, atI_6, atI_7, atI_8, atI_9, ixN_0, ixN_1, ixN_2, ixN_3, ixN_4, List.getElem?_cons_zero, List.getElem?_cons_succ, List.getElem?_nil, List.set_cons_zero, List.set_cons_succ, List.length_cons, List.length_nil, List.length_map, Nat.reduceAdd, Int.reduceAdd, Nat.reduceLT, Nat.lt_irrefl, List.append_nil, List.nil_append, decide_eq_true_eq, decide_eq_false_iff_not, Bool.not_eq_true', Bool.not_true, Bool.not_false, ite_true, ite_false, if_true, if_false, Bool.false_eq_true, Bool.true_eq_false, ↓reduceIte, and_true, true_and, subT, String.reduceEq, decide_true, decide_false, Bool.or_false, Bool.false_or, Bool.or_true, Bool.true_or, Bool.and_true, Bool.and_false, Bool.true_and, Bool.false_and, Bool.or_self, Bool.and_self, ↓notTW_bl, ↓notTW_non, ↓notTW_int, ↓notTW_str, ↓notTW_tup, ↓notTW_lst, ↓notTW_klst, ↓isTW_bl, ↓isTW_non, ↓isTW_int, ↓isTW_str, ↓isTW_tup, ↓isTW_lst, ↓isTW_klst, ↓addW_tup, ↓inW_tup, ↓inW_lst, ↓inW_klst, ↓intLW_lst, ↓intLW_klst, ↓blLW_lst, ↓sliceW_lst, ↓sliceW_klst, ↓sliceW_tup, ↓sliceW_str, ↓sliceF_lst, ↓sliceF_klst, ↓catF_lst, ↓atIo_ow, asL_lst, asL_klst, ↓r_pUnD, ↓r_pSlice, ↓r_pNoPart, ↓r_pPart, ↓r_pEnum, ↓r_pZip, ↓r_pStr, ↓r_qExt, ↓r_qSetPop, ↓r_popW, ↓r_qPop, ↓r_qRev, ↓r_qClr, ↓r_qIns, ↓r_qFld, ↓r_pFld, ↓r_pMeth, ↓r_pMake, intsOf_map, blsOf_map, ↓r_sumG, List.map_map, Bool.not_not, ↓enumW_lst, ↓enumW_klst, ↓strW_str, ↓extW_lst, toV_str, toV_int, toV_bl, toV_non, flat_str, flat_int, flat_bl, flat_non, ne_ff, ne_tt, List.all_cons, List.all_nil, List.map_cons, List.map_nil, lz0, lz1, lz2, lz3, lz4, lz5, lz6, lz7, lz8, lz9, lz10, lz11, lz12, lz13, lz14, lz15, lz16, lw0, lw1, lw2, lw3, lw4, lw5, lw6, lw7, lw8, lw9, lw10, lw11, lw12, lw13, lw14, lw15, lw16, List.cons_append, Int.reduceToNat, Int.reducePow, Int.reduceLE, Int.reduceLT, Int.reduceNeg, Int.reduceSub, Int.reduceMul, Nat.reducePow, Nat.reduceLeDiff, Nat.reduceSub, Nat.reduceMul, atI_cast, ixN_cast, Int.zero_add, List.length_set, List.length_reverse, cutT_0, cutT_1, cutT_2, cutT_3, cutT_4, cutT_5, cutT_6, cutT_7, cutT_8, cutT_9, cutT_10, cutT_11, cutT_12, cutF_0, cutF_1, cutF_2, cutF_3, cutF_4, cutF_5, cutF_6, cutF_7, cutF_8, cutF_9, cutF_10, cutF_11, cutF_12, cutT_n, cutF_n, cut_nn, cutT_m1, List.take_succ_cons, List.take_zero, List.drop_succ_cons, List.drop_zero, Int.toNat_natCast, beq_tt, beq_ff, ↓r_pEnu, ↓r_pEnuK, ↓r_qRetF, ↓r_qRetO, ↓r_qForO, ↓r_pCallB, ↓r_pCallBN, hard_non, hard_bl, hard_int, hard_str, hard_tup, hards_nil, hards_cons, hardIn_lst, enumI_nil, enumI_cons, eq_self, ↓r_qAsg2, ↓r_qAsg3, ↓r_pChain3, intsOf_nil, intsOf_cons, blsOf_nil, blsOf_cons, ↓maxG_cons, ↓minG_cons, Option.map_some, Option.map_none, List.foldl_cons, List.foldl_nil, Int.cast_ofNat_Int, Int.reduceEq, Int.reduceNe, not_true_eq_false, not_false_eq_true, ↓r_pBM, ↓r_pBM0, ↓r_pGetK, ↓isStr_str, tyD_str, tyD_lst, tyD_klst, ↓s1W_str, ↓s0W_str, ↓joinW_str, joinD_eq, strsOf_map, strsOf_nil, strsOf_cons, ↓lcountW_lst, ↓lcountW_klst, ↓ltX_int, ↓leX_int, ↓gtX_int, ↓geX_int, ↓ltX_str, ↓ltX_tup, ↓leX_tup, ↓gtX_tup, ↓geX_tup, ↓inW_ch, ↓r_qUp, ↓r_qAppN, ↓r_qAppK, ↓r_pKid, ↓r_qSetL1, ↓r_qTupPop, ↓r_kidAt, ↓r_popK, ↓atO2_o2, ↓atKid_l, ↓strfW_int, ↓lindexW_lst, ↓lindexW_klst, ↓r_pStarA, ↓r_pLend, ↓r_tLend, ↓r_qAlias, ↓r_qSetC2, ↓ofLst_lst, ↓tupLW_lst, ↓tupsOf_map, ↓on3_3, ↓max3W_mx, ↓min3W_mx, atI_m1, List.getLast?_singleton, List.getLast?_cons_cons, ↓lenW_ktup, itemW_ktupD, asList_ktup, isNon_ktup, isK_tup, isK_lst, isK_klst, ↓gT_ktup, ↓isTW_ktup, ↓notTW_ktup, ↓inW_ktup, hard_ktup, tyN_ktup, ↓truW_ktup, ↓r_qDPut, ↓r_pDNewK, ↓r_pDNewT, ↓atOwA_ow, ↓dItemW_k, ↓dItemW_t, ↓dLookW_k, ↓dLookW_t, ↓dPutW_k, ↓dPutW_t, keyD_int, keyD_str, keysD_nil, keysD_int, keysD_str, ↓r_pRange3, ↓r_pProp, ↓r_pIsiO, ↓r_pOwnAdd, ↓r_pOwnEq, isO_ins, isO_non, isO_bl, isO_int, isO_str, isO_tup, isO_ktup, isO_lst, isO_dK, ↓r_qSetX, ↓r_qRetX, ↓r_qDropX, ↓r_qRaise, ↓r_qTryAs, ↓r_pXf, ↓r_pIsX, ↓r_qSetNn, ↓r_qRetNn, nonOr_non, nonOr_lst, onNon_non, excOr_exc, excOr_bl, excOr_int, excOr_str, excOr_non, excOr_lst, excOr_tup, isExo_exo, ↓r_pInK, ↓r_pAtK, ↓r_pRevL, ↓s3W_str, ↓revLW_lst, ↓revLW_klst, ↓mulSW_str, ↓r_nxOf, ↓r_rtOf, ↓r_nxIo, ↓r_rtIo, ↓r_nxNw, ↓r_rtNw, ↓r_rnNw, ↓r_rnOf, ↓atRf_rf, ↓r_lentNx, ↓r_lentRt, ↓r_nxX, ↓r_rtX, ↓r_xrX, ↓r_nxNn, ↓r_rtNn, ↓r_rnNn, ↓r_nxT, ↓r_rtT, ↓r_nxS, ↓r_rtS, ch_Tx, Tx1, lit_hyph, lit_back, lit_hash, lit_sp, lit_nl, lit_0, wD_mk, sT_eq, strsOf_sT])
local macro_rules | `(tactic| walk_at "pul") => `(tactic| simp only [↓forW_nil, ↓forW_cons, ↓compW_nil, ↓compW_cons, List.cons_append, ↓r_qSeq, ↓r_qNext, ↓r_qBreak, ↓r_qCont, ↓r_qRet, ↓r_qRetN, ↓r_qSet, ↓r_qSetN, ↓r_qAsg, ↓r_qAug, ↓r_qApp, ↓r_qFrz, ↓r_qIf, ↓r_qDrop, ↓r_qSetIx, ↓r_qFor, ↓r_qWhile, ↓r_tst, ↓r_pOp, ↓r_pUn, ↓r_pC, ↓r_pVar, ↓r_pVarR, ↓r_pCall, ↓r_pCallD, ↓r_pCons, ↓r_pNil, ↓r_pAndT, ↓r_pOrT, ↓r_pNotT, ↓r_pTru, ↓r_pAnd, ↓r_pOr, ↓r_pNot, ↓r_pIf, ↓r_pIsN, ↓r_pChain, ↓r_pTup, ↓r_pLst, ↓r_pIsi, ↓r_pSeq, ↓r_pRange1, ↓r_pRange2, ↓r_pComp, ↓r_pYes, ↓r_gN, ↓r_listW, ↓r_tupleW, ↓ltW_int, ↓leW_int, ↓gtW_int, ↓geW_int, ↓subW_int, ↓fdivW_int, ↓modW_int, ↓powW_int, ↓atSh_shD, ↓atAny_shD, ↓atAny_owD, ↓atOwT_owD, ↓atOwL_owD, ↓atOwF_owD, ↓isBl_bl, ↓isInt_int, ↓isSome_someD, ↓isSome_noneD, ↓isIns_ins, ↓on1_1, ↓on2_2, ↓addW_int, ↓addW_ib, ↓addW_str, ↓addW_lst, ↓iaddW_int, ↓iaddW_str, ↓mulW_int, ↓mulW_lst, ↓eqW_int, ↓eqW_str, ↓eqW_bl, ↓eqW_nn, ↓eqW_ni, ↓eqW_in, ↓eqW_is, ↓eqW_si, ↓eqW_tt, ↓eqW_ll, ↓neW_int, ↓neW_str, ↓neW_bl, ↓neW_nn, ↓neW_ni, ↓neW_in, ↓neW_is, ↓neW_si, ↓neW_tt, ↓neW_ll, ↓negW_int, ↓absW_int, ↓intfW_int, ↓intfW_bl, ↓lenW_str, ↓lenW_lst, ↓lenW_klst, ↓lenW_tup, ↓max2W_mx, ↓min2W_mn, itemW_lstD, itemW_klstD, itemW_tupD, itemW_strD, asList_lst, asList_klst, asList_tup, tyN_non, tyN_bl, tyN_int, tyN_str, tyN_tup, tyN_lst, tyN_dK, tyN_dT, ↓truW_non, ↓truW_bl, ↓truW_int, ↓truW_str, ↓truW_lst, ↓truW_klst, ↓truW_tup, isNon_non, isNon_bl, isNon_int, isNon_str, isNon_tup, isNon_lst, isNon_klst, isNon_ins, isNon_dK, ↓gT_tup, ↓gConsP_cons, ↓gNilP_nil, wipeE_nil, wipeE_cons, atI_0, atI_1, atI_2, atI_3, atI_4, atI_5, atI_6, atI_7, atI_8, atI_9, ixN_0, ixN_1, ixN_2, ixN_3, ixN_4, List.getElem?_cons_zero, List.getElem?_cons_succ, List.getElem?_nil, List.set_cons_zero, List.set_cons_succ, List.length_cons, List.length_nil, List.length_map, Nat.reduceAdd, Int.reduceAdd, Nat.reduceLT, Nat.lt_irrefl, List.append_nil, List.nil_append, decide_eq_true_eq, decide_eq_false_iff_not, Bool.not_eq_true', Bool.not_true, Bool.not_false, ite_true, ite_false, if_true, if_false, Bool.false_eq_true, Bool.true_eq_false, ↓reduceIte, and_true, true_and, subT, String.reduceEq, decide_true, decide_false, Bool.or_false, Bool.false_or, Bool.or_true, Bool.true_or, Bool.and_true, Bool.and_false, Bool.true_and, Bool.false_and, Bool.or_self, Bool.and_self, ↓notTW_bl, ↓notTW_non, ↓notTW_int, ↓notTW_str, ↓notTW_tup, ↓notTW_lst, ↓notTW_klst, ↓isTW_bl, ↓isTW_non, ↓isTW_int, ↓isTW_str, ↓isTW_tup, ↓isTW_lst, ↓isTW_klst, ↓addW_tup, ↓inW_tup, ↓inW_lst, ↓inW_klst, ↓intLW_lst, ↓intLW_klst, ↓blLW_lst, ↓sliceW_lst, ↓sliceW_klst, ↓sliceW_tup, ↓sliceW_str, ↓sliceF_lst, ↓sliceF_klst, ↓catF_lst, ↓atIo_ow, asL_lst, asL_klst, ↓r_pUnD, ↓r_pSlice, ↓r_pNoPart, ↓r_pPart, ↓r_pEnum, ↓r_pZip, ↓r_pStr, ↓r_qExt, ↓r_qSetPop, ↓r_popW, ↓r_qPop, ↓r_qRev, ↓r_qClr, ↓r_qIns, ↓r_qFld, ↓r_pFld, ↓r_pMeth, ↓r_pMake, intsOf_map, blsOf_map, ↓r_sumG, List.map_map, Bool.not_not, ↓enumW_lst, ↓enumW_klst, ↓strW_str, ↓extW_lst, toV_str, toV_int, toV_bl, toV_non, flat_str, flat_int, flat_bl, flat_non, ne_ff, ne_tt, List.all_cons, List.all_nil, List.map_cons, List.map_nil, lz0, lz1, lz2, lz3, lz4, lz5, lz6, lz7, lz8, lz9, lz10, lz11, lz12, lz13, lz14, lz15, lz16, lw0, lw1, lw2, lw3, lw4, lw5, lw6, lw7, lw8, lw9, lw10, lw11, lw12, lw13, lw14, lw15, lw16, List.cons_append, Int.reduceToNat, Int.reducePow, Int.reduceLE, Int.reduceLT, Int.reduceNeg, Int.reduceSub, Int.reduceMul, Nat.reducePow, Nat.reduceLeDiff, Nat.reduceSub, Nat.reduceMul, atI_cast, ixN_cast, Int.zero_add, List.length_set, List.length_reverse, cutT_0, cutT_1, cutT_2, cutT_3, cutT_4, cutT_5, cutT_6, cutT_7, cutT_8, cutT_9, cutT_10, cutT_11, cutT_12, cutF_0, cutF_1, cutF_2, cutF_3, cutF_4, cutF_5, cutF_6, cutF_7, cutF_8, cutF_9, cutF_10, cutF_11, cutF_12, cutT_n, cutF_n, cut_nn, cutT_m1, List.take_succ_cons, List.take_zero, List.drop_succ_cons, List.drop_zero, Int.toNat_natCast, beq_tt, beq_ff, ↓r_pEnu, ↓r_pEnuK, ↓r_qRetF, ↓r_qRetO, ↓r_qForO, ↓r_pCallB, ↓r_pCallBN, hard_non, hard_bl, hard_int, hard_str, hard_tup, hards_nil, hards_cons, hardIn_lst, enumI_nil, enumI_cons, eq_self, ↓r_qAsg2, ↓r_qAsg3, ↓r_pChain3, intsOf_nil, intsOf_cons, blsOf_nil, blsOf_cons, ↓maxG_cons, ↓minG_cons, Option.map_some, Option.map_none, List.foldl_cons, List.foldl_nil, Int.cast_ofNat_Int, Int.reduceEq, Int.reduceNe, not_true_eq_false, not_false_eq_true, ↓r_pBM, ↓r_pBM0, ↓r_pGetK, ↓isStr_str, tyD_str, tyD_lst, tyD_klst, ↓s1W_str, ↓s0W_str, ↓joinW_str, joinD_eq, strsOf_map, strsOf_nil, strsOf_cons, ↓lcountW_lst, ↓lcountW_klst, ↓ltX_int, ↓leX_int, ↓gtX_int, ↓geX_int, ↓ltX_str, ↓ltX_tup, ↓leX_tup, ↓gtX_tup, ↓geX_tup, ↓inW_ch, ↓r_qUp, ↓r_qAppN, ↓r_qAppK, ↓r_pKid, ↓r_qSetL1, ↓r_qTupPop, ↓r_kidAt, ↓r_popK, ↓atO2_o2, ↓atKid_l, ↓strfW_int, ↓lindexW_lst, ↓lindexW_klst, ↓r_pStarA, ↓r_pLend, ↓r_tLend, ↓r_qAlias, ↓r_qSetC2, ↓ofLst_lst, ↓tupLW_lst, ↓tupsOf_map, ↓on3_3, ↓max3W_mx, ↓min3W_mx, atI_m1, List.getLast?_singleton, List.getLast?_cons_cons, ↓lenW_ktup, itemW_ktupD, asList_ktup, isNon_ktup, isK_tup, isK_lst, isK_klst, ↓gT_ktup, ↓isTW_ktup, ↓notTW_ktup, ↓inW_ktup, hard_ktup, tyN_ktup, ↓truW_ktup, ↓r_qDPut, ↓r_pDNewK, ↓r_pDNewT, ↓atOwA_ow, ↓dItemW_k, ↓dItemW_t, ↓dLookW_k, ↓dLookW_t, ↓dPutW_k, ↓dPutW_t, keyD_int, keyD_str, keysD_nil, keysD_int, keysD_str, ↓r_pRange3, ↓r_pProp, ↓r_pIsiO, ↓r_pOwnAdd, ↓r_pOwnEq, isO_ins, isO_non, isO_bl, isO_int, isO_str, isO_tup, isO_ktup, isO_lst, isO_dK, ↓r_qSetX, ↓r_qRetX, ↓r_qDropX, ↓r_qRaise, ↓r_qTryAs, ↓r_pXf, ↓r_pIsX, ↓r_qSetNn, ↓r_qRetNn, nonOr_non, nonOr_lst, onNon_non, excOr_exc, excOr_bl, excOr_int, excOr_str, excOr_non, excOr_lst, excOr_tup, isExo_exo, ↓r_pInK, ↓r_pAtK, ↓r_pRevL, ↓s3W_str, ↓revLW_lst, ↓revLW_klst, ↓mulSW_str, ↓r_nxOf, ↓r_rtOf, ↓r_nxIo, ↓r_rtIo, ↓r_nxNw, ↓r_rtNw, ↓r_rnNw, ↓r_rnOf, ↓atRf_rf, ↓r_lentNx, ↓r_lentRt, ↓r_nxX, ↓r_rtX, ↓r_xrX, ↓r_nxNn, ↓r_rtNn, ↓r_rnNn, ↓r_nxT, ↓r_rtT, ↓r_nxS, ↓r_rtS, ch_Tx, Tx1, lit_hyph, lit_back, lit_hash, lit_sp, lit_nl, lit_0, wD_mk, sT_eq, strsOf_sT])
theorem le_sum {α : Type} {f : α → Nat} {x : α} : ∀ {l : List α}, x ∈ l → f x ≤ (l.map f).sum
  | y :: l, h => by
    rw [List.map_cons, List.sum_cons]
    rcases List.mem_cons.1 h with rfl | h
    · omega
    · have := le_sum (f := f) h
      omega
theorem pure_written (ds : List D) (R : DK) (h : c_written ds R) : q_written (endOf R) (startE N_written ds) := by
  obtain ⟨ts, rfl, ok, p⟩ := h
  rw [st_written]
  unfold q_written
  walk_at "pu"
  have hbig := ok.len
  refine forI_list wD ts (fun done rest ρ => ∃ x, ρ = [some (.sh (.lst (ts.map wD))), some (.ow true (.lst ((pieces false done).map sT))), some (.sh (.bl (nm done))), x]) rfl ⟨_, rfl⟩ ?_ ?_
  · rintro done ⟨k, v, l, c⟩ rest ρ e ⟨x, rfl⟩ A hA
    unfold b_written_1
    walk_at "pu"
    have hm : (k, v, l, c) ∈ ts := by rw [e]; simp
    have hlen : v.length ≤ 2000000 := by
      have := ok.sum
      have h2 := le_sum (f := fun t : Wk => t.2.1.length + 2) hm
      simp only at h2
      omega
    have hd : done.length < ts.length := by rw [e]; simp
    have hp := pieces_cnt false done
    have hne := ok.ne _ hm
    have step : ∀ (b : Bool) (ds : List D), b = nm done → (pcs b (k, v, l, c)).map sT = ds → ∀ x, A [some (.sh (.lst (ts.map wD))), some (.ow true (.lst ((pieces false done).map sT ++ ds))), some (.sh (.bl (decide (k = "name")))), x] := by
      rintro b _ rfl rfl x
      refine hA _ ⟨x, ?_⟩
      rw [pieces_snoc, nm_app, List.map_append]
    have two : ∀ x, (nm done = true ∧ k = "word" ∧ (∃ c, v.head? = some c ∧ c ∈ chL)) → c_written_token [D.tup [D.str k, D.str (Tx v), D.int l, D.int c]] fun d => (List.map sT (pieces false done) ++ [D.str (Tx [32])]).length < sizeLine ∧ A [some (.sh (.lst (ts.map wD))), some (.ow true (.lst ((pieces false done).map sT ++ [D.str (Tx [32])] ++ [d]))), some (.sh (.bl (decide (k = "name")))), x] := fun x h => by
      refine ⟨(k, v, l, c), rfl, hlen, by simp only [List.length_append, List.length_map, List.length_singleton]; exact lszl (by omega), ?_⟩
      rw [List.append_assoc]
      exact step _ _ rfl (by unfold pcs; rw [if_pos h]; rfl) x
    have one : ∀ x, ¬ (nm done = true ∧ k = "word" ∧ (∃ c, v.head? = some c ∧ c ∈ chL)) → c_written_token [D.tup [D.str k, D.str (Tx v), D.int l, D.int c]] fun d => (pieces false done).length < sizeLine ∧ A [some (.sh (.lst (ts.map wD))), some (.ow true (.lst ((pieces false done).map sT ++ [d]))), some (.sh (.bl (decide (k = "name")))), x] := fun x h => by
      refine ⟨(k, v, l, c), rfl, hlen, lszl (by omega), ?_⟩
      exact step _ _ rfl (by unfold pcs; rw [if_neg h]; rfl) x
    split
    · rename_i h1
      split
      · rename_i h2
        refine ⟨sz_Tx hlen (by omega), ?_⟩
        rw [Tx_list]
        cases v with
        | nil => exact absurd rfl hne
        | cons a v =>
        show isSomeD _ _ (some a)
        rw [isSome_someD]
        refine ⟨a, rfl, ?_⟩
        by_cases ha : a ∈ chL
        · rw [decide_eq_true ha]
          walk_at "pu"
          exact ⟨lszl (by omega), two _ ⟨h1, h2, a, rfl, ha⟩⟩
        · rw [decide_eq_false ha]
          walk_at "pu"
          exact one _ fun ⟨_, _, b, e, hb⟩ => by cases e; exact ha hb
      · rename_i h2
        exact one _ fun ⟨_, h, _⟩ => h2 h
    · rename_i h1
      exact one _ fun ⟨h, _⟩ => h1 h
  · rintro ρ ⟨x, rfl⟩
    walk_at "pu"
    have h1 := pieces_sum false ts
    have h2 := ok.sum
    have h3 : (List.map ((fun x => x.length) ∘ Tx) (pieces false ts)) = (pieces false ts).map List.length := List.map_congr_left fun v _ => Tx_len v
    rw [h3]
    refine ⟨by rw [Tx_len]; simp only [List.length_nil, Nat.mul_zero]; omega, ?_⟩
    rw [join_Tx, pieces_flat]
    exact p
theorem lit_19 : ("123456789" : Str) = Tx [49, 50, 51, 52, 53, 54, 55, 56, 57] := by decide +kernel
theorem mD_mk {k : Str} {v t : List Nat} : mD (k, v, t) = .tup [.str k, sT v, sT t] := id rfl
local macro_rules | `(tactic| walk_at "pu") => `(tactic| simp only [↓r_qSeq, ↓r_qNext, ↓r_qBreak, ↓r_qCont, ↓r_qRet, ↓r_qRetN, ↓r_qSet, ↓r_qSetN, ↓r_qAsg, ↓r_qAug, ↓r_qApp, ↓r_qFrz, ↓r_qIf, ↓r_qDrop, ↓r_qSetIx, ↓r_qFor, ↓r_qWhile, ↓r_tst, ↓r_pOp, ↓r_pUn, ↓r_pC, ↓r_pVar, ↓r_pVarR, ↓r_pCall, ↓r_pCallD, ↓r_pCons, ↓r_pNil, ↓r_pAndT, ↓r_pOrT, ↓r_pNotT, ↓r_pTru, ↓r_pAnd, ↓r_pOr, ↓r_pNot, ↓r_pIf, ↓r_pIsN, ↓r_pChain, ↓r_pTup, ↓r_pLst, ↓r_pIsi, ↓r_pSeq, ↓r_pRange1, ↓r_pRange2, ↓r_pComp, ↓r_pYes, ↓r_gN, ↓r_listW, ↓r_tupleW, ↓ltW_int, ↓leW_int, ↓gtW_int, ↓geW_int, ↓subW_int, ↓fdivW_int, ↓modW_int, ↓powW_int, ↓atSh_shD, ↓atAny_shD, ↓atAny_owD, ↓atOwT_owD, ↓atOwL_owD, ↓atOwF_owD, ↓isBl_bl, ↓isInt_int, ↓isSome_someD, ↓isSome_noneD, ↓isIns_ins, ↓on1_1, ↓on2_2, ↓addW_int, ↓addW_ib, ↓addW_str, ↓addW_lst, ↓iaddW_int, ↓iaddW_str, ↓mulW_int, ↓mulW_lst, ↓eqW_int, ↓eqW_str, ↓eqW_bl, ↓eqW_nn, ↓eqW_ni, ↓eqW_in, ↓eqW_is, ↓eqW_si, ↓eqW_tt, ↓eqW_ll, ↓neW_int, ↓neW_str, ↓neW_bl, ↓neW_nn, ↓neW_ni, ↓neW_in, ↓neW_is, ↓neW_si, ↓neW_tt, ↓neW_ll, ↓negW_int, ↓absW_int, ↓intfW_int, ↓intfW_bl, ↓lenW_str, ↓lenW_lst, ↓lenW_klst, ↓lenW_tup, ↓max2W_mx, ↓min2W_mn, itemW_lstD, itemW_klstD, itemW_tupD, itemW_strD, asList_lst, asList_klst, asList_tup, tyN_non, tyN_bl, tyN_int, tyN_str, tyN_tup, tyN_lst, tyN_dK, tyN_dT, ↓truW_non, ↓truW_bl, ↓truW_int, ↓truW_str, ↓truW_lst, ↓truW_klst, ↓truW_tup, isNon_non, isNon_bl, isNon_int, isNon_str, isNon_tup, isNon_lst, isNon_klst, isNon_ins, isNon_dK, ↓gT_tup, ↓gConsP_cons, ↓gNilP_nil, wipeE_nil, wipeE_cons, atI_0, atI_1, atI_2, atI_3, atI_4, atI_5, atI_6, atI_7, atI_8, atI_9, ixN_0, ixN_1, ixN_2, ixN_3, ixN_4, List.getElem?_cons_zero, List.getElem?_cons_succ, List.getElem?_nil, List.set_cons_zero, List.set_cons_succ, List.length_cons, List.length_nil, List.length_map, Nat.reduceAdd, Int.reduceAdd, Nat.reduceLT, Nat.lt_irrefl, List.append_nil, List.nil_append, decide_eq_true_eq, decide_eq_false_iff_not, Bool.not_eq_true', Bool.not_true, Bool.not_false, ite_true, ite_false, if_true, if_false, Bool.false_eq_true, Bool.true_eq_false, ↓reduceIte, and_true, true_and, subT, String.reduceEq, decide_true, decide_false, Bool.or_false, Bool.false_or, Bool.or_true, Bool.true_or, Bool.and_true, Bool.and_false, Bool.true_and, Bool.false_and, Bool.or_self, Bool.and_self, ↓notTW_bl, ↓notTW_non, ↓notTW_int, ↓notTW_str, ↓notTW_tup, ↓notTW_lst, ↓notTW_klst, ↓isTW_bl, ↓isTW_non, ↓isTW_int, ↓isTW_str, ↓isTW_tup, ↓isTW_lst, ↓isTW_klst, ↓addW_tup, ↓inW_tup, ↓inW_lst, ↓inW_klst, ↓intLW_lst, ↓intLW_klst, ↓blLW_lst, ↓sliceW_lst, ↓sliceW_klst, ↓sliceW_tup, ↓sliceW_str, ↓sliceF_lst, ↓sliceF_klst, ↓catF_lst, ↓atIo_ow, asL_lst, asL_klst, ↓r_pUnD, ↓r_pSlice, ↓r_pNoPart, ↓r_pPart, ↓r_pEnum, ↓r_pZip, ↓r_pStr, ↓r_qExt, ↓r_qSetPop, ↓r_popW, ↓r_qPop, ↓r_qRev, ↓r_qClr, ↓r_qIns, ↓r_qFld, ↓r_pFld, ↓r_pMeth, ↓r_pMake, intsOf_map, blsOf_map, ↓r_sumG, List.map_map, Bool.not_not, ↓enumW_lst, ↓enumW_klst, ↓strW_str, ↓extW_lst, toV_str, toV_int, toV_bl, toV_non, flat_str, flat_int, flat_bl, flat_non, ne_ff, ne_tt, List.all_cons, List.all_nil, List.map_cons, List.map_nil, lz0, lz1, lz2, lz3, lz4, lz5, lz6, lz7, lz8, lz9, lz10, lz11, lz12, lz13, lz14, lz15, lz16, lw0, lw1, lw2, lw3, lw4, lw5, lw6, lw7, lw8, lw9, lw10, lw11, lw12, lw13, lw14, lw15, lw16, List.cons_append, Int.reduceToNat, Int.reducePow, Int.reduceLE, Int.reduceLT, Int.reduceNeg, Int.reduceSub, Int.reduceMul, Nat.reducePow, Nat.reduceLeDiff, Nat.reduceSub, Nat.reduceMul, atI_cast, ixN_cast, Int.zero_add, List.length_set, List.length_reverse, cutT_0, cutT_1, cutT_2, cutT_3, cutT_4, cutT_5, cutT_6, cutT_7, cutT_8, cutT_9, cutT_10, cutT_11, cutT_12, cutF_0, cutF_1, cutF_2, cutF_3, cutF_4, cutF_5, cutF_6, cutF_7, cutF_8, cutF_9, cutF_10, cutF_11, cutF_12, cutT_n, cutF_n, cut_nn, cutT_m1, List.take_succ_cons, List.take_zero, List.drop_succ_cons, List.drop_zero, Int.toNat_natCast, beq_tt, beq_ff, ↓r_pEnu, ↓r_pEnuK, ↓r_qRetF, ↓r_qRetO, ↓r_qForO, ↓r_pCallB, ↓r_pCallBN, hard_non, hard_bl, hard_int, hard_str, hard_tup, hards_nil, hards_cons, hardIn_lst, enumI_nil, enumI_cons, eq_self, ↓r_qAsg2, ↓r_qAsg3, ↓r_pChain3, intsOf_nil, intsOf_cons, blsOf_nil, blsOf_cons, ↓maxG_cons, ↓minG_cons, Option.map_some, Option.map_none, List.foldl_cons, List.foldl_nil, Int.cast_ofNat_Int, Int.reduceEq, Int.reduceNe, not_true_eq_false, not_false_eq_true, ↓r_pBM, ↓r_pBM0, ↓r_pGetK, ↓isStr_str, tyD_str, tyD_lst, tyD_klst, ↓s1W_str, ↓s0W_str, ↓joinW_str, joinD_eq, strsOf_map, strsOf_nil, strsOf_cons, ↓lcountW_lst, ↓lcountW_klst, ↓ltX_int, ↓leX_int, ↓gtX_int, ↓geX_int, ↓ltX_str, ↓ltX_tup, ↓leX_tup, ↓gtX_tup, ↓geX_tup, ↓inW_ch, ↓r_qUp, ↓r_qAppN, ↓r_qAppK, ↓r_pKid, ↓r_qSetL1, ↓r_qTupPop, ↓r_kidAt, ↓r_popK, ↓atO2_o2, ↓atKid_l, ↓strfW_int, ↓lindexW_lst, ↓lindexW_klst, ↓r_pStarA, ↓r_pLend, ↓r_tLend, ↓r_qAlias, ↓r_qSetC2, ↓ofLst_lst, ↓tupLW_lst, ↓tupsOf_map, ↓on3_3, ↓max3W_mx, ↓min3W_mx, atI_m1, List.getLast?_singleton, List.getLast?_cons_cons, ↓lenW_ktup, itemW_ktupD, asList_ktup, isNon_ktup, isK_tup, isK_lst, isK_klst, ↓gT_ktup, ↓isTW_ktup, ↓notTW_ktup, ↓inW_ktup, hard_ktup, tyN_ktup, ↓truW_ktup, ↓r_qDPut, ↓r_pDNewK, ↓r_pDNewT, ↓atOwA_ow, ↓dItemW_k, ↓dItemW_t, ↓dLookW_k, ↓dLookW_t, ↓dPutW_k, ↓dPutW_t, keyD_int, keyD_str, keysD_nil, keysD_int, keysD_str, ↓r_pRange3, ↓r_pProp, ↓r_pIsiO, ↓r_pOwnAdd, ↓r_pOwnEq, isO_ins, isO_non, isO_bl, isO_int, isO_str, isO_tup, isO_ktup, isO_lst, isO_dK, ↓r_qSetX, ↓r_qRetX, ↓r_qDropX, ↓r_qRaise, ↓r_qTryAs, ↓r_pXf, ↓r_pIsX, ↓r_qSetNn, ↓r_qRetNn, nonOr_non, nonOr_lst, onNon_non, excOr_exc, excOr_bl, excOr_int, excOr_str, excOr_non, excOr_lst, excOr_tup, isExo_exo, ↓r_pInK, ↓r_pAtK, ↓r_pRevL, ↓s3W_str, ↓revLW_lst, ↓revLW_klst, ↓mulSW_str, ↓r_nxOf, ↓r_rtOf, ↓r_nxIo, ↓r_rtIo, ↓r_nxNw, ↓r_rtNw, ↓r_rnNw, ↓r_rnOf, ↓atRf_rf, ↓r_lentNx, ↓r_lentRt, ↓r_nxX, ↓r_rtX, ↓r_xrX, ↓r_nxNn, ↓r_rtNn, ↓r_rnNn, ↓r_nxT, ↓r_rtT, ↓r_nxS, ↓r_rtS, ch_Tx, Tx1, lit_hyph, lit_back, lit_hash, lit_sp, lit_nl, lit_0, wD_mk, sT_eq, strsOf_sT, mD_mk])
local macro_rules | `(tactic| walk_at "pul") => `(tactic| simp only [↓forW_nil, ↓forW_cons, ↓compW_nil, ↓compW_cons, List.cons_append, ↓r_qSeq, ↓r_qNext, ↓r_qBreak, ↓r_qCont, ↓r_qRet, ↓r_qRetN, ↓r_qSet, ↓r_qSetN, ↓r_qAsg, ↓r_qAug, ↓r_qApp, ↓r_qFrz, ↓r_qIf, ↓r_qDrop, ↓r_qSetIx, ↓r_qFor, ↓r_qWhile, ↓r_tst, ↓r_pOp, ↓r_pUn, ↓r_pC, ↓r_pVar, ↓r_pVarR, ↓r_pCall, ↓r_pCallD, ↓r_pCons, ↓r_pNil, ↓r_pAndT, ↓r_pOrT, ↓r_pNotT, ↓r_pTru, ↓r_pAnd, ↓r_pOr, ↓r_pNot, ↓r_pIf, ↓r_pIsN, ↓r_pChain, ↓r_pTup, ↓r_pLst, ↓r_pIsi, ↓r_pSeq, ↓r_pRange1, ↓r_pRange2, ↓r_pComp, ↓r_pYes, ↓r_gN, ↓r_listW, ↓r_tupleW, ↓ltW_int, ↓leW_int, ↓gtW_int, ↓geW_int, ↓subW_int, ↓fdivW_int, ↓modW_int, ↓powW_int, ↓atSh_shD, ↓atAny_shD, ↓atAny_owD, ↓atOwT_owD, ↓atOwL_owD, ↓atOwF_owD, ↓isBl_bl, ↓isInt_int, ↓isSome_someD, ↓isSome_noneD, ↓isIns_ins, ↓on1_1, ↓on2_2, ↓addW_int, ↓addW_ib, ↓addW_str, ↓addW_lst, ↓iaddW_int, ↓iaddW_str, ↓mulW_int, ↓mulW_lst, ↓eqW_int, ↓eqW_str, ↓eqW_bl, ↓eqW_nn, ↓eqW_ni, ↓eqW_in, ↓eqW_is, ↓eqW_si, ↓eqW_tt, ↓eqW_ll, ↓neW_int, ↓neW_str, ↓neW_bl, ↓neW_nn, ↓neW_ni, ↓neW_in, ↓neW_is, ↓neW_si, ↓neW_tt, ↓neW_ll, ↓negW_int, ↓absW_int, ↓intfW_int, ↓intfW_bl, ↓lenW_str, ↓lenW_lst, ↓lenW_klst, ↓lenW_tup, ↓max2W_mx, ↓min2W_mn, itemW_lstD, itemW_klstD, itemW_tupD, itemW_strD, asList_lst, asList_klst, asList_tup, tyN_non, tyN_bl, tyN_int, tyN_str, tyN_tup, tyN_lst, tyN_dK, tyN_dT, ↓truW_non, ↓truW_bl, ↓truW_int, ↓truW_str, ↓truW_lst, ↓truW_klst, ↓truW_tup, isNon_non, isNon_bl, isNon_int, isNon_str, isNon_tup, isNon_lst, isNon_klst, isNon_ins, isNon_dK, ↓gT_tup, ↓gConsP_cons, ↓gNilP_nil, wipeE_nil, wipeE_cons, atI_0, atI_1, atI_2, atI_3, atI_4, atI_5, atI_6, atI_7, atI_8, atI_9, ixN_0, ixN_1, ixN_2, ixN_3, ixN_4, List.getElem?_cons_zero, List.getElem?_cons_succ, List.getElem?_nil, List.set_cons_zero, List.set_cons_succ, List.length_cons, List.length_nil, List.length_map, Nat.reduceAdd, Int.reduceAdd, Nat.reduceLT, Nat.lt_irrefl, List.append_nil, List.nil_append, decide_eq_true_eq, decide_eq_false_iff_not, Bool.not_eq_true', Bool.not_true, Bool.not_false, ite_true, ite_false, if_true, if_false, Bool.false_eq_true, Bool.true_eq_false, ↓reduceIte, and_true, true_and, subT, String.reduceEq, decide_true, decide_false, Bool.or_false, Bool.false_or, Bool.or_true, Bool.true_or, Bool.and_true, Bool.and_false, Bool.true_and, Bool.false_and, Bool.or_self, Bool.and_self, ↓notTW_bl, ↓notTW_non, ↓notTW_int, ↓notTW_str, ↓notTW_tup, ↓notTW_lst, ↓notTW_klst, ↓isTW_bl, ↓isTW_non, ↓isTW_int, ↓isTW_str, ↓isTW_tup, ↓isTW_lst, ↓isTW_klst, ↓addW_tup, ↓inW_tup, ↓inW_lst, ↓inW_klst, ↓intLW_lst, ↓intLW_klst, ↓blLW_lst, ↓sliceW_lst, ↓sliceW_klst, ↓sliceW_tup, ↓sliceW_str, ↓sliceF_lst, ↓sliceF_klst, ↓catF_lst, ↓atIo_ow, asL_lst, asL_klst, ↓r_pUnD, ↓r_pSlice, ↓r_pNoPart, ↓r_pPart, ↓r_pEnum, ↓r_pZip, ↓r_pStr, ↓r_qExt, ↓r_qSetPop, ↓r_popW, ↓r_qPop, ↓r_qRev, ↓r_qClr, ↓r_qIns, ↓r_qFld, ↓r_pFld, ↓r_pMeth, ↓r_pMake, intsOf_map, blsOf_map, ↓r_sumG, List.map_map, Bool.not_not, ↓enumW_lst, ↓enumW_klst, ↓strW_str, ↓extW_lst, toV_str, toV_int, toV_bl, toV_non, flat_str, flat_int, flat_bl, flat_non, ne_ff, ne_tt, List.all_cons, List.all_nil, List.map_cons, List.map_nil, lz0, lz1, lz2, lz3, lz4, lz5, lz6, lz7, lz8, lz9, lz10, lz11, lz12, lz13, lz14, lz15, lz16, lw0, lw1, lw2, lw3, lw4, lw5, lw6, lw7, lw8, lw9, lw10, lw11, lw12, lw13, lw14, lw15, lw16, List.cons_append, Int.reduceToNat, Int.reducePow, Int.reduceLE, Int.reduceLT, Int.reduceNeg, Int.reduceSub, Int.reduceMul, Nat.reducePow, Nat.reduceLeDiff, Nat.reduceSub, Nat.reduceMul, atI_cast, ixN_cast, Int.zero_add, List.length_set, List.length_reverse, cutT_0, cutT_1, cutT_2, cutT_3, cutT_4, cutT_5, cutT_6, cutT_7, cutT_8, cutT_9, cutT_10, cutT_11, cutT_12, cutF_0, cutF_1, cutF_2, cutF_3, cutF_4, cutF_5, cutF_6, cutF_7, cutF_8, cutF_9, cutF_10, cutF_11, cutF_12, cutT_n, cutF_n, cut_nn, cutT_m1, List.take_succ_cons, List.take_zero, List.drop_succ_cons, List.drop_zero, Int.toNat_natCast, beq_tt, beq_ff, ↓r_pEnu, ↓r_pEnuK, ↓r_qRetF, ↓r_qRetO, ↓r_qForO, ↓r_pCallB, ↓r_pCallBN, hard_non, hard_bl, hard_int, hard_str, hard_tup, hards_nil, hards_cons, hardIn_lst, enumI_nil, enumI_cons, eq_self, ↓r_qAsg2, ↓r_qAsg3, ↓r_pChain3, intsOf_nil, intsOf_cons, blsOf_nil, blsOf_cons, ↓maxG_cons, ↓minG_cons, Option.map_some, Option.map_none, List.foldl_cons, List.foldl_nil, Int.cast_ofNat_Int, Int.reduceEq, Int.reduceNe, not_true_eq_false, not_false_eq_true, ↓r_pBM, ↓r_pBM0, ↓r_pGetK, ↓isStr_str, tyD_str, tyD_lst, tyD_klst, ↓s1W_str, ↓s0W_str, ↓joinW_str, joinD_eq, strsOf_map, strsOf_nil, strsOf_cons, ↓lcountW_lst, ↓lcountW_klst, ↓ltX_int, ↓leX_int, ↓gtX_int, ↓geX_int, ↓ltX_str, ↓ltX_tup, ↓leX_tup, ↓gtX_tup, ↓geX_tup, ↓inW_ch, ↓r_qUp, ↓r_qAppN, ↓r_qAppK, ↓r_pKid, ↓r_qSetL1, ↓r_qTupPop, ↓r_kidAt, ↓r_popK, ↓atO2_o2, ↓atKid_l, ↓strfW_int, ↓lindexW_lst, ↓lindexW_klst, ↓r_pStarA, ↓r_pLend, ↓r_tLend, ↓r_qAlias, ↓r_qSetC2, ↓ofLst_lst, ↓tupLW_lst, ↓tupsOf_map, ↓on3_3, ↓max3W_mx, ↓min3W_mx, atI_m1, List.getLast?_singleton, List.getLast?_cons_cons, ↓lenW_ktup, itemW_ktupD, asList_ktup, isNon_ktup, isK_tup, isK_lst, isK_klst, ↓gT_ktup, ↓isTW_ktup, ↓notTW_ktup, ↓inW_ktup, hard_ktup, tyN_ktup, ↓truW_ktup, ↓r_qDPut, ↓r_pDNewK, ↓r_pDNewT, ↓atOwA_ow, ↓dItemW_k, ↓dItemW_t, ↓dLookW_k, ↓dLookW_t, ↓dPutW_k, ↓dPutW_t, keyD_int, keyD_str, keysD_nil, keysD_int, keysD_str, ↓r_pRange3, ↓r_pProp, ↓r_pIsiO, ↓r_pOwnAdd, ↓r_pOwnEq, isO_ins, isO_non, isO_bl, isO_int, isO_str, isO_tup, isO_ktup, isO_lst, isO_dK, ↓r_qSetX, ↓r_qRetX, ↓r_qDropX, ↓r_qRaise, ↓r_qTryAs, ↓r_pXf, ↓r_pIsX, ↓r_qSetNn, ↓r_qRetNn, nonOr_non, nonOr_lst, onNon_non, excOr_exc, excOr_bl, excOr_int, excOr_str, excOr_non, excOr_lst, excOr_tup, isExo_exo, ↓r_pInK, ↓r_pAtK, ↓r_pRevL, ↓s3W_str, ↓revLW_lst, ↓revLW_klst, ↓mulSW_str, ↓r_nxOf, ↓r_rtOf, ↓r_nxIo, ↓r_rtIo, ↓r_nxNw, ↓r_rtNw, ↓r_rnNw, ↓r_rnOf, ↓atRf_rf, ↓r_lentNx, ↓r_lentRt, ↓r_nxX, ↓r_rtX, ↓r_xrX, ↓r_nxNn, ↓r_rtNn, ↓r_rnNn, ↓r_nxT, ↓r_rtT, ↓r_nxS, ↓r_rtS, ch_Tx, Tx1, lit_hyph, lit_back, lit_hash, lit_sp, lit_nl, lit_0, wD_mk, sT_eq, strsOf_sT, mD_mk])
theorem len_law_joined (ds : List D) (R : DK) (h : c_law_joined ds R) : ds.length = 1 := by
  obtain ⟨_, rfl, _⟩ := h; rfl
theorem joined_snoc (ts : List Wk) (t : Wk) : joined false (ts ++ [t]) = joined false ts ++ (pcs (nm ts) t).flatten := by
  rw [← pieces_flat, ← pieces_flat, pieces_snoc, List.flatten_append]
theorem joined_len (b : Bool) (ts : List Wk) : (joined b ts).length ≤ (ts.map fun t => t.2.1.length + 2).sum := by
  rw [← pieces_flat, List.length_flatten]
  exact pieces_sum b ts
theorem pure_law_joined (ds : List D) (R : DK) (h : c_law_joined ds R) : q_law_joined (endOf R) (startE N_law_joined ds) := by
  obtain ⟨ts, rfl, ok, p⟩ := h
  rw [st_law_joined]
  unfold q_law_joined b_law_joined_1
  walk_at "pu"
  have hl := ok.len
  refine ⟨by omega, by omega, ?_⟩
  refine forI_range (fun k ρ => ∃ x, ρ = [some (.sh (.lst (ts.map wD))), some (.sh (.str (Tx (joined false (ts.take k))))), x]) ⟨_, rfl⟩ ?_ ?_
  · rintro k ρ hk ⟨x, rfl⟩ A hA
    obtain ⟨t, ht⟩ : ∃ t, ts[k]? = some t := ⟨ts[k], List.getElem?_eq_getElem hk⟩
    obtain ⟨kd, v, l, c⟩ := t
    have hm : (kd, v, l, c) ∈ ts := List.mem_of_getElem? ht
    have htm : (ts.map wD)[k]? = some (wD (kd, v, l, c)) := by rw [List.getElem?_map, ht]; rfl
    have htk : ts.take (k + 1) = ts.take k ++ [(kd, v, l, c)] := by rw [List.take_succ, ht]; rfl
    have hsum := ok.sum
    have hv := le_sum (f := fun t : Wk => t.2.1.length + 2) hm
    have hj := joined_len false (ts.take k)
    have hj2 : ((ts.take k).map fun t => t.2.1.length + 2).sum ≤ 1500000 := by
      have e := congrArg (fun l : List Wk => (l.map fun t => t.2.1.length + 2).sum) (List.take_append_drop k ts)
      simp only [List.map_append, List.sum_append] at e
      omega
    simp only at hv
    have hf := form_len kd v
    have hne := ok.ne _ hm
    have two : (nm (ts.take k) = true ∧ kd = "word" ∧ (∃ c, v.head? = some c ∧ c ∈ chL)) → ∀ x, A [some (.sh (.lst (ts.map wD))), some (.sh (.str (Tx (joined false (ts.take k) ++ [32] ++ form kd v)))), x] := fun h x => by
      refine hA _ ⟨x, ?_⟩
      rw [htk, joined_snoc]
      unfold pcs
      rw [if_pos h]
      simp
    have one : ¬ (nm (ts.take k) = true ∧ kd = "word" ∧ (∃ c, v.head? = some c ∧ c ∈ chL)) → ∀ x, A [some (.sh (.lst (ts.map wD))), some (.sh (.str (Tx (joined false (ts.take k) ++ form kd v)))), x] := fun h x => by
      refine hA _ ⟨x, ?_⟩
      rw [htk, joined_snoc]
      unfold pcs
      rw [if_neg h]
      simp
    walk_at "pu"
    rw [htm]
    have fin2 : (nm (ts.take k) = true ∧ kd = "word" ∧ (∃ c, v.head? = some c ∧ c ∈ chL)) → ∀ x, (Tx (joined false (List.take k ts))).length + (Tx [32]).length ≤ sizeLine ∧ c_law_form [wD (kd, v, l, c)] fun e => addW (D.str (Tx (joined false (List.take k ts)) ++ Tx [32])) e fun d => A [some (Sl.sh (D.lst (List.map wD ts))), some (Sl.sh d), x] := fun h x => by
      refine ⟨by rw [Tx_len, Tx_len]; simp only [List.length_singleton]; exact lsz (by omega), kd, v, _, rfl, by omega, ?_⟩
      walk_at "pu"
      rw [Tx_add, Tx_add, Tx_len, Tx_len, List.length_append, List.length_singleton]
      exact ⟨lsz (by omega), two h x⟩
    have fin1 : ¬ (nm (ts.take k) = true ∧ kd = "word" ∧ (∃ c, v.head? = some c ∧ c ∈ chL)) → ∀ x, c_law_form [wD (kd, v, l, c)] fun e => addW (D.str (Tx (joined false (List.take k ts)))) e fun d => A [some (Sl.sh (D.lst (List.map wD ts))), some (Sl.sh d), x] := fun h x => by
      refine ⟨kd, v, _, rfl, by omega, ?_⟩
      walk_at "pu"
      rw [Tx_add, Tx_len, Tx_len]
      exact ⟨lsz (by omega), one h x⟩
    cases k with
    | zero =>
      rw [if_neg (by omega)]
      exact fin1 (fun ⟨h, _⟩ => by cases h) _
    | succ k =>
      rw [if_pos (by omega), show ((k + 1 : Nat) : Int) - 1 = (k : Nat) by omega, atI_cast]
      obtain ⟨t0, ht0⟩ : ∃ t, ts[k]? = some t := ⟨ts[k], List.getElem?_eq_getElem (by omega)⟩
      obtain ⟨kd0, v0, l0, c0⟩ := t0
      have e0 : (ts.map wD)[k]? = some (wD (kd0, v0, l0, c0)) := by rw [List.getElem?_map, ht0]; rfl
      have hnm : nm (ts.take (k + 1)) = decide (kd0 = "name") := by rw [List.take_succ, ht0]; exact nm_app _ _
      rw [e0]
      walk_at "pu"
      split
      · rename_i h1
        split
        · rename_i h2
          refine ⟨sz_Tx (n := 1500000) (by omega) (by omega), ?_⟩
          rw [Tx_list]
          cases v with
          | nil => exact absurd rfl hne
          | cons a v =>
          show isSomeD _ _ (some a)
          rw [isSome_someD]
          refine ⟨rfl, a, rfl, ?_⟩
          rw [Tx_list]
          by_cases ha : a ∈ chL
          · rw [decide_eq_true ha]
            try (walk_at "pu")
            exact fin2 ⟨by rw [hnm, h1, decide_eq_true rfl], h2, a, rfl, ha⟩ _
          · rw [decide_eq_false ha]
            try (walk_at "pu")
            exact fin1 (fun ⟨_, _, b, e, hb⟩ => by cases e; exact ha hb) _
        · rename_i h2
          exact fin1 (fun ⟨_, h, _⟩ => h2 h) _
      · rename_i h1
        exact fin1 (fun ⟨h, _⟩ => by rw [hnm, decide_eq_true_eq] at h; exact h1 h) _
  · rintro ρ ⟨x, rfl⟩
    rw [List.take_length]
    exact p
theorem sm_wD (t : Wk) : sm 19 (wD t) := by
  refine ⟨by show 4 < _; decide, fun x hx => ?_⟩
  simp only [List.mem_cons, List.not_mem_nil, or_false] at hx
  rcases hx with rfl | rfl | rfl | rfl <;> exact trivial
theorem sm_ts {ts : List Wk} (h : ts.length ≤ 1200) : sm 20 (.lst (ts.map wD)) := by
  refine ⟨by rw [List.length_map]; omega, fun x hx => ?_⟩
  obtain ⟨t, _, rfl⟩ := List.mem_map.1 hx
  exact sm_wD t
theorem len_law_writes (ds : List D) (R : DK) (h : c_law_writes ds R) : ds.length = 2 := by
  obtain ⟨_, rfl, _⟩ := h; rfl
theorem pure_law_writes (ds : List D) (R : DK) (h : c_law_writes ds R) : q_law_writes (endOf R) (startE N_law_writes ds) := by
  obtain ⟨ts, rfl, ok, p⟩ := h
  rw [st_law_writes]
  unfold q_law_writes
  walk_at "pu"
  refine ⟨ts, rfl, ok, ?_⟩
  walk_at "pu"
  refine ⟨_, _, rfl, trivial, trivial, fun r hr => ?_⟩
  have e : r = true := hr.2 rfl
  subst e
  walk_at "pu"
  refine ⟨_, _, rfl, sm_ts ok.len, sm_ts ok.len, fun r hr => ?_⟩
  have e : r = true := hr.2 (same_refl (sm_ts ok.len))
  subst e
  exact p
def one1 (cs : List Nat) : List (List Nat) := cs.map fun c => [c]
theorem one1_len (cs : List Nat) : (one1 cs).length = cs.length := List.length_map ..
theorem one1_flat : ∀ cs : List Nat, (one1 cs).flatten = cs
  | [] => rfl
  | c :: cs => by
    have := one1_flat cs
    unfold one1 at this ⊢
    rw [List.map_cons, List.flatten_cons, this]; rfl
theorem lens_T2 (l : List (List Nat)) : l.map ((fun x : Str => x.length) ∘ Tx) = l.map List.length := List.map_congr_left fun v _ => Tx_len v
theorem one1_sum : ∀ cs : List Nat, ((one1 cs).map List.length).sum = cs.length
  | [] => rfl
  | c :: cs => by
    have := one1_sum cs
    unfold one1 at this ⊢
    rw [List.map_cons, List.map_cons, List.sum_cons, this, List.length_singleton, List.length_cons]; omega
theorem singles {z : List Nat} : ∀ {acc : List D}, (∀ y, y ∈ acc → ∃ c, c ∈ z ∧ y = sT [c]) → ∃ cs : List Nat, (∀ c, c ∈ cs → c ∈ z) ∧ acc = (one1 cs).map sT
  | [], _ => ⟨[], by simp, rfl⟩
  | y :: acc, h => by
    obtain ⟨c, hc, e⟩ := h y (List.mem_cons_self ..)
    obtain ⟨cs, h1, h2⟩ := singles (acc := acc) fun y hy => h y (List.mem_cons_of_mem _ hy)
    refine ⟨c :: cs, fun d hd => ?_, by rw [e, h2]; rfl⟩
    rcases List.mem_cons.1 hd with rfl | hd
    · exact hc
    · exact h1 d hd
theorem flat1 : ∀ cs : List Nat, (cs.map fun c => [c]).flatten = cs
  | [] => rfl
  | c :: cs => by rw [List.map_cons, List.flatten_cons, flat1 cs]; rfl
theorem rangeD_len (i : Int) (n : Nat) : (rangeD i n).length = n := by simp [rangeD]
theorem len_law_run (ds : List D) (R : DK) (h : c_law_run ds R) : ds.length = 3 := by
  obtain ⟨_, _, rfl, _⟩ := h; rfl
theorem pure_law_run (ds : List D) (R : DK) (h : c_law_run ds R) : q_law_run (endOf R) (startE N_law_run ds) := by
  obtain ⟨z, n, rfl, hz, hzl, n0, n1, p⟩ := h
  rw [st_law_run]
  unfold q_law_run
  walk_at "pu"
  refine fewS (by omega) (by omega) (by omega) (by omega) fun f hf => ?_
  walk_at "pu"
  refine ⟨by omega, by omega, ?_⟩
  refine compI_all (fun y => ∃ c, c ∈ z ∧ y = sT [c]) (by rw [rangeD_len]; exact lsz (by omega)) (fun d hd Q hQ => ?_) fun acc hacc hS => ?_
  · walk_at "pu"
    exact pickT hz (by omega) fun c hc => hQ _ ⟨c, hc, rfl⟩
  · obtain ⟨cs, hcs, rfl⟩ := singles hS
    rw [rangeD_len, List.length_map, one1_len] at hacc
    have hne : cs ≠ [] := fun q => by rw [q] at hacc; simp at hacc; omega
    walk_at "pu"
    rw [lens_T2, one1_sum, join_Tx, one1_flat]
    refine ⟨by rw [Tx_len]; simp only [List.length_nil, Nat.mul_zero]; omega, ?_⟩
    refine rareS (by omega) (by omega) fun b => ?_
    cases b with
    | false =>
      walk_at "pu"
      exact p cs hne (by omega) hcs
    | true =>
      walk_at "pu"
      rw [Tx_len]
      have hL : 1 ≤ cs.length ∧ cs.length ≤ 40 := by omega
      generalize hX : max (0 : Int) (6600 - n) = X
      have hX2 : 0 ≤ X ∧ X ≤ 6600 := by omega
      have hq0 : 0 ≤ X / (cs.length : Int) := Int.ediv_nonneg (by omega) (by omega)
      have hq1 : X / (cs.length : Int) ≤ X := Int.ediv_le_self _ (by omega)
      refine ⟨lsz (by omega), ⟨by omega, log_lt (n := 64) (by omega) (by omega)⟩, ?_⟩
      refine drawS (by omega) (by omega) fun r r0 r1 => ?_
      walk_at "pu"
      have hm : (1 + r).toNat * cs.length ≤ 6700 := by
        have h1 : r * (cs.length : Int) ≤ X / (cs.length : Int) * (cs.length : Int) := Int.mul_le_mul_of_nonneg_right (by omega) (by omega)
        have h2 : X / (cs.length : Int) * (cs.length : Int) ≤ X := Int.ediv_mul_le _ (by omega)
        have h3 : (((1 + r).toNat * cs.length : Nat) : Int) = (1 + r) * (cs.length : Int) := by rw [Int.natCast_mul, Int.toNat_of_nonneg (by omega)]
        have h4 : (1 + r) * (cs.length : Int) = cs.length + r * (cs.length : Int) := by rw [Int.add_mul]; omega
        omega
      refine ⟨by omega, by omega, by rw [Tx_len, Nat.mul_comm]; exact lsz (by omega), ?_⟩
      rw [rep_Tx]
      refine p _ (fun q => ?_) (by rw [PyProof.Rows.lm_len_rep_flat]; omega) fun c hc => ?_
      · have := congrArg List.length q
        rw [PyProof.Rows.lm_len_rep_flat, List.length_nil] at this
        have h5 : 1 * 1 ≤ (1 + r).toNat * cs.length := Nat.mul_le_mul (by omega) hL.1
        omega
      · obtain ⟨l, h1, h2⟩ := List.mem_flatten.1 hc
        rw [(List.mem_replicate.1 h1).2] at h2
        exact hcs c h2
theorem len_law_token (ds : List D) (R : DK) (h : c_law_token ds R) : ds.length = 3 := by
  obtain ⟨_, _, rfl, _⟩ := h; rfl
theorem pure_law_token (ds : List D) (R : DK) (h : c_law_token ds R) : q_law_token (endOf R) (startE N_law_token ds) := by
  obtain ⟨k, n, rfl, n0, n1, p⟩ := h
  rw [st_law_token]
  unfold q_law_token
  walk_at "pu"
  refine drawS (by omega) (by omega) fun w w0 w1 => ?_
  walk_at "pu"
  have key : ∀ {A B C : Prop}, C → (¬ k = "word" → A) → (inV (V.str k) [V.str "blank", V.str "par"] = false → B) → (if w < 4 then if ¬ k = "word" then A else if w < 7 then if inV (V.str k) [V.str "blank", V.str "par"] = false then B else C else C else if w < 7 then if inV (V.str k) [V.str "blank", V.str "par"] = false then B else C else C) := fun hC hA hB => by
    have hb : ∀ {B C : Prop}, C → (inV (V.str k) [V.str "blank", V.str "par"] = false → B) → (if w < 7 then if inV (V.str k) [V.str "blank", V.str "par"] = false then B else C else C) := fun hC hB => by
      split
      · split
        · exact hB (by assumption)
        · exact hC
      · exact hC
    split
    · split
      · exact hA (by assumption)
      · exact hb hC hB
    · exact hb hC hB
  refine key ?_ (fun hk => ?_) (fun hk => ?_)
  · split
    · refine ⟨rfl, chL, n, rfl, by decide, by decide, n0, n1, fun r h1 h2 h3 => ?_⟩
      walk_at "pu"
      rw [Tx_add]
      refine ⟨by rw [Tx_len, Tx_len]; simp only [List.length_singleton]; exact lsz (by omega), ?_⟩
      exact p _ (.name h1 h3) (by simp only [List.length_cons]; omega)
    · split
      · rw [lit_19]
        refine pickT (by decide) (by decide) fun c hc => ?_
        walk_at "pu"
        rw [Tx_add]
        exact ⟨by rw [Tx_len, Tx_len]; exact lsz (by simp), p _ (.param (by rw [lit_19, Tx_list]; exact hc)) (by simp)⟩
      · refine pickD (by simp) (by simp) fun x hx => ?_
        simp only [List.mem_cons, List.not_mem_nil, or_false] at hx
        rcases hx with rfl | rfl | rfl | rfl | rfl | rfl | rfl | rfl | rfl <;> walk_at "pu"
        · exact p ("open", [123], [123]) (.one (by simp)) (by simp)
        · exact p ("shut", [125], [125]) (.one (by simp)) (by simp)
        · exact p ("dollar", [36], [36]) (.one (by simp)) (by simp)
        · exact p ("tie", [126], [126]) (.one (by simp)) (by simp)
        · exact p ("amp", [38], [38]) (.one (by simp)) (by simp)
        · exact p ("up", [94], [94]) (.one (by simp)) (by simp)
        · exact p ("down", [95], [95]) (.one (by simp)) (by simp)
        · exact p _ .hyph (by simp)
        · exact p _ .cut (by simp)
  · refine ⟨rfl, rfl, ?_⟩
    walk_at "pu"
    rw [Tx_add, Tx_len, Tx_len]
    refine ⟨lsz (by decide), chW, n, rfl, by decide, by decide, n0, n1, fun r h1 h2 h3 => ?_⟩
    walk_at "pu"
    split
    · rename_i hn
      refine ⟨rfl, pickT (by decide) (by decide) fun c hc => ?_⟩
      walk_at "pu"
      rw [Tx_add]
      refine ⟨by rw [Tx_len, Tx_len]; simp only [List.length_singleton]; exact lsz (by omega), ?_⟩
      exact p _ (.word (by simp) (fun d hd => by
        rcases List.mem_append.1 hd with hd | hd
        · rw [List.mem_singleton.1 hd]; exact List.mem_append_right _ hc
        · exact h3 d hd) hk fun _ => ⟨c, rfl, hc⟩) (by simp only [List.length_append, List.length_singleton]; omega)
    · rename_i hn
      exact p _ (.word h1 h3 hk fun h => absurd h hn) (by simp only; omega)
  · have hk2 : ¬ (k = "blank" ∨ k = "par") := fun q => by
      rw [inV2.2 q] at hk
      cases hk
    rw [lit_spnl]
    refine ⟨[32, 10], n, rfl, by decide, by decide, n0, n1, fun r h1 h2 h3 => ?_⟩
    walk_at "pu"
    rw [count_Tx, lit_2nl]
    split
    · rename_i hn
      exact p _ (.par h1 h3 (fun q => hk2 (.inl q)) (fun q => hk2 (.inr q)) (by omega)) (by simp only; omega)
    · rename_i hn
      exact p _ (.blank h1 h3 (fun q => hk2 (.inl q)) (fun q => hk2 (.inr q)) (by omega)) (by simp only; omega)
local macro_rules | `(tactic| walk_at "pu") => `(tactic| simp only [↓r_qSeq, ↓r_qNext, ↓r_qBreak, ↓r_qCont, ↓r_qRet, ↓r_qRetN, ↓r_qSet, ↓r_qSetN, ↓r_qAsg, ↓r_qAug, ↓r_qApp, ↓r_qFrz, ↓r_qIf, ↓r_qDrop, ↓r_qSetIx, ↓r_qFor, ↓r_qWhile, ↓r_tst, ↓r_pOp, ↓r_pUn, ↓r_pC, ↓r_pVar, ↓r_pVarR, ↓r_pCall, ↓r_pCallD, ↓r_pCons, ↓r_pNil, ↓r_pAndT, ↓r_pOrT, ↓r_pNotT, ↓r_pTru, ↓r_pAnd, ↓r_pOr, ↓r_pNot, ↓r_pIf, ↓r_pIsN, ↓r_pChain, ↓r_pTup, ↓r_pLst, ↓r_pIsi, ↓r_pSeq, ↓r_pRange1, ↓r_pRange2, ↓r_pComp, ↓r_pYes, ↓r_gN, ↓r_listW, ↓r_tupleW, ↓ltW_int, ↓leW_int, ↓gtW_int, ↓geW_int, ↓subW_int, ↓fdivW_int, ↓modW_int, ↓powW_int, ↓atSh_shD, ↓atAny_shD, ↓atAny_owD, ↓atOwT_owD, ↓atOwL_owD, ↓atOwF_owD, ↓isBl_bl, ↓isInt_int, ↓isSome_someD, ↓isSome_noneD, ↓isIns_ins, ↓on1_1, ↓on2_2, ↓addW_int, ↓addW_ib, ↓addW_str, ↓addW_lst, ↓iaddW_int, ↓iaddW_str, ↓mulW_int, ↓mulW_lst, ↓eqW_int, ↓eqW_str, ↓eqW_bl, ↓eqW_nn, ↓eqW_ni, ↓eqW_in, ↓eqW_is, ↓eqW_si, ↓eqW_tt, ↓eqW_ll, ↓neW_int, ↓neW_str, ↓neW_bl, ↓neW_nn, ↓neW_ni, ↓neW_in, ↓neW_is, ↓neW_si, ↓neW_tt, ↓neW_ll, ↓negW_int, ↓absW_int, ↓intfW_int, ↓intfW_bl, ↓lenW_str, ↓lenW_lst, ↓lenW_klst, ↓lenW_tup, ↓max2W_mx, ↓min2W_mn, itemW_lstD, itemW_klstD, itemW_tupD, itemW_strD, asList_lst, asList_klst, asList_tup, tyN_non, tyN_bl, tyN_int, tyN_str, tyN_tup, tyN_lst, tyN_dK, tyN_dT, ↓truW_non, ↓truW_bl, ↓truW_int, ↓truW_str, ↓truW_lst, ↓truW_klst, ↓truW_tup, isNon_non, isNon_bl, isNon_int, isNon_str, isNon_tup, isNon_lst, isNon_klst, isNon_ins, isNon_dK, ↓gT_tup, ↓gConsP_cons, ↓gNilP_nil, wipeE_nil, wipeE_cons, atI_0, atI_1, atI_2, atI_3, atI_4, atI_5, atI_6, atI_7, atI_8, atI_9, ixN_0, ixN_1, ixN_2, ixN_3, ixN_4, List.getElem?_cons_zero, List.getElem?_cons_succ, List.getElem?_nil, List.set_cons_zero, List.set_cons_succ, List.length_cons, List.length_nil, List.length_map, Nat.reduceAdd, Int.reduceAdd, Nat.reduceLT, Nat.lt_irrefl, List.append_nil, List.nil_append, decide_eq_true_eq, decide_eq_false_iff_not, Bool.not_eq_true', Bool.not_true, Bool.not_false, ite_true, ite_false, if_true, if_false, Bool.false_eq_true, Bool.true_eq_false, ↓reduceIte, and_true, true_and, subT, String.reduceEq, decide_true, decide_false, Bool.or_false, Bool.false_or, Bool.or_true, Bool.true_or, Bool.and_true, Bool.and_false, Bool.true_and, Bool.false_and, Bool.or_self, Bool.and_self, ↓notTW_bl, ↓notTW_non, ↓notTW_int, ↓notTW_str, ↓notTW_tup, ↓notTW_lst, ↓notTW_klst, ↓isTW_bl, ↓isTW_non, ↓isTW_int, ↓isTW_str, ↓isTW_tup, ↓isTW_lst, ↓isTW_klst, ↓addW_tup, ↓inW_tup, ↓inW_lst, ↓inW_klst, ↓intLW_lst, ↓intLW_klst, ↓blLW_lst, ↓sliceW_lst, ↓sliceW_klst, ↓sliceW_tup, ↓sliceW_str, ↓sliceF_lst, ↓sliceF_klst, ↓catF_lst, ↓atIo_ow, asL_lst, asL_klst, ↓r_pUnD, ↓r_pSlice, ↓r_pNoPart, ↓r_pPart, ↓r_pEnum, ↓r_pZip, ↓r_pStr, ↓r_qExt, ↓r_qSetPop, ↓r_popW, ↓r_qPop, ↓r_qRev, ↓r_qClr, ↓r_qIns, ↓r_qFld, ↓r_pFld, ↓r_pMeth, ↓r_pMake, intsOf_map, blsOf_map, ↓r_sumG, List.map_map, Bool.not_not, ↓enumW_lst, ↓enumW_klst, ↓strW_str, ↓extW_lst, toV_str, toV_int, toV_bl, toV_non, flat_str, flat_int, flat_bl, flat_non, ne_ff, ne_tt, List.all_cons, List.all_nil, List.map_cons, List.map_nil, lz0, lz1, lz2, lz3, lz4, lz5, lz6, lz7, lz8, lz9, lz10, lz11, lz12, lz13, lz14, lz15, lz16, lw0, lw1, lw2, lw3, lw4, lw5, lw6, lw7, lw8, lw9, lw10, lw11, lw12, lw13, lw14, lw15, lw16, List.cons_append, Int.reduceToNat, Int.reducePow, Int.reduceLE, Int.reduceLT, Int.reduceNeg, Int.reduceSub, Int.reduceMul, Nat.reducePow, Nat.reduceLeDiff, Nat.reduceSub, Nat.reduceMul, atI_cast, ixN_cast, Int.zero_add, List.length_set, List.length_reverse, cutT_0, cutT_1, cutT_2, cutT_3, cutT_4, cutT_5, cutT_6, cutT_7, cutT_8, cutT_9, cutT_10, cutT_11, cutT_12, cutF_0, cutF_1, cutF_2, cutF_3, cutF_4, cutF_5, cutF_6, cutF_7, cutF_8, cutF_9, cutF_10, cutF_11, cutF_12, cutT_n, cutF_n, cut_nn, cutT_m1, List.take_succ_cons, List.take_zero, List.drop_succ_cons, List.drop_zero, Int.toNat_natCast, beq_tt, beq_ff, ↓r_pEnu, ↓r_pEnuK, ↓r_qRetF, ↓r_qRetO, ↓r_qForO, ↓r_pCallB, ↓r_pCallBN, hard_non, hard_bl, hard_int, hard_str, hard_tup, hards_nil, hards_cons, hardIn_lst, enumI_nil, enumI_cons, eq_self, ↓r_qAsg2, ↓r_qAsg3, ↓r_pChain3, intsOf_nil, intsOf_cons, blsOf_nil, blsOf_cons, ↓maxG_cons, ↓minG_cons, Option.map_some, Option.map_none, List.foldl_cons, List.foldl_nil, Int.cast_ofNat_Int, Int.reduceEq, Int.reduceNe, not_true_eq_false, not_false_eq_true, ↓r_pBM, ↓r_pBM0, ↓r_pGetK, ↓isStr_str, tyD_str, tyD_lst, tyD_klst, ↓s1W_str, ↓s0W_str, ↓joinW_str, joinD_eq, strsOf_map, strsOf_nil, strsOf_cons, ↓lcountW_lst, ↓lcountW_klst, ↓ltX_int, ↓leX_int, ↓gtX_int, ↓geX_int, ↓ltX_str, ↓ltX_tup, ↓leX_tup, ↓gtX_tup, ↓geX_tup, ↓inW_ch, ↓r_qUp, ↓r_qAppN, ↓r_qAppK, ↓r_pKid, ↓r_qSetL1, ↓r_qTupPop, ↓r_kidAt, ↓r_popK, ↓atO2_o2, ↓atKid_l, ↓strfW_int, ↓lindexW_lst, ↓lindexW_klst, ↓r_pStarA, ↓r_pLend, ↓r_tLend, ↓r_qAlias, ↓r_qSetC2, ↓ofLst_lst, ↓tupLW_lst, ↓tupsOf_map, ↓on3_3, ↓max3W_mx, ↓min3W_mx, atI_m1, List.getLast?_singleton, List.getLast?_cons_cons, ↓lenW_ktup, itemW_ktupD, asList_ktup, isNon_ktup, isK_tup, isK_lst, isK_klst, ↓gT_ktup, ↓isTW_ktup, ↓notTW_ktup, ↓inW_ktup, hard_ktup, tyN_ktup, ↓truW_ktup, ↓r_qDPut, ↓r_pDNewK, ↓r_pDNewT, ↓atOwA_ow, ↓dItemW_k, ↓dItemW_t, ↓dLookW_k, ↓dLookW_t, ↓dPutW_k, ↓dPutW_t, keyD_int, keyD_str, keysD_nil, keysD_int, keysD_str, ↓r_pRange3, ↓r_pProp, ↓r_pIsiO, ↓r_pOwnAdd, ↓r_pOwnEq, isO_ins, isO_non, isO_bl, isO_int, isO_str, isO_tup, isO_ktup, isO_lst, isO_dK, ↓r_qSetX, ↓r_qRetX, ↓r_qDropX, ↓r_qRaise, ↓r_qTryAs, ↓r_pXf, ↓r_pIsX, ↓r_qSetNn, ↓r_qRetNn, nonOr_non, nonOr_lst, onNon_non, excOr_exc, excOr_bl, excOr_int, excOr_str, excOr_non, excOr_lst, excOr_tup, isExo_exo, ↓r_pInK, ↓r_pAtK, ↓r_pRevL, ↓s3W_str, ↓revLW_lst, ↓revLW_klst, ↓mulSW_str, ↓r_nxOf, ↓r_rtOf, ↓r_nxIo, ↓r_rtIo, ↓r_nxNw, ↓r_rtNw, ↓r_rnNw, ↓r_rnOf, ↓atRf_rf, ↓r_lentNx, ↓r_lentRt, ↓r_nxX, ↓r_rtX, ↓r_xrX, ↓r_nxNn, ↓r_rtNn, ↓r_rnNn, ↓r_nxT, ↓r_rtT, ↓r_nxS, ↓r_rtS, ch_Tx, Tx1, lit_hyph, lit_back, lit_hash, lit_sp, lit_nl, wD_mk, sT_eq, strsOf_sT, mD_mk])
local macro_rules | `(tactic| walk_at "pul") => `(tactic| simp only [↓forW_nil, ↓forW_cons, ↓compW_nil, ↓compW_cons, List.cons_append, ↓r_qSeq, ↓r_qNext, ↓r_qBreak, ↓r_qCont, ↓r_qRet, ↓r_qRetN, ↓r_qSet, ↓r_qSetN, ↓r_qAsg, ↓r_qAug, ↓r_qApp, ↓r_qFrz, ↓r_qIf, ↓r_qDrop, ↓r_qSetIx, ↓r_qFor, ↓r_qWhile, ↓r_tst, ↓r_pOp, ↓r_pUn, ↓r_pC, ↓r_pVar, ↓r_pVarR, ↓r_pCall, ↓r_pCallD, ↓r_pCons, ↓r_pNil, ↓r_pAndT, ↓r_pOrT, ↓r_pNotT, ↓r_pTru, ↓r_pAnd, ↓r_pOr, ↓r_pNot, ↓r_pIf, ↓r_pIsN, ↓r_pChain, ↓r_pTup, ↓r_pLst, ↓r_pIsi, ↓r_pSeq, ↓r_pRange1, ↓r_pRange2, ↓r_pComp, ↓r_pYes, ↓r_gN, ↓r_listW, ↓r_tupleW, ↓ltW_int, ↓leW_int, ↓gtW_int, ↓geW_int, ↓subW_int, ↓fdivW_int, ↓modW_int, ↓powW_int, ↓atSh_shD, ↓atAny_shD, ↓atAny_owD, ↓atOwT_owD, ↓atOwL_owD, ↓atOwF_owD, ↓isBl_bl, ↓isInt_int, ↓isSome_someD, ↓isSome_noneD, ↓isIns_ins, ↓on1_1, ↓on2_2, ↓addW_int, ↓addW_ib, ↓addW_str, ↓addW_lst, ↓iaddW_int, ↓iaddW_str, ↓mulW_int, ↓mulW_lst, ↓eqW_int, ↓eqW_str, ↓eqW_bl, ↓eqW_nn, ↓eqW_ni, ↓eqW_in, ↓eqW_is, ↓eqW_si, ↓eqW_tt, ↓eqW_ll, ↓neW_int, ↓neW_str, ↓neW_bl, ↓neW_nn, ↓neW_ni, ↓neW_in, ↓neW_is, ↓neW_si, ↓neW_tt, ↓neW_ll, ↓negW_int, ↓absW_int, ↓intfW_int, ↓intfW_bl, ↓lenW_str, ↓lenW_lst, ↓lenW_klst, ↓lenW_tup, ↓max2W_mx, ↓min2W_mn, itemW_lstD, itemW_klstD, itemW_tupD, itemW_strD, asList_lst, asList_klst, asList_tup, tyN_non, tyN_bl, tyN_int, tyN_str, tyN_tup, tyN_lst, tyN_dK, tyN_dT, ↓truW_non, ↓truW_bl, ↓truW_int, ↓truW_str, ↓truW_lst, ↓truW_klst, ↓truW_tup, isNon_non, isNon_bl, isNon_int, isNon_str, isNon_tup, isNon_lst, isNon_klst, isNon_ins, isNon_dK, ↓gT_tup, ↓gConsP_cons, ↓gNilP_nil, wipeE_nil, wipeE_cons, atI_0, atI_1, atI_2, atI_3, atI_4, atI_5, atI_6, atI_7, atI_8, atI_9, ixN_0, ixN_1, ixN_2, ixN_3, ixN_4, List.getElem?_cons_zero, List.getElem?_cons_succ, List.getElem?_nil, List.set_cons_zero, List.set_cons_succ, List.length_cons, List.length_nil, List.length_map, Nat.reduceAdd, Int.reduceAdd, Nat.reduceLT, Nat.lt_irrefl, List.append_nil, List.nil_append, decide_eq_true_eq, decide_eq_false_iff_not, Bool.not_eq_true', Bool.not_true, Bool.not_false, ite_true, ite_false, if_true, if_false, Bool.false_eq_true, Bool.true_eq_false, ↓reduceIte, and_true, true_and, subT, String.reduceEq, decide_true, decide_false, Bool.or_false, Bool.false_or, Bool.or_true, Bool.true_or, Bool.and_true, Bool.and_false, Bool.true_and, Bool.false_and, Bool.or_self, Bool.and_self, ↓notTW_bl, ↓notTW_non, ↓notTW_int, ↓notTW_str, ↓notTW_tup, ↓notTW_lst, ↓notTW_klst, ↓isTW_bl, ↓isTW_non, ↓isTW_int, ↓isTW_str, ↓isTW_tup, ↓isTW_lst, ↓isTW_klst, ↓addW_tup, ↓inW_tup, ↓inW_lst, ↓inW_klst, ↓intLW_lst, ↓intLW_klst, ↓blLW_lst, ↓sliceW_lst, ↓sliceW_klst, ↓sliceW_tup, ↓sliceW_str, ↓sliceF_lst, ↓sliceF_klst, ↓catF_lst, ↓atIo_ow, asL_lst, asL_klst, ↓r_pUnD, ↓r_pSlice, ↓r_pNoPart, ↓r_pPart, ↓r_pEnum, ↓r_pZip, ↓r_pStr, ↓r_qExt, ↓r_qSetPop, ↓r_popW, ↓r_qPop, ↓r_qRev, ↓r_qClr, ↓r_qIns, ↓r_qFld, ↓r_pFld, ↓r_pMeth, ↓r_pMake, intsOf_map, blsOf_map, ↓r_sumG, List.map_map, Bool.not_not, ↓enumW_lst, ↓enumW_klst, ↓strW_str, ↓extW_lst, toV_str, toV_int, toV_bl, toV_non, flat_str, flat_int, flat_bl, flat_non, ne_ff, ne_tt, List.all_cons, List.all_nil, List.map_cons, List.map_nil, lz0, lz1, lz2, lz3, lz4, lz5, lz6, lz7, lz8, lz9, lz10, lz11, lz12, lz13, lz14, lz15, lz16, lw0, lw1, lw2, lw3, lw4, lw5, lw6, lw7, lw8, lw9, lw10, lw11, lw12, lw13, lw14, lw15, lw16, List.cons_append, Int.reduceToNat, Int.reducePow, Int.reduceLE, Int.reduceLT, Int.reduceNeg, Int.reduceSub, Int.reduceMul, Nat.reducePow, Nat.reduceLeDiff, Nat.reduceSub, Nat.reduceMul, atI_cast, ixN_cast, Int.zero_add, List.length_set, List.length_reverse, cutT_0, cutT_1, cutT_2, cutT_3, cutT_4, cutT_5, cutT_6, cutT_7, cutT_8, cutT_9, cutT_10, cutT_11, cutT_12, cutF_0, cutF_1, cutF_2, cutF_3, cutF_4, cutF_5, cutF_6, cutF_7, cutF_8, cutF_9, cutF_10, cutF_11, cutF_12, cutT_n, cutF_n, cut_nn, cutT_m1, List.take_succ_cons, List.take_zero, List.drop_succ_cons, List.drop_zero, Int.toNat_natCast, beq_tt, beq_ff, ↓r_pEnu, ↓r_pEnuK, ↓r_qRetF, ↓r_qRetO, ↓r_qForO, ↓r_pCallB, ↓r_pCallBN, hard_non, hard_bl, hard_int, hard_str, hard_tup, hards_nil, hards_cons, hardIn_lst, enumI_nil, enumI_cons, eq_self, ↓r_qAsg2, ↓r_qAsg3, ↓r_pChain3, intsOf_nil, intsOf_cons, blsOf_nil, blsOf_cons, ↓maxG_cons, ↓minG_cons, Option.map_some, Option.map_none, List.foldl_cons, List.foldl_nil, Int.cast_ofNat_Int, Int.reduceEq, Int.reduceNe, not_true_eq_false, not_false_eq_true, ↓r_pBM, ↓r_pBM0, ↓r_pGetK, ↓isStr_str, tyD_str, tyD_lst, tyD_klst, ↓s1W_str, ↓s0W_str, ↓joinW_str, joinD_eq, strsOf_map, strsOf_nil, strsOf_cons, ↓lcountW_lst, ↓lcountW_klst, ↓ltX_int, ↓leX_int, ↓gtX_int, ↓geX_int, ↓ltX_str, ↓ltX_tup, ↓leX_tup, ↓gtX_tup, ↓geX_tup, ↓inW_ch, ↓r_qUp, ↓r_qAppN, ↓r_qAppK, ↓r_pKid, ↓r_qSetL1, ↓r_qTupPop, ↓r_kidAt, ↓r_popK, ↓atO2_o2, ↓atKid_l, ↓strfW_int, ↓lindexW_lst, ↓lindexW_klst, ↓r_pStarA, ↓r_pLend, ↓r_tLend, ↓r_qAlias, ↓r_qSetC2, ↓ofLst_lst, ↓tupLW_lst, ↓tupsOf_map, ↓on3_3, ↓max3W_mx, ↓min3W_mx, atI_m1, List.getLast?_singleton, List.getLast?_cons_cons, ↓lenW_ktup, itemW_ktupD, asList_ktup, isNon_ktup, isK_tup, isK_lst, isK_klst, ↓gT_ktup, ↓isTW_ktup, ↓notTW_ktup, ↓inW_ktup, hard_ktup, tyN_ktup, ↓truW_ktup, ↓r_qDPut, ↓r_pDNewK, ↓r_pDNewT, ↓atOwA_ow, ↓dItemW_k, ↓dItemW_t, ↓dLookW_k, ↓dLookW_t, ↓dPutW_k, ↓dPutW_t, keyD_int, keyD_str, keysD_nil, keysD_int, keysD_str, ↓r_pRange3, ↓r_pProp, ↓r_pIsiO, ↓r_pOwnAdd, ↓r_pOwnEq, isO_ins, isO_non, isO_bl, isO_int, isO_str, isO_tup, isO_ktup, isO_lst, isO_dK, ↓r_qSetX, ↓r_qRetX, ↓r_qDropX, ↓r_qRaise, ↓r_qTryAs, ↓r_pXf, ↓r_pIsX, ↓r_qSetNn, ↓r_qRetNn, nonOr_non, nonOr_lst, onNon_non, excOr_exc, excOr_bl, excOr_int, excOr_str, excOr_non, excOr_lst, excOr_tup, isExo_exo, ↓r_pInK, ↓r_pAtK, ↓r_pRevL, ↓s3W_str, ↓revLW_lst, ↓revLW_klst, ↓mulSW_str, ↓r_nxOf, ↓r_rtOf, ↓r_nxIo, ↓r_rtIo, ↓r_nxNw, ↓r_rtNw, ↓r_rnNw, ↓r_rnOf, ↓atRf_rf, ↓r_lentNx, ↓r_lentRt, ↓r_nxX, ↓r_rtX, ↓r_xrX, ↓r_nxNn, ↓r_rtNn, ↓r_rnNn, ↓r_nxT, ↓r_rtT, ↓r_nxS, ↓r_rtS, ch_Tx, Tx1, lit_hyph, lit_back, lit_hash, lit_sp, lit_nl, wD_mk, sT_eq, strsOf_sT, mD_mk])
def Chain : Str → List Mk0 → Prop
  | _, [] => True
  | k0, t :: ts => Fit k0 t ∧ Chain t.1 ts
/-- the first sign of what may stand behind a token -/
theorem fit_off {k0 : Str} {t : Mk0} (h : Fit k0 t) (s : List Nat) : (k0 = "word" → Off chW (t.2.2 ++ s)) ∧ (k0 = "par" ∨ k0 = "blank" → Off chB (t.2.2 ++ s)) ∧ (k0 = "name" → Off chL (t.2.2 ++ s)) := by
  have wb : ∀ c, c ∈ chB → c ∉ chW ∧ c ∉ chL := by decide +kernel
  have bw : ∀ c, c ∈ chW → c ∉ chB := by decide +kernel
  have ml : ∀ c, c ∈ chM → c ∉ chL := by decide +kernel
  cases h with
  | @word t h1 h2 h3 h4 =>
    cases t with
    | nil => exact absurd rfl h1
    | cons c r =>
      refine ⟨fun q => absurd q h3, fun _ => bw c (h2 c (List.mem_cons_self ..)), fun q => ?_⟩
      obtain ⟨d, e, hd⟩ := h4 q
      cases e
      exact ml _ hd
  | @par t h1 h2 h3 h4 h5 =>
    cases t with
    | nil => exact absurd rfl h1
    | cons c r =>
      have := wb c (h2 c (List.mem_cons_self ..))
      exact ⟨fun _ => this.1, fun q => by rcases q with q | q; exact absurd q h4; exact absurd q h3, fun _ => this.2⟩
  | @blank t h1 h2 h3 h4 h5 =>
    cases t with
    | nil => exact absurd rfl h1
    | cons c r =>
      have := wb c (h2 c (List.mem_cons_self ..))
      exact ⟨fun _ => this.1, fun q => by rcases q with q | q; exact absurd q h4; exact absurd q h3, fun _ => this.2⟩
  | name h1 h2 => exact ⟨fun _ => (by decide +kernel : 92 ∉ chW), fun _ => (by decide +kernel : 92 ∉ chB), fun _ => (by decide +kernel : 92 ∉ chL)⟩
  | param h1 => exact ⟨fun _ => (by decide +kernel : 35 ∉ chW), fun _ => (by decide +kernel : 35 ∉ chB), fun _ => (by decide +kernel : 35 ∉ chL)⟩
  | @one k c h1 =>
    have hs : c ∈ chS := by simp [chS] at h1 ⊢; omega
    have : ∀ c, c ∈ chS → c ∉ chW ∧ c ∉ chB ∧ c ∉ chL := by decide +kernel
    exact ⟨fun _ => (this c hs).1, fun _ => (this c hs).2.1, fun _ => (this c hs).2.2⟩
  | hyph => exact ⟨fun _ => (by decide +kernel : 92 ∉ chW), fun _ => (by decide +kernel : 92 ∉ chB), fun _ => (by decide +kernel : 92 ∉ chL)⟩
  | cut => exact ⟨fun _ => (by decide +kernel : 92 ∉ chW), fun _ => (by decide +kernel : 92 ∉ chB), fun _ => (by decide +kernel : 92 ∉ chL)⟩
theorem chain_off {k0 : Str} {ts : List Mk0} (h : Chain k0 ts) : (k0 = "word" → Off chW (flat0 ts)) ∧ (k0 = "par" ∨ k0 = "blank" → Off chB (flat0 ts)) ∧ (k0 = "name" → Off chL (flat0 ts)) := by
  cases ts with
  | nil => exact ⟨fun _ => trivial, fun _ => trivial, fun _ => trivial⟩
  | cons t ts => exact fit_off h.1 _
theorem chain_good : ∀ {ts : List Mk0} {k0 : Str}, Chain k0 ts → Good ts
  | [], _, _ => trivial
  | t :: ts, k0, h => by
    refine ⟨?_, chain_good h.2⟩
    have ho := chain_off h.2
    obtain ⟨hf, hc⟩ := h
    cases hf with
    | word h1 h2 h3 h4 => exact .word h1 h2 (ho.1 rfl)
    | par h1 h2 h3 h4 h5 => exact .par h1 h2 (ho.2.1 (.inl rfl)) h5
    | blank h1 h2 h3 h4 h5 => exact .blank h1 h2 (ho.2.1 (.inr rfl)) h5
    | name h1 h2 => exact .name h1 h2 (ho.2.2 rfl)
    | param h1 => exact .param h1
    | one h1 => exact .one h1
    | hyph => exact .hyph
    | cut => exact .cut
def lastK (k0 : Str) (ts : List Mk0) : Str := match ts.getLast? with | some t => t.1 | none => k0
theorem lastK_snoc (k0 : Str) (ts : List Mk0) (t : Mk0) : lastK k0 (ts ++ [t]) = t.1 := by unfold lastK; rw [List.getLast?_append]; rfl
theorem lastK_cons (k0 : Str) (t : Mk0) (ts : List Mk0) : lastK k0 (t :: ts) = lastK t.1 ts := by
  cases ts with
  | nil => rfl
  | cons u ts =>
    unfold lastK
    rw [List.getLast?_cons_cons]
    cases e : (u :: ts).getLast? with
    | none => simp at e
    | some x => rfl
theorem chain_app : ∀ {ts us : List Mk0} {k0 : Str}, Chain k0 ts → Chain (lastK k0 ts) us → Chain k0 (ts ++ us)
  | [], us, k0, _, h => h
  | t :: ts, us, k0, h1, h2 => ⟨h1.1, chain_app h1.2 (by rw [← lastK_cons]; exact h2)⟩
theorem fit_tie {t : Mk0} (h : Fit "" t) : Fit "tie" t := by
  cases h with
  | word h1 h2 h3 h4 => exact .word h1 h2 (by decide +kernel) (fun q => absurd q (by decide +kernel))
  | par h1 h2 h3 h4 h5 => exact .par h1 h2 (by decide +kernel) (by decide +kernel) h5
  | blank h1 h2 h3 h4 h5 => exact .blank h1 h2 (by decide +kernel) (by decide +kernel) h5
  | name h1 h2 => exact .name h1 h2
  | param h1 => exact .param h1
  | one h1 => exact .one h1
  | hyph => exact .hyph
  | cut => exact .cut
theorem chain_tie {ts : List Mk0} (h : Chain "" ts) : Chain "tie" ts := by
  cases ts with
  | nil => trivial
  | cons t ts => exact ⟨fit_tie h.1, h.2⟩
def tie : Mk0 := ("tie", [126], [126])
theorem chain_rep {ts : List Mk0} (h : Chain "" ts) : ∀ n : Nat, Chain "tie" (List.replicate n (ts ++ [tie])).flatten
  | 0 => trivial
  | n + 1 => by
    rw [List.replicate_succ, List.flatten_cons]
    refine chain_app (chain_app (chain_tie h) ⟨.one (by simp), trivial⟩) ?_
    rw [lastK_snoc]
    exact chain_rep h n
theorem flat0_app : ∀ ts us : List Mk0, flat0 (ts ++ us) = flat0 ts ++ flat0 us
  | [], _ => rfl
  | t :: ts, us => by rw [List.cons_append, flat0, flat0_app, flat0, List.append_assoc]
theorem flat0_rep (ts : List Mk0) : ∀ n : Nat, (flat0 (List.replicate n ts).flatten).length = n * (flat0 ts).length
  | 0 => by simp [flat0]
  | n + 1 => by rw [List.replicate_succ, List.flatten_cons, flat0_app, List.length_append, flat0_rep, Nat.succ_mul]; omega
theorem len_law_tokens (ds : List D) (R : DK) (h : c_law_tokens ds R) : ds.length = 1 := by
  obtain ⟨rfl, _⟩ := h; rfl
theorem pure_law_tokens (ds : List D) (R : DK) (h : c_law_tokens ds R) : q_law_tokens (endOf R) (startE N_law_tokens ds) := by
  obtain ⟨rfl, p⟩ := h
  rw [st_law_tokens]
  unfold q_law_tokens
  walk_at "pu"
  refine fewS (by omega) (by omega) (by omega) (by omega) fun n hn => ?_
  walk_at "pu"
  refine ⟨by omega, by omega, ?_⟩
  refine forI_range (fun k ρ => ∃ (f : List Mk0) (x : Option Sl), ρ = [some (.sh .pool), some (.ow true (.lst (f.map mD))), some (.sh (.int (flat0 f).length)), some (.sh (.str (lastK "" f))), x] ∧ Chain "" f ∧ f.length = k ∧ (flat0 f).length ≤ 7100 * k) ⟨[], _, rfl, trivial, rfl, by simp [flat0]⟩ ?_ ?_
  · rintro k ρ hk ⟨f, x, rfl, hc, hl, hs⟩ A hA
    unfold b_law_tokens_1
    walk_at "pu"
    refine ⟨_, _, rfl, by omega, by omega, fun t ht htl => ?_⟩
    obtain ⟨kd, v, tx⟩ := t
    simp only at htl
    walk_at "pu"
    refine ⟨lszl (by omega), ?_⟩
    rw [List.getLast?_concat, List.getLast?_concat]
    walk_at "pu"
    refine ⟨sz_Tx htl (by omega), hA _ ⟨f ++ [(kd, v, tx)], some (.sh (.int k)), ?_, chain_app hc ⟨ht, trivial⟩, by simp [hl], ?_⟩⟩
    · rw [lastK_snoc, flat0_app, List.length_append, Tx_len]
      simp [flat0, mD]
    · rw [flat0_app, List.length_append]
      simp only [flat0, List.append_nil]
      omega
  · rintro ρ ⟨f, x, rfl, hc, hl, hs⟩
    walk_at "pu"
    refine rareS (by omega) (by omega) fun b => ?_
    have hge := flat_ge (chain_good hc)
    cases b with
    | false =>
      walk_at "pu"
      exact p f (chain_good hc) (by omega) (by omega)
    | true =>
      walk_at "pu"
      split
      · rename_i h100
        refine ⟨lsz (by omega), ⟨by omega, log_lt (n := 64) (by omega) (by omega)⟩, ?_⟩
        have hq0 : 1 ≤ 900 / (((flat0 f).length : Int) + 2) := by
          rw [Int.le_ediv_iff_mul_le (by omega)]
          omega
        have hq1 : 900 / (((flat0 f).length : Int) + 2) ≤ 900 := Int.ediv_le_self _ (by omega)
        have hq2 : 900 / (((flat0 f).length : Int) + 2) * (((flat0 f).length : Int) + 2) ≤ 900 := Int.ediv_mul_le _ (by omega)
        generalize hQ : 900 / (((flat0 f).length : Int) + 2) = Q at hq0 hq1 hq2 ⊢
        refine drawS (by omega) (by omega) fun r r0 r1 => ?_
        walk_at "pu"
        have ha : (1 + r).toNat * ((flat0 f).length + 2) ≤ 900 := by
          have h1 : (((1 + r).toNat * ((flat0 f).length + 2) : Nat) : Int) = (1 + r) * (((flat0 f).length : Int) + 2) := by rw [Int.natCast_mul, Int.toNat_of_nonneg (by omega)]; rfl
          have h2 : (1 + r) * (((flat0 f).length : Int) + 2) ≤ Q * (((flat0 f).length : Int) + 2) := Int.mul_le_mul_of_nonneg_right (by omega) (by omega)
          omega
        generalize hm : (1 + r).toNat = m at ha
        have ha2 : m * (f.length + 1) ≤ m * ((flat0 f).length + 2) := Nat.mul_le_mul_left _ (by omega)
        have ha3 : m * ((flat0 f).length + 1) ≤ m * ((flat0 f).length + 2) := Nat.mul_le_mul_left _ (by omega)
        have e1 : (List.map mD f ++ [D.tup [D.str "tie", D.str "~", D.str "~"]]) = (f ++ [tie]).map mD := by
          rw [List.map_append]
          congr 1
        have e2 : (List.replicate m ((f ++ [tie]).map mD)).flatten = ((List.replicate m (f ++ [tie])).flatten).map mD := by
          rw [List.map_flatten, List.map_replicate]
        have key := p (List.replicate m (f ++ [tie])).flatten (chain_good (chain_rep hc m)) (by rw [PyProof.Rows.lm_len_rep_flat, List.length_append, List.length_singleton]; omega) (by rw [flat0_rep, flat0_app, List.length_append]; simp only [flat0, tie, List.append_nil, List.length_singleton]; omega)
        rw [← e2, ← e1] at key
        refine ⟨by omega, by omega, ?_, ?_⟩
        · rw [hm, List.length_append, List.length_map, List.length_singleton, Nat.mul_comm]
          exact lsz (by omega)
        · rw [hm]
          exact key
      · exact p f (chain_good hc) (by omega) (by omega)
theorem lit_D : ("0123456789" : Str) = Tx [48, 49, 50, 51, 52, 53, 54, 55, 56, 57] := by decide +kernel
theorem lit_Sp : ("\\{}$~#&^_" : Str) = Tx [92, 123, 125, 36, 126, 35, 38, 94, 95] := by decide +kernel
theorem lit_3 : (" \n\t" : Str) = Tx [32, 10, 9] := by decide +kernel
theorem lit_o1 : ("+-*/" : Str) = Tx [43, 45, 42, 47] := by decide +kernel
theorem lit_o2 : ("=<>" : Str) = Tx [61, 60, 62] := by decide +kernel
theorem lit_o3 : ("([" : Str) = Tx [40, 91] := by decide +kernel
theorem lit_o4 : (")]" : Str) = Tx [41, 93] := by decide +kernel
theorem lit_o5 : (",;" : Str) = Tx [44, 59] := by decide +kernel
theorem signs_Tx (l : List Nat) : signsD (Tx l) = l.map fun c => sT [c] := by unfold signsD; rw [Tx_list]; rfl
theorem sg_Tx {l : List Nat} : signsD (Tx l) = l.map fun c => sT [c] := signs_Tx l
theorem count1 (l : List Nat) (c : Nat) : Txt.count (Tx l) (Tx [c]) = (l.count c : Nat) := count_Tx l c
local macro_rules | `(tactic| walk_at "pu") => `(tactic| simp only [↓r_qSeq, ↓r_qNext, ↓r_qBreak, ↓r_qCont, ↓r_qRet, ↓r_qRetN, ↓r_qSet, ↓r_qSetN, ↓r_qAsg, ↓r_qAug, ↓r_qApp, ↓r_qFrz, ↓r_qIf, ↓r_qDrop, ↓r_qSetIx, ↓r_qFor, ↓r_qWhile, ↓r_tst, ↓r_pOp, ↓r_pUn, ↓r_pC, ↓r_pVar, ↓r_pVarR, ↓r_pCall, ↓r_pCallD, ↓r_pCons, ↓r_pNil, ↓r_pAndT, ↓r_pOrT, ↓r_pNotT, ↓r_pTru, ↓r_pAnd, ↓r_pOr, ↓r_pNot, ↓r_pIf, ↓r_pIsN, ↓r_pChain, ↓r_pTup, ↓r_pLst, ↓r_pIsi, ↓r_pSeq, ↓r_pRange1, ↓r_pRange2, ↓r_pComp, ↓r_pYes, ↓r_gN, ↓r_listW, ↓r_tupleW, ↓ltW_int, ↓leW_int, ↓gtW_int, ↓geW_int, ↓subW_int, ↓fdivW_int, ↓modW_int, ↓powW_int, ↓atSh_shD, ↓atAny_shD, ↓atAny_owD, ↓atOwT_owD, ↓atOwL_owD, ↓atOwF_owD, ↓isBl_bl, ↓isInt_int, ↓isSome_someD, ↓isSome_noneD, ↓isIns_ins, ↓on1_1, ↓on2_2, ↓addW_int, ↓addW_ib, ↓addW_str, ↓addW_lst, ↓iaddW_int, ↓iaddW_str, ↓mulW_int, ↓mulW_lst, ↓eqW_int, ↓eqW_str, ↓eqW_bl, ↓eqW_nn, ↓eqW_ni, ↓eqW_in, ↓eqW_is, ↓eqW_si, ↓eqW_tt, ↓eqW_ll, ↓neW_int, ↓neW_str, ↓neW_bl, ↓neW_nn, ↓neW_ni, ↓neW_in, ↓neW_is, ↓neW_si, ↓neW_tt, ↓neW_ll, ↓negW_int, ↓absW_int, ↓intfW_int, ↓intfW_bl, ↓lenW_str, ↓lenW_lst, ↓lenW_klst, ↓lenW_tup, ↓max2W_mx, ↓min2W_mn, itemW_lstD, itemW_klstD, itemW_tupD, itemW_strD, asList_lst, asList_klst, asList_tup, tyN_non, tyN_bl, tyN_int, tyN_str, tyN_tup, tyN_lst, tyN_dK, tyN_dT, ↓truW_non, ↓truW_bl, ↓truW_int, ↓truW_str, ↓truW_lst, ↓truW_klst, ↓truW_tup, isNon_non, isNon_bl, isNon_int, isNon_str, isNon_tup, isNon_lst, isNon_klst, isNon_ins, isNon_dK, ↓gT_tup, ↓gConsP_cons, ↓gNilP_nil, wipeE_nil, wipeE_cons, atI_0, atI_1, atI_2, atI_3, atI_4, atI_5, atI_6, atI_7, atI_8, atI_9, ixN_0, ixN_1, ixN_2, ixN_3, ixN_4, List.getElem?_cons_zero, List.getElem?_cons_succ, List.getElem?_nil, List.set_cons_zero, List.set_cons_succ, List.length_cons, List.length_nil, List.length_map, Nat.reduceAdd, Int.reduceAdd, Nat.reduceLT, Nat.lt_irrefl, List.append_nil, List.nil_append, decide_eq_true_eq, decide_eq_false_iff_not, Bool.not_eq_true', Bool.not_true, Bool.not_false, ite_true, ite_false, if_true, if_false, Bool.false_eq_true, Bool.true_eq_false, ↓reduceIte, and_true, true_and, subT, String.reduceEq, decide_true, decide_false, Bool.or_false, Bool.false_or, Bool.or_true, Bool.true_or, Bool.and_true, Bool.and_false, Bool.true_and, Bool.false_and, Bool.or_self, Bool.and_self, ↓notTW_bl, ↓notTW_non, ↓notTW_int, ↓notTW_str, ↓notTW_tup, ↓notTW_lst, ↓notTW_klst, ↓isTW_bl, ↓isTW_non, ↓isTW_int, ↓isTW_str, ↓isTW_tup, ↓isTW_lst, ↓isTW_klst, ↓addW_tup, ↓inW_tup, ↓inW_lst, ↓inW_klst, ↓intLW_lst, ↓intLW_klst, ↓blLW_lst, ↓sliceW_lst, ↓sliceW_klst, ↓sliceW_tup, ↓sliceW_str, ↓sliceF_lst, ↓sliceF_klst, ↓catF_lst, ↓atIo_ow, asL_lst, asL_klst, ↓r_pUnD, ↓r_pSlice, ↓r_pNoPart, ↓r_pPart, ↓r_pEnum, ↓r_pZip, ↓r_pStr, ↓r_qExt, ↓r_qSetPop, ↓r_popW, ↓r_qPop, ↓r_qRev, ↓r_qClr, ↓r_qIns, ↓r_qFld, ↓r_pFld, ↓r_pMeth, ↓r_pMake, intsOf_map, blsOf_map, ↓r_sumG, List.map_map, Bool.not_not, ↓enumW_lst, ↓enumW_klst, ↓strW_str, ↓extW_lst, toV_str, toV_int, toV_bl, toV_non, flat_str, flat_int, flat_bl, flat_non, ne_ff, ne_tt, List.all_cons, List.all_nil, List.map_cons, List.map_nil, lz0, lz1, lz2, lz3, lz4, lz5, lz6, lz7, lz8, lz9, lz10, lz11, lz12, lz13, lz14, lz15, lz16, lw0, lw1, lw2, lw3, lw4, lw5, lw6, lw7, lw8, lw9, lw10, lw11, lw12, lw13, lw14, lw15, lw16, List.cons_append, Int.reduceToNat, Int.reducePow, Int.reduceLE, Int.reduceLT, Int.reduceNeg, Int.reduceSub, Int.reduceMul, Nat.reducePow, Nat.reduceLeDiff, Nat.reduceSub, Nat.reduceMul, atI_cast, ixN_cast, Int.zero_add, List.length_set, List.length_reverse, cutT_0, cutT_1, cutT_2, cutT_3, cutT_4, cutT_5, cutT_6, cutT_7, cutT_8, cutT_9, cutT_10, cutT_11, cutT_12, cutF_0, cutF_1, cutF_2, cutF_3, cutF_4, cutF_5, cutF_6, cutF_7, cutF_8, cutF_9, cutF_10, cutF_11, cutF_12, cutT_n, cutF_n, cut_nn, cutT_m1, List.take_succ_cons, List.take_zero, List.drop_succ_cons, List.drop_zero, Int.toNat_natCast, beq_tt, beq_ff, ↓r_pEnu, ↓r_pEnuK, ↓r_qRetF, ↓r_qRetO, ↓r_qForO, ↓r_pCallB, ↓r_pCallBN, hard_non, hard_bl, hard_int, hard_str, hard_tup, hards_nil, hards_cons, hardIn_lst, enumI_nil, enumI_cons, eq_self, ↓r_qAsg2, ↓r_qAsg3, ↓r_pChain3, intsOf_nil, intsOf_cons, blsOf_nil, blsOf_cons, ↓maxG_cons, ↓minG_cons, Option.map_some, Option.map_none, List.foldl_cons, List.foldl_nil, Int.cast_ofNat_Int, Int.reduceEq, Int.reduceNe, not_true_eq_false, not_false_eq_true, ↓r_pBM, ↓r_pBM0, ↓r_pGetK, ↓isStr_str, tyD_str, tyD_lst, tyD_klst, ↓s1W_str, ↓s0W_str, ↓joinW_str, joinD_eq, strsOf_map, strsOf_nil, strsOf_cons, ↓lcountW_lst, ↓lcountW_klst, ↓ltX_int, ↓leX_int, ↓gtX_int, ↓geX_int, ↓ltX_str, ↓ltX_tup, ↓leX_tup, ↓gtX_tup, ↓geX_tup, ↓inW_ch, ↓r_qUp, ↓r_qAppN, ↓r_qAppK, ↓r_pKid, ↓r_qSetL1, ↓r_qTupPop, ↓r_kidAt, ↓r_popK, ↓atO2_o2, ↓atKid_l, ↓strfW_int, ↓lindexW_lst, ↓lindexW_klst, ↓r_pStarA, ↓r_pLend, ↓r_tLend, ↓r_qAlias, ↓r_qSetC2, ↓ofLst_lst, ↓tupLW_lst, ↓tupsOf_map, ↓on3_3, ↓max3W_mx, ↓min3W_mx, atI_m1, List.getLast?_singleton, List.getLast?_cons_cons, ↓lenW_ktup, itemW_ktupD, asList_ktup, isNon_ktup, isK_tup, isK_lst, isK_klst, ↓gT_ktup, ↓isTW_ktup, ↓notTW_ktup, ↓inW_ktup, hard_ktup, tyN_ktup, ↓truW_ktup, ↓r_qDPut, ↓r_pDNewK, ↓r_pDNewT, ↓atOwA_ow, ↓dItemW_k, ↓dItemW_t, ↓dLookW_k, ↓dLookW_t, ↓dPutW_k, ↓dPutW_t, keyD_int, keyD_str, keysD_nil, keysD_int, keysD_str, ↓r_pRange3, ↓r_pProp, ↓r_pIsiO, ↓r_pOwnAdd, ↓r_pOwnEq, isO_ins, isO_non, isO_bl, isO_int, isO_str, isO_tup, isO_ktup, isO_lst, isO_dK, ↓r_qSetX, ↓r_qRetX, ↓r_qDropX, ↓r_qRaise, ↓r_qTryAs, ↓r_pXf, ↓r_pIsX, ↓r_qSetNn, ↓r_qRetNn, nonOr_non, nonOr_lst, onNon_non, excOr_exc, excOr_bl, excOr_int, excOr_str, excOr_non, excOr_lst, excOr_tup, isExo_exo, ↓r_pInK, ↓r_pAtK, ↓r_pRevL, ↓s3W_str, ↓revLW_lst, ↓revLW_klst, ↓mulSW_str, ↓r_nxOf, ↓r_rtOf, ↓r_nxIo, ↓r_rtIo, ↓r_nxNw, ↓r_rtNw, ↓r_rnNw, ↓r_rnOf, ↓atRf_rf, ↓r_lentNx, ↓r_lentRt, ↓r_nxX, ↓r_rtX, ↓r_xrX, ↓r_nxNn, ↓r_rtNn, ↓r_rnNn, ↓r_nxT, ↓r_rtT, ↓r_nxS, ↓r_rtS, ch_Tx, Tx1, lit_hyph, lit_back, lit_hash, lit_sp, lit_nl, lit_D, lit_Sp, lit_3, lit_o1, lit_o2, lit_o3, lit_o4, lit_o5, lit_L, lit_W, wD_mk, sT_eq, strsOf_sT, mD_mk, inW_Tx, Tx_add, sg_Tx, Tx_list])
local macro_rules | `(tactic| walk_at "pul") => `(tactic| simp only [↓forW_nil, ↓forW_cons, ↓compW_nil, ↓compW_cons, List.cons_append, ↓r_qSeq, ↓r_qNext, ↓r_qBreak, ↓r_qCont, ↓r_qRet, ↓r_qRetN, ↓r_qSet, ↓r_qSetN, ↓r_qAsg, ↓r_qAug, ↓r_qApp, ↓r_qFrz, ↓r_qIf, ↓r_qDrop, ↓r_qSetIx, ↓r_qFor, ↓r_qWhile, ↓r_tst, ↓r_pOp, ↓r_pUn, ↓r_pC, ↓r_pVar, ↓r_pVarR, ↓r_pCall, ↓r_pCallD, ↓r_pCons, ↓r_pNil, ↓r_pAndT, ↓r_pOrT, ↓r_pNotT, ↓r_pTru, ↓r_pAnd, ↓r_pOr, ↓r_pNot, ↓r_pIf, ↓r_pIsN, ↓r_pChain, ↓r_pTup, ↓r_pLst, ↓r_pIsi, ↓r_pSeq, ↓r_pRange1, ↓r_pRange2, ↓r_pComp, ↓r_pYes, ↓r_gN, ↓r_listW, ↓r_tupleW, ↓ltW_int, ↓leW_int, ↓gtW_int, ↓geW_int, ↓subW_int, ↓fdivW_int, ↓modW_int, ↓powW_int, ↓atSh_shD, ↓atAny_shD, ↓atAny_owD, ↓atOwT_owD, ↓atOwL_owD, ↓atOwF_owD, ↓isBl_bl, ↓isInt_int, ↓isSome_someD, ↓isSome_noneD, ↓isIns_ins, ↓on1_1, ↓on2_2, ↓addW_int, ↓addW_ib, ↓addW_str, ↓addW_lst, ↓iaddW_int, ↓iaddW_str, ↓mulW_int, ↓mulW_lst, ↓eqW_int, ↓eqW_str, ↓eqW_bl, ↓eqW_nn, ↓eqW_ni, ↓eqW_in, ↓eqW_is, ↓eqW_si, ↓eqW_tt, ↓eqW_ll, ↓neW_int, ↓neW_str, ↓neW_bl, ↓neW_nn, ↓neW_ni, ↓neW_in, ↓neW_is, ↓neW_si, ↓neW_tt, ↓neW_ll, ↓negW_int, ↓absW_int, ↓intfW_int, ↓intfW_bl, ↓lenW_str, ↓lenW_lst, ↓lenW_klst, ↓lenW_tup, ↓max2W_mx, ↓min2W_mn, itemW_lstD, itemW_klstD, itemW_tupD, itemW_strD, asList_lst, asList_klst, asList_tup, tyN_non, tyN_bl, tyN_int, tyN_str, tyN_tup, tyN_lst, tyN_dK, tyN_dT, ↓truW_non, ↓truW_bl, ↓truW_int, ↓truW_str, ↓truW_lst, ↓truW_klst, ↓truW_tup, isNon_non, isNon_bl, isNon_int, isNon_str, isNon_tup, isNon_lst, isNon_klst, isNon_ins, isNon_dK, ↓gT_tup, ↓gConsP_cons, ↓gNilP_nil, wipeE_nil, wipeE_cons, atI_0, atI_1, atI_2, atI_3, atI_4, atI_5, atI_6, atI_7, atI_8, atI_9, ixN_0, ixN_1, ixN_2, ixN_3, ixN_4, List.getElem?_cons_zero, List.getElem?_cons_succ, List.getElem?_nil, List.set_cons_zero, List.set_cons_succ, List.length_cons, List.length_nil, List.length_map, Nat.reduceAdd, Int.reduceAdd, Nat.reduceLT, Nat.lt_irrefl, List.append_nil, List.nil_append, decide_eq_true_eq, decide_eq_false_iff_not, Bool.not_eq_true', Bool.not_true, Bool.not_false, ite_true, ite_false, if_true, if_false, Bool.false_eq_true, Bool.true_eq_false, ↓reduceIte, and_true, true_and, subT, String.reduceEq, decide_true, decide_false, Bool.or_false, Bool.false_or, Bool.or_true, Bool.true_or, Bool.and_true, Bool.and_false, Bool.true_and, Bool.false_and, Bool.or_self, Bool.and_self, ↓notTW_bl, ↓notTW_non, ↓notTW_int, ↓notTW_str, ↓notTW_tup, ↓notTW_lst, ↓notTW_klst, ↓isTW_bl, ↓isTW_non, ↓isTW_int, ↓isTW_str, ↓isTW_tup, ↓isTW_lst, ↓isTW_klst, ↓addW_tup, ↓inW_tup, ↓inW_lst, ↓inW_klst, ↓intLW_lst, ↓intLW_klst, ↓blLW_lst, ↓sliceW_lst, ↓sliceW_klst, ↓sliceW_tup, ↓sliceW_str, ↓sliceF_lst, ↓sliceF_klst, ↓catF_lst, ↓atIo_ow, asL_lst, asL_klst, ↓r_pUnD, ↓r_pSlice, ↓r_pNoPart, ↓r_pPart, ↓r_pEnum, ↓r_pZip, ↓r_pStr, ↓r_qExt, ↓r_qSetPop, ↓r_popW, ↓r_qPop, ↓r_qRev, ↓r_qClr, ↓r_qIns, ↓r_qFld, ↓r_pFld, ↓r_pMeth, ↓r_pMake, intsOf_map, blsOf_map, ↓r_sumG, List.map_map, Bool.not_not, ↓enumW_lst, ↓enumW_klst, ↓strW_str, ↓extW_lst, toV_str, toV_int, toV_bl, toV_non, flat_str, flat_int, flat_bl, flat_non, ne_ff, ne_tt, List.all_cons, List.all_nil, List.map_cons, List.map_nil, lz0, lz1, lz2, lz3, lz4, lz5, lz6, lz7, lz8, lz9, lz10, lz11, lz12, lz13, lz14, lz15, lz16, lw0, lw1, lw2, lw3, lw4, lw5, lw6, lw7, lw8, lw9, lw10, lw11, lw12, lw13, lw14, lw15, lw16, List.cons_append, Int.reduceToNat, Int.reducePow, Int.reduceLE, Int.reduceLT, Int.reduceNeg, Int.reduceSub, Int.reduceMul, Nat.reducePow, Nat.reduceLeDiff, Nat.reduceSub, Nat.reduceMul, atI_cast, ixN_cast, Int.zero_add, List.length_set, List.length_reverse, cutT_0, cutT_1, cutT_2, cutT_3, cutT_4, cutT_5, cutT_6, cutT_7, cutT_8, cutT_9, cutT_10, cutT_11, cutT_12, cutF_0, cutF_1, cutF_2, cutF_3, cutF_4, cutF_5, cutF_6, cutF_7, cutF_8, cutF_9, cutF_10, cutF_11, cutF_12, cutT_n, cutF_n, cut_nn, cutT_m1, List.take_succ_cons, List.take_zero, List.drop_succ_cons, List.drop_zero, Int.toNat_natCast, beq_tt, beq_ff, ↓r_pEnu, ↓r_pEnuK, ↓r_qRetF, ↓r_qRetO, ↓r_qForO, ↓r_pCallB, ↓r_pCallBN, hard_non, hard_bl, hard_int, hard_str, hard_tup, hards_nil, hards_cons, hardIn_lst, enumI_nil, enumI_cons, eq_self, ↓r_qAsg2, ↓r_qAsg3, ↓r_pChain3, intsOf_nil, intsOf_cons, blsOf_nil, blsOf_cons, ↓maxG_cons, ↓minG_cons, Option.map_some, Option.map_none, List.foldl_cons, List.foldl_nil, Int.cast_ofNat_Int, Int.reduceEq, Int.reduceNe, not_true_eq_false, not_false_eq_true, ↓r_pBM, ↓r_pBM0, ↓r_pGetK, ↓isStr_str, tyD_str, tyD_lst, tyD_klst, ↓s1W_str, ↓s0W_str, ↓joinW_str, joinD_eq, strsOf_map, strsOf_nil, strsOf_cons, ↓lcountW_lst, ↓lcountW_klst, ↓ltX_int, ↓leX_int, ↓gtX_int, ↓geX_int, ↓ltX_str, ↓ltX_tup, ↓leX_tup, ↓gtX_tup, ↓geX_tup, ↓inW_ch, ↓r_qUp, ↓r_qAppN, ↓r_qAppK, ↓r_pKid, ↓r_qSetL1, ↓r_qTupPop, ↓r_kidAt, ↓r_popK, ↓atO2_o2, ↓atKid_l, ↓strfW_int, ↓lindexW_lst, ↓lindexW_klst, ↓r_pStarA, ↓r_pLend, ↓r_tLend, ↓r_qAlias, ↓r_qSetC2, ↓ofLst_lst, ↓tupLW_lst, ↓tupsOf_map, ↓on3_3, ↓max3W_mx, ↓min3W_mx, atI_m1, List.getLast?_singleton, List.getLast?_cons_cons, ↓lenW_ktup, itemW_ktupD, asList_ktup, isNon_ktup, isK_tup, isK_lst, isK_klst, ↓gT_ktup, ↓isTW_ktup, ↓notTW_ktup, ↓inW_ktup, hard_ktup, tyN_ktup, ↓truW_ktup, ↓r_qDPut, ↓r_pDNewK, ↓r_pDNewT, ↓atOwA_ow, ↓dItemW_k, ↓dItemW_t, ↓dLookW_k, ↓dLookW_t, ↓dPutW_k, ↓dPutW_t, keyD_int, keyD_str, keysD_nil, keysD_int, keysD_str, ↓r_pRange3, ↓r_pProp, ↓r_pIsiO, ↓r_pOwnAdd, ↓r_pOwnEq, isO_ins, isO_non, isO_bl, isO_int, isO_str, isO_tup, isO_ktup, isO_lst, isO_dK, ↓r_qSetX, ↓r_qRetX, ↓r_qDropX, ↓r_qRaise, ↓r_qTryAs, ↓r_pXf, ↓r_pIsX, ↓r_qSetNn, ↓r_qRetNn, nonOr_non, nonOr_lst, onNon_non, excOr_exc, excOr_bl, excOr_int, excOr_str, excOr_non, excOr_lst, excOr_tup, isExo_exo, ↓r_pInK, ↓r_pAtK, ↓r_pRevL, ↓s3W_str, ↓revLW_lst, ↓revLW_klst, ↓mulSW_str, ↓r_nxOf, ↓r_rtOf, ↓r_nxIo, ↓r_rtIo, ↓r_nxNw, ↓r_rtNw, ↓r_rnNw, ↓r_rnOf, ↓atRf_rf, ↓r_lentNx, ↓r_lentRt, ↓r_nxX, ↓r_rtX, ↓r_xrX, ↓r_nxNn, ↓r_rtNn, ↓r_rnNn, ↓r_nxT, ↓r_rtT, ↓r_nxS, ↓r_rtS, ch_Tx, Tx1, lit_hyph, lit_back, lit_hash, lit_sp, lit_nl, lit_D, lit_Sp, lit_3, lit_o1, lit_o2, lit_o3, lit_o4, lit_o5, lit_L, lit_W, wD_mk, sT_eq, strsOf_sT, mD_mk, inW_Tx, Tx_add, sg_Tx, Tx_list])
theorem len_law_tables (ds : List D) (R : DK) (h : c_law_tables ds R) : ds.length = 0 := by
  obtain ⟨rfl, _⟩ := h; rfl
theorem pure_law_tables (ds : List D) (R : DK) (h : c_law_tables ds R) : q_law_tables (endOf R) (startE N_law_tables ds) := by
  obtain ⟨rfl, p⟩ := h
  rw [st_law_tables]
  unfold q_law_tables
  walk_at "pu"
  refine ⟨rfl, rfl, ?_⟩
  walk_at "pu"
  refine ⟨by rw [Tx_len, Tx_len]; exact lsz (by decide), rfl, ?_⟩
  walk_at "pu"
  have hrows : ∀ r : List Nat × List Nat, r ∈ [(chL, chL), ([48, 49, 50, 51, 52, 53, 54, 55, 56, 57], [48, 49, 50, 51, 52, 53, 54, 55, 56, 57]), ([92, 123, 125, 36, 126, 35, 38, 94, 95], [92, 123, 125, 36, 126, 35, 38, 94, 95]), (chW, chL ++ chM)] → r.1.length = r.2.length ∧ r.1.length ≤ 100 ∧ ∀ c, c ∈ r.2 → r.1.count c = 1 := by decide +kernel
  generalize hS : Tx [92, 123, 125, 36, 126, 35, 38, 94, 95] = zS
  generalize hC : Tx (chL ++ chM) = zC
  refine forI_list (fun r : List Nat × List Nat => D.tup [.str (Tx r.1), .str (Tx r.2)]) [(chL, chL), ([48, 49, 50, 51, 52, 53, 54, 55, 56, 57], [48, 49, 50, 51, 52, 53, 54, 55, 56, 57]), ([92, 123, 125, 36, 126, 35, 38, 94, 95], [92, 123, 125, 36, 126, 35, 38, 94, 95]), (chW, chL ++ chM)]
    (fun _ _ ρ => ∃ x y, ρ = [some (.sh (.str zC)), some (.sh (.str zS)), x, y]) (by rw [← hS, ← hC]; rfl) ⟨_, _, rfl⟩ ?_ ?_
  · rintro done ⟨l, m⟩ rest ρ e ⟨x, y, rfl⟩ A hA
    have hr := hrows (l, m) (by rw [e]; simp)
    simp only at hr
    unfold b_law_tables_2
    walk_at "pu"
    rw [Tx_len, Tx_len]
    refine ⟨lsz (by omega), lsz (by omega), ?_⟩
    rw [if_neg (by omega)]
    refine forI_list (fun c => sT [c]) m (fun _ _ ρ => ∃ y, ρ = [some (.sh (.str zC)), some (.sh (.str zS)), some (.sh (.tup [.str (Tx l), .str (Tx m)])), y]) rfl ⟨_, rfl⟩ ?_ ?_
    · rintro done2 c rest2 ρ e2 ⟨y, rfl⟩ A2 hA2
      unfold b_law_tables_1
      walk_at "pu"
      rw [count1, hr.2.2 c (by rw [e2]; simp)]
      walk_at "pu"
      exact hA2 _ ⟨_, rfl⟩
    · rintro ρ ⟨y, rfl⟩
      exact hA _ ⟨_, _, rfl⟩
  · rintro ρ ⟨x, y, rfl⟩
    subst hS hC
    walk_at "pu"
    rw [Tx_len, Tx_len, Tx_len]
    refine ⟨lsz (by decide), lsz (by decide), ?_⟩
    refine forI_list (fun c => sT [c]) _ (fun _ _ ρ => ∃ y, ρ = [some (.sh (.str (Tx (chL ++ chM)))), some (.sh (.str (Tx [92, 123, 125, 36, 126, 35, 38, 94, 95]))), x, y]) rfl ⟨_, rfl⟩ ?_ ?_
    · rintro done2 c rest2 ρ e2 ⟨y, rfl⟩ A2 hA2
      unfold b_law_tables_3
      walk_at "pu"
      refine ⟨c, rfl, ?_⟩
      walk_at "pu"
      refine ⟨_, _, rfl, trivial, trivial, fun r hr => ?_⟩
      have e : r = true := hr.2 rfl
      subst e
      walk_at "pu"
      refine ⟨c, rfl, rfl, ?_⟩
      walk_at "pu"
      refine ⟨_, _, rfl, trivial, trivial, fun r hr => ?_⟩
      have e : r = true := hr.2 rfl
      subst e
      walk_at "pu"
      refine ⟨c, rfl, ?_⟩
      walk_at "pu"
      refine ⟨_, _, rfl, trivial, trivial, fun r hr => ?_⟩
      have e : r = true := hr.2 rfl
      subst e
      walk_at "pu"
      exact hA2 _ ⟨_, rfl⟩
    · rintro ρ ⟨y, rfl⟩
      walk_at "pu"
      refine ⟨_, _, rfl, trivial, trivial, fun r hr => ?_⟩
      have e : r = true := hr.2 rfl
      subst e
      exact p
theorem len_law_kinds (ds : List D) (R : DK) (h : c_law_kinds ds R) : ds.length = 0 := by
  obtain ⟨rfl, _⟩ := h; rfl
def grps : List (Str × List Nat) := [("oper", [43, 45, 42, 47]), ("rel", [61, 60, 62]), ("open", [40, 91]), ("shut", [41, 93]), ("comma", [44, 59])]
def gD (r : Str × List Nat) : D := .tup [.str r.1, .str (Tx r.2)]
theorem gD_mk {k : Str} {l : List Nat} : gD (k, l) = .tup [.str k, .str (Tx l)] := id rfl
def stepK (c : Nat) (k : Str) (r : Str × List Nat) : Str := if c ∈ r.2 then r.1 else k
theorem kind_eq : ∀ c, c ∈ chL ++ chM → grps.foldl (stepK c) "plain" = signK c := by decide +kernel
local macro_rules | `(tactic| walk_at "pu") => `(tactic| simp only [↓r_qSeq, ↓r_qNext, ↓r_qBreak, ↓r_qCont, ↓r_qRet, ↓r_qRetN, ↓r_qSet, ↓r_qSetN, ↓r_qAsg, ↓r_qAug, ↓r_qApp, ↓r_qFrz, ↓r_qIf, ↓r_qDrop, ↓r_qSetIx, ↓r_qFor, ↓r_qWhile, ↓r_tst, ↓r_pOp, ↓r_pUn, ↓r_pC, ↓r_pVar, ↓r_pVarR, ↓r_pCall, ↓r_pCallD, ↓r_pCons, ↓r_pNil, ↓r_pAndT, ↓r_pOrT, ↓r_pNotT, ↓r_pTru, ↓r_pAnd, ↓r_pOr, ↓r_pNot, ↓r_pIf, ↓r_pIsN, ↓r_pChain, ↓r_pTup, ↓r_pLst, ↓r_pIsi, ↓r_pSeq, ↓r_pRange1, ↓r_pRange2, ↓r_pComp, ↓r_pYes, ↓r_gN, ↓r_listW, ↓r_tupleW, ↓ltW_int, ↓leW_int, ↓gtW_int, ↓geW_int, ↓subW_int, ↓fdivW_int, ↓modW_int, ↓powW_int, ↓atSh_shD, ↓atAny_shD, ↓atAny_owD, ↓atOwT_owD, ↓atOwL_owD, ↓atOwF_owD, ↓isBl_bl, ↓isInt_int, ↓isSome_someD, ↓isSome_noneD, ↓isIns_ins, ↓on1_1, ↓on2_2, ↓addW_int, ↓addW_ib, ↓addW_str, ↓addW_lst, ↓iaddW_int, ↓iaddW_str, ↓mulW_int, ↓mulW_lst, ↓eqW_int, ↓eqW_str, ↓eqW_bl, ↓eqW_nn, ↓eqW_ni, ↓eqW_in, ↓eqW_is, ↓eqW_si, ↓eqW_tt, ↓eqW_ll, ↓neW_int, ↓neW_str, ↓neW_bl, ↓neW_nn, ↓neW_ni, ↓neW_in, ↓neW_is, ↓neW_si, ↓neW_tt, ↓neW_ll, ↓negW_int, ↓absW_int, ↓intfW_int, ↓intfW_bl, ↓lenW_str, ↓lenW_lst, ↓lenW_klst, ↓lenW_tup, ↓max2W_mx, ↓min2W_mn, itemW_lstD, itemW_klstD, itemW_tupD, itemW_strD, asList_lst, asList_klst, asList_tup, tyN_non, tyN_bl, tyN_int, tyN_str, tyN_tup, tyN_lst, tyN_dK, tyN_dT, ↓truW_non, ↓truW_bl, ↓truW_int, ↓truW_str, ↓truW_lst, ↓truW_klst, ↓truW_tup, isNon_non, isNon_bl, isNon_int, isNon_str, isNon_tup, isNon_lst, isNon_klst, isNon_ins, isNon_dK, ↓gT_tup, ↓gConsP_cons, ↓gNilP_nil, wipeE_nil, wipeE_cons, atI_0, atI_1, atI_2, atI_3, atI_4, atI_5, atI_6, atI_7, atI_8, atI_9, ixN_0, ixN_1, ixN_2, ixN_3, ixN_4, List.getElem?_cons_zero, List.getElem?_cons_succ, List.getElem?_nil, List.set_cons_zero, List.set_cons_succ, List.length_cons, List.length_nil, List.length_map, Nat.reduceAdd, Int.reduceAdd, Nat.reduceLT, Nat.lt_irrefl, List.append_nil, List.nil_append, decide_eq_true_eq, decide_eq_false_iff_not, Bool.not_eq_true', Bool.not_true, Bool.not_false, ite_true, ite_false, if_true, if_false, Bool.false_eq_true, Bool.true_eq_false, ↓reduceIte, and_true, true_and, subT, String.reduceEq, decide_true, decide_false, Bool.or_false, Bool.false_or, Bool.or_true, Bool.true_or, Bool.and_true, Bool.and_false, Bool.true_and, Bool.false_and, Bool.or_self, Bool.and_self, ↓notTW_bl, ↓notTW_non, ↓notTW_int, ↓notTW_str, ↓notTW_tup, ↓notTW_lst, ↓notTW_klst, ↓isTW_bl, ↓isTW_non, ↓isTW_int, ↓isTW_str, ↓isTW_tup, ↓isTW_lst, ↓isTW_klst, ↓addW_tup, ↓inW_tup, ↓inW_lst, ↓inW_klst, ↓intLW_lst, ↓intLW_klst, ↓blLW_lst, ↓sliceW_lst, ↓sliceW_klst, ↓sliceW_tup, ↓sliceW_str, ↓sliceF_lst, ↓sliceF_klst, ↓catF_lst, ↓atIo_ow, asL_lst, asL_klst, ↓r_pUnD, ↓r_pSlice, ↓r_pNoPart, ↓r_pPart, ↓r_pEnum, ↓r_pZip, ↓r_pStr, ↓r_qExt, ↓r_qSetPop, ↓r_popW, ↓r_qPop, ↓r_qRev, ↓r_qClr, ↓r_qIns, ↓r_qFld, ↓r_pFld, ↓r_pMeth, ↓r_pMake, intsOf_map, blsOf_map, ↓r_sumG, List.map_map, Bool.not_not, ↓enumW_lst, ↓enumW_klst, ↓strW_str, ↓extW_lst, toV_str, toV_int, toV_bl, toV_non, flat_str, flat_int, flat_bl, flat_non, ne_ff, ne_tt, List.all_cons, List.all_nil, List.map_cons, List.map_nil, lz0, lz1, lz2, lz3, lz4, lz5, lz6, lz7, lz8, lz9, lz10, lz11, lz12, lz13, lz14, lz15, lz16, lw0, lw1, lw2, lw3, lw4, lw5, lw6, lw7, lw8, lw9, lw10, lw11, lw12, lw13, lw14, lw15, lw16, List.cons_append, Int.reduceToNat, Int.reducePow, Int.reduceLE, Int.reduceLT, Int.reduceNeg, Int.reduceSub, Int.reduceMul, Nat.reducePow, Nat.reduceLeDiff, Nat.reduceSub, Nat.reduceMul, atI_cast, ixN_cast, Int.zero_add, List.length_set, List.length_reverse, cutT_0, cutT_1, cutT_2, cutT_3, cutT_4, cutT_5, cutT_6, cutT_7, cutT_8, cutT_9, cutT_10, cutT_11, cutT_12, cutF_0, cutF_1, cutF_2, cutF_3, cutF_4, cutF_5, cutF_6, cutF_7, cutF_8, cutF_9, cutF_10, cutF_11, cutF_12, cutT_n, cutF_n, cut_nn, cutT_m1, List.take_succ_cons, List.take_zero, List.drop_succ_cons, List.drop_zero, Int.toNat_natCast, beq_tt, beq_ff, ↓r_pEnu, ↓r_pEnuK, ↓r_qRetF, ↓r_qRetO, ↓r_qForO, ↓r_pCallB, ↓r_pCallBN, hard_non, hard_bl, hard_int, hard_str, hard_tup, hards_nil, hards_cons, hardIn_lst, enumI_nil, enumI_cons, eq_self, ↓r_qAsg2, ↓r_qAsg3, ↓r_pChain3, intsOf_nil, intsOf_cons, blsOf_nil, blsOf_cons, ↓maxG_cons, ↓minG_cons, Option.map_some, Option.map_none, List.foldl_cons, List.foldl_nil, Int.cast_ofNat_Int, Int.reduceEq, Int.reduceNe, not_true_eq_false, not_false_eq_true, ↓r_pBM, ↓r_pBM0, ↓r_pGetK, ↓isStr_str, tyD_str, tyD_lst, tyD_klst, ↓s1W_str, ↓s0W_str, ↓joinW_str, joinD_eq, strsOf_map, strsOf_nil, strsOf_cons, ↓lcountW_lst, ↓lcountW_klst, ↓ltX_int, ↓leX_int, ↓gtX_int, ↓geX_int, ↓ltX_str, ↓ltX_tup, ↓leX_tup, ↓gtX_tup, ↓geX_tup, ↓inW_ch, ↓r_qUp, ↓r_qAppN, ↓r_qAppK, ↓r_pKid, ↓r_qSetL1, ↓r_qTupPop, ↓r_kidAt, ↓r_popK, ↓atO2_o2, ↓atKid_l, ↓strfW_int, ↓lindexW_lst, ↓lindexW_klst, ↓r_pStarA, ↓r_pLend, ↓r_tLend, ↓r_qAlias, ↓r_qSetC2, ↓ofLst_lst, ↓tupLW_lst, ↓tupsOf_map, ↓on3_3, ↓max3W_mx, ↓min3W_mx, atI_m1, List.getLast?_singleton, List.getLast?_cons_cons, ↓lenW_ktup, itemW_ktupD, asList_ktup, isNon_ktup, isK_tup, isK_lst, isK_klst, ↓gT_ktup, ↓isTW_ktup, ↓notTW_ktup, ↓inW_ktup, hard_ktup, tyN_ktup, ↓truW_ktup, ↓r_qDPut, ↓r_pDNewK, ↓r_pDNewT, ↓atOwA_ow, ↓dItemW_k, ↓dItemW_t, ↓dLookW_k, ↓dLookW_t, ↓dPutW_k, ↓dPutW_t, keyD_int, keyD_str, keysD_nil, keysD_int, keysD_str, ↓r_pRange3, ↓r_pProp, ↓r_pIsiO, ↓r_pOwnAdd, ↓r_pOwnEq, isO_ins, isO_non, isO_bl, isO_int, isO_str, isO_tup, isO_ktup, isO_lst, isO_dK, ↓r_qSetX, ↓r_qRetX, ↓r_qDropX, ↓r_qRaise, ↓r_qTryAs, ↓r_pXf, ↓r_pIsX, ↓r_qSetNn, ↓r_qRetNn, nonOr_non, nonOr_lst, onNon_non, excOr_exc, excOr_bl, excOr_int, excOr_str, excOr_non, excOr_lst, excOr_tup, isExo_exo, ↓r_pInK, ↓r_pAtK, ↓r_pRevL, ↓s3W_str, ↓revLW_lst, ↓revLW_klst, ↓mulSW_str, ↓r_nxOf, ↓r_rtOf, ↓r_nxIo, ↓r_rtIo, ↓r_nxNw, ↓r_rtNw, ↓r_rnNw, ↓r_rnOf, ↓atRf_rf, ↓r_lentNx, ↓r_lentRt, ↓r_nxX, ↓r_rtX, ↓r_xrX, ↓r_nxNn, ↓r_rtNn, ↓r_rnNn, ↓r_nxT, ↓r_rtT, ↓r_nxS, ↓r_rtS, ch_Tx, Tx1, lit_hyph, lit_back, lit_hash, lit_sp, lit_nl, lit_D, lit_Sp, lit_3, lit_o1, lit_o2, lit_o3, lit_o4, lit_o5, lit_L, lit_W, wD_mk, sT_eq, strsOf_sT, mD_mk, inW_Tx, Tx_add, sg_Tx, Tx_list, gD_mk])
local macro_rules | `(tactic| walk_at "pul") => `(tactic| simp only [↓forW_nil, ↓forW_cons, ↓compW_nil, ↓compW_cons, List.cons_append, ↓r_qSeq, ↓r_qNext, ↓r_qBreak, ↓r_qCont, ↓r_qRet, ↓r_qRetN, ↓r_qSet, ↓r_qSetN, ↓r_qAsg, ↓r_qAug, ↓r_qApp, ↓r_qFrz, ↓r_qIf, ↓r_qDrop, ↓r_qSetIx, ↓r_qFor, ↓r_qWhile, ↓r_tst, ↓r_pOp, ↓r_pUn, ↓r_pC, ↓r_pVar, ↓r_pVarR, ↓r_pCall, ↓r_pCallD, ↓r_pCons, ↓r_pNil, ↓r_pAndT, ↓r_pOrT, ↓r_pNotT, ↓r_pTru, ↓r_pAnd, ↓r_pOr, ↓r_pNot, ↓r_pIf, ↓r_pIsN, ↓r_pChain, ↓r_pTup, ↓r_pLst, ↓r_pIsi, ↓r_pSeq, ↓r_pRange1, ↓r_pRange2, ↓r_pComp, ↓r_pYes, ↓r_gN, ↓r_listW, ↓r_tupleW, ↓ltW_int, ↓leW_int, ↓gtW_int, ↓geW_int, ↓subW_int, ↓fdivW_int, ↓modW_int, ↓powW_int, ↓atSh_shD, ↓atAny_shD, ↓atAny_owD, ↓atOwT_owD, ↓atOwL_owD, ↓atOwF_owD, ↓isBl_bl, ↓isInt_int, ↓isSome_someD, ↓isSome_noneD, ↓isIns_ins, ↓on1_1, ↓on2_2, ↓addW_int, ↓addW_ib, ↓addW_str, ↓addW_lst, ↓iaddW_int, ↓iaddW_str, ↓mulW_int, ↓mulW_lst, ↓eqW_int, ↓eqW_str, ↓eqW_bl, ↓eqW_nn, ↓eqW_ni, ↓eqW_in, ↓eqW_is, ↓eqW_si, ↓eqW_tt, ↓eqW_ll, ↓neW_int, ↓neW_str, ↓neW_bl, ↓neW_nn, ↓neW_ni, ↓neW_in, ↓neW_is, ↓neW_si, ↓neW_tt, ↓neW_ll, ↓negW_int, ↓absW_int, ↓intfW_int, ↓intfW_bl, ↓lenW_str, ↓lenW_lst, ↓lenW_klst, ↓lenW_tup, ↓max2W_mx, ↓min2W_mn, itemW_lstD, itemW_klstD, itemW_tupD, itemW_strD, asList_lst, asList_klst, asList_tup, tyN_non, tyN_bl, tyN_int, tyN_str, tyN_tup, tyN_lst, tyN_dK, tyN_dT, ↓truW_non, ↓truW_bl, ↓truW_int, ↓truW_str, ↓truW_lst, ↓truW_klst, ↓truW_tup, isNon_non, isNon_bl, isNon_int, isNon_str, isNon_tup, isNon_lst, isNon_klst, isNon_ins, isNon_dK, ↓gT_tup, ↓gConsP_cons, ↓gNilP_nil, wipeE_nil, wipeE_cons, atI_0, atI_1, atI_2, atI_3, atI_4, atI_5, atI_6, atI_7, atI_8, atI_9, ixN_0, ixN_1, ixN_2, ixN_3, ixN_4, List.getElem?_cons_zero, List.getElem?_cons_succ, List.getElem?_nil, List.set_cons_zero, List.set_cons_succ, List.length_cons, List.length_nil, List.length_map, Nat.reduceAdd, Int.reduceAdd, Nat.reduceLT, Nat.lt_irrefl, List.append_nil, List.nil_append, decide_eq_true_eq, decide_eq_false_iff_not, Bool.not_eq_true', Bool.not_true, Bool.not_false, ite_true, ite_false, if_true, if_false, Bool.false_eq_true, Bool.true_eq_false, ↓reduceIte, and_true, true_and, subT, String.reduceEq, decide_true, decide_false, Bool.or_false, Bool.false_or, Bool.or_true, Bool.true_or, Bool.and_true, Bool.and_false, Bool.true_and, Bool.false_and, Bool.or_self, Bool.and_self, ↓notTW_bl, ↓notTW_non, ↓notTW_int, ↓notTW_str, ↓notTW_tup, ↓notTW_lst, ↓notTW_klst, ↓isTW_bl, ↓isTW_non, ↓isTW_int, ↓isTW_str, ↓isTW_tup, ↓isTW_lst, ↓isTW_klst, ↓addW_tup, ↓inW_tup, ↓inW_lst, ↓inW_klst, ↓intLW_lst, ↓intLW_klst, ↓blLW_lst, ↓sliceW_lst, ↓sliceW_klst, ↓sliceW_tup, ↓sliceW_str, ↓sliceF_lst, ↓sliceF_klst, ↓catF_lst, ↓atIo_ow, asL_lst, asL_klst, ↓r_pUnD, ↓r_pSlice, ↓r_pNoPart, ↓r_pPart, ↓r_pEnum, ↓r_pZip, ↓r_pStr, ↓r_qExt, ↓r_qSetPop, ↓r_popW, ↓r_qPop, ↓r_qRev, ↓r_qClr, ↓r_qIns, ↓r_qFld, ↓r_pFld, ↓r_pMeth, ↓r_pMake, intsOf_map, blsOf_map, ↓r_sumG, List.map_map, Bool.not_not, ↓enumW_lst, ↓enumW_klst, ↓strW_str, ↓extW_lst, toV_str, toV_int, toV_bl, toV_non, flat_str, flat_int, flat_bl, flat_non, ne_ff, ne_tt, List.all_cons, List.all_nil, List.map_cons, List.map_nil, lz0, lz1, lz2, lz3, lz4, lz5, lz6, lz7, lz8, lz9, lz10, lz11, lz12, lz13, lz14, lz15, lz16, lw0, lw1, lw2, lw3, lw4, lw5, lw6, lw7, lw8, lw9, lw10, lw11, lw12, lw13, lw14, lw15, lw16, List.cons_append, Int.reduceToNat, Int.reducePow, Int.reduceLE, Int.reduceLT, Int.reduceNeg, Int.reduceSub, Int.reduceMul, Nat.reducePow, Nat.reduceLeDiff, Nat.reduceSub, Nat.reduceMul, atI_cast, ixN_cast, Int.zero_add, List.length_set, List.length_reverse, cutT_0, cutT_1, cutT_2, cutT_3, cutT_4, cutT_5, cutT_6, cutT_7, cutT_8, cutT_9, cutT_10, cutT_11, cutT_12, cutF_0, cutF_1, cutF_2, cutF_3, cutF_4, cutF_5, cutF_6, cutF_7, cutF_8, cutF_9, cutF_10, cutF_11, cutF_12, cutT_n, cutF_n, cut_nn, cutT_m1, List.take_succ_cons, List.take_zero, List.drop_succ_cons, List.drop_zero, Int.toNat_natCast, beq_tt, beq_ff, ↓r_pEnu, ↓r_pEnuK, ↓r_qRetF, ↓r_qRetO, ↓r_qForO, ↓r_pCallB, ↓r_pCallBN, hard_non, hard_bl, hard_int, hard_str, hard_tup, hards_nil, hards_cons, hardIn_lst, enumI_nil, enumI_cons, eq_self, ↓r_qAsg2, ↓r_qAsg3, ↓r_pChain3, intsOf_nil, intsOf_cons, blsOf_nil, blsOf_cons, ↓maxG_cons, ↓minG_cons, Option.map_some, Option.map_none, List.foldl_cons, List.foldl_nil, Int.cast_ofNat_Int, Int.reduceEq, Int.reduceNe, not_true_eq_false, not_false_eq_true, ↓r_pBM, ↓r_pBM0, ↓r_pGetK, ↓isStr_str, tyD_str, tyD_lst, tyD_klst, ↓s1W_str, ↓s0W_str, ↓joinW_str, joinD_eq, strsOf_map, strsOf_nil, strsOf_cons, ↓lcountW_lst, ↓lcountW_klst, ↓ltX_int, ↓leX_int, ↓gtX_int, ↓geX_int, ↓ltX_str, ↓ltX_tup, ↓leX_tup, ↓gtX_tup, ↓geX_tup, ↓inW_ch, ↓r_qUp, ↓r_qAppN, ↓r_qAppK, ↓r_pKid, ↓r_qSetL1, ↓r_qTupPop, ↓r_kidAt, ↓r_popK, ↓atO2_o2, ↓atKid_l, ↓strfW_int, ↓lindexW_lst, ↓lindexW_klst, ↓r_pStarA, ↓r_pLend, ↓r_tLend, ↓r_qAlias, ↓r_qSetC2, ↓ofLst_lst, ↓tupLW_lst, ↓tupsOf_map, ↓on3_3, ↓max3W_mx, ↓min3W_mx, atI_m1, List.getLast?_singleton, List.getLast?_cons_cons, ↓lenW_ktup, itemW_ktupD, asList_ktup, isNon_ktup, isK_tup, isK_lst, isK_klst, ↓gT_ktup, ↓isTW_ktup, ↓notTW_ktup, ↓inW_ktup, hard_ktup, tyN_ktup, ↓truW_ktup, ↓r_qDPut, ↓r_pDNewK, ↓r_pDNewT, ↓atOwA_ow, ↓dItemW_k, ↓dItemW_t, ↓dLookW_k, ↓dLookW_t, ↓dPutW_k, ↓dPutW_t, keyD_int, keyD_str, keysD_nil, keysD_int, keysD_str, ↓r_pRange3, ↓r_pProp, ↓r_pIsiO, ↓r_pOwnAdd, ↓r_pOwnEq, isO_ins, isO_non, isO_bl, isO_int, isO_str, isO_tup, isO_ktup, isO_lst, isO_dK, ↓r_qSetX, ↓r_qRetX, ↓r_qDropX, ↓r_qRaise, ↓r_qTryAs, ↓r_pXf, ↓r_pIsX, ↓r_qSetNn, ↓r_qRetNn, nonOr_non, nonOr_lst, onNon_non, excOr_exc, excOr_bl, excOr_int, excOr_str, excOr_non, excOr_lst, excOr_tup, isExo_exo, ↓r_pInK, ↓r_pAtK, ↓r_pRevL, ↓s3W_str, ↓revLW_lst, ↓revLW_klst, ↓mulSW_str, ↓r_nxOf, ↓r_rtOf, ↓r_nxIo, ↓r_rtIo, ↓r_nxNw, ↓r_rtNw, ↓r_rnNw, ↓r_rnOf, ↓atRf_rf, ↓r_lentNx, ↓r_lentRt, ↓r_nxX, ↓r_rtX, ↓r_xrX, ↓r_nxNn, ↓r_rtNn, ↓r_rnNn, ↓r_nxT, ↓r_rtT, ↓r_nxS, ↓r_rtS, ch_Tx, Tx1, lit_hyph, lit_back, lit_hash, lit_sp, lit_nl, lit_D, lit_Sp, lit_3, lit_o1, lit_o2, lit_o3, lit_o4, lit_o5, lit_L, lit_W, wD_mk, sT_eq, strsOf_sT, mD_mk, inW_Tx, Tx_add, sg_Tx, Tx_list, gD_mk])
theorem pure_law_kinds (ds : List D) (R : DK) (h : c_law_kinds ds R) : q_law_kinds (endOf R) (startE N_law_kinds ds) := by
  obtain ⟨rfl, p⟩ := h
  rw [st_law_kinds]
  unfold q_law_kinds
  walk_at "pu"
  refine ⟨rfl, rfl, ?_⟩
  walk_at "pu"
  refine ⟨by rw [Tx_len, Tx_len]; exact lsz (by decide), ?_⟩
  have eg : [D.tup [.str "oper", .str (Tx [43, 45, 42, 47])], .tup [.str "rel", .str (Tx [61, 60, 62])], .tup [.str "open", .str (Tx [40, 91])], .tup [.str "shut", .str (Tx [41, 93])], .tup [.str "comma", .str (Tx [44, 59])]] = grps.map gD := rfl
  rw [eg]
  refine forI_list (fun c => sT [c]) (chL ++ chM) (fun _ _ ρ => ∃ x y z, ρ = [some (.sh (.lst (grps.map gD))), x, y, z]) rfl ⟨_, _, _, rfl⟩ ?_ ?_
  · rintro done c rest ρ e ⟨x, y, z, rfl⟩ A hA
    unfold b_law_kinds_2
    walk_at "pu"
    refine forI_list gD grps (fun done _ ρ => ∃ z, ρ = [some (.sh (.lst (grps.map gD))), some (.sh (sT [c])), some (.sh (.str (done.foldl (stepK c) "plain"))), z]) rfl ⟨_, rfl⟩ ?_ ?_
    · rintro done2 ⟨k, l⟩ rest2 ρ e2 ⟨z, rfl⟩ A2 hA2
      unfold b_law_kinds_1
      walk_at "pu"
      have e3 : (done2 ++ [(k, l)]).foldl (stepK c) "plain" = if c ∈ l then k else done2.foldl (stepK c) "plain" := by
        rw [List.foldl_append]
        rfl
      by_cases hc : c ∈ l
      · rw [if_pos hc]
        refine hA2 _ ⟨some (.sh (gD (k, l))), ?_⟩
        rw [e3, if_pos hc]
        rfl
      · rw [if_neg hc]
        refine hA2 _ ⟨some (.sh (gD (k, l))), ?_⟩
        rw [e3, if_neg hc]
        rfl
    · rintro ρ ⟨z, rfl⟩
      walk_at "pu"
      refine ⟨c, rfl, ?_⟩
      walk_at "pu"
      refine ⟨_, _, rfl, trivial, trivial, fun r hr => ?_⟩
      have e : r = true := hr.2 (by rw [kind_eq c (by rw [e]; simp)]; rfl)
      subst e
      walk_at "pu"
      exact hA _ ⟨_, _, _, rfl⟩
  · rintro ρ ⟨x, y, z, rfl⟩
    exact p
local macro_rules | `(tactic| walk_at "pu") => `(tactic| simp only [↓r_qSeq, ↓r_qNext, ↓r_qBreak, ↓r_qCont, ↓r_qRet, ↓r_qRetN, ↓r_qSet, ↓r_qSetN, ↓r_qAsg, ↓r_qAug, ↓r_qApp, ↓r_qFrz, ↓r_qIf, ↓r_qDrop, ↓r_qSetIx, ↓r_qFor, ↓r_qWhile, ↓r_tst, ↓r_pOp, ↓r_pUn, ↓r_pC, ↓r_pVar, ↓r_pVarR, ↓r_pCall, ↓r_pCallD, ↓r_pCons, ↓r_pNil, ↓r_pAndT, ↓r_pOrT, ↓r_pNotT, ↓r_pTru, ↓r_pAnd, ↓r_pOr, ↓r_pNot, ↓r_pIf, ↓r_pIsN, ↓r_pChain, ↓r_pTup, ↓r_pLst, ↓r_pIsi, ↓r_pSeq, ↓r_pRange1, ↓r_pRange2, ↓r_pComp, ↓r_pYes, ↓r_gN, ↓r_listW, ↓r_tupleW, ↓ltW_int, ↓leW_int, ↓gtW_int, ↓geW_int, ↓subW_int, ↓fdivW_int, ↓modW_int, ↓powW_int, ↓atSh_shD, ↓atAny_shD, ↓atAny_owD, ↓atOwT_owD, ↓atOwL_owD, ↓atOwF_owD, ↓isBl_bl, ↓isInt_int, ↓isSome_someD, ↓isSome_noneD, ↓isIns_ins, ↓on1_1, ↓on2_2, ↓addW_int, ↓addW_ib, ↓addW_str, ↓addW_lst, ↓iaddW_int, ↓iaddW_str, ↓mulW_int, ↓mulW_lst, ↓eqW_int, ↓eqW_str, ↓eqW_bl, ↓eqW_nn, ↓eqW_ni, ↓eqW_in, ↓eqW_is, ↓eqW_si, ↓eqW_tt, ↓eqW_ll, ↓neW_int, ↓neW_str, ↓neW_bl, ↓neW_nn, ↓neW_ni, ↓neW_in, ↓neW_is, ↓neW_si, ↓neW_tt, ↓neW_ll, ↓negW_int, ↓absW_int, ↓intfW_int, ↓intfW_bl, ↓lenW_str, ↓lenW_lst, ↓lenW_klst, ↓lenW_tup, ↓max2W_mx, ↓min2W_mn, itemW_lstD, itemW_klstD, itemW_tupD, itemW_strD, asList_lst, asList_klst, asList_tup, tyN_non, tyN_bl, tyN_int, tyN_str, tyN_tup, tyN_lst, tyN_dK, tyN_dT, ↓truW_non, ↓truW_bl, ↓truW_int, ↓truW_str, ↓truW_lst, ↓truW_klst, ↓truW_tup, isNon_non, isNon_bl, isNon_int, isNon_str, isNon_tup, isNon_lst, isNon_klst, isNon_ins, isNon_dK, ↓gT_tup, ↓gConsP_cons, ↓gNilP_nil, wipeE_nil, wipeE_cons, atI_0, atI_1, atI_2, atI_3, atI_4, atI_5, atI_6, atI_7, atI_8, atI_9, ixN_0, ixN_1, ixN_2, ixN_3, ixN_4, List.getElem?_cons_zero, List.getElem?_cons_succ, List.getElem?_nil, List.set_cons_zero, List.set_cons_succ, List.length_cons, List.length_nil, List.length_map, Nat.reduceAdd, Int.reduceAdd, Nat.reduceLT, Nat.lt_irrefl, List.append_nil, List.nil_append, decide_eq_true_eq, decide_eq_false_iff_not, Bool.not_eq_true', Bool.not_true, Bool.not_false, ite_true, ite_false, if_true, if_false, Bool.false_eq_true, Bool.true_eq_false, ↓reduceIte, and_true, true_and, subT, String.reduceEq, decide_true, decide_false, Bool.or_false, Bool.false_or, Bool.or_true, Bool.true_or, Bool.and_true, Bool.and_false, Bool.true_and, Bool.false_and, Bool.or_self, Bool.and_self, ↓notTW_bl, ↓notTW_non, ↓notTW_int, ↓notTW_str, ↓notTW_tup, ↓notTW_lst, ↓notTW_klst, ↓isTW_bl, ↓isTW_non, ↓isTW_int, ↓isTW_str, ↓isTW_tup, ↓isTW_lst, ↓isTW_klst, ↓addW_tup, ↓inW_tup, ↓inW_lst, ↓inW_klst, ↓intLW_lst, ↓intLW_klst, ↓blLW_lst, ↓sliceW_lst, ↓sliceW_klst, ↓sliceW_tup, ↓sliceW_str, ↓sliceF_lst, ↓sliceF_klst, ↓catF_lst, ↓atIo_ow, asL_lst, asL_klst, ↓r_pUnD, ↓r_pSlice, ↓r_pNoPart, ↓r_pPart, ↓r_pEnum, ↓r_pZip, ↓r_pStr, ↓r_qExt, ↓r_qSetPop, ↓r_popW, ↓r_qPop, ↓r_qRev, ↓r_qClr, ↓r_qIns, ↓r_qFld, ↓r_pFld, ↓r_pMeth, ↓r_pMake, intsOf_map, blsOf_map, ↓r_sumG, List.map_map, Bool.not_not, ↓enumW_lst, ↓enumW_klst, ↓strW_str, ↓extW_lst, toV_str, toV_int, toV_bl, toV_non, flat_str, flat_int, flat_bl, flat_non, ne_ff, ne_tt, List.all_cons, List.all_nil, List.map_cons, List.map_nil, lz0, lz1, lz2, lz3, lz4, lz5, lz6, lz7, lz8, lz9, lz10, lz11, lz12, lz13, lz14, lz15, lz16, lw0, lw1, lw2, lw3, lw4, lw5, lw6, lw7, lw8, lw9, lw10, lw11, lw12, lw13, lw14, lw15, lw16, List.cons_append, Int.reduceToNat, Int.reducePow, Int.reduceLE, Int.reduceLT, Int.reduceNeg, Int.reduceSub, Int.reduceMul, Nat.reducePow, Nat.reduceLeDiff, Nat.reduceSub, Nat.reduceMul, atI_cast, ixN_cast, Int.zero_add, List.length_set, List.length_reverse, cutT_0, cutT_1, cutT_2, cutT_3, cutT_4, cutT_5, cutT_6, cutT_7, cutT_8, cutT_9, cutT_10, cutT_11, cutT_12, cutF_0, cutF_1, cutF_2, cutF_3, cutF_4, cutF_5, cutF_6, cutF_7, cutF_8, cutF_9, cutF_10, cutF_11, cutF_12, cutT_n, cutF_n, cut_nn, cutT_m1, List.take_succ_cons, List.take_zero, List.drop_succ_cons, List.drop_zero, Int.toNat_natCast, beq_tt, beq_ff, ↓r_pEnu, ↓r_pEnuK, ↓r_qRetF, ↓r_qRetO, ↓r_qForO, ↓r_pCallB, ↓r_pCallBN, hard_non, hard_bl, hard_int, hard_str, hard_tup, hards_nil, hards_cons, hardIn_lst, enumI_nil, enumI_cons, eq_self, ↓r_qAsg2, ↓r_qAsg3, ↓r_pChain3, intsOf_nil, intsOf_cons, blsOf_nil, blsOf_cons, ↓maxG_cons, ↓minG_cons, Option.map_some, Option.map_none, List.foldl_cons, List.foldl_nil, Int.cast_ofNat_Int, Int.reduceEq, Int.reduceNe, not_true_eq_false, not_false_eq_true, ↓r_pBM, ↓r_pBM0, ↓r_pGetK, ↓isStr_str, tyD_str, tyD_lst, tyD_klst, ↓s1W_str, ↓s0W_str, ↓joinW_str, joinD_eq, strsOf_map, strsOf_nil, strsOf_cons, ↓lcountW_lst, ↓lcountW_klst, ↓ltX_int, ↓leX_int, ↓gtX_int, ↓geX_int, ↓ltX_str, ↓ltX_tup, ↓leX_tup, ↓gtX_tup, ↓geX_tup, ↓inW_ch, ↓r_qUp, ↓r_qAppN, ↓r_qAppK, ↓r_pKid, ↓r_qSetL1, ↓r_qTupPop, ↓r_kidAt, ↓r_popK, ↓atO2_o2, ↓atKid_l, ↓strfW_int, ↓lindexW_lst, ↓lindexW_klst, ↓r_pStarA, ↓r_pLend, ↓r_tLend, ↓r_qAlias, ↓r_qSetC2, ↓ofLst_lst, ↓tupLW_lst, ↓tupsOf_map, ↓on3_3, ↓max3W_mx, ↓min3W_mx, atI_m1, List.getLast?_singleton, List.getLast?_cons_cons, ↓lenW_ktup, itemW_ktupD, asList_ktup, isNon_ktup, isK_tup, isK_lst, isK_klst, ↓gT_ktup, ↓isTW_ktup, ↓notTW_ktup, ↓inW_ktup, hard_ktup, tyN_ktup, ↓truW_ktup, ↓r_qDPut, ↓r_pDNewK, ↓r_pDNewT, ↓atOwA_ow, ↓dItemW_k, ↓dItemW_t, ↓dLookW_k, ↓dLookW_t, ↓dPutW_k, ↓dPutW_t, keyD_int, keyD_str, keysD_nil, keysD_int, keysD_str, ↓r_pRange3, ↓r_pProp, ↓r_pIsiO, ↓r_pOwnAdd, ↓r_pOwnEq, isO_ins, isO_non, isO_bl, isO_int, isO_str, isO_tup, isO_ktup, isO_lst, isO_dK, ↓r_qSetX, ↓r_qRetX, ↓r_qDropX, ↓r_qRaise, ↓r_qTryAs, ↓r_pXf, ↓r_pIsX, ↓r_qSetNn, ↓r_qRetNn, nonOr_non, nonOr_lst, onNon_non, excOr_exc, excOr_bl, excOr_int, excOr_str, excOr_non, excOr_lst, excOr_tup, isExo_exo, ↓r_pInK, ↓r_pAtK, ↓r_pRevL, ↓s3W_str, ↓revLW_lst, ↓revLW_klst, ↓mulSW_str, ↓r_nxOf, ↓r_rtOf, ↓r_nxIo, ↓r_rtIo, ↓r_nxNw, ↓r_rtNw, ↓r_rnNw, ↓r_rnOf, ↓atRf_rf, ↓r_lentNx, ↓r_lentRt, ↓r_nxX, ↓r_rtX, ↓r_xrX, ↓r_nxNn, ↓r_rtNn, ↓r_rnNn, ↓r_nxT, ↓r_rtT, ↓r_nxS, ↓r_rtS, ch_Tx, Tx1, lit_0, wD_mk, sT_eq, strsOf_sT, mD_mk])
local macro_rules | `(tactic| walk_at "pul") => `(tactic| simp only [↓forW_nil, ↓forW_cons, ↓compW_nil, ↓compW_cons, List.cons_append, ↓r_qSeq, ↓r_qNext, ↓r_qBreak, ↓r_qCont, ↓r_qRet, ↓r_qRetN, ↓r_qSet, ↓r_qSetN, ↓r_qAsg, ↓r_qAug, ↓r_qApp, ↓r_qFrz, ↓r_qIf, ↓r_qDrop, ↓r_qSetIx, ↓r_qFor, ↓r_qWhile, ↓r_tst, ↓r_pOp, ↓r_pUn, ↓r_pC, ↓r_pVar, ↓r_pVarR, ↓r_pCall, ↓r_pCallD, ↓r_pCons, ↓r_pNil, ↓r_pAndT, ↓r_pOrT, ↓r_pNotT, ↓r_pTru, ↓r_pAnd, ↓r_pOr, ↓r_pNot, ↓r_pIf, ↓r_pIsN, ↓r_pChain, ↓r_pTup, ↓r_pLst, ↓r_pIsi, ↓r_pSeq, ↓r_pRange1, ↓r_pRange2, ↓r_pComp, ↓r_pYes, ↓r_gN, ↓r_listW, ↓r_tupleW, ↓ltW_int, ↓leW_int, ↓gtW_int, ↓geW_int, ↓subW_int, ↓fdivW_int, ↓modW_int, ↓powW_int, ↓atSh_shD, ↓atAny_shD, ↓atAny_owD, ↓atOwT_owD, ↓atOwL_owD, ↓atOwF_owD, ↓isBl_bl, ↓isInt_int, ↓isSome_someD, ↓isSome_noneD, ↓isIns_ins, ↓on1_1, ↓on2_2, ↓addW_int, ↓addW_ib, ↓addW_str, ↓addW_lst, ↓iaddW_int, ↓iaddW_str, ↓mulW_int, ↓mulW_lst, ↓eqW_int, ↓eqW_str, ↓eqW_bl, ↓eqW_nn, ↓eqW_ni, ↓eqW_in, ↓eqW_is, ↓eqW_si, ↓eqW_tt, ↓eqW_ll, ↓neW_int, ↓neW_str, ↓neW_bl, ↓neW_nn, ↓neW_ni, ↓neW_in, ↓neW_is, ↓neW_si, ↓neW_tt, ↓neW_ll, ↓negW_int, ↓absW_int, ↓intfW_int, ↓intfW_bl, ↓lenW_str, ↓lenW_lst, ↓lenW_klst, ↓lenW_tup, ↓max2W_mx, ↓min2W_mn, itemW_lstD, itemW_klstD, itemW_tupD, itemW_strD, asList_lst, asList_klst, asList_tup, tyN_non, tyN_bl, tyN_int, tyN_str, tyN_tup, tyN_lst, tyN_dK, tyN_dT, ↓truW_non, ↓truW_bl, ↓truW_int, ↓truW_str, ↓truW_lst, ↓truW_klst, ↓truW_tup, isNon_non, isNon_bl, isNon_int, isNon_str, isNon_tup, isNon_lst, isNon_klst, isNon_ins, isNon_dK, ↓gT_tup, ↓gConsP_cons, ↓gNilP_nil, wipeE_nil, wipeE_cons, atI_0, atI_1, atI_2, atI_3, atI_4, atI_5, atI_6, atI_7, atI_8, atI_9, ixN_0, ixN_1, ixN_2, ixN_3, ixN_4, List.getElem?_cons_zero, List.getElem?_cons_succ, List.getElem?_nil, List.set_cons_zero, List.set_cons_succ, List.length_cons, List.length_nil, List.length_map, Nat.reduceAdd, Int.reduceAdd, Nat.reduceLT, Nat.lt_irrefl, List.append_nil, List.nil_append, decide_eq_true_eq, decide_eq_false_iff_not, Bool.not_eq_true', Bool.not_true, Bool.not_false, ite_true, ite_false, if_true, if_false, Bool.false_eq_true, Bool.true_eq_false, ↓reduceIte, and_true, true_and, subT, String.reduceEq, decide_true, decide_false, Bool.or_false, Bool.false_or, Bool.or_true, Bool.true_or, Bool.and_true, Bool.and_false, Bool.true_and, Bool.false_and, Bool.or_self, Bool.and_self, ↓notTW_bl, ↓notTW_non, ↓notTW_int, ↓notTW_str, ↓notTW_tup, ↓notTW_lst, ↓notTW_klst, ↓isTW_bl, ↓isTW_non, ↓isTW_int, ↓isTW_str, ↓isTW_tup, ↓isTW_lst, ↓isTW_klst, ↓addW_tup, ↓inW_tup, ↓inW_lst, ↓inW_klst, ↓intLW_lst, ↓intLW_klst, ↓blLW_lst, ↓sliceW_lst, ↓sliceW_klst, ↓sliceW_tup, ↓sliceW_str, ↓sliceF_lst, ↓sliceF_klst, ↓catF_lst, ↓atIo_ow, asL_lst, asL_klst, ↓r_pUnD, ↓r_pSlice, ↓r_pNoPart, ↓r_pPart, ↓r_pEnum, ↓r_pZip, ↓r_pStr, ↓r_qExt, ↓r_qSetPop, ↓r_popW, ↓r_qPop, ↓r_qRev, ↓r_qClr, ↓r_qIns, ↓r_qFld, ↓r_pFld, ↓r_pMeth, ↓r_pMake, intsOf_map, blsOf_map, ↓r_sumG, List.map_map, Bool.not_not, ↓enumW_lst, ↓enumW_klst, ↓strW_str, ↓extW_lst, toV_str, toV_int, toV_bl, toV_non, flat_str, flat_int, flat_bl, flat_non, ne_ff, ne_tt, List.all_cons, List.all_nil, List.map_cons, List.map_nil, lz0, lz1, lz2, lz3, lz4, lz5, lz6, lz7, lz8, lz9, lz10, lz11, lz12, lz13, lz14, lz15, lz16, lw0, lw1, lw2, lw3, lw4, lw5, lw6, lw7, lw8, lw9, lw10, lw11, lw12, lw13, lw14, lw15, lw16, List.cons_append, Int.reduceToNat, Int.reducePow, Int.reduceLE, Int.reduceLT, Int.reduceNeg, Int.reduceSub, Int.reduceMul, Nat.reducePow, Nat.reduceLeDiff, Nat.reduceSub, Nat.reduceMul, atI_cast, ixN_cast, Int.zero_add, List.length_set, List.length_reverse, cutT_0, cutT_1, cutT_2, cutT_3, cutT_4, cutT_5, cutT_6, cutT_7, cutT_8, cutT_9, cutT_10, cutT_11, cutT_12, cutF_0, cutF_1, cutF_2, cutF_3, cutF_4, cutF_5, cutF_6, cutF_7, cutF_8, cutF_9, cutF_10, cutF_11, cutF_12, cutT_n, cutF_n, cut_nn, cutT_m1, List.take_succ_cons, List.take_zero, List.drop_succ_cons, List.drop_zero, Int.toNat_natCast, beq_tt, beq_ff, ↓r_pEnu, ↓r_pEnuK, ↓r_qRetF, ↓r_qRetO, ↓r_qForO, ↓r_pCallB, ↓r_pCallBN, hard_non, hard_bl, hard_int, hard_str, hard_tup, hards_nil, hards_cons, hardIn_lst, enumI_nil, enumI_cons, eq_self, ↓r_qAsg2, ↓r_qAsg3, ↓r_pChain3, intsOf_nil, intsOf_cons, blsOf_nil, blsOf_cons, ↓maxG_cons, ↓minG_cons, Option.map_some, Option.map_none, List.foldl_cons, List.foldl_nil, Int.cast_ofNat_Int, Int.reduceEq, Int.reduceNe, not_true_eq_false, not_false_eq_true, ↓r_pBM, ↓r_pBM0, ↓r_pGetK, ↓isStr_str, tyD_str, tyD_lst, tyD_klst, ↓s1W_str, ↓s0W_str, ↓joinW_str, joinD_eq, strsOf_map, strsOf_nil, strsOf_cons, ↓lcountW_lst, ↓lcountW_klst, ↓ltX_int, ↓leX_int, ↓gtX_int, ↓geX_int, ↓ltX_str, ↓ltX_tup, ↓leX_tup, ↓gtX_tup, ↓geX_tup, ↓inW_ch, ↓r_qUp, ↓r_qAppN, ↓r_qAppK, ↓r_pKid, ↓r_qSetL1, ↓r_qTupPop, ↓r_kidAt, ↓r_popK, ↓atO2_o2, ↓atKid_l, ↓strfW_int, ↓lindexW_lst, ↓lindexW_klst, ↓r_pStarA, ↓r_pLend, ↓r_tLend, ↓r_qAlias, ↓r_qSetC2, ↓ofLst_lst, ↓tupLW_lst, ↓tupsOf_map, ↓on3_3, ↓max3W_mx, ↓min3W_mx, atI_m1, List.getLast?_singleton, List.getLast?_cons_cons, ↓lenW_ktup, itemW_ktupD, asList_ktup, isNon_ktup, isK_tup, isK_lst, isK_klst, ↓gT_ktup, ↓isTW_ktup, ↓notTW_ktup, ↓inW_ktup, hard_ktup, tyN_ktup, ↓truW_ktup, ↓r_qDPut, ↓r_pDNewK, ↓r_pDNewT, ↓atOwA_ow, ↓dItemW_k, ↓dItemW_t, ↓dLookW_k, ↓dLookW_t, ↓dPutW_k, ↓dPutW_t, keyD_int, keyD_str, keysD_nil, keysD_int, keysD_str, ↓r_pRange3, ↓r_pProp, ↓r_pIsiO, ↓r_pOwnAdd, ↓r_pOwnEq, isO_ins, isO_non, isO_bl, isO_int, isO_str, isO_tup, isO_ktup, isO_lst, isO_dK, ↓r_qSetX, ↓r_qRetX, ↓r_qDropX, ↓r_qRaise, ↓r_qTryAs, ↓r_pXf, ↓r_pIsX, ↓r_qSetNn, ↓r_qRetNn, nonOr_non, nonOr_lst, onNon_non, excOr_exc, excOr_bl, excOr_int, excOr_str, excOr_non, excOr_lst, excOr_tup, isExo_exo, ↓r_pInK, ↓r_pAtK, ↓r_pRevL, ↓s3W_str, ↓revLW_lst, ↓revLW_klst, ↓mulSW_str, ↓r_nxOf, ↓r_rtOf, ↓r_nxIo, ↓r_rtIo, ↓r_nxNw, ↓r_rtNw, ↓r_rnNw, ↓r_rnOf, ↓atRf_rf, ↓r_lentNx, ↓r_lentRt, ↓r_nxX, ↓r_rtX, ↓r_xrX, ↓r_nxNn, ↓r_rtNn, ↓r_rnNn, ↓r_nxT, ↓r_rtT, ↓r_nxS, ↓r_rtS, ch_Tx, Tx1, lit_0, wD_mk, sT_eq, strsOf_sT, mD_mk])
def txs (ts : List Mk0) : List (List Nat) := ts.map fun t => t.2.2
theorem txs_flat : ∀ ts : List Mk0, (txs ts).flatten = flat0 ts
  | [] => rfl
  | t :: ts => by
    have := txs_flat ts
    unfold txs at this ⊢
    rw [List.map_cons, List.flatten_cons, this]; rfl
theorem txs_map (ts : List Mk0) : (ts.map fun t => sT t.2.2) = (txs ts).map sT := by
  unfold txs
  rw [List.map_map]
  rfl
theorem placed_snoc : ∀ (a : List Nat) (ts : List Mk0) (t : Mk0), placed a (ts ++ [t]) = placed a ts ++ [(t.1, t.2.1, 1 + (((a ++ flat0 ts).count 10 : Nat) : Int), (a ++ flat0 ts).length - lastC 10 (a ++ flat0 ts))]
  | a, [], t => by simp [placed, flat0]
  | a, u :: ts, t => by
    rw [List.cons_append, placed, placed_snoc, placed, List.cons_append, flat0]
    simp only [List.append_assoc]
/-- the forms of the made tokens -/
def frms (ts : List Mk0) : List (List Nat) := ts.map fun t => form t.1 t.2.1
theorem frms_map (ts : List Mk0) : (ts.map fun t => sT (form t.1 t.2.1)) = (frms ts).map sT := by
  unfold frms
  rw [List.map_map]
  rfl
theorem one_not {k : Str} {c : Nat} (h : (k, c) ∈ [(("open" : Str), 123), ("shut", 125), ("dollar", 36), ("tie", 126), ("amp", 38), ("up", 94), ("down", 95)]) : k ≠ "name" ∧ k ≠ "word" ∧ k ≠ "blank" ∧ k ≠ "par" := by
  simp only [List.mem_cons, List.not_mem_nil, or_false, Prod.mk.injEq] at h
  rcases h with ⟨rfl, _⟩ | ⟨rfl, _⟩ | ⟨rfl, _⟩ | ⟨rfl, _⟩ | ⟨rfl, _⟩ | ⟨rfl, _⟩ | ⟨rfl, _⟩ <;> decide +kernel
theorem word_of {k : Str} {v t s : List Nat} (h : Tok1 k v t s) (hk : k = "word") : t = v := by
  cases h <;> first | rfl | exact absurd hk (by decide +kernel) | exact absurd hk (one_not (by assumption)).2.1
theorem val_len {k : Str} {v t s : List Nat} (h : Tok1 k v t s) : v ≠ [] ∧ v.length ≤ t.length + 1 := by
  obtain ⟨c, r, e⟩ := tok_head h
  have hl : 1 ≤ t.length := by rw [e]; simp
  cases h <;> refine ⟨?_, ?_⟩ <;> first | assumption | (simp only [List.length_cons, List.length_nil] at *; omega) | simp
theorem joined_made : ∀ (ts : List Mk0) (a : List Nat) (b : Bool), Good ts → (b = true → Off chL (flat0 ts)) → joined b (placed a ts) = (frms ts).flatten
  | [], _, _, _, _ => rfl
  | (k, v, tx) :: ts, a, b, hg, hb => by
    have ih := joined_made ts (a ++ tx) (decide (k = "name")) hg.2 (fun h => by
      have h1 := hg.1
      rw [decide_eq_true_eq] at h
      simp only at h1
      cases h1 <;> first | exact absurd h (by decide +kernel) | assumption | skip
      rename_i h1
      exfalso
      simp only [List.mem_cons, List.not_mem_nil, or_false, Prod.mk.injEq] at h1
      subst h
      rcases h1 with ⟨q, _⟩ | ⟨q, _⟩ | ⟨q, _⟩ | ⟨q, _⟩ | ⟨q, _⟩ | ⟨q, _⟩ | ⟨q, _⟩ <;> exact absurd q (by decide +kernel))
    rw [placed, joined, ih]
    unfold frms
    rw [List.map_cons, List.flatten_cons, if_neg]
    · rfl
    · rintro ⟨hb1, hk, c, hc, hcL⟩
      have ho := hb hb1
      have h1 := hg.1
      simp only at h1 hk hc
      subst hk
      have e := word_of h1 rfl
      subst e
      cases tx with
      | nil => cases hc
      | cons d tx =>
        cases hc
        exact ho hcL
theorem placed_ok : ∀ (a : List Nat) (ts : List Mk0), Good ts → (∀ t, t ∈ placed a ts → t.2.1 ≠ []) ∧ ((placed a ts).map fun t => t.2.1.length + 2).sum ≤ (flat0 ts).length + 3 * ts.length
  | _, [], _ => ⟨(fun t h => nomatch h), Nat.le_refl _⟩
  | a, t :: ts, hg => by
    obtain ⟨h1, h2⟩ := placed_ok (a ++ t.2.2) ts hg.2
    obtain ⟨h3, h4⟩ := val_len hg.1
    have hm : ∀ u, u ∈ placed a (t :: ts) → u.2.1 ≠ [] := fun u hu => by
      rcases List.mem_cons.1 hu with q | hu
      · rw [q]; exact h3
      · exact h1 u hu
    refine ⟨hm, ?_⟩
    · rw [placed, List.map_cons, List.sum_cons, flat0, List.length_append, List.length_cons]
      simp only at h4 ⊢
      omega
theorem sum_filt {α : Type} (f : α → Nat) (p : α → Bool) : ∀ l : List α, ((l.filter p).map f).sum ≤ (l.map f).sum
  | [] => Nat.le_refl _
  | x :: l => by
    have := sum_filt f p l
    rw [List.filter_cons]
    split <;> simp only [List.map_cons, List.sum_cons] <;> omega
theorem sum_rev {α : Type} (f : α → Nat) : ∀ l : List α, (l.reverse.map f).sum = (l.map f).sum
  | [] => rfl
  | x :: l => by
    rw [List.reverse_cons, List.map_append, List.sum_append, sum_rev f l]
    simp only [List.map_cons, List.sum_cons, List.map_nil, List.sum_nil]
    omega
def keepB (t : Wk) : Bool := !decide (t.1 = ("blank" : Str) ∨ t.1 = "par")
structure WOk0 (ts : List Wk) : Prop where
  len : ts.length ≤ 1100
  ne : ∀ t, t ∈ ts → t.2.1 ≠ []
  sum : (ts.map fun t => t.2.1.length + 2).sum ≤ 910000
def five : List Wk := [("name", [65, 98], 9, 1), ("word", [99, 45], 2, 7), ("word", [100], 1, 1), ("name", [101], 1, 1), ("word", [49, 102], 1, 1)]
theorem five_ok {ts : List Wk} (h : WOk0 ts) : WOk (ts ++ five) := by
  refine ⟨?_, ?_, ?_⟩
  · have := h.len
    rw [List.length_append]
    show ts.length + 5 ≤ _
    omega
  · intro t ht
    rcases List.mem_append.1 ht with ht | ht
    · exact h.ne t ht
    · have : ∀ t, t ∈ five → t.2.1 ≠ [] := by decide +kernel
      exact this t ht
  · rw [List.map_append, List.sum_append]
    have := h.sum
    show _ + 18 ≤ _
    omega
theorem good_mem : ∀ {ts : List Mk0} {t : Mk0}, Good ts → t ∈ ts → (∃ s, Tok1 t.1 t.2.1 t.2.2 s) ∧ t.2.2.length ≤ (flat0 ts).length
  | u :: ts, t, hg, h => by
    rw [flat0, List.length_append]
    rcases List.mem_cons.1 h with rfl | h
    · exact ⟨⟨_, hg.1⟩, by omega⟩
    · have := good_mem hg.2 h
      exact ⟨this.1, by omega⟩
theorem len_law (ds : List D) (R : DK) (h : c_law ds R) : ds.length = 1 := by
  obtain ⟨_, rfl, _⟩ := h; rfl
theorem pure_law (ds : List D) (R : DK) (h : c_law ds R) : q_law (endOf R) (startE N_law ds) := by
  obtain ⟨ns, rfl, hns, p⟩ := h
  rw [st_law]
  unfold q_law
  walk_at "pu"
  refine ⟨ns, rfl, by omega, ?_⟩
  walk_at "pu"
  refine ⟨rfl, fun ts hg hl hf => ?_⟩
  walk_at "pu"
  refine compI_map mD (fun t => sT t.2.2) ts rfl (lsz (by omega)) (fun t ht Q hQ => ?_) ?_
  · obtain ⟨k, v, tx⟩ := t
    walk_at "pu"
    exact hQ
  rw [txs_map]
  walk_at "pu"
  rw [lens_T2]
  have hsum : ((txs ts).map List.length).sum = (flat0 ts).length := by rw [← List.length_flatten, txs_flat]
  rw [hsum, join_Tx, txs_flat]
  have hz : (Tx (flat0 ts)).length ≤ sizeLine := sz_Tx hf (by omega)
  refine ⟨by rw [Tx_len]; simp only [List.length_nil, Nat.mul_zero]; omega, ?_⟩
  refine forI_list mD ts (fun done rest ρ => ∃ x, ρ = [some (.sh (.klst (ns.map D.int))), some (.sh .pool), some (.sh (.lst (ts.map mD))), some (.sh (sT (flat0 ts))), some (.ow true (.lst ((placed [] done).map wD))), some (.sh (.int (flat0 done).length)), x, none, none, none]) rfl ⟨_, rfl⟩ ?_ ?_
  · rintro done ⟨k, v, tx⟩ rest ρ e ⟨x, rfl⟩ A hA
    unfold b_law_1
    walk_at "pu"
    refine ⟨flat0 done, tx ++ flat0 rest, by rw [e, flat0_app]; rfl, by rw [← List.append_assoc]; simp only [e, flat0_app, flat0, List.length_append] at hf ⊢; omega, ?_⟩
    walk_at "pu"
    have hd : done.length < ts.length := by rw [e]; simp
    have htx : tx.length ≤ (flat0 ts).length := by rw [e, flat0_app]; simp [flat0]; omega
    rw [placed_len]
    refine ⟨lszl (by omega), sz_Tx (n := 900000) (by omega) (by omega), hA _ ⟨some (.sh (mD (k, v, tx))), ?_⟩⟩
    rw [placed_snoc, flat0_app, Tx_len, List.nil_append]
    simp only [List.map_append, List.length_append, flat0, List.append_nil, Int.natCast_add]
    rfl
  · rintro ρ ⟨x, rfl⟩
    have hW : (placed [] ts).length ≤ 1200 := by rw [placed_len]; omega
    walk_at "pu"
    refine ⟨ts, rfl, by omega, hg, ?_⟩
    walk_at "pu"
    refine ⟨_, _, rfl, sm_ts hW, sm_ts hW, fun r hr => ?_⟩
    have e : r = true := hr.2 (same_refl (sm_ts hW))
    subst e
    walk_at "pu"
    rw [placed_len]
    refine ⟨lszl (by omega), ts, rfl, by omega, hg, ?_⟩
    walk_at "pu"
    refine ⟨_, _, rfl, sm_ts hW, sm_ts hW, fun r hr => ?_⟩
    have e : r = true := hr.2 (same_refl (sm_ts hW))
    subst e
    walk_at "pu"
    obtain ⟨hne, hsm⟩ := placed_ok [] ts hg
    have hok : WOk0 (placed [] ts) := ⟨by rw [placed_len]; exact hl, hne, by omega⟩
    refine forI_list wD (placed [] ts) (fun _ _ ρ => ∃ y, ρ = [some (Sl.sh (D.klst (List.map D.int ns))), some (Sl.sh D.pool), some (Sl.sh (D.lst (List.map mD ts))), some (Sl.sh (D.str (Tx (flat0 ts)))), some (Sl.sh (D.lst (List.map wD (placed [] ts)))), some (Sl.sh (D.int ↑(flat0 ts).length)), x,  some (Sl.ow true (D.lst ((List.map wD (placed [] ts)).reverse ++ [D.non]))), y, none]) rfl ⟨_, rfl⟩ ?_ ?_
    · rintro done ⟨k, v, l, c⟩ rest ρ e ⟨y, rfl⟩ A hA
      unfold b_law_2
      walk_at "pu"
      have hm : (k, v, l, c) ∈ placed [] ts := by rw [e]; simp
      have hv : v.length + 2 ≤ 910000 := by
        have h1 := le_sum (f := fun t : Wk => t.2.1.length + 2) hm
        have h2 := hok.sum
        simp only at h1
        omega
      have hfl := form_len k v
      refine ⟨(k, v, l, c), rfl, by simp only; omega, k, v, _, rfl, by omega, ?_⟩
      walk_at "pu"
      refine ⟨sz_Tx (n := 910000) (by omega) (by omega), _, _, rfl, trivial, trivial, fun r hr => ?_⟩
      have e : r = true := hr.2 (by rw [Tx_len]; rfl)
      subst e
      walk_at "pu"
      exact hA _ ⟨_, rfl⟩
    · rintro ρ ⟨y, rfl⟩
      walk_at "pu"
      refine compI_filt wD wD keepB (placed [] ts) rfl (lsz (by omega)) (fun t ht Q Rr hQ => ?_) ?_
      · obtain ⟨k, v, l, c⟩ := t
        walk_at "pu"
        have hk : (inV (V.str k) [V.str "blank", V.str "par"] = true ↔ (k = "blank" ∨ k = "par")) := inV2
        by_cases q : k = "blank" ∨ k = "par"
        · rw [if_neg (by rw [hk.2 q]; decide)]
          simpa [q, keepB, wD] using hQ
        · rw [if_pos (by rw [Bool.eq_false_iff]; exact fun w => q (hk.1 w))]
          simpa [q, keepB, wD] using hQ
      walk_at "pu"
      refine drawS (by omega) (by omega) fun r r0 r1 => ?_
      walk_at "pu"
      have e5 : [D.tup [D.str "name", D.str "Ab", D.int 9, D.int 1], D.tup [D.str "word", D.str "c-", D.int 2, D.int 7], D.tup [D.str "word", D.str "d", D.int 1, D.int 1], D.tup [D.str "name", D.str "e", D.int 1, D.int 1], D.tup [D.str "word", D.str "1f", D.int 1, D.int 1]] = five.map wD := rfl
      rw [e5]
      split
      · rw [← List.map_reverse, ← List.map_append]
        have hv := five_ok (ts := (placed [] ts).reverse) ⟨by rw [List.length_reverse]; exact hok.len, fun t ht => hok.ne t (List.mem_reverse.1 ht), by rw [sum_rev]; exact hok.sum⟩
        generalize (placed [] ts).reverse ++ five = vs at hv ⊢
        refine ⟨lsz (by omega), ?_⟩
        refine compI_map mD (fun t => sT (form t.1 t.2.1)) ts rfl (lsz (by omega)) (fun t ht Q hQ => ?_) ?_
        · obtain ⟨⟨s, h1⟩, h2⟩ := good_mem hg ht
          obtain ⟨k, v, tx⟩ := t
          have := val_len h1
          simp only at this h2
          walk_at "pu"
          exact ⟨k, v, _, rfl, by omega, hQ⟩
        rw [frms_map]
        walk_at "pu"
        have hj := joined_made ts [] false hg (fun h => by cases h)
        have hjl := joined_len false (placed [] ts)
        have hsum2 : ((frms ts).map List.length).sum = (joined false (placed [] ts)).length := by rw [hj, List.length_flatten]
        rw [lens_T2, hsum2, join_Tx, ← hj]
        refine ⟨by rw [Tx_len]; simp only [List.length_nil, Nat.mul_zero]; omega, ?_⟩
        refine ⟨placed [] ts, rfl, ⟨hW, hne, by omega⟩, ?_⟩
        walk_at "pu"
        refine ⟨vs, rfl, hv, vs, rfl, hv, ?_⟩
        walk_at "pu"
        exact ⟨rfl, rfl, p⟩
      · rw [← List.map_append]
        have hv := five_ok (ts := (placed [] ts).filter keepB) ⟨Nat.le_trans (List.length_filter_le ..) hok.len, fun t ht => hok.ne t (List.mem_filter.1 ht).1, Nat.le_trans (sum_filt _ _ _) hok.sum⟩
        have hlf := List.length_filter_le keepB (placed [] ts)
        generalize ((placed [] ts).filter keepB) ++ five = vs at hv ⊢
        refine ⟨lsz (by omega), ?_⟩
        refine compI_map mD (fun t => sT (form t.1 t.2.1)) ts rfl (lsz (by omega)) (fun t ht Q hQ => ?_) ?_
        · obtain ⟨⟨s, h1⟩, h2⟩ := good_mem hg ht
          obtain ⟨k, v, tx⟩ := t
          have := val_len h1
          simp only at this h2
          walk_at "pu"
          exact ⟨k, v, _, rfl, by omega, hQ⟩
        rw [frms_map]
        walk_at "pu"
        have hj := joined_made ts [] false hg (fun h => by cases h)
        have hjl := joined_len false (placed [] ts)
        have hsum2 : ((frms ts).map List.length).sum = (joined false (placed [] ts)).length := by rw [hj, List.length_flatten]
        rw [lens_T2, hsum2, join_Tx, ← hj]
        refine ⟨by rw [Tx_len]; simp only [List.length_nil, Nat.mul_zero]; omega, ?_⟩
        refine ⟨placed [] ts, rfl, ⟨hW, hne, by omega⟩, ?_⟩
        walk_at "pu"
        refine ⟨vs, rfl, hv, vs, rfl, hv, ?_⟩
        walk_at "pu"
        exact ⟨rfl, rfl, p⟩
end Gly
namespace Gly
open PySem PySem.Spec L2 Pu
def topS (i : Nat) : Stmt := PySem.Challenge.pw_galleywork_k00_tokens_of_a_text.main.body.getD i (.Pass ⟨0, 0, 0, 0⟩)
abbrev s_is_word_char : Stmt := topS 6
abbrev s_is_letter : Stmt := topS 7
abbrev s_is_digit : Stmt := topS 8
abbrev s_sign_kind : Stmt := topS 9
abbrev s_tokenize : Stmt := topS 16
abbrev s_token_at : Stmt := topS 17
abbrev s_param_at : Stmt := topS 18
abbrev s_escape_at : Stmt := topS 19
abbrev s_run_end : Stmt := topS 20
abbrev s_written : Stmt := topS 21
abbrev s_size_of : Stmt := topS 22
abbrev s_written_token : Stmt := topS 23
abbrev s_law_pool : Stmt := topS 25
abbrev s_law_draw : Stmt := topS 26
abbrev s_law_pick : Stmt := topS 27
abbrev s_law_rare : Stmt := topS 28
abbrev s_law_few : Stmt := topS 29
abbrev s_law_same : Stmt := topS 30
abbrev s_law_letters : Stmt := topS 31
abbrev s_law_marks : Stmt := topS 32
abbrev s_law_run : Stmt := topS 33
abbrev s_law_token : Stmt := topS 34
abbrev s_law_tokens : Stmt := topS 35
abbrev s_law_spot : Stmt := topS 36
abbrev s_law_form : Stmt := topS 37
abbrev s_law_joined : Stmt := topS 38
abbrev s_law_writes : Stmt := topS 39
abbrev s_law_tables : Stmt := topS 40
abbrev s_law_kinds : Stmt := topS 41
abbrev s_law : Stmt := topS 42
section
variable {P : Program} {w : World} {K : PySem.W.Frag} {mg : Str → Option Value} {base : Heap} {f : Addr} {fd : FuncData}
theorem sc_is_word_char : FnScope N_is_word_char ["char"] (defScope s_is_word_char) := ⟨rfl, rfl, rfl, by decide +kernel, rfl, by decide +kernel, by decide +kernel⟩
theorem ok_is_word_char (F : Fun K "is_word_char" "is_word_char" s_is_word_char f fd) {t_WORD_CHARS : Tok} (m_WORD_CHARS : mg "WORD_CHARS" = some (.str "abcdefghijklmnopqrstuvwxyzABCDEFGHIJKLMNOPQRSTUVWXYZ0123456789!\"'()*+,-./:;<=>?\x40[]`|" t_WORD_CHARS)) : FnOk P w K mg base CX0 1 f fd ["char"] (spOf K c_is_word_char) := by
  have nd := (sc_is_word_char).nd
  refine fn_ok F sc_is_word_char (len_is_word_char) (fun cdv A outer s H E hr => ⟨q_is_word_char, ?_, pure_is_word_char⟩)
  exact (s_one (s_ret (e_cmp (o_in (u65 hr)) (r_var 0) (e_globS m_WORD_CHARS).r)))
theorem sc_is_letter : FnScope N_is_letter ["char"] (defScope s_is_letter) := ⟨rfl, rfl, rfl, by decide +kernel, rfl, by decide +kernel, by decide +kernel⟩
theorem ok_is_letter (F : Fun K "is_letter" "is_letter" s_is_letter f fd) {t_LETTERS : Tok} (m_LETTERS : mg "LETTERS" = some (.str "abcdefghijklmnopqrstuvwxyzABCDEFGHIJKLMNOPQRSTUVWXYZ" t_LETTERS)) : FnOk P w K mg base CX0 1 f fd ["char"] (spOf K c_is_letter) := by
  have nd := (sc_is_letter).nd
  refine fn_ok F sc_is_letter (len_is_letter) (fun cdv A outer s H E hr => ⟨q_is_letter, ?_, pure_is_letter⟩)
  exact (s_one (s_ret (e_cmp (o_in (u65 hr)) (r_var 0) (e_globS m_LETTERS).r)))
theorem sc_is_digit : FnScope N_is_digit ["char"] (defScope s_is_digit) := ⟨rfl, rfl, rfl, by decide +kernel, rfl, by decide +kernel, by decide +kernel⟩
theorem ok_is_digit (F : Fun K "is_digit" "is_digit" s_is_digit f fd) {t_DIGITS : Tok} (m_DIGITS : mg "DIGITS" = some (.str "0123456789" t_DIGITS)) : FnOk P w K mg base CX0 1 f fd ["char"] (spOf K c_is_digit) := by
  have nd := (sc_is_digit).nd
  refine fn_ok F sc_is_digit (len_is_digit) (fun cdv A outer s H E hr => ⟨q_is_digit, ?_, pure_is_digit⟩)
  exact (s_one (s_ret (e_cmp (o_in (u65 hr)) (r_var 0) (e_globS m_DIGITS).r)))
theorem sc_sign_kind : FnScope N_sign_kind ["char"] (defScope s_sign_kind) := ⟨rfl, rfl, rfl, by decide +kernel, rfl, by decide +kernel, by decide +kernel⟩
theorem ok_sign_kind (F : Fun K "sign_kind" "sign_kind" s_sign_kind f fd) {a_SIGN_KINDS : Addr} (m_SIGN_KINDS : mg "_SIGN_KINDS" = some (.ref a_SIGN_KINDS)) (kt_SIGN_KINDS : KTab K w a_SIGN_KINDS ks_SIGN_KINDS ds_SIGN_KINDS) : FnOk P w K mg base CX0 1 f fd ["char"] (spOf K c_sign_kind) := by
  have nd := (sc_sign_kind).nd
  refine fn_ok F sc_sign_kind (len_sign_kind) (fun cdv A outer s H E hr => ⟨q_sign_kind, ?_, pure_sign_kind⟩)
  exact (s_one (s_ret (e_getK (pe_globA m_SIGN_KINDS) kt_SIGN_KINDS (r_var 0) e_str)))
theorem sc_tokenize : FnScope N_tokenize ["text"] (defScope s_tokenize) := ⟨rfl, rfl, rfl, by decide +kernel, rfl, by decide +kernel, by decide +kernel⟩
theorem ok_tokenize (F : Fun K "tokenize" "tokenize" s_tokenize f fd) {f_token_at : Addr} {fd_token_at : FuncData} (G_token_at : FnOk P w K mg base CX0 3 f_token_at fd_token_at ["text", "at", "line", "column"] (spOf K c_token_at)) (m_token_at : mg "_token_at" = some (.ref f_token_at)) (k_token_at : PySem.W.keepIn K (.ref f_token_at) = true) (b_token_at : Binds K fd_token_at ["text", "at", "line", "column"] []) (z_len : mg "len" = none) : FnOk P w K mg base CX0 4 f fd ["text"] (spNw K c_tokenize) := by
  have nd := (sc_tokenize).nd
  refine fn_okN F sc_tokenize (len_tokenize) (fun cdv A outer s H E hr => ⟨q_tokenize, ?_, pure_tokenize⟩)
  exact (s_cons (s_setN (i := 1) nd (f_lst a_nil))
  (s_cons (s_set (i := 2) nd e_int)
  (s_cons (s_set (i := 3) nd e_int)
  (s_cons (s_set (i := 4) nd e_int)
  (s_cons (s_while PassesOwn.never (t_cmp (o_ltX (u65 hr)) (r_var 2) (e_callB c_len (by rfl) z_len PySem.boot_len (ar_cons (r_var 0) ar_nil)).r) (s_cons (s_asg (e_call G_token_at (hr.mono (by decide)) m_token_at k_token_at b_token_at (a_cons (e_var 0) (a_cons (e_var 2) (a_cons (e_var 3) (a_cons (e_var 4) a_nil))))) (g_tup rfl (gs_cons (g_name (i := 5) nd) (gs_cons (g_name (i := 6) nd) (gs_cons (g_name (i := 7) nd) gs_nil))) (n := 3)))
  (s_cons (s_app (pe_bm PySem.F.plainAttrs_list PySem.F.slot_list_append PySem.F.type_list_append mt_append (pv 1) (pa_cons (e_tup (a_cons (e_var 5) (a_cons (e_var 6) (a_cons (e_var 3) (a_cons (e_var 4) a_nil))))) pa_nil)))
  (s_cons (s_set (i := 8) nd (e_bm m_count PySem.F.plainAttrs_str PySem.F.slot_str_count PySem.F.type_str_count (e_slice (r_var 0) (o_some (r_var 2)) (o_some (r_var 7))).r (ar_cons e_str.r ar_nil)))
  (s_cons (s_if (t_cmp (o_gtX (u65 hr)) (r_var 8) e_int.r) (s_cons (s_aug (i := 3) nd io_add (r_var 8))
  (s_one (s_set (i := 4) nd (e_bin o_sub (r_var 7) (e_bm m_rfind3 PySem.F.plainAttrs_str PySem.F.slot_str_rfind PySem.F.type_str_rfind (r_var 0) (ar_cons e_str.r (ar_cons (r_var 2) (ar_cons (r_var 7) ar_nil)))).r)))) (s_one (s_aug (i := 4) nd io_add (e_bin o_sub (r_var 7) (r_var 2)).r)))
  (s_one (s_set (i := 2) nd (e_var 7))))))))
  (s_one (s_retO (pv 1))))))))
theorem sc_token_at : FnScope N_token_at ["text", "at", "line", "column"] (defScope s_token_at) := ⟨rfl, rfl, rfl, by decide +kernel, rfl, by decide +kernel, by decide +kernel⟩
theorem ok_token_at (F : Fun K "_token_at" "_token_at" s_token_at f fd) {f_is_word_char : Addr} {fd_is_word_char : FuncData} (G_is_word_char : FnOk P w K mg base CX0 1 f_is_word_char fd_is_word_char ["char"] (spOf K c_is_word_char)) (m_is_word_char : mg "is_word_char" = some (.ref f_is_word_char)) (k_is_word_char : PySem.W.keepIn K (.ref f_is_word_char) = true) (b_is_word_char : Binds K fd_is_word_char ["char"] []) {f_run_end : Addr} {fd_run_end : FuncData} (G_run_end : FnOk P w K mg base CX0 1 f_run_end fd_run_end ["text", "at", "chars"] (spOf K c_run_end)) (m_run_end : mg "_run_end" = some (.ref f_run_end)) (k_run_end : PySem.W.keepIn K (.ref f_run_end) = true) (b_run_end : Binds K fd_run_end ["text", "at", "chars"] []) {f_param_at : Addr} {fd_param_at : FuncData} (G_param_at : FnOk P w K mg base CX0 1 f_param_at fd_param_at ["text", "at", "line", "column"] (spOf K c_param_at)) (m_param_at : mg "_param_at" = some (.ref f_param_at)) (k_param_at : PySem.W.keepIn K (.ref f_param_at) = true) (b_param_at : Binds K fd_param_at ["text", "at", "line", "column"] []) {f_escape_at : Addr} {fd_escape_at : FuncData} (G_escape_at : FnOk P w K mg base CX0 2 f_escape_at fd_escape_at ["text", "at", "line", "column"] (spOf K c_escape_at)) (m_escape_at : mg "_escape_at" = some (.ref f_escape_at)) (k_escape_at : PySem.W.keepIn K (.ref f_escape_at) = true) (b_escape_at : Binds K fd_escape_at ["text", "at", "line", "column"] []) {a_SINGLES : Addr} (m_SINGLES : mg "_SINGLES" = some (.ref a_SINGLES)) (kt_SINGLES : KTab K w a_SINGLES ks_SINGLES ds_SINGLES) {t_WORD_CHARS : Tok} (m_WORD_CHARS : mg "WORD_CHARS" = some (.str "abcdefghijklmnopqrstuvwxyzABCDEFGHIJKLMNOPQRSTUVWXYZ0123456789!\"'()*+,-./:;<=>?\x40[]`|" t_WORD_CHARS)) : FnOk P w K mg base CX0 3 f fd ["text", "at", "line", "column"] (spOf K c_token_at) := by
  have nd := (sc_token_at).nd
  refine fn_ok F sc_token_at (len_token_at) (fun cdv A outer s H E hr => ⟨q_token_at, ?_, pure_token_at⟩)
  exact (s_cons (s_set (i := 4) nd (e_ix (r_var 0) (r_var 1)))
  (s_cons (s_if (t_inK (pe_globA m_SINGLES) kt_SINGLES (r_var 4)) (s_one (s_ret (e_tup (a_cons (e_atK (pe_globA m_SINGLES) kt_SINGLES (r_var 4)) (a_cons (e_var 4) (a_cons (e_bin o_add (r_var 1) e_int.r) a_nil)))))) s_nil)
  (s_cons (s_if (t_tru (e_call G_is_word_char (hr.mono (by decide)) m_is_word_char k_is_word_char b_is_word_char (a_cons (e_var 4) a_nil)).r) (s_cons (s_set (i := 5) nd (e_call G_run_end (hr.mono (by decide)) m_run_end k_run_end b_run_end (a_cons (e_var 0) (a_cons (e_var 1) (a_cons (e_globS m_WORD_CHARS) a_nil)))))
  (s_one (s_ret (e_tup (a_cons e_str (a_cons (e_slice (r_var 0) (o_some (r_var 1)) (o_some (r_var 5))) (a_cons (e_var 5) a_nil))))))) s_nil)
  (s_cons (s_if (t_bool (w_or (t_cmp (o_eq hr.units) (r_var 4) e_str.r) (w_or1 (t_cmp (o_eq hr.units) (r_var 4) e_str.r)))) (s_cons (s_set (i := 5) nd (e_call G_run_end (hr.mono (by decide)) m_run_end k_run_end b_run_end (a_cons (e_var 0) (a_cons (e_var 1) (a_cons e_str a_nil)))))
  (s_cons (s_if (t_cmp (o_gtX (u65 hr)) (e_bm m_count PySem.F.plainAttrs_str PySem.F.slot_str_count PySem.F.type_str_count (e_slice (r_var 0) (o_some (r_var 1)) (o_some (r_var 5))).r (ar_cons e_str.r ar_nil)).r e_int.r) (s_one (s_ret (e_tup (a_cons e_str (a_cons e_str (a_cons (e_var 5) a_nil)))))) s_nil)
  (s_one (s_ret (e_tup (a_cons e_str (a_cons e_str (a_cons (e_var 5) a_nil)))))))) s_nil)
  (s_cons (s_if (t_cmp (o_eq hr.units) (r_var 4) e_str.r) (s_one (s_ret (e_call G_param_at (hr.mono (by decide)) m_param_at k_param_at b_param_at (a_cons (e_var 0) (a_cons (e_var 1) (a_cons (e_var 2) (a_cons (e_var 3) a_nil))))))) s_nil)
  (s_cons (s_if (t_cmp (o_eq hr.units) (r_var 4) e_str.r) (s_one (s_ret (e_call G_escape_at (hr.mono (by decide)) m_escape_at k_escape_at b_escape_at (a_cons (e_var 0) (a_cons (e_var 1) (a_cons (e_var 2) (a_cons (e_var 3) a_nil))))))) s_nil)
  (s_one s_never)))))))
theorem sc_param_at : FnScope N_param_at ["text", "at", "line", "column"] (defScope s_param_at) := ⟨rfl, rfl, rfl, by decide +kernel, rfl, by decide +kernel, by decide +kernel⟩
theorem ok_param_at (F : Fun K "_param_at" "_param_at" s_param_at f fd)  : FnOk P w K mg base CX0 1 f fd ["text", "at", "line", "column"] (spOf K c_param_at) := by
  have nd := (sc_param_at).nd
  refine fn_ok F sc_param_at (len_param_at) (fun cdv A outer s H E hr => ⟨q_param_at, ?_, pure_param_at⟩)
  exact (s_cons (s_set (i := 4) nd (e_slice (r_var 0) (o_some (e_bin o_add (r_var 1) e_int.r).r) (o_some (e_bin o_add (r_var 1) e_int.r).r)))
  (s_cons (s_if (t_bool (w_or (t_cmp (o_eq hr.units) (r_var 4) e_str.r) (w_or1 (t_cmp (o_notin (u65 hr)) (r_var 4) e_str.r)))) (s_one s_never) s_nil)
  (s_one (s_ret (e_tup (a_cons e_str (a_cons (e_var 4) (a_cons (e_bin o_add (r_var 1) e_int.r) a_nil))))))))
theorem sc_escape_at : FnScope N_escape_at ["text", "at", "line", "column"] (defScope s_escape_at) := ⟨rfl, rfl, rfl, by decide +kernel, rfl, by decide +kernel, by decide +kernel⟩
theorem ok_escape_at (F : Fun K "_escape_at" "_escape_at" s_escape_at f fd) {f_run_end : Addr} {fd_run_end : FuncData} (G_run_end : FnOk P w K mg base CX0 1 f_run_end fd_run_end ["text", "at", "chars"] (spOf K c_run_end)) (m_run_end : mg "_run_end" = some (.ref f_run_end)) (k_run_end : PySem.W.keepIn K (.ref f_run_end) = true) (b_run_end : Binds K fd_run_end ["text", "at", "chars"] []) {t_LETTERS : Tok} (m_LETTERS : mg "LETTERS" = some (.str "abcdefghijklmnopqrstuvwxyzABCDEFGHIJKLMNOPQRSTUVWXYZ" t_LETTERS)) : FnOk P w K mg base CX0 2 f fd ["text", "at", "line", "column"] (spOf K c_escape_at) := by
  have nd := (sc_escape_at).nd
  refine fn_ok F sc_escape_at (len_escape_at) (fun cdv A outer s H E hr => ⟨q_escape_at, ?_, pure_escape_at⟩)
  exact (s_cons (s_set (i := 4) nd (e_slice (r_var 0) (o_some (e_bin o_add (r_var 1) e_int.r).r) (o_some (e_bin o_add (r_var 1) e_int.r).r)))
  (s_cons (s_if (t_cmp (o_eq hr.units) (r_var 4) e_str.r) (s_one (s_ret (e_tup (a_cons e_str (a_cons e_str (a_cons (e_bin o_add (r_var 1) e_int.r) a_nil)))))) s_nil)
  (s_cons (s_if (t_cmp (o_eq hr.units) (r_var 4) e_str.r) (s_one (s_ret (e_tup (a_cons e_str (a_cons e_str (a_cons (e_bin o_add (r_var 1) e_int.r) a_nil)))))) s_nil)
  (s_cons (s_set (i := 5) nd (e_call G_run_end (hr.mono (by decide)) m_run_end k_run_end b_run_end (a_cons (e_var 0) (a_cons (e_bin o_add (r_var 1) e_int.r) (a_cons (e_globS m_LETTERS) a_nil)))))
  (s_cons (s_if (t_cmp (o_eq hr.units) (r_var 5) (e_bin o_add (r_var 1) e_int.r).r) (s_one s_never) s_nil)
  (s_one (s_ret (e_tup (a_cons e_str (a_cons (e_slice (r_var 0) (o_some (e_bin o_add (r_var 1) e_int.r).r) (o_some (r_var 5))) (a_cons (e_var 5) a_nil)))))))))))
theorem sc_run_end : FnScope N_run_end ["text", "at", "chars"] (defScope s_run_end) := ⟨rfl, rfl, rfl, by decide +kernel, rfl, by decide +kernel, by decide +kernel⟩
theorem ok_run_end (F : Fun K "_run_end" "_run_end" s_run_end f fd) (z_len : mg "len" = none) : FnOk P w K mg base CX0 1 f fd ["text", "at", "chars"] (spOf K c_run_end) := by
  have nd := (sc_run_end).nd
  refine fn_ok F sc_run_end (len_run_end) (fun cdv A outer s H E hr => ⟨q_run_end, ?_, pure_run_end⟩)
  exact (s_cons (s_set (i := 3) nd (e_var 1))
  (s_cons (s_while PassesOwn.never (t_bool (w_and (t_cmp (o_ltX (u65 hr)) (r_var 3) (e_callB c_len (by rfl) z_len PySem.boot_len (ar_cons (r_var 0) ar_nil)).r) (w_and1 (t_cmp (o_in (u65 hr)) (e_ix (r_var 0) (r_var 3)).r (r_var 2))))) (s_one (s_aug (i := 3) nd io_add e_int.r)))
  (s_one (s_ret (e_var 3)))))
theorem sc_written : FnScope N_written ["tokens"] (defScope s_written) := ⟨rfl, rfl, rfl, by decide +kernel, rfl, by decide +kernel, by decide +kernel⟩
theorem ok_written (F : Fun K "written" "written" s_written f fd) {f_is_letter : Addr} {fd_is_letter : FuncData} (G_is_letter : FnOk P w K mg base CX0 1 f_is_letter fd_is_letter ["char"] (spOf K c_is_letter)) (m_is_letter : mg "is_letter" = some (.ref f_is_letter)) (k_is_letter : PySem.W.keepIn K (.ref f_is_letter) = true) (b_is_letter : Binds K fd_is_letter ["char"] []) {f_written_token : Addr} {fd_written_token : FuncData} (G_written_token : FnOk P w K mg base CX0 1 f_written_token fd_written_token ["token"] (spOf K c_written_token)) (m_written_token : mg "_written_token" = some (.ref f_written_token)) (k_written_token : PySem.W.keepIn K (.ref f_written_token) = true) (b_written_token : Binds K fd_written_token ["token"] []) : FnOk P w K mg base CX0 2 f fd ["tokens"] (spOf K c_written) := by
  have nd := (sc_written).nd
  refine fn_ok F sc_written (len_written) (fun cdv A outer s H E hr => ⟨q_written, ?_, pure_written⟩)
  exact (s_cons (s_setN (i := 1) nd (f_lst a_nil))
  (s_cons (s_set (i := 2) nd e_bl)
  (s_cons (s_for PassesOwn.never rfl (i_seq (e_var 0)) (g_name (i := 3) nd) (s_cons (s_if (t_bool (w_and (t_tru (r_var 2)) (w_and (t_cmp (o_eq hr.units) (e_ix (r_var 3) e_int.r).r e_str.r) (w_and1 (t_tru (e_call G_is_letter (hr.mono (by decide)) m_is_letter k_is_letter b_is_letter (a_cons (e_ix (e_ix (r_var 3) e_int.r).r e_int.r) a_nil)).r))))) (s_one (s_app (pe_bm PySem.F.plainAttrs_list PySem.F.slot_list_append PySem.F.type_list_append mt_append (pv 1) (pa_cons e_str pa_nil)))) s_nil)
  (s_cons (s_app (pe_bm PySem.F.plainAttrs_list PySem.F.slot_list_append PySem.F.type_list_append mt_append (pv 1) (pa_cons (e_call G_written_token (hr.mono (by decide)) m_written_token k_written_token b_written_token (a_cons (e_var 3) a_nil)) pa_nil)))
  (s_one (s_set (i := 2) nd (e_cmp (o_eq hr.units) (e_ix (r_var 3) e_int.r).r e_str.r))))))
  (s_one (s_ret (e_bm m_join PySem.F.plainAttrs_str PySem.F.slot_str_join PySem.F.type_str_join e_str.r (ar_cons (r_var 1) ar_nil)))))))
theorem sc_size_of : FnScope N_size_of ["token"] (defScope s_size_of) := ⟨rfl, rfl, rfl, by decide +kernel, rfl, by decide +kernel, by decide +kernel⟩
theorem ok_size_of (F : Fun K "size_of" "size_of" s_size_of f fd) {f_written_token : Addr} {fd_written_token : FuncData} (G_written_token : FnOk P w K mg base CX0 1 f_written_token fd_written_token ["token"] (spOf K c_written_token)) (m_written_token : mg "_written_token" = some (.ref f_written_token)) (k_written_token : PySem.W.keepIn K (.ref f_written_token) = true) (b_written_token : Binds K fd_written_token ["token"] []) (z_len : mg "len" = none) : FnOk P w K mg base CX0 2 f fd ["token"] (spOf K c_size_of) := by
  have nd := (sc_size_of).nd
  refine fn_ok F sc_size_of (len_size_of) (fun cdv A outer s H E hr => ⟨q_size_of, ?_, pure_size_of⟩)
  exact (s_one (s_ret (e_callB c_len (by rfl) z_len PySem.boot_len (ar_cons (e_call G_written_token (hr.mono (by decide)) m_written_token k_written_token b_written_token (a_cons (e_var 0) a_nil)).r ar_nil))))
theorem sc_written_token : FnScope N_written_token ["token"] (defScope s_written_token) := ⟨rfl, rfl, rfl, by decide +kernel, rfl, by decide +kernel, by decide +kernel⟩
theorem ok_written_token (F : Fun K "_written_token" "_written_token" s_written_token f fd)  : FnOk P w K mg base CX0 1 f fd ["token"] (spOf K c_written_token) := by
  have nd := (sc_written_token).nd
  refine fn_ok F sc_written_token (len_written_token) (fun cdv A outer s H E hr => ⟨q_written_token, ?_, pure_written_token⟩)
  exact (s_cons (s_if (t_cmp (o_eq hr.units) (e_ix (r_var 0) e_int.r).r e_str.r) (s_one (s_ret (e_bin o_add e_str.r (e_ix (r_var 0) e_int.r).r))) s_nil)
  (s_cons (s_if (t_cmp (o_eq hr.units) (e_ix (r_var 0) e_int.r).r e_str.r) (s_one (s_ret (e_bin o_add e_str.r (e_ix (r_var 0) e_int.r).r))) s_nil)
  (s_one (s_ret (e_ix (r_var 0) e_int.r)))))
theorem sc_law_pool : FnScope ["script"] ["script"] (defScope s_law_pool) := ⟨rfl, rfl, rfl, by decide +kernel, rfl, by decide +kernel, by decide +kernel⟩
theorem ok_law_pool (F : Fun K "_law_pool" "_law_pool" s_law_pool f fd) (z_list : mg "list" = none) : FnOk P w K mg base CX0 1 f fd ["script"] (spOf K c_law_pool) :=
  pool_ok F sc_law_pool fun cdv A outer s H E hr => (pss_one (ps_ret (pe_lst (pa_cons (pe_callTy call_list_of (by rfl) z_list PyProof.Rows.boot_list (pa_cons (pv 0) pa_nil)) (pa_cons pe_int (pa_cons pe_int (pa_cons pe_int (pa_cons pe_int pa_nil))))))))
theorem sc_law_draw : FnScope N_draw ["pool", "many"] (defScope s_law_draw) := ⟨rfl, rfl, rfl, by decide +kernel, rfl, by decide +kernel, by decide +kernel⟩
theorem ok_law_draw (F : Fun K "_law_draw" "_law_draw" s_law_draw f fd) (z_len : mg "len" = none) (z_abs : mg "abs" = none) (z_int : mg "int" = none) : FnOk P w K mg base CX0 1 f fd ["pool", "many"] (spOf K c_law_draw) := by
  have nd := (sc_law_draw).nd
  refine draw_imp (fn_okIo F sc_law_draw len_draw (fun cdv A outer s H E hr => ⟨q_draw, ?_, pure_draw⟩))
  exact (s_cons (s_setix (ps_asg (e_bin o_add (e_ix (r_var 0) e_int.r).r e_int.r) (pg_sub (pv 0) e_int.r set_list)))
  (s_cons (s_if (t_bool (w_and (t_cmp (o_eq hr.units) (e_ix (r_var 0) e_int.r).r e_int.r) (w_and1 (t_cmp o_lt (e_ix (r_var 0) e_int.r).r (e_callB c_len (by rfl) z_len PySem.boot_len (ar_cons (e_ix (r_var 0) e_int.r).r ar_nil)).r)))) (s_cons (s_set (i := 2) nd (e_ix (e_ix (r_var 0) e_int.r).r (e_ix (r_var 0) e_int.r).r))
  (s_cons (s_setix (ps_asg (e_bin o_add (e_ix (r_var 0) e_int.r).r e_int.r) (pg_sub (pv 0) e_int.r set_list)))
  (s_one (s_if (t_cmp o_ge (e_callB c_abs (by rfl) z_abs PyProof.Rows.boot_abs (ar_cons (r_var 2) ar_nil)).r (e_bin o_pow e_int.r e_int.r).r) (s_one (s_setix (ps_asg (e_callB c_abs (by rfl) z_abs PyProof.Rows.boot_abs (ar_cons (r_var 2) ar_nil)) (pg_sub (pv 0) e_int.r set_list)))) (s_one (s_setix (ps_asg (e_bin o_mod (e_callTy c_int (by rfl) z_int PyProof.Rows.boot_int (ar_cons (e_bin o_add (e_bin o_add (e_bin o_mul (e_ix (r_var 0) e_int.r).r e_int.r).r (e_bin o_mul (r_var 2) e_int.r).r).r e_int.r).r ar_nil)).r e_int.r) (pg_sub (pv 0) e_int.r set_list)))))))) s_nil)
  (s_cons (s_if (t_cmp o_gt (e_ix (r_var 0) e_int.r).r e_int.r) (s_cons (s_set (i := 3) nd (e_bin o_mod (e_callTy c_int (by rfl) z_int PyProof.Rows.boot_int (ar_cons (e_ix (r_var 0) e_int.r).r ar_nil)).r (r_var 1)))
  (s_cons (s_setix (ps_asg (e_bin o_fdiv (e_ix (r_var 0) e_int.r).r (r_var 1)) (pg_sub (pv 0) e_int.r set_list)))
  (s_one (s_ret (e_var 3))))) s_nil)
  (s_cons (s_set (i := 4) nd (e_bin o_mod (e_callTy c_int (by rfl) z_int PyProof.Rows.boot_int (ar_cons (e_bin o_add (e_ix (r_var 0) e_int.r).r (e_bin o_mul (e_ix (r_var 0) e_int.r).r e_int.r).r).r ar_nil)).r e_int.r))
  (s_cons (s_set (i := 4) nd (e_bin o_mod (e_callTy c_int (by rfl) z_int PyProof.Rows.boot_int (ar_cons (e_bin o_add (e_bin o_add (e_bin o_mul (r_var 4) (r_var 4)).r (e_bin o_mul (e_ix (r_var 0) e_int.r).r e_int.r).r).r e_int.r).r ar_nil)).r e_int.r))
  (s_cons (s_set (i := 4) nd (e_bin o_mod (e_callTy c_int (by rfl) z_int PyProof.Rows.boot_int (ar_cons (e_bin o_add (e_bin o_add (e_bin o_mul (r_var 4) (r_var 4)).r (e_ix (r_var 0) e_int.r).r).r e_int.r).r ar_nil)).r e_int.r))
  (s_one (s_ret (e_bin o_mod (e_callTy c_int (by rfl) z_int PyProof.Rows.boot_int (ar_cons (e_bin o_fdiv (r_var 4) e_int.r).r ar_nil)).r (r_var 1))))))))))
theorem sc_law_pick : FnScope Pu.N_pick ["pool", "row"] (defScope s_law_pick) := ⟨rfl, rfl, rfl, by decide +kernel, rfl, by decide +kernel, by decide +kernel⟩
theorem ok_law_pick (F : Fun K "_law_pick" "_law_pick" s_law_pick f fd) {f_law_draw : Addr} {fd_law_draw : FuncData} (G_law_draw : FnOk P w K mg base CX0 1 f_law_draw fd_law_draw ["pool", "many"] (spOf K c_law_draw)) (m_law_draw : mg "_law_draw" = some (.ref f_law_draw)) (k_law_draw : PySem.W.keepIn K (.ref f_law_draw) = true) (b_law_draw : Binds K fd_law_draw ["pool", "many"] []) (z_len : mg "len" = none) : FnOk P w K mg base CX0 2 f fd ["pool", "row"] (spOf K Pu.c_pick) := by
  have nd := (sc_law_pick).nd
  refine fn_ok F sc_law_pick Pu.len_pick (fun cdv A outer s H E hr => ⟨Pu.q_pick, ?_, Pu.pure_pick⟩)
  exact (s_one (s_ret (e_ix (r_var 1) (e_call G_law_draw (hr.mono (by decide)) m_law_draw k_law_draw b_law_draw (a_cons (e_var 0) (a_cons (e_callB c_len (by rfl) z_len PySem.boot_len (ar_cons (r_var 1) ar_nil)) a_nil))).r)))
theorem sc_law_rare : FnScope Pu.N_rare ["pool", "many"] (defScope s_law_rare) := ⟨rfl, rfl, rfl, by decide +kernel, rfl, by decide +kernel, by decide +kernel⟩
theorem ok_law_rare (F : Fun K "_law_rare" "_law_rare" s_law_rare f fd) {f_law_draw : Addr} {fd_law_draw : FuncData} (G_law_draw : FnOk P w K mg base CX0 1 f_law_draw fd_law_draw ["pool", "many"] (spOf K c_law_draw)) (m_law_draw : mg "_law_draw" = some (.ref f_law_draw)) (k_law_draw : PySem.W.keepIn K (.ref f_law_draw) = true) (b_law_draw : Binds K fd_law_draw ["pool", "many"] []) : FnOk P w K mg base CX0 2 f fd ["pool", "many"] (spOf K Pu.c_rare) := by
  have nd := (sc_law_rare).nd
  refine fn_ok F sc_law_rare Pu.len_rare (fun cdv A outer s H E hr => ⟨Pu.q_rare, ?_, Pu.pure_rare⟩)
  exact (s_one (s_ret (e_cmp (o_eq hr.units) (e_call G_law_draw (hr.mono (by decide)) m_law_draw k_law_draw b_law_draw (a_cons (e_var 0) (a_cons (e_var 1) a_nil))).r (e_bin o_sub (r_var 1) e_int.r).r)))
theorem sc_law_few : FnScope Pu.N_few ["pool", "usual", "most"] (defScope s_law_few) := ⟨rfl, rfl, rfl, by decide +kernel, rfl, by decide +kernel, by decide +kernel⟩
theorem ok_law_few (F : Fun K "_law_few" "_law_few" s_law_few f fd) {f_law_rare : Addr} {fd_law_rare : FuncData} (G_law_rare : FnOk P w K mg base CX0 2 f_law_rare fd_law_rare ["pool", "many"] (spOf K Pu.c_rare)) (m_law_rare : mg "_law_rare" = some (.ref f_law_rare)) (k_law_rare : PySem.W.keepIn K (.ref f_law_rare) = true) (b_law_rare : Binds K fd_law_rare ["pool", "many"] []) {f_law_draw : Addr} {fd_law_draw : FuncData} (G_law_draw : FnOk P w K mg base CX0 1 f_law_draw fd_law_draw ["pool", "many"] (spOf K c_law_draw)) (m_law_draw : mg "_law_draw" = some (.ref f_law_draw)) (k_law_draw : PySem.W.keepIn K (.ref f_law_draw) = true) (b_law_draw : Binds K fd_law_draw ["pool", "many"] []) : FnOk P w K mg base CX0 3 f fd ["pool", "usual", "most"] (spOf K Pu.c_few) := by
  have nd := (sc_law_few).nd
  refine fn_ok F sc_law_few Pu.len_few (fun cdv A outer s H E hr => ⟨Pu.q_few, ?_, Pu.pure_few⟩)
  exact (s_cons (s_if (t_tru (e_call G_law_rare (hr.mono (by decide)) m_law_rare k_law_rare b_law_rare (a_cons (e_var 0) (a_cons e_int a_nil))).r) (s_one (s_ret (e_call G_law_draw (hr.mono (by decide)) m_law_draw k_law_draw b_law_draw (a_cons (e_var 0) (a_cons (e_bin o_add (r_var 2) e_int.r) a_nil))))) s_nil)
  (s_one (s_ret (e_call G_law_draw (hr.mono (by decide)) m_law_draw k_law_draw b_law_draw (a_cons (e_var 0) (a_cons (e_bin o_add (r_var 1) e_int.r) a_nil))))))
theorem sc_law_same : FnScope Pu.N_same ["got", "due"] (defScope s_law_same) := ⟨rfl, rfl, rfl, by decide +kernel, rfl, by decide +kernel, by decide +kernel⟩
theorem ok_law_same (F : Fun K "_law_same" "_law_same" s_law_same f fd) (m_law_same : mg "_law_same" = some (.ref f)) (k_law_same : PySem.W.keepIn K (.ref f) = true) (b_law_same : Binds K fd ["got", "due"] []) (z_isinstance : mg "isinstance" = none) (z_int : mg "int" = none) (z_bool : mg "bool" = none) (z_str : mg "str" = none) (z_tuple : mg "tuple" = none) (z_len : mg "len" = none) (z_list : mg "list" = none) (z_range : mg "range" = none) : ∀ n, FnOk P w K mg base CX0 (1 + n) f fd ["got", "due"] (spOf K (Pu.c_same n)) := by
  have nd := (sc_law_same).nd
  intro n
  induction n with
  | zero => exact fn_ok F sc_law_same (fun ds P h => (Pu.zero_same ds P h).elim) (fun cdv A outer s H E hr => ⟨qNever, s_nevers, fun ds P h => (Pu.zero_same ds P h).elim⟩)
  | succ n ih =>
    refine fn_ok F sc_law_same (Pu.len_same n) (fun cdv A outer s H E hr0 => have hr : Room (1 + n) _ := hr0; ⟨Pu.q_same n, ?_, Pu.pure_same n⟩)
    exact (s_cons (s_if (t_isN (r_var 1)) (s_one (s_ret (e_isN (r_var 0)))) s_nil)
  (s_cons (s_if (t_isB (r_var 1)) (s_one (s_ret (e_isB (r_var 0)))) s_nil)
  (s_cons (s_if (t_isB (r_var 1)) (s_one (s_ret (e_isB (r_var 0)))) s_nil)
  (s_cons (s_if (t_tru (e_isi (n := "int") (r_var 1) (by rfl) z_isinstance (by rfl) z_int PyProof.Rows.boot_int (by decide +kernel)).r) (s_one (s_ret (e_and (e_isi (n := "int") (r_var 0) (by rfl) z_isinstance (by rfl) z_int PyProof.Rows.boot_int (by decide +kernel)) (e_and (e_not (e_isi (n := "bool") (r_var 0) (by rfl) z_isinstance (by rfl) z_bool PyProof.Rows.boot_bool (by decide +kernel))) (e_one (e_cmp (o_eq hr.units) (r_var 0) (r_var 1))))))) s_nil)
  (s_cons (s_if (t_tru (e_isi (n := "str") (r_var 1) (by rfl) z_isinstance (by rfl) z_str PyProof.Rows.boot_str (by decide +kernel)).r) (s_one (s_ret (e_and (e_isi (n := "str") (r_var 0) (by rfl) z_isinstance (by rfl) z_str PyProof.Rows.boot_str (by decide +kernel)) (e_one (e_cmp (o_eq hr.units) (r_var 0) (r_var 1)))))) s_nil)
  (s_cons (s_if (t_tru (e_isi (n := "tuple") (r_var 1) (by rfl) z_isinstance (by rfl) z_tuple PyProof.Rows.boot_tuple (by decide +kernel)).r) (s_one (s_if (t_bool (w_or (t_not (t_tru (e_isi (n := "tuple") (r_var 0) (by rfl) z_isinstance (by rfl) z_tuple PyProof.Rows.boot_tuple (by decide +kernel)).r)) (w_or1 (t_cmp (o_ne hr.units) (e_callB c_len (by rfl) z_len PySem.boot_len (ar_cons (r_var 0) ar_nil)).r (e_callB c_len (by rfl) z_len PySem.boot_len (ar_cons (r_var 1) ar_nil)).r)))) (s_one (s_ret e_bl)) s_nil)) (s_one (s_if (t_bool (w_or (t_not (t_tru (e_isi (n := "list") (r_var 0) (by rfl) z_isinstance (by rfl) z_list PyProof.Rows.boot_list (by decide +kernel)).r)) (w_or1 (t_cmp (o_ne hr.units) (e_callB c_len (by rfl) z_len PySem.boot_len (ar_cons (r_var 0) ar_nil)).r (e_callB c_len (by rfl) z_len PySem.boot_len (ar_cons (r_var 1) ar_nil)).r)))) (s_one (s_ret e_bl)) s_nil)))
  (s_cons (s_for PassesOwn.never rfl (i_range1 (e_callB c_len (by rfl) z_len PySem.boot_len (ar_cons (r_var 1) ar_nil)).r (by rfl) z_range) (g_name (i := 2) nd) (s_one (s_if (t_not (t_tru (e_call ih (hr.mono (by omega)) m_law_same k_law_same b_law_same (a_cons (e_ix (r_var 0) (r_var 2)) (a_cons (e_ix (r_var 1) (r_var 2)) a_nil))).r)) (s_one (s_ret e_bl)) s_nil)))
  (s_one (s_ret e_bl)))))))))
theorem sc_law_letters : FnScope N_law_letters [] (defScope s_law_letters) := ⟨rfl, rfl, rfl, by decide +kernel, rfl, by decide +kernel, by decide +kernel⟩
theorem ok_law_letters (F : Fun K "_law_letters" "_law_letters" s_law_letters f fd)  : FnOk P w K mg base CX0 1 f fd [] (spOf K c_law_letters) := by
  have nd := (sc_law_letters).nd
  refine fn_ok F sc_law_letters (len_law_letters) (fun cdv A outer s H E hr => ⟨q_law_letters, ?_, pure_law_letters⟩)
  exact (s_one (s_ret e_str))
theorem sc_law_marks : FnScope N_law_marks [] (defScope s_law_marks) := ⟨rfl, rfl, rfl, by decide +kernel, rfl, by decide +kernel, by decide +kernel⟩
theorem ok_law_marks (F : Fun K "_law_marks" "_law_marks" s_law_marks f fd)  : FnOk P w K mg base CX0 1 f fd [] (spOf K c_law_marks) := by
  have nd := (sc_law_marks).nd
  refine fn_ok F sc_law_marks (len_law_marks) (fun cdv A outer s H E hr => ⟨q_law_marks, ?_, pure_law_marks⟩)
  exact (s_one (s_ret e_str))
theorem sc_law_run : FnScope N_law_run ["pool", "chars", "size"] (defScope s_law_run) := ⟨rfl, rfl, rfl, by decide +kernel, rfl, by decide +kernel, by decide +kernel⟩
theorem ok_law_run (F : Fun K "_law_run" "_law_run" s_law_run f fd) {f_law_few : Addr} {fd_law_few : FuncData} (G_law_few : FnOk P w K mg base CX0 3 f_law_few fd_law_few ["pool", "usual", "most"] (spOf K Pu.c_few)) (m_law_few : mg "_law_few" = some (.ref f_law_few)) (k_law_few : PySem.W.keepIn K (.ref f_law_few) = true) (b_law_few : Binds K fd_law_few ["pool", "usual", "most"] []) {f_law_pick : Addr} {fd_law_pick : FuncData} (G_law_pick : FnOk P w K mg base CX0 2 f_law_pick fd_law_pick ["pool", "row"] (spOf K Pu.c_pick)) (m_law_pick : mg "_law_pick" = some (.ref f_law_pick)) (k_law_pick : PySem.W.keepIn K (.ref f_law_pick) = true) (b_law_pick : Binds K fd_law_pick ["pool", "row"] []) {f_law_rare : Addr} {fd_law_rare : FuncData} (G_law_rare : FnOk P w K mg base CX0 2 f_law_rare fd_law_rare ["pool", "many"] (spOf K Pu.c_rare)) (m_law_rare : mg "_law_rare" = some (.ref f_law_rare)) (k_law_rare : PySem.W.keepIn K (.ref f_law_rare) = true) (b_law_rare : Binds K fd_law_rare ["pool", "many"] []) {f_law_draw : Addr} {fd_law_draw : FuncData} (G_law_draw : FnOk P w K mg base CX0 1 f_law_draw fd_law_draw ["pool", "many"] (spOf K c_law_draw)) (m_law_draw : mg "_law_draw" = some (.ref f_law_draw)) (k_law_draw : PySem.W.keepIn K (.ref f_law_draw) = true) (b_law_draw : Binds K fd_law_draw ["pool", "many"] []) (z_range : mg "range" = none) (z_max : mg "max" = none) (z_len : mg "len" = none) : FnOk P w K mg base CX0 4 f fd ["pool", "chars", "size"] (spOf K c_law_run) := by
  have nd := (sc_law_run).nd
  refine fn_ok F sc_law_run (len_law_run) (fun cdv A outer s H E hr => ⟨q_law_run, ?_, pure_law_run⟩)
  exact (s_cons (s_set (i := 3) nd (e_bm m_join PySem.F.plainAttrs_str PySem.F.slot_str_join PySem.F.type_str_join e_str.r (ar_cons (f_comp (own := [("k", 4)]) rfl nd (i_range1 (e_bin o_add e_int.r (e_call G_law_few (hr.mono (by decide)) m_law_few k_law_few b_law_few (a_cons (e_var 0) (a_cons e_int (a_cons e_int a_nil)))).r).r (by rfl) z_range).r (blkOk_by (N := N_law_run) (sc := defScope s_law_run) (by decide +kernel)) (fun _ _ _ _ _ => (g_name (i := 4) nd)) (fun _ _ _ _ _ => ts_nil) (fun _ _ _ _ _ => (e_call G_law_pick (hr.mono (by decide)) m_law_pick k_law_pick b_law_pick (a_cons (e_var 0) (a_cons (e_var 1) a_nil))))).e.r ar_nil)))
  (s_cons (s_if (t_tru (e_call G_law_rare (hr.mono (by decide)) m_law_rare k_law_rare b_law_rare (a_cons (e_var 0) (a_cons e_int a_nil))).r) (s_one (s_set (i := 3) nd (e_bin o_mulS (r_var 3) (e_bin o_add e_int.r (e_call G_law_draw (hr.mono (by decide)) m_law_draw k_law_draw b_law_draw (a_cons (e_var 0) (a_cons (e_bin o_add e_int.r (e_bin o_fdiv (e_callB (c_max2 rfl) (by rfl) z_max PyProof.Rows.boot_max (ar_cons e_int.r (ar_cons (e_bin o_sub e_int.r (r_var 2)).r ar_nil))).r (e_callB c_len (by rfl) z_len PySem.boot_len (ar_cons (r_var 3) ar_nil)).r).r) a_nil))).r).r))) s_nil)
  (s_one (s_ret (e_var 3)))))
theorem sc_law_token : FnScope N_law_token ["pool", "ahead", "size"] (defScope s_law_token) := ⟨rfl, rfl, rfl, by decide +kernel, rfl, by decide +kernel, by decide +kernel⟩
theorem ok_law_token (F : Fun K "_law_token" "_law_token" s_law_token f fd) {f_law_draw : Addr} {fd_law_draw : FuncData} (G_law_draw : FnOk P w K mg base CX0 1 f_law_draw fd_law_draw ["pool", "many"] (spOf K c_law_draw)) (m_law_draw : mg "_law_draw" = some (.ref f_law_draw)) (k_law_draw : PySem.W.keepIn K (.ref f_law_draw) = true) (b_law_draw : Binds K fd_law_draw ["pool", "many"] []) {f_law_run : Addr} {fd_law_run : FuncData} (G_law_run : FnOk P w K mg base CX0 4 f_law_run fd_law_run ["pool", "chars", "size"] (spOf K c_law_run)) (m_law_run : mg "_law_run" = some (.ref f_law_run)) (k_law_run : PySem.W.keepIn K (.ref f_law_run) = true) (b_law_run : Binds K fd_law_run ["pool", "chars", "size"] []) {f_law_letters : Addr} {fd_law_letters : FuncData} (G_law_letters : FnOk P w K mg base CX0 1 f_law_letters fd_law_letters [] (spOf K c_law_letters)) (m_law_letters : mg "_law_letters" = some (.ref f_law_letters)) (k_law_letters : PySem.W.keepIn K (.ref f_law_letters) = true) (b_law_letters : Binds K fd_law_letters [] []) {f_law_marks : Addr} {fd_law_marks : FuncData} (G_law_marks : FnOk P w K mg base CX0 1 f_law_marks fd_law_marks [] (spOf K c_law_marks)) (m_law_marks : mg "_law_marks" = some (.ref f_law_marks)) (k_law_marks : PySem.W.keepIn K (.ref f_law_marks) = true) (b_law_marks : Binds K fd_law_marks [] []) {f_law_pick : Addr} {fd_law_pick : FuncData} (G_law_pick : FnOk P w K mg base CX0 2 f_law_pick fd_law_pick ["pool", "row"] (spOf K Pu.c_pick)) (m_law_pick : mg "_law_pick" = some (.ref f_law_pick)) (k_law_pick : PySem.W.keepIn K (.ref f_law_pick) = true) (b_law_pick : Binds K fd_law_pick ["pool", "row"] []) : FnOk P w K mg base CX0 5 f fd ["pool", "ahead", "size"] (spOf K c_law_token) := by
  have nd := (sc_law_token).nd
  refine fn_ok F sc_law_token (len_law_token) (fun cdv A outer s H E hr => ⟨q_law_token, ?_, pure_law_token⟩)
  exact (s_cons (s_set (i := 3) nd (e_call G_law_draw (hr.mono (by decide)) m_law_draw k_law_draw b_law_draw (a_cons (e_var 0) (a_cons e_int a_nil))))
  (s_cons (s_if (t_bool (w_and (t_cmp (o_ltX (u65 hr)) (r_var 3) e_int.r) (w_and1 (t_cmp (o_ne hr.units) (r_var 1) e_str.r)))) (s_cons (s_set (i := 4) nd (e_call G_law_run (hr.mono (by decide)) m_law_run k_law_run b_law_run (a_cons (e_var 0) (a_cons (e_bin o_add (e_call0 G_law_letters (hr.mono (by decide)) m_law_letters k_law_letters b_law_letters).r (e_call0 G_law_marks (hr.mono (by decide)) m_law_marks k_law_marks b_law_marks).r) (a_cons (e_var 2) a_nil)))))
  (s_cons (s_if (t_cmp (o_eq hr.units) (r_var 1) e_str.r) (s_one (s_set (i := 4) nd (e_bin o_add (e_call G_law_pick (hr.mono (by decide)) m_law_pick k_law_pick b_law_pick (a_cons (e_var 0) (a_cons (e_call0 G_law_marks (hr.mono (by decide)) m_law_marks k_law_marks b_law_marks) a_nil))).r (r_var 4)))) s_nil)
  (s_one (s_ret (e_tup (a_cons e_str (a_cons (e_var 4) (a_cons (e_var 4) a_nil)))))))) s_nil)
  (s_cons (s_if (t_bool (w_and (t_cmp (o_ltX (u65 hr)) (r_var 3) e_int.r) (w_and1 (t_cmp (o_notin (u65 hr)) (r_var 1) (e_tup (a_cons e_str (a_cons e_str a_nil))).r)))) (s_cons (s_set (i := 5) nd (e_call G_law_run (hr.mono (by decide)) m_law_run k_law_run b_law_run (a_cons (e_var 0) (a_cons e_str (a_cons (e_var 2) a_nil)))))
  (s_cons (s_if (t_cmp (o_gtX (u65 hr)) (e_bm m_count PySem.F.plainAttrs_str PySem.F.slot_str_count PySem.F.type_str_count (r_var 5) (ar_cons e_str.r ar_nil)).r e_int.r) (s_one (s_ret (e_tup (a_cons e_str (a_cons e_str (a_cons (e_var 5) a_nil)))))) s_nil)
  (s_one (s_ret (e_tup (a_cons e_str (a_cons e_str (a_cons (e_var 5) a_nil)))))))) s_nil)
  (s_cons (s_if (t_cmp (o_ltX (u65 hr)) (r_var 3) e_int.r) (s_cons (s_set (i := 4) nd (e_call G_law_run (hr.mono (by decide)) m_law_run k_law_run b_law_run (a_cons (e_var 0) (a_cons (e_call0 G_law_letters (hr.mono (by decide)) m_law_letters k_law_letters b_law_letters) (a_cons (e_var 2) a_nil)))))
  (s_one (s_ret (e_tup (a_cons e_str (a_cons (e_var 4) (a_cons (e_bin o_add e_str.r (r_var 4)) a_nil))))))) s_nil)
  (s_cons (s_if (t_cmp (o_eq hr.units) (r_var 3) e_int.r) (s_cons (s_set (i := 4) nd (e_call G_law_pick (hr.mono (by decide)) m_law_pick k_law_pick b_law_pick (a_cons (e_var 0) (a_cons e_str a_nil))))
  (s_one (s_ret (e_tup (a_cons e_str (a_cons (e_var 4) (a_cons (e_bin o_add e_str.r (r_var 4)) a_nil))))))) s_nil)
  (s_cons (s_set (i := 6) nd (e_lst (a_cons (e_tup (a_cons e_str (a_cons e_str a_nil))) (a_cons (e_tup (a_cons e_str (a_cons e_str a_nil))) (a_cons (e_tup (a_cons e_str (a_cons e_str a_nil))) (a_cons (e_tup (a_cons e_str (a_cons e_str a_nil))) (a_cons (e_tup (a_cons e_str (a_cons e_str a_nil))) (a_cons (e_tup (a_cons e_str (a_cons e_str a_nil))) (a_cons (e_tup (a_cons e_str (a_cons e_str a_nil))) a_nil)))))))))
  (s_cons (s_set (i := 7) nd (e_call G_law_pick (hr.mono (by decide)) m_law_pick k_law_pick b_law_pick (a_cons (e_var 0) (a_cons (e_bin o_add (r_var 6) (e_lst (a_cons (e_tup (a_cons e_str (a_cons e_str a_nil))) (a_cons (e_tup (a_cons e_str (a_cons e_str a_nil))) a_nil))).r) a_nil))))
  (s_one (s_ret (e_tup (a_cons (e_ix (r_var 7) e_int.r) (a_cons (e_ix (r_var 7) e_int.r) (a_cons (e_ix (r_var 7) e_int.r) a_nil)))))))))))))
theorem sc_law_tokens : FnScope N_law_tokens ["pool"] (defScope s_law_tokens) := ⟨rfl, rfl, rfl, by decide +kernel, rfl, by decide +kernel, by decide +kernel⟩
theorem ok_law_tokens (F : Fun K "_law_tokens" "_law_tokens" s_law_tokens f fd) {f_law_few : Addr} {fd_law_few : FuncData} (G_law_few : FnOk P w K mg base CX0 3 f_law_few fd_law_few ["pool", "usual", "most"] (spOf K Pu.c_few)) (m_law_few : mg "_law_few" = some (.ref f_law_few)) (k_law_few : PySem.W.keepIn K (.ref f_law_few) = true) (b_law_few : Binds K fd_law_few ["pool", "usual", "most"] []) {f_law_token : Addr} {fd_law_token : FuncData} (G_law_token : FnOk P w K mg base CX0 5 f_law_token fd_law_token ["pool", "ahead", "size"] (spOf K c_law_token)) (m_law_token : mg "_law_token" = some (.ref f_law_token)) (k_law_token : PySem.W.keepIn K (.ref f_law_token) = true) (b_law_token : Binds K fd_law_token ["pool", "ahead", "size"] []) {f_law_rare : Addr} {fd_law_rare : FuncData} (G_law_rare : FnOk P w K mg base CX0 2 f_law_rare fd_law_rare ["pool", "many"] (spOf K Pu.c_rare)) (m_law_rare : mg "_law_rare" = some (.ref f_law_rare)) (k_law_rare : PySem.W.keepIn K (.ref f_law_rare) = true) (b_law_rare : Binds K fd_law_rare ["pool", "many"] []) {f_law_draw : Addr} {fd_law_draw : FuncData} (G_law_draw : FnOk P w K mg base CX0 1 f_law_draw fd_law_draw ["pool", "many"] (spOf K c_law_draw)) (m_law_draw : mg "_law_draw" = some (.ref f_law_draw)) (k_law_draw : PySem.W.keepIn K (.ref f_law_draw) = true) (b_law_draw : Binds K fd_law_draw ["pool", "many"] []) (z_range : mg "range" = none) (z_len : mg "len" = none) : FnOk P w K mg base CX0 6 f fd ["pool"] (spOf K c_law_tokens) := by
  have nd := (sc_law_tokens).nd
  refine fn_ok F sc_law_tokens (len_law_tokens) (fun cdv A outer s H E hr => ⟨q_law_tokens, ?_, pure_law_tokens⟩)
  exact (s_cons (s_setN (i := 1) nd (f_lst a_nil))
  (s_cons (s_set (i := 2) nd e_int)
  (s_cons (s_set (i := 3) nd e_str)
  (s_cons (s_for PassesOwn.never rfl (i_range1 (e_call G_law_few (hr.mono (by decide)) m_law_few k_law_few b_law_few (a_cons (e_var 0) (a_cons e_int (a_cons e_int a_nil)))).r (by rfl) z_range) (g_name (i := 4) nd) (s_cons (s_app (pe_bm PySem.F.plainAttrs_list PySem.F.slot_list_append PySem.F.type_list_append mt_append (pv 1) (pa_cons (e_call G_law_token (hr.mono (by decide)) m_law_token k_law_token b_law_token (a_cons (e_var 0) (a_cons (e_var 3) (a_cons (e_var 2) a_nil)))) pa_nil)))
  (s_cons (s_set (i := 3) nd (e_ix (e_ix (r_var 1) (e_un u_neg e_int.r).r).r e_int.r))
  (s_one (s_set (i := 2) nd (e_bin o_add (r_var 2) (e_callB c_len (by rfl) z_len PySem.boot_len (ar_cons (e_ix (e_ix (r_var 1) (e_un u_neg e_int.r).r).r e_int.r).r ar_nil)).r))))))
  (s_cons (s_if (t_bool (w_and (t_tru (e_call G_law_rare (hr.mono (by decide)) m_law_rare k_law_rare b_law_rare (a_cons (e_var 0) (a_cons e_int a_nil))).r) (w_and1 (t_cmp (o_leX (u65 hr)) (r_var 2) e_int.r)))) (s_one (s_setN (i := 1) nd (f_rep (e_bin o_add (r_var 1) (e_lst (a_cons (e_tup (a_cons e_str (a_cons e_str (a_cons e_str a_nil)))) a_nil)).r).r (e_bin o_add e_int.r (e_call G_law_draw (hr.mono (by decide)) m_law_draw k_law_draw b_law_draw (a_cons (e_var 0) (a_cons (e_bin o_fdiv e_int.r (e_bin o_add (r_var 2) e_int.r).r) a_nil))).r).r))) s_nil)
  (s_frz 1 (s_one (s_ret (e_var 1)))))))))
theorem sc_law_spot : FnScope N_law_spot ["text", "at"] (defScope s_law_spot) := ⟨rfl, rfl, rfl, by decide +kernel, rfl, by decide +kernel, by decide +kernel⟩
theorem ok_law_spot (F : Fun K "_law_spot" "_law_spot" s_law_spot f fd)  : FnOk P w K mg base CX0 1 f fd ["text", "at"] (spOf K c_law_spot) := by
  have nd := (sc_law_spot).nd
  refine fn_ok F sc_law_spot (len_law_spot) (fun cdv A outer s H E hr => ⟨q_law_spot, ?_, pure_law_spot⟩)
  exact (s_cons (s_set (i := 2) nd (e_slice (r_var 0) o_none (o_some (r_var 1))))
  (s_one (s_ret (e_tup (a_cons (e_bin o_add e_int.r (e_bm m_count PySem.F.plainAttrs_str PySem.F.slot_str_count PySem.F.type_str_count (r_var 2) (ar_cons e_str.r ar_nil)).r) (a_cons (e_bin o_sub (r_var 1) (e_bm m_rfind PySem.F.plainAttrs_str PySem.F.slot_str_rfind PySem.F.type_str_rfind (r_var 2) (ar_cons e_str.r ar_nil)).r) a_nil))))))
theorem sc_law_form : FnScope N_law_form ["token"] (defScope s_law_form) := ⟨rfl, rfl, rfl, by decide +kernel, rfl, by decide +kernel, by decide +kernel⟩
theorem ok_law_form (F : Fun K "_law_form" "_law_form" s_law_form f fd)  : FnOk P w K mg base CX0 1 f fd ["token"] (spOf K c_law_form) := by
  have nd := (sc_law_form).nd
  refine fn_ok F sc_law_form (len_law_form) (fun cdv A outer s H E hr => ⟨q_law_form, ?_, pure_law_form⟩)
  exact (s_cons (s_if (t_cmp (o_eq hr.units) (e_ix (r_var 0) e_int.r).r e_str.r) (s_one (s_ret (e_bin o_add e_str.r (e_ix (r_var 0) e_int.r).r))) s_nil)
  (s_cons (s_if (t_cmp (o_eq hr.units) (e_ix (r_var 0) e_int.r).r e_str.r) (s_one (s_ret (e_bin o_add e_str.r (e_ix (r_var 0) e_int.r).r))) s_nil)
  (s_one (s_ret (e_ix (r_var 0) e_int.r)))))
theorem sc_law_joined : FnScope N_law_joined ["tokens"] (defScope s_law_joined) := ⟨rfl, rfl, rfl, by decide +kernel, rfl, by decide +kernel, by decide +kernel⟩
theorem ok_law_joined (F : Fun K "_law_joined" "_law_joined" s_law_joined f fd) {f_law_letters : Addr} {fd_law_letters : FuncData} (G_law_letters : FnOk P w K mg base CX0 1 f_law_letters fd_law_letters [] (spOf K c_law_letters)) (m_law_letters : mg "_law_letters" = some (.ref f_law_letters)) (k_law_letters : PySem.W.keepIn K (.ref f_law_letters) = true) (b_law_letters : Binds K fd_law_letters [] []) {f_law_form : Addr} {fd_law_form : FuncData} (G_law_form : FnOk P w K mg base CX0 1 f_law_form fd_law_form ["token"] (spOf K c_law_form)) (m_law_form : mg "_law_form" = some (.ref f_law_form)) (k_law_form : PySem.W.keepIn K (.ref f_law_form) = true) (b_law_form : Binds K fd_law_form ["token"] []) (z_range : mg "range" = none) (z_len : mg "len" = none) : FnOk P w K mg base CX0 2 f fd ["tokens"] (spOf K c_law_joined) := by
  have nd := (sc_law_joined).nd
  refine fn_ok F sc_law_joined (len_law_joined) (fun cdv A outer s H E hr => ⟨q_law_joined, ?_, pure_law_joined⟩)
  exact (s_cons (s_set (i := 1) nd e_str)
  (s_cons (s_for PassesOwn.never rfl (i_range1 (e_callB c_len (by rfl) z_len PySem.boot_len (ar_cons (r_var 0) ar_nil)).r (by rfl) z_range) (g_name (i := 2) nd) (s_cons (s_if (t_bool (w_and (t_cmp (o_gtX (u65 hr)) (r_var 2) e_int.r) (w_and (t_cmp (o_eq hr.units) (e_ix (e_ix (r_var 0) (e_bin o_sub (r_var 2) e_int.r).r).r e_int.r).r e_str.r) (w_and (t_cmp (o_eq hr.units) (e_ix (e_ix (r_var 0) (r_var 2)).r e_int.r).r e_str.r) (w_and1 (t_cmp (o_in (u65 hr)) (e_ix (e_ix (e_ix (r_var 0) (r_var 2)).r e_int.r).r e_int.r).r (e_call0 G_law_letters (hr.mono (by decide)) m_law_letters k_law_letters b_law_letters).r)))))) (s_one (s_set (i := 1) nd (e_bin o_add (r_var 1) e_str.r))) s_nil)
  (s_one (s_set (i := 1) nd (e_bin o_add (r_var 1) (e_call G_law_form (hr.mono (by decide)) m_law_form k_law_form b_law_form (a_cons (e_ix (r_var 0) (r_var 2)) a_nil)).r)))))
  (s_one (s_ret (e_var 1)))))
theorem sc_law_writes : FnScope N_law_writes ["tokens", "due"] (defScope s_law_writes) := ⟨rfl, rfl, rfl, by decide +kernel, rfl, by decide +kernel, by decide +kernel⟩
theorem ok_law_writes (F : Fun K "_law_writes" "_law_writes" s_law_writes f fd) {f_law_same : Addr} {fd_law_same : FuncData} (G_law_same : ∀ n, FnOk P w K mg base CX0 (1 + n) f_law_same fd_law_same ["got", "due"] (spOf K (Pu.c_same n))) (m_law_same : mg "_law_same" = some (.ref f_law_same)) (k_law_same : PySem.W.keepIn K (.ref f_law_same) = true) (b_law_same : Binds K fd_law_same ["got", "due"] []) {f_written : Addr} {fd_written : FuncData} (G_written : FnOk P w K mg base CX0 2 f_written fd_written ["tokens"] (spOf K c_written)) (m_written : mg "written" = some (.ref f_written)) (k_written : PySem.W.keepIn K (.ref f_written) = true) (b_written : Binds K fd_written ["tokens"] []) (z_list : mg "list" = none) : FnOk P w K mg base CX0 22 f fd ["tokens", "due"] (spOf K c_law_writes) := by
  have nd := (sc_law_writes).nd
  refine fn_ok F sc_law_writes (len_law_writes) (fun cdv A outer s H E hr => ⟨q_law_writes, ?_, pure_law_writes⟩)
  exact (s_cons (s_set (i := 2) nd (e_callTy c_list (by rfl) z_list PyProof.Rows.boot_list (ar_cons (r_var 0) ar_nil)))
  (s_one (s_ret (e_and (e_call (G_law_same 20) (hr.mono (by decide)) m_law_same k_law_same b_law_same (a_cons (e_call G_written (hr.mono (by decide)) m_written k_written b_written (a_cons (e_var 2) a_nil)) (a_cons (e_var 1) a_nil))) (e_one (e_call (G_law_same 20) (hr.mono (by decide)) m_law_same k_law_same b_law_same (a_cons (e_var 2) (a_cons (e_var 0) a_nil))))))))
theorem sc_law_tables : FnScope N_law_tables [] (defScope s_law_tables) := ⟨rfl, rfl, rfl, by decide +kernel, rfl, by decide +kernel, by decide +kernel⟩
theorem ok_law_tables (F : Fun K "_law_tables" "_law_tables" s_law_tables f fd) {f_law_letters : Addr} {fd_law_letters : FuncData} (G_law_letters : FnOk P w K mg base CX0 1 f_law_letters fd_law_letters [] (spOf K c_law_letters)) (m_law_letters : mg "_law_letters" = some (.ref f_law_letters)) (k_law_letters : PySem.W.keepIn K (.ref f_law_letters) = true) (b_law_letters : Binds K fd_law_letters [] []) {f_law_marks : Addr} {fd_law_marks : FuncData} (G_law_marks : FnOk P w K mg base CX0 1 f_law_marks fd_law_marks [] (spOf K c_law_marks)) (m_law_marks : mg "_law_marks" = some (.ref f_law_marks)) (k_law_marks : PySem.W.keepIn K (.ref f_law_marks) = true) (b_law_marks : Binds K fd_law_marks [] []) {f_law_same : Addr} {fd_law_same : FuncData} (G_law_same : ∀ n, FnOk P w K mg base CX0 (1 + n) f_law_same fd_law_same ["got", "due"] (spOf K (Pu.c_same n))) (m_law_same : mg "_law_same" = some (.ref f_law_same)) (k_law_same : PySem.W.keepIn K (.ref f_law_same) = true) (b_law_same : Binds K fd_law_same ["got", "due"] []) {f_is_word_char : Addr} {fd_is_word_char : FuncData} (G_is_word_char : FnOk P w K mg base CX0 1 f_is_word_char fd_is_word_char ["char"] (spOf K c_is_word_char)) (m_is_word_char : mg "is_word_char" = some (.ref f_is_word_char)) (k_is_word_char : PySem.W.keepIn K (.ref f_is_word_char) = true) (b_is_word_char : Binds K fd_is_word_char ["char"] []) {f_is_letter : Addr} {fd_is_letter : FuncData} (G_is_letter : FnOk P w K mg base CX0 1 f_is_letter fd_is_letter ["char"] (spOf K c_is_letter)) (m_is_letter : mg "is_letter" = some (.ref f_is_letter)) (k_is_letter : PySem.W.keepIn K (.ref f_is_letter) = true) (b_is_letter : Binds K fd_is_letter ["char"] []) {f_is_digit : Addr} {fd_is_digit : FuncData} (G_is_digit : FnOk P w K mg base CX0 1 f_is_digit fd_is_digit ["char"] (spOf K c_is_digit)) (m_is_digit : mg "is_digit" = some (.ref f_is_digit)) (k_is_digit : PySem.W.keepIn K (.ref f_is_digit) = true) (b_is_digit : Binds K fd_is_digit ["char"] []) (z_isinstance : mg "isinstance" = none) (z_str : mg "str" = none) (z_len : mg "len" = none) {t_LETTERS : Tok} (m_LETTERS : mg "LETTERS" = some (.str "abcdefghijklmnopqrstuvwxyzABCDEFGHIJKLMNOPQRSTUVWXYZ" t_LETTERS)) {t_DIGITS : Tok} (m_DIGITS : mg "DIGITS" = some (.str "0123456789" t_DIGITS)) {t_SPECIAL : Tok} (m_SPECIAL : mg "SPECIAL" = some (.str "\\{}$~#&^_" t_SPECIAL)) {t_WORD_CHARS : Tok} (m_WORD_CHARS : mg "WORD_CHARS" = some (.str "abcdefghijklmnopqrstuvwxyzABCDEFGHIJKLMNOPQRSTUVWXYZ0123456789!\"'()*+,-./:;<=>?\x40[]`|" t_WORD_CHARS)) {t_SIZE_LIMIT : Tok} (m_SIZE_LIMIT : mg "SIZE_LIMIT" = some (.int 6000 t_SIZE_LIMIT)) : FnOk P w K mg base CX0 22 f fd [] (spOf K c_law_tables) := by
  have nd := (sc_law_tables).nd
  refine fn_ok F sc_law_tables (len_law_tables) (fun cdv A outer s H E hr => ⟨q_law_tables, ?_, pure_law_tables⟩)
  exact (s_cons (s_set (i := 0) nd (e_bin o_add (e_call0 G_law_letters (hr.mono (by decide)) m_law_letters k_law_letters b_law_letters).r (e_call0 G_law_marks (hr.mono (by decide)) m_law_marks k_law_marks b_law_marks).r))
  (s_cons (s_set (i := 1) nd e_str)
  (s_cons (s_for PassesOwn.never rfl (i_seq (e_lst (a_cons (e_tup (a_cons (e_globS m_LETTERS) (a_cons (e_call0 G_law_letters (hr.mono (by decide)) m_law_letters k_law_letters b_law_letters) a_nil))) (a_cons (e_tup (a_cons (e_globS m_DIGITS) (a_cons e_str a_nil))) (a_cons (e_tup (a_cons (e_globS m_SPECIAL) (a_cons (e_var 1) a_nil))) (a_cons (e_tup (a_cons (e_globS m_WORD_CHARS) (a_cons (e_var 0) a_nil))) a_nil)))))) (g_name (i := 2) nd) (s_cons (s_if (t_bool (w_or (t_not (t_tru (e_isi (n := "str") (e_ix (r_var 2) e_int.r).r (by rfl) z_isinstance (by rfl) z_str PyProof.Rows.boot_str (by decide +kernel)).r)) (w_or1 (t_cmp (o_ne hr.units) (e_callB c_len (by rfl) z_len PySem.boot_len (ar_cons (e_ix (r_var 2) e_int.r).r ar_nil)).r (e_callB c_len (by rfl) z_len PySem.boot_len (ar_cons (e_ix (r_var 2) e_int.r).r ar_nil)).r)))) (s_one (s_ret e_bl)) s_nil)
  (s_one (s_for PassesOwn.never rfl (i_str (e_ix (r_var 2) e_int.r).r) (g_name (i := 3) nd) (s_one (s_if (t_cmp (o_ne hr.units) (e_bm m_count PySem.F.plainAttrs_str PySem.F.slot_str_count PySem.F.type_str_count (e_ix (r_var 2) e_int.r).r (ar_cons (r_var 3) ar_nil)).r e_int.r) (s_one (s_ret e_bl)) s_nil))))))
  (s_cons (s_for PassesOwn.never rfl (i_str (e_bin o_add (e_bin o_add (r_var 0) (r_var 1)).r e_str.r).r) (g_name (i := 3) nd) (s_cons (s_if (t_not (t_tru (e_call (G_law_same 20) (hr.mono (by decide)) m_law_same k_law_same b_law_same (a_cons (e_call G_is_word_char (hr.mono (by decide)) m_is_word_char k_is_word_char b_is_word_char (a_cons (e_var 3) a_nil)) (a_cons (e_cmp (o_in (u65 hr)) (r_var 3) (r_var 0)) a_nil))).r)) (s_one (s_ret e_bl)) s_nil)
  (s_cons (s_if (t_not (t_tru (e_call (G_law_same 20) (hr.mono (by decide)) m_law_same k_law_same b_law_same (a_cons (e_call G_is_letter (hr.mono (by decide)) m_is_letter k_is_letter b_is_letter (a_cons (e_var 3) a_nil)) (a_cons (e_cmp (o_in (u65 hr)) (r_var 3) (e_call0 G_law_letters (hr.mono (by decide)) m_law_letters k_law_letters b_law_letters).r) a_nil))).r)) (s_one (s_ret e_bl)) s_nil)
  (s_one (s_if (t_not (t_tru (e_call (G_law_same 20) (hr.mono (by decide)) m_law_same k_law_same b_law_same (a_cons (e_call G_is_digit (hr.mono (by decide)) m_is_digit k_is_digit b_is_digit (a_cons (e_var 3) a_nil)) (a_cons (e_cmp (o_in (u65 hr)) (r_var 3) e_str.r) a_nil))).r)) (s_one (s_ret e_bl)) s_nil)))))
  (s_one (s_ret (e_call (G_law_same 20) (hr.mono (by decide)) m_law_same k_law_same b_law_same (a_cons (e_globI m_SIZE_LIMIT) (a_cons e_int a_nil)))))))))
theorem sc_law_kinds : FnScope N_law_kinds [] (defScope s_law_kinds) := ⟨rfl, rfl, rfl, by decide +kernel, rfl, by decide +kernel, by decide +kernel⟩
theorem ok_law_kinds (F : Fun K "_law_kinds" "_law_kinds" s_law_kinds f fd) {f_law_letters : Addr} {fd_law_letters : FuncData} (G_law_letters : FnOk P w K mg base CX0 1 f_law_letters fd_law_letters [] (spOf K c_law_letters)) (m_law_letters : mg "_law_letters" = some (.ref f_law_letters)) (k_law_letters : PySem.W.keepIn K (.ref f_law_letters) = true) (b_law_letters : Binds K fd_law_letters [] []) {f_law_marks : Addr} {fd_law_marks : FuncData} (G_law_marks : FnOk P w K mg base CX0 1 f_law_marks fd_law_marks [] (spOf K c_law_marks)) (m_law_marks : mg "_law_marks" = some (.ref f_law_marks)) (k_law_marks : PySem.W.keepIn K (.ref f_law_marks) = true) (b_law_marks : Binds K fd_law_marks [] []) {f_law_same : Addr} {fd_law_same : FuncData} (G_law_same : ∀ n, FnOk P w K mg base CX0 (1 + n) f_law_same fd_law_same ["got", "due"] (spOf K (Pu.c_same n))) (m_law_same : mg "_law_same" = some (.ref f_law_same)) (k_law_same : PySem.W.keepIn K (.ref f_law_same) = true) (b_law_same : Binds K fd_law_same ["got", "due"] []) {f_sign_kind : Addr} {fd_sign_kind : FuncData} (G_sign_kind : FnOk P w K mg base CX0 1 f_sign_kind fd_sign_kind ["char"] (spOf K c_sign_kind)) (m_sign_kind : mg "sign_kind" = some (.ref f_sign_kind)) (k_sign_kind : PySem.W.keepIn K (.ref f_sign_kind) = true) (b_sign_kind : Binds K fd_sign_kind ["char"] []) : FnOk P w K mg base CX0 22 f fd [] (spOf K c_law_kinds) := by
  have nd := (sc_law_kinds).nd
  refine fn_ok F sc_law_kinds (len_law_kinds) (fun cdv A outer s H E hr => ⟨q_law_kinds, ?_, pure_law_kinds⟩)
  exact (s_cons (s_set (i := 0) nd (e_lst (a_cons (e_tup (a_cons e_str (a_cons e_str a_nil))) (a_cons (e_tup (a_cons e_str (a_cons e_str a_nil))) (a_cons (e_tup (a_cons e_str (a_cons e_str a_nil))) (a_cons (e_tup (a_cons e_str (a_cons e_str a_nil))) (a_cons (e_tup (a_cons e_str (a_cons e_str a_nil))) a_nil)))))))
  (s_cons (s_for PassesOwn.never rfl (i_str (e_bin o_add (e_call0 G_law_letters (hr.mono (by decide)) m_law_letters k_law_letters b_law_letters).r (e_call0 G_law_marks (hr.mono (by decide)) m_law_marks k_law_marks b_law_marks).r).r) (g_name (i := 1) nd) (s_cons (s_set (i := 2) nd e_str)
  (s_cons (s_for PassesOwn.never rfl (i_seq (e_var 0)) (g_name (i := 3) nd) (s_one (s_if (t_cmp (o_in (u65 hr)) (r_var 1) (e_ix (r_var 3) e_int.r).r) (s_one (s_set (i := 2) nd (e_ix (r_var 3) e_int.r))) s_nil)))
  (s_one (s_if (t_not (t_tru (e_call (G_law_same 20) (hr.mono (by decide)) m_law_same k_law_same b_law_same (a_cons (e_call G_sign_kind (hr.mono (by decide)) m_sign_kind k_sign_kind b_sign_kind (a_cons (e_var 1) a_nil)) (a_cons (e_var 2) a_nil))).r)) (s_one (s_ret e_bl)) s_nil)))))
  (s_one (s_ret e_bl))))
theorem sc_law : FnScope N_law ["script"] (defScope s_law) := ⟨rfl, rfl, rfl, by decide +kernel, rfl, by decide +kernel, by decide +kernel⟩
theorem ok_law (F : Fun K "law" "law" s_law f fd) {f_law_pool : Addr} {fd_law_pool : FuncData} (G_law_pool : FnOk P w K mg base CX0 1 f_law_pool fd_law_pool ["script"] (spOf K c_law_pool)) (m_law_pool : mg "_law_pool" = some (.ref f_law_pool)) (k_law_pool : PySem.W.keepIn K (.ref f_law_pool) = true) (b_law_pool : Binds K fd_law_pool ["script"] []) {f_law_tokens : Addr} {fd_law_tokens : FuncData} (G_law_tokens : FnOk P w K mg base CX0 6 f_law_tokens fd_law_tokens ["pool"] (spOf K c_law_tokens)) (m_law_tokens : mg "_law_tokens" = some (.ref f_law_tokens)) (k_law_tokens : PySem.W.keepIn K (.ref f_law_tokens) = true) (b_law_tokens : Binds K fd_law_tokens ["pool"] []) {f_law_spot : Addr} {fd_law_spot : FuncData} (G_law_spot : FnOk P w K mg base CX0 1 f_law_spot fd_law_spot ["text", "at"] (spOf K c_law_spot)) (m_law_spot : mg "_law_spot" = some (.ref f_law_spot)) (k_law_spot : PySem.W.keepIn K (.ref f_law_spot) = true) (b_law_spot : Binds K fd_law_spot ["text", "at"] []) {f_tokenize : Addr} {fd_tokenize : FuncData} (G_tokenize : FnOk P w K mg base CX0 4 f_tokenize fd_tokenize ["text"] (spNw K c_tokenize)) (m_tokenize : mg "tokenize" = some (.ref f_tokenize)) (k_tokenize : PySem.W.keepIn K (.ref f_tokenize) = true) (b_tokenize : Binds K fd_tokenize ["text"] []) {f_law_same : Addr} {fd_law_same : FuncData} (G_law_same : ∀ n, FnOk P w K mg base CX0 (1 + n) f_law_same fd_law_same ["got", "due"] (spOf K (Pu.c_same n))) (m_law_same : mg "_law_same" = some (.ref f_law_same)) (k_law_same : PySem.W.keepIn K (.ref f_law_same) = true) (b_law_same : Binds K fd_law_same ["got", "due"] []) {f_size_of : Addr} {fd_size_of : FuncData} (G_size_of : FnOk P w K mg base CX0 2 f_size_of fd_size_of ["token"] (spOf K c_size_of)) (m_size_of : mg "size_of" = some (.ref f_size_of)) (k_size_of : PySem.W.keepIn K (.ref f_size_of) = true) (b_size_of : Binds K fd_size_of ["token"] []) {f_law_form : Addr} {fd_law_form : FuncData} (G_law_form : FnOk P w K mg base CX0 1 f_law_form fd_law_form ["token"] (spOf K c_law_form)) (m_law_form : mg "_law_form" = some (.ref f_law_form)) (k_law_form : PySem.W.keepIn K (.ref f_law_form) = true) (b_law_form : Binds K fd_law_form ["token"] []) {f_law_draw : Addr} {fd_law_draw : FuncData} (G_law_draw : FnOk P w K mg base CX0 1 f_law_draw fd_law_draw ["pool", "many"] (spOf K c_law_draw)) (m_law_draw : mg "_law_draw" = some (.ref f_law_draw)) (k_law_draw : PySem.W.keepIn K (.ref f_law_draw) = true) (b_law_draw : Binds K fd_law_draw ["pool", "many"] []) {f_law_writes : Addr} {fd_law_writes : FuncData} (G_law_writes : FnOk P w K mg base CX0 22 f_law_writes fd_law_writes ["tokens", "due"] (spOf K c_law_writes)) (m_law_writes : mg "_law_writes" = some (.ref f_law_writes)) (k_law_writes : PySem.W.keepIn K (.ref f_law_writes) = true) (b_law_writes : Binds K fd_law_writes ["tokens", "due"] []) {f_law_joined : Addr} {fd_law_joined : FuncData} (G_law_joined : FnOk P w K mg base CX0 2 f_law_joined fd_law_joined ["tokens"] (spOf K c_law_joined)) (m_law_joined : mg "_law_joined" = some (.ref f_law_joined)) (k_law_joined : PySem.W.keepIn K (.ref f_law_joined) = true) (b_law_joined : Binds K fd_law_joined ["tokens"] []) {f_law_tables : Addr} {fd_law_tables : FuncData} (G_law_tables : FnOk P w K mg base CX0 22 f_law_tables fd_law_tables [] (spOf K c_law_tables)) (m_law_tables : mg "_law_tables" = some (.ref f_law_tables)) (k_law_tables : PySem.W.keepIn K (.ref f_law_tables) = true) (b_law_tables : Binds K fd_law_tables [] []) {f_law_kinds : Addr} {fd_law_kinds : FuncData} (G_law_kinds : FnOk P w K mg base CX0 22 f_law_kinds fd_law_kinds [] (spOf K c_law_kinds)) (m_law_kinds : mg "_law_kinds" = some (.ref f_law_kinds)) (k_law_kinds : PySem.W.keepIn K (.ref f_law_kinds) = true) (b_law_kinds : Binds K fd_law_kinds [] []) (z_len : mg "len" = none) (z_list : mg "list" = none) (z_reversed : mg "reversed" = none) : FnOk P w K mg base CX0 23 f fd ["script"] (spOf K c_law) := by
  have nd := (sc_law).nd
  refine fn_ok F sc_law (len_law) (fun cdv A outer s H E hr => ⟨q_law, ?_, pure_law⟩)
  exact (s_cons (s_set (i := 1) nd (e_call G_law_pool (hr.mono (by decide)) m_law_pool k_law_pool b_law_pool (a_cons (e_var 0) a_nil)))
  (s_cons (s_set (i := 2) nd (e_call G_law_tokens (hr.mono (by decide)) m_law_tokens k_law_tokens b_law_tokens (a_cons (e_var 1) a_nil)))
  (s_cons (s_set (i := 3) nd (e_bm m_join PySem.F.plainAttrs_str PySem.F.slot_str_join PySem.F.type_str_join e_str.r (ar_cons (f_comp (own := [("one", 6)]) rfl nd (ir_seq (r_var 2)) (blkOk_by (N := N_law) (sc := defScope s_law) (by decide +kernel)) (fun _ _ _ _ _ => (g_name (i := 6) nd)) (fun _ _ _ _ _ => ts_nil) (fun _ _ _ _ _ => (e_ix (r_var 6) e_int.r))).e.r ar_nil)))
  (s_cons (s_setN (i := 4) nd (f_lst a_nil))
  (s_cons (s_set (i := 5) nd e_int)
  (s_cons (s_for PassesOwn.never rfl (i_seq (e_var 2)) (g_name (i := 6) nd) (s_cons (s_app (pe_bm PySem.F.plainAttrs_list PySem.F.slot_list_append PySem.F.type_list_append mt_append (pv 4) (pa_cons (e_bin o_add (e_slice (r_var 6) o_none (o_some e_int.r)).r (e_call G_law_spot (hr.mono (by decide)) m_law_spot k_law_spot b_law_spot (a_cons (e_var 3) (a_cons (e_var 5) a_nil))).r) pa_nil)))
  (s_one (s_set (i := 5) nd (e_bin o_add (r_var 5) (e_callB c_len (by rfl) z_len PySem.boot_len (ar_cons (e_ix (r_var 6) e_int.r).r ar_nil)).r)))))
  (s_cons (s_setN (i := 7) nd (f_call G_tokenize (hr.mono (by decide)) m_tokenize k_tokenize b_tokenize (a_cons (e_var 3) a_nil)))
  (s_cons (s_if (t_not (t_tru (e_callL (G_law_same 20) (hr.mono (by decide)) m_law_same k_law_same b_law_same (ar_cons (r_var 7) (ar_cons (r_var 4) ar_nil))).r)) (s_one (s_ret e_bl)) s_nil)
  (s_cons (s_rev (pe_bm0 PySem.F.plainAttrs_list PySem.F.slot_list_reverse PySem.F.type_list_reverse mt_reverse (pv 7)))
  (s_cons (s_app (pe_bm PySem.F.plainAttrs_list PySem.F.slot_list_append PySem.F.type_list_append mt_append (pv 7) (pa_cons e_non pa_nil)))
  (s_frz 4 (s_cons (s_if (t_not (t_tru (e_call (G_law_same 20) (hr.mono (by decide)) m_law_same k_law_same b_law_same (a_cons (f_call G_tokenize (hr.mono (by decide)) m_tokenize k_tokenize b_tokenize (a_cons (e_var 3) a_nil)).e (a_cons (e_var 4) a_nil))).r)) (s_one (s_ret e_bl)) s_nil)
  (s_cons (s_for PassesOwn.never rfl (i_seq (e_var 4)) (g_name (i := 8) nd) (s_one (s_if (t_not (t_tru (e_call (G_law_same 20) (hr.mono (by decide)) m_law_same k_law_same b_law_same (a_cons (e_call G_size_of (hr.mono (by decide)) m_size_of k_size_of b_size_of (a_cons (e_var 8) a_nil)) (a_cons (e_callB c_len (by rfl) z_len PySem.boot_len (ar_cons (e_call G_law_form (hr.mono (by decide)) m_law_form k_law_form b_law_form (a_cons (e_var 8) a_nil)).r ar_nil)) a_nil))).r)) (s_one (s_ret e_bl)) s_nil)))
  (s_cons (s_setLc (i := 9) (own := [("token", 8)]) rfl nd (ir_seq (r_var 4)) (blkOk_by (N := N_law) (sc := defScope s_law) (by decide +kernel)) (fun _ _ _ _ _ => (g_name (i := 8) nd)) (fun _ _ _ _ _ => (ts_one (t_cmp (o_notin (u65 hr)) (e_ix (r_var 8) e_int.r).r (e_tup (a_cons e_str (a_cons e_str a_nil))).r))) (fun _ _ _ _ _ => (e_var 8)) (sw_true rfl rfl rfl (by decide +kernel)))
  (s_cons (s_if (t_cmp (o_eq hr.units) (e_call G_law_draw (hr.mono (by decide)) m_law_draw k_law_draw b_law_draw (a_cons (e_var 1) (a_cons e_int a_nil))).r e_int.r) (s_one (s_set (i := 9) nd (e_listRev rfl (by rfl) z_list (by rfl) z_reversed (r_var 4)))) (s_frz 9 s_nil))
  (s_cons (s_set (i := 9) nd (e_bin o_add (r_var 9) (e_lst (a_cons (e_tup (a_cons e_str (a_cons e_str (a_cons e_int (a_cons e_int a_nil))))) (a_cons (e_tup (a_cons e_str (a_cons e_str (a_cons e_int (a_cons e_int a_nil))))) (a_cons (e_tup (a_cons e_str (a_cons e_str (a_cons e_int (a_cons e_int a_nil))))) (a_cons (e_tup (a_cons e_str (a_cons e_str (a_cons e_int (a_cons e_int a_nil))))) (a_cons (e_tup (a_cons e_str (a_cons e_str (a_cons e_int (a_cons e_int a_nil))))) a_nil)))))).r))
  (s_cons (s_if (t_bool (w_or (t_not (t_tru (e_call G_law_writes (hr.mono (by decide)) m_law_writes k_law_writes b_law_writes (a_cons (e_var 4) (a_cons (e_bm m_join PySem.F.plainAttrs_str PySem.F.slot_str_join PySem.F.type_str_join e_str.r (ar_cons (f_comp (own := [("one", 6)]) rfl nd (ir_seq (r_var 2)) (blkOk_by (N := N_law) (sc := defScope s_law) (by decide +kernel)) (fun _ _ _ _ _ => (g_name (i := 6) nd)) (fun _ _ _ _ _ => ts_nil) (fun _ _ _ _ _ => (e_call G_law_form (hr.mono (by decide)) m_law_form k_law_form b_law_form (a_cons (e_var 6) a_nil)))).e.r ar_nil)) a_nil))).r)) (w_or1 (t_not (t_tru (e_call G_law_writes (hr.mono (by decide)) m_law_writes k_law_writes b_law_writes (a_cons (e_var 9) (a_cons (e_call G_law_joined (hr.mono (by decide)) m_law_joined k_law_joined b_law_joined (a_cons (e_var 9) a_nil)) a_nil))).r))))) (s_one (s_ret e_bl)) s_nil)
  (s_one (s_ret (e_and (e_call0 G_law_tables (hr.mono (by decide)) m_law_tables k_law_tables b_law_tables) (e_one (e_call0 G_law_kinds (hr.mono (by decide)) m_law_kinds k_law_kinds b_law_kinds))))))))))))))))))))))
end
end Gly
namespace Gly
open PySem PySem.Spec L2 Pu
theorem all_mk {l : PySem.W.OpenLaw} {w : World} {K : PySem.W.Frag} {h : Heap} {mg : Str → Option Value} {fa : Addr} (X : K.In h) (G : h.Ns mainGlobals mg) (hfa : mg "law" = some (.ref fa))
    {f0 : Addr} {od0 an0 : Option Addr} {sl0 : Array (Option Value)} {oc0 kV0 dc0 pm0 ct0 : Value} {cd0 : Value}
    (a0 : PySem.W.nsIn K mainGlobals "is_word_char" = some (some (.ref f0)))
    (l0 : K.lookup f0 = some ⟨oc0, od0, .func (PySem.W.fnOf "is_word_char" "is_word_char" (defArgs s_is_word_char) (defBody s_is_word_char) (defScope s_is_word_char) .none kV0 dc0 pm0 an0 cd0 ct0), sl0⟩) (c0 : PySem.W.codeIn K cd0 "is_word_char" = true) (k0 : PySem.W.keepIn K (.ref f0) = true)
    {f1 : Addr} {od1 an1 : Option Addr} {sl1 : Array (Option Value)} {oc1 kV1 dc1 pm1 ct1 : Value} {cd1 : Value}
    (a1 : PySem.W.nsIn K mainGlobals "is_letter" = some (some (.ref f1)))
    (l1 : K.lookup f1 = some ⟨oc1, od1, .func (PySem.W.fnOf "is_letter" "is_letter" (defArgs s_is_letter) (defBody s_is_letter) (defScope s_is_letter) .none kV1 dc1 pm1 an1 cd1 ct1), sl1⟩) (c1 : PySem.W.codeIn K cd1 "is_letter" = true) (k1 : PySem.W.keepIn K (.ref f1) = true)
    {f2 : Addr} {od2 an2 : Option Addr} {sl2 : Array (Option Value)} {oc2 kV2 dc2 pm2 ct2 : Value} {cd2 : Value}
    (a2 : PySem.W.nsIn K mainGlobals "is_digit" = some (some (.ref f2)))
    (l2 : K.lookup f2 = some ⟨oc2, od2, .func (PySem.W.fnOf "is_digit" "is_digit" (defArgs s_is_digit) (defBody s_is_digit) (defScope s_is_digit) .none kV2 dc2 pm2 an2 cd2 ct2), sl2⟩) (c2 : PySem.W.codeIn K cd2 "is_digit" = true) (k2 : PySem.W.keepIn K (.ref f2) = true)
    {f3 : Addr} {od3 an3 : Option Addr} {sl3 : Array (Option Value)} {oc3 kV3 dc3 pm3 ct3 : Value} {cd3 : Value}
    (a3 : PySem.W.nsIn K mainGlobals "sign_kind" = some (some (.ref f3)))
    (l3 : K.lookup f3 = some ⟨oc3, od3, .func (PySem.W.fnOf "sign_kind" "sign_kind" (defArgs s_sign_kind) (defBody s_sign_kind) (defScope s_sign_kind) .none kV3 dc3 pm3 an3 cd3 ct3), sl3⟩) (c3 : PySem.W.codeIn K cd3 "sign_kind" = true) (k3 : PySem.W.keepIn K (.ref f3) = true)
    {f4 : Addr} {od4 an4 : Option Addr} {sl4 : Array (Option Value)} {oc4 kV4 dc4 pm4 ct4 : Value} {cd4 : Value}
    (a4 : PySem.W.nsIn K mainGlobals "tokenize" = some (some (.ref f4)))
    (l4 : K.lookup f4 = some ⟨oc4, od4, .func (PySem.W.fnOf "tokenize" "tokenize" (defArgs s_tokenize) (defBody s_tokenize) (defScope s_tokenize) .none kV4 dc4 pm4 an4 cd4 ct4), sl4⟩) (c4 : PySem.W.codeIn K cd4 "tokenize" = true) (k4 : PySem.W.keepIn K (.ref f4) = true)
    {f5 : Addr} {od5 an5 : Option Addr} {sl5 : Array (Option Value)} {oc5 kV5 dc5 pm5 ct5 : Value} {cd5 : Value}
    (a5 : PySem.W.nsIn K mainGlobals "_token_at" = some (some (.ref f5)))
    (l5 : K.lookup f5 = some ⟨oc5, od5, .func (PySem.W.fnOf "_token_at" "_token_at" (defArgs s_token_at) (defBody s_token_at) (defScope s_token_at) .none kV5 dc5 pm5 an5 cd5 ct5), sl5⟩) (c5 : PySem.W.codeIn K cd5 "_token_at" = true) (k5 : PySem.W.keepIn K (.ref f5) = true)
    {f6 : Addr} {od6 an6 : Option Addr} {sl6 : Array (Option Value)} {oc6 kV6 dc6 pm6 ct6 : Value} {cd6 : Value}
    (a6 : PySem.W.nsIn K mainGlobals "_param_at" = some (some (.ref f6)))
    (l6 : K.lookup f6 = some ⟨oc6, od6, .func (PySem.W.fnOf "_param_at" "_param_at" (defArgs s_param_at) (defBody s_param_at) (defScope s_param_at) .none kV6 dc6 pm6 an6 cd6 ct6), sl6⟩) (c6 : PySem.W.codeIn K cd6 "_param_at" = true) (k6 : PySem.W.keepIn K (.ref f6) = true)
    {f7 : Addr} {od7 an7 : Option Addr} {sl7 : Array (Option Value)} {oc7 kV7 dc7 pm7 ct7 : Value} {cd7 : Value}
    (a7 : PySem.W.nsIn K mainGlobals "_escape_at" = some (some (.ref f7)))
    (l7 : K.lookup f7 = some ⟨oc7, od7, .func (PySem.W.fnOf "_escape_at" "_escape_at" (defArgs s_escape_at) (defBody s_escape_at) (defScope s_escape_at) .none kV7 dc7 pm7 an7 cd7 ct7), sl7⟩) (c7 : PySem.W.codeIn K cd7 "_escape_at" = true) (k7 : PySem.W.keepIn K (.ref f7) = true)
    {f8 : Addr} {od8 an8 : Option Addr} {sl8 : Array (Option Value)} {oc8 kV8 dc8 pm8 ct8 : Value} {cd8 : Value}
    (a8 : PySem.W.nsIn K mainGlobals "_run_end" = some (some (.ref f8)))
    (l8 : K.lookup f8 = some ⟨oc8, od8, .func (PySem.W.fnOf "_run_end" "_run_end" (defArgs s_run_end) (defBody s_run_end) (defScope s_run_end) .none kV8 dc8 pm8 an8 cd8 ct8), sl8⟩) (c8 : PySem.W.codeIn K cd8 "_run_end" = true) (k8 : PySem.W.keepIn K (.ref f8) = true)
    {f9 : Addr} {od9 an9 : Option Addr} {sl9 : Array (Option Value)} {oc9 kV9 dc9 pm9 ct9 : Value} {cd9 : Value}
    (a9 : PySem.W.nsIn K mainGlobals "written" = some (some (.ref f9)))
    (l9 : K.lookup f9 = some ⟨oc9, od9, .func (PySem.W.fnOf "written" "written" (defArgs s_written) (defBody s_written) (defScope s_written) .none kV9 dc9 pm9 an9 cd9 ct9), sl9⟩) (c9 : PySem.W.codeIn K cd9 "written" = true) (k9 : PySem.W.keepIn K (.ref f9) = true)
    {f10 : Addr} {od10 an10 : Option Addr} {sl10 : Array (Option Value)} {oc10 kV10 dc10 pm10 ct10 : Value} {cd10 : Value}
    (a10 : PySem.W.nsIn K mainGlobals "size_of" = some (some (.ref f10)))
    (l10 : K.lookup f10 = some ⟨oc10, od10, .func (PySem.W.fnOf "size_of" "size_of" (defArgs s_size_of) (defBody s_size_of) (defScope s_size_of) .none kV10 dc10 pm10 an10 cd10 ct10), sl10⟩) (c10 : PySem.W.codeIn K cd10 "size_of" = true) (k10 : PySem.W.keepIn K (.ref f10) = true)
    {f11 : Addr} {od11 an11 : Option Addr} {sl11 : Array (Option Value)} {oc11 kV11 dc11 pm11 ct11 : Value} {cd11 : Value}
    (a11 : PySem.W.nsIn K mainGlobals "_written_token" = some (some (.ref f11)))
    (l11 : K.lookup f11 = some ⟨oc11, od11, .func (PySem.W.fnOf "_written_token" "_written_token" (defArgs s_written_token) (defBody s_written_token) (defScope s_written_token) .none kV11 dc11 pm11 an11 cd11 ct11), sl11⟩) (c11 : PySem.W.codeIn K cd11 "_written_token" = true) (k11 : PySem.W.keepIn K (.ref f11) = true)
    {f12 : Addr} {od12 an12 : Option Addr} {sl12 : Array (Option Value)} {oc12 kV12 dc12 pm12 ct12 : Value} {cd12 : Value}
    (a12 : PySem.W.nsIn K mainGlobals "_law_pool" = some (some (.ref f12)))
    (l12 : K.lookup f12 = some ⟨oc12, od12, .func (PySem.W.fnOf "_law_pool" "_law_pool" (defArgs s_law_pool) (defBody s_law_pool) (defScope s_law_pool) .none kV12 dc12 pm12 an12 cd12 ct12), sl12⟩) (c12 : PySem.W.codeIn K cd12 "_law_pool" = true) (k12 : PySem.W.keepIn K (.ref f12) = true)
    {f13 : Addr} {od13 an13 : Option Addr} {sl13 : Array (Option Value)} {oc13 kV13 dc13 pm13 ct13 : Value} {cd13 : Value}
    (a13 : PySem.W.nsIn K mainGlobals "_law_draw" = some (some (.ref f13)))
    (l13 : K.lookup f13 = some ⟨oc13, od13, .func (PySem.W.fnOf "_law_draw" "_law_draw" (defArgs s_law_draw) (defBody s_law_draw) (defScope s_law_draw) .none kV13 dc13 pm13 an13 cd13 ct13), sl13⟩) (c13 : PySem.W.codeIn K cd13 "_law_draw" = true) (k13 : PySem.W.keepIn K (.ref f13) = true)
    {f14 : Addr} {od14 an14 : Option Addr} {sl14 : Array (Option Value)} {oc14 kV14 dc14 pm14 ct14 : Value} {cd14 : Value}
    (a14 : PySem.W.nsIn K mainGlobals "_law_pick" = some (some (.ref f14)))
    (l14 : K.lookup f14 = some ⟨oc14, od14, .func (PySem.W.fnOf "_law_pick" "_law_pick" (defArgs s_law_pick) (defBody s_law_pick) (defScope s_law_pick) .none kV14 dc14 pm14 an14 cd14 ct14), sl14⟩) (c14 : PySem.W.codeIn K cd14 "_law_pick" = true) (k14 : PySem.W.keepIn K (.ref f14) = true)
    {f15 : Addr} {od15 an15 : Option Addr} {sl15 : Array (Option Value)} {oc15 kV15 dc15 pm15 ct15 : Value} {cd15 : Value}
    (a15 : PySem.W.nsIn K mainGlobals "_law_rare" = some (some (.ref f15)))
    (l15 : K.lookup f15 = some ⟨oc15, od15, .func (PySem.W.fnOf "_law_rare" "_law_rare" (defArgs s_law_rare) (defBody s_law_rare) (defScope s_law_rare) .none kV15 dc15 pm15 an15 cd15 ct15), sl15⟩) (c15 : PySem.W.codeIn K cd15 "_law_rare" = true) (k15 : PySem.W.keepIn K (.ref f15) = true)
    {f16 : Addr} {od16 an16 : Option Addr} {sl16 : Array (Option Value)} {oc16 kV16 dc16 pm16 ct16 : Value} {cd16 : Value}
    (a16 : PySem.W.nsIn K mainGlobals "_law_few" = some (some (.ref f16)))
    (l16 : K.lookup f16 = some ⟨oc16, od16, .func (PySem.W.fnOf "_law_few" "_law_few" (defArgs s_law_few) (defBody s_law_few) (defScope s_law_few) .none kV16 dc16 pm16 an16 cd16 ct16), sl16⟩) (c16 : PySem.W.codeIn K cd16 "_law_few" = true) (k16 : PySem.W.keepIn K (.ref f16) = true)
    {f17 : Addr} {od17 an17 : Option Addr} {sl17 : Array (Option Value)} {oc17 kV17 dc17 pm17 ct17 : Value} {cd17 : Value}
    (a17 : PySem.W.nsIn K mainGlobals "_law_same" = some (some (.ref f17)))
    (l17 : K.lookup f17 = some ⟨oc17, od17, .func (PySem.W.fnOf "_law_same" "_law_same" (defArgs s_law_same) (defBody s_law_same) (defScope s_law_same) .none kV17 dc17 pm17 an17 cd17 ct17), sl17⟩) (c17 : PySem.W.codeIn K cd17 "_law_same" = true) (k17 : PySem.W.keepIn K (.ref f17) = true)
    {f18 : Addr} {od18 an18 : Option Addr} {sl18 : Array (Option Value)} {oc18 kV18 dc18 pm18 ct18 : Value} {cd18 : Value}
    (a18 : PySem.W.nsIn K mainGlobals "_law_letters" = some (some (.ref f18)))
    (l18 : K.lookup f18 = some ⟨oc18, od18, .func (PySem.W.fnOf "_law_letters" "_law_letters" (defArgs s_law_letters) (defBody s_law_letters) (defScope s_law_letters) .none kV18 dc18 pm18 an18 cd18 ct18), sl18⟩) (c18 : PySem.W.codeIn K cd18 "_law_letters" = true) (k18 : PySem.W.keepIn K (.ref f18) = true)
    {f19 : Addr} {od19 an19 : Option Addr} {sl19 : Array (Option Value)} {oc19 kV19 dc19 pm19 ct19 : Value} {cd19 : Value}
    (a19 : PySem.W.nsIn K mainGlobals "_law_marks" = some (some (.ref f19)))
    (l19 : K.lookup f19 = some ⟨oc19, od19, .func (PySem.W.fnOf "_law_marks" "_law_marks" (defArgs s_law_marks) (defBody s_law_marks) (defScope s_law_marks) .none kV19 dc19 pm19 an19 cd19 ct19), sl19⟩) (c19 : PySem.W.codeIn K cd19 "_law_marks" = true) (k19 : PySem.W.keepIn K (.ref f19) = true)
    {f20 : Addr} {od20 an20 : Option Addr} {sl20 : Array (Option Value)} {oc20 kV20 dc20 pm20 ct20 : Value} {cd20 : Value}
    (a20 : PySem.W.nsIn K mainGlobals "_law_run" = some (some (.ref f20)))
    (l20 : K.lookup f20 = some ⟨oc20, od20, .func (PySem.W.fnOf "_law_run" "_law_run" (defArgs s_law_run) (defBody s_law_run) (defScope s_law_run) .none kV20 dc20 pm20 an20 cd20 ct20), sl20⟩) (c20 : PySem.W.codeIn K cd20 "_law_run" = true) (k20 : PySem.W.keepIn K (.ref f20) = true)
    {f21 : Addr} {od21 an21 : Option Addr} {sl21 : Array (Option Value)} {oc21 kV21 dc21 pm21 ct21 : Value} {cd21 : Value}
    (a21 : PySem.W.nsIn K mainGlobals "_law_token" = some (some (.ref f21)))
    (l21 : K.lookup f21 = some ⟨oc21, od21, .func (PySem.W.fnOf "_law_token" "_law_token" (defArgs s_law_token) (defBody s_law_token) (defScope s_law_token) .none kV21 dc21 pm21 an21 cd21 ct21), sl21⟩) (c21 : PySem.W.codeIn K cd21 "_law_token" = true) (k21 : PySem.W.keepIn K (.ref f21) = true)
    {f22 : Addr} {od22 an22 : Option Addr} {sl22 : Array (Option Value)} {oc22 kV22 dc22 pm22 ct22 : Value} {cd22 : Value}
    (a22 : PySem.W.nsIn K mainGlobals "_law_tokens" = some (some (.ref f22)))
    (l22 : K.lookup f22 = some ⟨oc22, od22, .func (PySem.W.fnOf "_law_tokens" "_law_tokens" (defArgs s_law_tokens) (defBody s_law_tokens) (defScope s_law_tokens) .none kV22 dc22 pm22 an22 cd22 ct22), sl22⟩) (c22 : PySem.W.codeIn K cd22 "_law_tokens" = true) (k22 : PySem.W.keepIn K (.ref f22) = true)
    {f23 : Addr} {od23 an23 : Option Addr} {sl23 : Array (Option Value)} {oc23 kV23 dc23 pm23 ct23 : Value} {cd23 : Value}
    (a23 : PySem.W.nsIn K mainGlobals "_law_spot" = some (some (.ref f23)))
    (l23 : K.lookup f23 = some ⟨oc23, od23, .func (PySem.W.fnOf "_law_spot" "_law_spot" (defArgs s_law_spot) (defBody s_law_spot) (defScope s_law_spot) .none kV23 dc23 pm23 an23 cd23 ct23), sl23⟩) (c23 : PySem.W.codeIn K cd23 "_law_spot" = true) (k23 : PySem.W.keepIn K (.ref f23) = true)
    {f24 : Addr} {od24 an24 : Option Addr} {sl24 : Array (Option Value)} {oc24 kV24 dc24 pm24 ct24 : Value} {cd24 : Value}
    (a24 : PySem.W.nsIn K mainGlobals "_law_form" = some (some (.ref f24)))
    (l24 : K.lookup f24 = some ⟨oc24, od24, .func (PySem.W.fnOf "_law_form" "_law_form" (defArgs s_law_form) (defBody s_law_form) (defScope s_law_form) .none kV24 dc24 pm24 an24 cd24 ct24), sl24⟩) (c24 : PySem.W.codeIn K cd24 "_law_form" = true) (k24 : PySem.W.keepIn K (.ref f24) = true)
    {f25 : Addr} {od25 an25 : Option Addr} {sl25 : Array (Option Value)} {oc25 kV25 dc25 pm25 ct25 : Value} {cd25 : Value}
    (a25 : PySem.W.nsIn K mainGlobals "_law_joined" = some (some (.ref f25)))
    (l25 : K.lookup f25 = some ⟨oc25, od25, .func (PySem.W.fnOf "_law_joined" "_law_joined" (defArgs s_law_joined) (defBody s_law_joined) (defScope s_law_joined) .none kV25 dc25 pm25 an25 cd25 ct25), sl25⟩) (c25 : PySem.W.codeIn K cd25 "_law_joined" = true) (k25 : PySem.W.keepIn K (.ref f25) = true)
    {f26 : Addr} {od26 an26 : Option Addr} {sl26 : Array (Option Value)} {oc26 kV26 dc26 pm26 ct26 : Value} {cd26 : Value}
    (a26 : PySem.W.nsIn K mainGlobals "_law_writes" = some (some (.ref f26)))
    (l26 : K.lookup f26 = some ⟨oc26, od26, .func (PySem.W.fnOf "_law_writes" "_law_writes" (defArgs s_law_writes) (defBody s_law_writes) (defScope s_law_writes) .none kV26 dc26 pm26 an26 cd26 ct26), sl26⟩) (c26 : PySem.W.codeIn K cd26 "_law_writes" = true) (k26 : PySem.W.keepIn K (.ref f26) = true)
    {f27 : Addr} {od27 an27 : Option Addr} {sl27 : Array (Option Value)} {oc27 kV27 dc27 pm27 ct27 : Value} {cd27 : Value}
    (a27 : PySem.W.nsIn K mainGlobals "_law_tables" = some (some (.ref f27)))
    (l27 : K.lookup f27 = some ⟨oc27, od27, .func (PySem.W.fnOf "_law_tables" "_law_tables" (defArgs s_law_tables) (defBody s_law_tables) (defScope s_law_tables) .none kV27 dc27 pm27 an27 cd27 ct27), sl27⟩) (c27 : PySem.W.codeIn K cd27 "_law_tables" = true) (k27 : PySem.W.keepIn K (.ref f27) = true)
    {f28 : Addr} {od28 an28 : Option Addr} {sl28 : Array (Option Value)} {oc28 kV28 dc28 pm28 ct28 : Value} {cd28 : Value}
    (a28 : PySem.W.nsIn K mainGlobals "_law_kinds" = some (some (.ref f28)))
    (l28 : K.lookup f28 = some ⟨oc28, od28, .func (PySem.W.fnOf "_law_kinds" "_law_kinds" (defArgs s_law_kinds) (defBody s_law_kinds) (defScope s_law_kinds) .none kV28 dc28 pm28 an28 cd28 ct28), sl28⟩) (c28 : PySem.W.codeIn K cd28 "_law_kinds" = true) (k28 : PySem.W.keepIn K (.ref f28) = true)
    {f29 : Addr} {od29 an29 : Option Addr} {sl29 : Array (Option Value)} {oc29 kV29 dc29 pm29 ct29 : Value} {cd29 : Value}
    (a29 : PySem.W.nsIn K mainGlobals "law" = some (some (.ref f29)))
    (l29 : K.lookup f29 = some ⟨oc29, od29, .func (PySem.W.fnOf "law" "law" (defArgs s_law) (defBody s_law) (defScope s_law) .none kV29 dc29 pm29 an29 cd29 ct29), sl29⟩) (c29 : PySem.W.codeIn K cd29 "law" = true) (k29 : PySem.W.keepIn K (.ref f29) = true)
    (z_len : PySem.W.nsIn K mainGlobals "len" = some none)
    (z_list : PySem.W.nsIn K mainGlobals "list" = some none)
    (z_abs : PySem.W.nsIn K mainGlobals "abs" = some none)
    (z_int : PySem.W.nsIn K mainGlobals "int" = some none)
    (z_isinstance : PySem.W.nsIn K mainGlobals "isinstance" = some none)
    (z_bool : PySem.W.nsIn K mainGlobals "bool" = some none)
    (z_str : PySem.W.nsIn K mainGlobals "str" = some none)
    (z_tuple : PySem.W.nsIn K mainGlobals "tuple" = some none)
    (z_range : PySem.W.nsIn K mainGlobals "range" = some none)
    (z_max : PySem.W.nsIn K mainGlobals "max" = some none)
    (z_reversed : PySem.W.nsIn K mainGlobals "reversed" = some none)
    {t_WORD_CHARS : Tok} (g_WORD_CHARS : PySem.W.nsIn K mainGlobals "WORD_CHARS" = some (some (.str "abcdefghijklmnopqrstuvwxyzABCDEFGHIJKLMNOPQRSTUVWXYZ0123456789!\"'()*+,-./:;<=>?\x40[]`|" t_WORD_CHARS)))
    {t_LETTERS : Tok} (g_LETTERS : PySem.W.nsIn K mainGlobals "LETTERS" = some (some (.str "abcdefghijklmnopqrstuvwxyzABCDEFGHIJKLMNOPQRSTUVWXYZ" t_LETTERS)))
    {t_DIGITS : Tok} (g_DIGITS : PySem.W.nsIn K mainGlobals "DIGITS" = some (some (.str "0123456789" t_DIGITS)))
    {a_SIGN_KINDS : Addr} (g_SIGN_KINDS : PySem.W.nsIn K mainGlobals "_SIGN_KINDS" = some (some (.ref a_SIGN_KINDS))) {es_SIGN_KINDS : Array DictEntry} {en_SIGN_KINDS : Nat} (kl_SIGN_KINDS : K.lookup a_SIGN_KINDS = some ⟨.type "dict", none, .dict es_SIGN_KINDS en_SIGN_KINDS, #[]⟩) (kk_SIGN_KINDS : PySem.W.KeysLit w.params es_SIGN_KINDS.toList) (ky_SIGN_KINDS : (a_SIGN_KINDS == sysModules) = false) (ke_SIGN_KINDS : entsIn K ks_SIGN_KINDS ds_SIGN_KINDS es_SIGN_KINDS.toList = true)
    {a_SINGLES : Addr} (g_SINGLES : PySem.W.nsIn K mainGlobals "_SINGLES" = some (some (.ref a_SINGLES))) {es_SINGLES : Array DictEntry} {en_SINGLES : Nat} (kl_SINGLES : K.lookup a_SINGLES = some ⟨.type "dict", none, .dict es_SINGLES en_SINGLES, #[]⟩) (kk_SINGLES : PySem.W.KeysLit w.params es_SINGLES.toList) (ky_SINGLES : (a_SINGLES == sysModules) = false) (ke_SINGLES : entsIn K ks_SINGLES ds_SINGLES es_SINGLES.toList = true)
    {t_SPECIAL : Tok} (g_SPECIAL : PySem.W.nsIn K mainGlobals "SPECIAL" = some (some (.str "\\{}$~#&^_" t_SPECIAL)))
    {t_SIZE_LIMIT : Tok} (g_SIZE_LIMIT : PySem.W.nsIn K mainGlobals "SIZE_LIMIT" = some (some (.int 6000 t_SIZE_LIMIT)))
    : ∃ fd : FuncData, (∀ (s : Shared) (v : Value), BindsTo s fd ⟨[v], []⟩ [("script", v)]) ∧ ∀ base : Heap, K.In base → base.Ns mainGlobals mg → FnOk l.prog w K mg base CX0 23 fa fd ["script"] (spLaw K) := by
  have e := hfa.symm.trans (PySem.W.mg_of X G a29)
  cases e
  have F0 := fun_mk (st := s_is_word_char) l0 c0 k0
  have b0 := F0.binds (ps := ["char"]) fun _ _ _ _ _ _ us hl => match us, hl with | [_], _ => rfl
  have m0 := PySem.W.mg_of X G a0
  have F1 := fun_mk (st := s_is_letter) l1 c1 k1
  have b1 := F1.binds (ps := ["char"]) fun _ _ _ _ _ _ us hl => match us, hl with | [_], _ => rfl
  have m1 := PySem.W.mg_of X G a1
  have F2 := fun_mk (st := s_is_digit) l2 c2 k2
  have b2 := F2.binds (ps := ["char"]) fun _ _ _ _ _ _ us hl => match us, hl with | [_], _ => rfl
  have m2 := PySem.W.mg_of X G a2
  have F3 := fun_mk (st := s_sign_kind) l3 c3 k3
  have b3 := F3.binds (ps := ["char"]) fun _ _ _ _ _ _ us hl => match us, hl with | [_], _ => rfl
  have m3 := PySem.W.mg_of X G a3
  have F4 := fun_mk (st := s_tokenize) l4 c4 k4
  have b4 := F4.binds (ps := ["text"]) fun _ _ _ _ _ _ us hl => match us, hl with | [_], _ => rfl
  have m4 := PySem.W.mg_of X G a4
  have F5 := fun_mk (st := s_token_at) l5 c5 k5
  have b5 := F5.binds (ps := ["text", "at", "line", "column"]) fun _ _ _ _ _ _ us hl => match us, hl with | [_, _, _, _], _ => rfl
  have m5 := PySem.W.mg_of X G a5
  have F6 := fun_mk (st := s_param_at) l6 c6 k6
  have b6 := F6.binds (ps := ["text", "at", "line", "column"]) fun _ _ _ _ _ _ us hl => match us, hl with | [_, _, _, _], _ => rfl
  have m6 := PySem.W.mg_of X G a6
  have F7 := fun_mk (st := s_escape_at) l7 c7 k7
  have b7 := F7.binds (ps := ["text", "at", "line", "column"]) fun _ _ _ _ _ _ us hl => match us, hl with | [_, _, _, _], _ => rfl
  have m7 := PySem.W.mg_of X G a7
  have F8 := fun_mk (st := s_run_end) l8 c8 k8
  have b8 := F8.binds (ps := ["text", "at", "chars"]) fun _ _ _ _ _ _ us hl => match us, hl with | [_, _, _], _ => rfl
  have m8 := PySem.W.mg_of X G a8
  have F9 := fun_mk (st := s_written) l9 c9 k9
  have b9 := F9.binds (ps := ["tokens"]) fun _ _ _ _ _ _ us hl => match us, hl with | [_], _ => rfl
  have m9 := PySem.W.mg_of X G a9
  have F10 := fun_mk (st := s_size_of) l10 c10 k10
  have b10 := F10.binds (ps := ["token"]) fun _ _ _ _ _ _ us hl => match us, hl with | [_], _ => rfl
  have m10 := PySem.W.mg_of X G a10
  have F11 := fun_mk (st := s_written_token) l11 c11 k11
  have b11 := F11.binds (ps := ["token"]) fun _ _ _ _ _ _ us hl => match us, hl with | [_], _ => rfl
  have m11 := PySem.W.mg_of X G a11
  have F12 := fun_mk (st := s_law_pool) l12 c12 k12
  have b12 := F12.binds (ps := ["script"]) fun _ _ _ _ _ _ us hl => match us, hl with | [_], _ => rfl
  have m12 := PySem.W.mg_of X G a12
  have F13 := fun_mk (st := s_law_draw) l13 c13 k13
  have b13 := F13.binds (ps := ["pool", "many"]) fun _ _ _ _ _ _ us hl => match us, hl with | [_, _], _ => rfl
  have m13 := PySem.W.mg_of X G a13
  have F14 := fun_mk (st := s_law_pick) l14 c14 k14
  have b14 := F14.binds (ps := ["pool", "row"]) fun _ _ _ _ _ _ us hl => match us, hl with | [_, _], _ => rfl
  have m14 := PySem.W.mg_of X G a14
  have F15 := fun_mk (st := s_law_rare) l15 c15 k15
  have b15 := F15.binds (ps := ["pool", "many"]) fun _ _ _ _ _ _ us hl => match us, hl with | [_, _], _ => rfl
  have m15 := PySem.W.mg_of X G a15
  have F16 := fun_mk (st := s_law_few) l16 c16 k16
  have b16 := F16.binds (ps := ["pool", "usual", "most"]) fun _ _ _ _ _ _ us hl => match us, hl with | [_, _, _], _ => rfl
  have m16 := PySem.W.mg_of X G a16
  have F17 := fun_mk (st := s_law_same) l17 c17 k17
  have b17 := F17.binds (ps := ["got", "due"]) fun _ _ _ _ _ _ us hl => match us, hl with | [_, _], _ => rfl
  have m17 := PySem.W.mg_of X G a17
  have F18 := fun_mk (st := s_law_letters) l18 c18 k18
  have b18 := F18.binds (ps := []) fun _ _ _ _ _ _ us hl => match us, hl with | [], _ => rfl
  have m18 := PySem.W.mg_of X G a18
  have F19 := fun_mk (st := s_law_marks) l19 c19 k19
  have b19 := F19.binds (ps := []) fun _ _ _ _ _ _ us hl => match us, hl with | [], _ => rfl
  have m19 := PySem.W.mg_of X G a19
  have F20 := fun_mk (st := s_law_run) l20 c20 k20
  have b20 := F20.binds (ps := ["pool", "chars", "size"]) fun _ _ _ _ _ _ us hl => match us, hl with | [_, _, _], _ => rfl
  have m20 := PySem.W.mg_of X G a20
  have F21 := fun_mk (st := s_law_token) l21 c21 k21
  have b21 := F21.binds (ps := ["pool", "ahead", "size"]) fun _ _ _ _ _ _ us hl => match us, hl with | [_, _, _], _ => rfl
  have m21 := PySem.W.mg_of X G a21
  have F22 := fun_mk (st := s_law_tokens) l22 c22 k22
  have b22 := F22.binds (ps := ["pool"]) fun _ _ _ _ _ _ us hl => match us, hl with | [_], _ => rfl
  have m22 := PySem.W.mg_of X G a22
  have F23 := fun_mk (st := s_law_spot) l23 c23 k23
  have b23 := F23.binds (ps := ["text", "at"]) fun _ _ _ _ _ _ us hl => match us, hl with | [_, _], _ => rfl
  have m23 := PySem.W.mg_of X G a23
  have F24 := fun_mk (st := s_law_form) l24 c24 k24
  have b24 := F24.binds (ps := ["token"]) fun _ _ _ _ _ _ us hl => match us, hl with | [_], _ => rfl
  have m24 := PySem.W.mg_of X G a24
  have F25 := fun_mk (st := s_law_joined) l25 c25 k25
  have b25 := F25.binds (ps := ["tokens"]) fun _ _ _ _ _ _ us hl => match us, hl with | [_], _ => rfl
  have m25 := PySem.W.mg_of X G a25
  have F26 := fun_mk (st := s_law_writes) l26 c26 k26
  have b26 := F26.binds (ps := ["tokens", "due"]) fun _ _ _ _ _ _ us hl => match us, hl with | [_, _], _ => rfl
  have m26 := PySem.W.mg_of X G a26
  have F27 := fun_mk (st := s_law_tables) l27 c27 k27
  have b27 := F27.binds (ps := []) fun _ _ _ _ _ _ us hl => match us, hl with | [], _ => rfl
  have m27 := PySem.W.mg_of X G a27
  have F28 := fun_mk (st := s_law_kinds) l28 c28 k28
  have b28 := F28.binds (ps := []) fun _ _ _ _ _ _ us hl => match us, hl with | [], _ => rfl
  have m28 := PySem.W.mg_of X G a28
  have F29 := fun_mk (st := s_law) l29 c29 k29
  have b29 := F29.binds (ps := ["script"]) fun _ _ _ _ _ _ us hl => match us, hl with | [_], _ => rfl
  have m29 := PySem.W.mg_of X G a29
  have y_len := PySem.W.mg_none_of X G z_len
  have y_list := PySem.W.mg_none_of X G z_list
  have y_abs := PySem.W.mg_none_of X G z_abs
  have y_int := PySem.W.mg_none_of X G z_int
  have y_isinstance := PySem.W.mg_none_of X G z_isinstance
  have y_bool := PySem.W.mg_none_of X G z_bool
  have y_str := PySem.W.mg_none_of X G z_str
  have y_tuple := PySem.W.mg_none_of X G z_tuple
  have y_range := PySem.W.mg_none_of X G z_range
  have y_max := PySem.W.mg_none_of X G z_max
  have y_reversed := PySem.W.mg_none_of X G z_reversed
  have h_WORD_CHARS := PySem.W.mg_of X G g_WORD_CHARS
  have h_LETTERS := PySem.W.mg_of X G g_LETTERS
  have h_DIGITS := PySem.W.mg_of X G g_DIGITS
  have h_SIGN_KINDS := PySem.W.mg_of X G g_SIGN_KINDS
  have h_SINGLES := PySem.W.mg_of X G g_SINGLES
  have h_SPECIAL := PySem.W.mg_of X G g_SPECIAL
  have h_SIZE_LIMIT := PySem.W.mg_of X G g_SIZE_LIMIT
  refine ⟨PySem.W.fnOf "law" "law" (defArgs s_law) (defBody s_law) (defScope s_law) .none kV29 dc29 pm29 an29 cd29 ct29, fun s v => .of_eq rfl, fun base _ _ => law_imp ?_⟩
  have G0 := ok_is_word_char (P := l.prog) (w := w) (mg := mg) (base := base) F0 h_WORD_CHARS
  have G1 := ok_is_letter (P := l.prog) (w := w) (mg := mg) (base := base) F1 h_LETTERS
  have G2 := ok_is_digit (P := l.prog) (w := w) (mg := mg) (base := base) F2 h_DIGITS
  have G3 := ok_sign_kind (P := l.prog) (w := w) (mg := mg) (base := base) F3 h_SIGN_KINDS (KTab.mk ⟨_, _, kl_SIGN_KINDS, kk_SIGN_KINDS, ky_SIGN_KINDS, ke_SIGN_KINDS⟩)
  have G6 := ok_param_at (P := l.prog) (w := w) (mg := mg) (base := base) F6
  have G8 := ok_run_end (P := l.prog) (w := w) (mg := mg) (base := base) F8 y_len
  have G11 := ok_written_token (P := l.prog) (w := w) (mg := mg) (base := base) F11
  have G12 := ok_law_pool (P := l.prog) (w := w) (mg := mg) (base := base) F12 y_list
  have G13 := ok_law_draw (P := l.prog) (w := w) (mg := mg) (base := base) F13 y_len y_abs y_int
  have G17 := ok_law_same (P := l.prog) (w := w) (mg := mg) (base := base) F17 m17 k17 b17 y_isinstance y_int y_bool y_str y_tuple y_len y_list y_range
  have G18 := ok_law_letters (P := l.prog) (w := w) (mg := mg) (base := base) F18
  have G19 := ok_law_marks (P := l.prog) (w := w) (mg := mg) (base := base) F19
  have G23 := ok_law_spot (P := l.prog) (w := w) (mg := mg) (base := base) F23
  have G24 := ok_law_form (P := l.prog) (w := w) (mg := mg) (base := base) F24
  have G7 := ok_escape_at (P := l.prog) (w := w) (mg := mg) (base := base) F7 G8 m8 k8 b8 h_LETTERS
  have G9 := ok_written (P := l.prog) (w := w) (mg := mg) (base := base) F9 G1 m1 k1 b1 G11 m11 k11 b11
  have G10 := ok_size_of (P := l.prog) (w := w) (mg := mg) (base := base) F10 G11 m11 k11 b11 y_len
  have G14 := ok_law_pick (P := l.prog) (w := w) (mg := mg) (base := base) F14 G13 m13 k13 b13 y_len
  have G15 := ok_law_rare (P := l.prog) (w := w) (mg := mg) (base := base) F15 G13 m13 k13 b13
  have G25 := ok_law_joined (P := l.prog) (w := w) (mg := mg) (base := base) F25 G18 m18 k18 b18 G24 m24 k24 b24 y_range y_len
  have G5 := ok_token_at (P := l.prog) (w := w) (mg := mg) (base := base) F5 G0 m0 k0 b0 G8 m8 k8 b8 G6 m6 k6 b6 G7 m7 k7 b7 h_SINGLES (KTab.mk ⟨_, _, kl_SINGLES, kk_SINGLES, ky_SINGLES, ke_SINGLES⟩) h_WORD_CHARS
  have G16 := ok_law_few (P := l.prog) (w := w) (mg := mg) (base := base) F16 G15 m15 k15 b15 G13 m13 k13 b13
  have G4 := ok_tokenize (P := l.prog) (w := w) (mg := mg) (base := base) F4 G5 m5 k5 b5 y_len
  have G20 := ok_law_run (P := l.prog) (w := w) (mg := mg) (base := base) F20 G16 m16 k16 b16 G14 m14 k14 b14 G15 m15 k15 b15 G13 m13 k13 b13 y_range y_max y_len
  have G21 := ok_law_token (P := l.prog) (w := w) (mg := mg) (base := base) F21 G13 m13 k13 b13 G20 m20 k20 b20 G18 m18 k18 b18 G19 m19 k19 b19 G14 m14 k14 b14
  have G22 := ok_law_tokens (P := l.prog) (w := w) (mg := mg) (base := base) F22 G16 m16 k16 b16 G21 m21 k21 b21 G15 m15 k15 b15 G13 m13 k13 b13 y_range y_len
  have G26 := ok_law_writes (P := l.prog) (w := w) (mg := mg) (base := base) F26 G17 m17 k17 b17 G9 m9 k9 b9 y_list
  have G27 := ok_law_tables (P := l.prog) (w := w) (mg := mg) (base := base) F27 G18 m18 k18 b18 G19 m19 k19 b19 G17 m17 k17 b17 G0 m0 k0 b0 G1 m1 k1 b1 G2 m2 k2 b2 y_isinstance y_str y_len h_LETTERS h_DIGITS h_SPECIAL h_WORD_CHARS h_SIZE_LIMIT
  have G28 := ok_law_kinds (P := l.prog) (w := w) (mg := mg) (base := base) F28 G18 m18 k18 b18 G19 m19 k19 b19 G17 m17 k17 b17 G3 m3 k3 b3
  have G29 := ok_law (P := l.prog) (w := w) (mg := mg) (base := base) F29 G12 m12 k12 b12 G22 m22 k22 b22 G23 m23 k23 b23 G4 m4 k4 b4 G17 m17 k17 b17 G10 m10 k10 b10 G24 m24 k24 b24 G13 m13 k13 b13 G26 m26 k26 b26 G25 m25 k25 b25 G27 m27 k27 b27 G28 m28 k28 b28 y_len y_list y_reversed
  exact G29
end Gly
open PySem PySem.W PyProof.Rows in
set_option maxRecDepth 100000 in
set_option maxHeartbeats 0 in
theorem PySem.Challenge.cw_galleywork_k00_tokens_of_a_text_holds : PySem.Challenge.rw_galleywork_k00_tokens_of_a_text.Holds := by
  w_on; o_law; k_head; (case hw => w_witness2)
  k_fill
  refine L2.walk_of (l := PySem.Challenge.rw_galleywork_k00_tokens_of_a_text) (n := 63) (k := 23) (x := "script") (CX := fun _ => L2.CX0) (sp := fun w => Pu.spLaw _) rfl (by decide) rfl ⟨rfl, by decide, by decide⟩ (fun w h Y => PySem.W.kIn_of Y) ?F (fun _ _ a ns hl _ hS => ⟨a, ns, rfl, hS, hl, fun _ => rfl⟩) (fun _ _ _ _ _ h => h)
  case F =>
    intro w mg fa h KX G hmg
    refine' Gly.all_mk KX G hmg ?a0 ?l0 ?c0 ?k0 ?a1 ?l1 ?c1 ?k1 ?a2 ?l2 ?c2 ?k2 ?a3 ?l3 ?c3 ?k3 ?a4 ?l4 ?c4 ?k4 ?a5 ?l5 ?c5 ?k5 ?a6 ?l6 ?c6 ?k6 ?a7 ?l7 ?c7 ?k7 ?a8 ?l8 ?c8 ?k8 ?a9 ?l9 ?c9 ?k9 ?a10 ?l10 ?c10 ?k10 ?a11 ?l11 ?c11 ?k11 ?a12 ?l12 ?c12 ?k12 ?a13 ?l13 ?c13 ?k13 ?a14 ?l14 ?c14 ?k14 ?a15 ?l15 ?c15 ?k15 ?a16 ?l16 ?c16 ?k16 ?a17 ?l17 ?c17 ?k17 ?a18 ?l18 ?c18 ?k18 ?a19 ?l19 ?c19 ?k19 ?a20 ?l20 ?c20 ?k20 ?a21 ?l21 ?c21 ?k21 ?a22 ?l22 ?c22 ?k22 ?a23 ?l23 ?c23 ?k23 ?a24 ?l24 ?c24 ?k24 ?a25 ?l25 ?c25 ?k25 ?a26 ?l26 ?c26 ?k26 ?a27 ?l27 ?c27 ?k27 ?a28 ?l28 ?c28 ?k28 ?a29 ?l29 ?c29 ?k29 ?z_len ?z_list ?z_abs ?z_int ?z_isinstance ?z_bool ?z_str ?z_tuple ?z_range ?z_max ?z_reversed ?g_WORD_CHARS ?g_LETTERS ?g_DIGITS ?g_SIGN_KINDS ?kl_SIGN_KINDS ?kk_SIGN_KINDS ?ky_SIGN_KINDS ?ke_SIGN_KINDS ?g_SINGLES ?kl_SINGLES ?kk_SINGLES ?ky_SINGLES ?ke_SINGLES ?g_SPECIAL ?g_SIZE_LIMIT
    (case a0 => k_is)
    (case l0 => k_is)
    (case c0 => k_is)
    (case k0 => k_is)
    (case a1 => k_is)
    (case l1 => k_is)
    (case c1 => k_is)
    (case k1 => k_is)
    (case a2 => k_is)
    (case l2 => k_is)
    (case c2 => k_is)
    (case k2 => k_is)
    (case a3 => k_is)
    (case l3 => k_is)
    (case c3 => k_is)
    (case k3 => k_is)
    (case a4 => k_is)
    (case l4 => k_is)
    (case c4 => k_is)
    (case k4 => k_is)
    (case a5 => k_is)
    (case l5 => k_is)
    (case c5 => k_is)
    (case k5 => k_is)
    (case a6 => k_is)
    (case l6 => k_is)
    (case c6 => k_is)
    (case k6 => k_is)
    (case a7 => k_is)
    (case l7 => k_is)
    (case c7 => k_is)
    (case k7 => k_is)
    (case a8 => k_is)
    (case l8 => k_is)
    (case c8 => k_is)
    (case k8 => k_is)
    (case a9 => k_is)
    (case l9 => k_is)
    (case c9 => k_is)
    (case k9 => k_is)
    (case a10 => k_is)
    (case l10 => k_is)
    (case c10 => k_is)
    (case k10 => k_is)
    (case a11 => k_is)
    (case l11 => k_is)
    (case c11 => k_is)
    (case k11 => k_is)
    (case a12 => k_is)
    (case l12 => k_is)
    (case c12 => k_is)
    (case k12 => k_is)
    (case a13 => k_is)
    (case l13 => k_is)
    (case c13 => k_is)
    (case k13 => k_is)
    (case a14 => k_is)
    (case l14 => k_is)
    (case c14 => k_is)
    (case k14 => k_is)
    (case a15 => k_is)
    (case l15 => k_is)
    (case c15 => k_is)
    (case k15 => k_is)
    (case a16 => k_is)
    (case l16 => k_is)
    (case c16 => k_is)
    (case k16 => k_is)
    (case a17 => k_is)
    (case l17 => k_is)
    (case c17 => k_is)
    (case k17 => k_is)
    (case a18 => k_is)
    (case l18 => k_is)
    (case c18 => k_is)
    (case k18 => k_is)
    (case a19 => k_is)
    (case l19 => k_is)
    (case c19 => k_is)
    (case k19 => k_is)
    (case a20 => k_is)
    (case l20 => k_is)
    (case c20 => k_is)
    (case k20 => k_is)
    (case a21 => k_is)
    (case l21 => k_is)
    (case c21 => k_is)
    (case k21 => k_is)
    (case a22 => k_is)
    (case l22 => k_is)
    (case c22 => k_is)
    (case k22 => k_is)
    (case a23 => k_is)
    (case l23 => k_is)
    (case c23 => k_is)
    (case k23 => k_is)
    (case a24 => k_is)
    (case l24 => k_is)
    (case c24 => k_is)
    (case k24 => k_is)
    (case a25 => k_is)
    (case l25 => k_is)
    (case c25 => k_is)
    (case k25 => k_is)
    (case a26 => k_is)
    (case l26 => k_is)
    (case c26 => k_is)
    (case k26 => k_is)
    (case a27 => k_is)
    (case l27 => k_is)
    (case c27 => k_is)
    (case k27 => k_is)
    (case a28 => k_is)
    (case l28 => k_is)
    (case c28 => k_is)
    (case k28 => k_is)
    (case a29 => k_is)
    (case l29 => k_is)
    (case c29 => k_is)
    (case k29 => k_is)
    (case z_len => k_is)
    (case z_list => k_is)
    (case z_abs => k_is)
    (case z_int => k_is)
    (case z_isinstance => k_is)
    (case z_bool => k_is)
    (case z_str => k_is)
    (case z_tuple => k_is)
    (case z_range => k_is)
    (case z_max => k_is)
    (case z_reversed => k_is)
    (case g_WORD_CHARS => k_is)
    (case g_LETTERS => k_is)
    (case g_DIGITS => k_is)
    (case g_SIGN_KINDS => k_is)
    (case kl_SIGN_KINDS => k_is)
    (case kk_SIGN_KINDS => repeat (first | exact trivial | refine ⟨⟨_, _, rfl, rfl⟩, ?_⟩))
    (case ky_SIGN_KINDS => kernel_rfl)
    (case ke_SIGN_KINDS => kernel_rfl)
    (case g_SINGLES => k_is)
    (case kl_SINGLES => k_is)
    (case kk_SINGLES => repeat (first | exact trivial | refine ⟨⟨_, _, rfl, rfl⟩, ?_⟩))
    (case ky_SINGLES => kernel_rfl)
    (case ke_SINGLES => kernel_rfl)
    (case g_SPECIAL => k_is)
    (case g_SIZE_LIMIT => k_is)
