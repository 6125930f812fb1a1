import PyProof.Rows.All
import Wide.All
import OpenK.AllK
import Wide.FinOn
import HandS.ForMost
import HandS.SortInts
import HandS.TupAny
import HandS.Style
import HandS.Rev
import HandS.Zip
import HandS.Deep
import HandS.Walk
import HandS.RevTup
import HandS.TupLen
import HandS.Dict
import HandS.TupMul
import HandS.SetFor
import HandS.Conv
import HandS.TupLe
import PyProof.P3In
import KE.GoesEnum
import HandS.Iter
import PySem.Challenge.RW_codewhole_k90_whole_steady_words_turned
set_option Elab.async false
set_option linter.all false
set_option maxRecDepth 100000
set_option maxHeartbeats 40000000
namespace Wk
open PySem PySem.Spec PyProof.Rows L2

/-! ### data -/
inductive D where
  | n
  | b (x : Bool)
  | i (x : Int)
  | s (x : Str)
  | t (xs : List D)
  | l (xs : List D)
  | o (c : Str) (ns : List Str) (ds : List D)
  | d (ks : List Key) (ds : List D)

mutual
inductive Rep (K : PySem.W.Frag) (mg : Str → Option Value) (O : Addr → Prop) (H : Hp) : V → D → Prop
  | n : Rep K mg O H .non .n
  | b (x : Bool) : Rep K mg O H (.bl x) (.b x)
  | i (x : Int) : Rep K mg O H (.int x) (.i x)
  | s (x : Str) : Rep K mg O H (.str x) (.s x)
  | t {a : Addr} {vs : List V} {ds : List D} : SqT K H a vs → Reps K mg O H vs ds → Rep K mg O H (.ref a) (.t ds)
  | l {a : Addr} {vs : List V} {ds : List D} : H a = some (.lst vs) → ¬ O a → Reps K mg O H vs ds → Rep K mg O H (.ref a) (.l ds)
  | o {a C dx : Addr} {fs : List (Str × V)} {c : Str} {ns : List Str} {ds : List D} : H a = some (.ins C dx fs) → ¬ O a → mg c = some (.ref C) → fs.map (·.1) = ns → Reps K mg O H (fs.map (·.2)) ds → Rep K mg O H (.ref a) (.o c ns ds)
  | d {a : Addr} {kvs : List (Key × V)} {ks : List Key} {ds : List D} : H a = some (.dK kvs) → ¬ O a → kvs.map (·.1) = ks → Reps K mg O H (kvs.map (·.2)) ds → Rep K mg O H (.ref a) (.d ks ds)
inductive Reps (K : PySem.W.Frag) (mg : Str → Option Value) (O : Addr → Prop) (H : Hp) : List V → List D → Prop
  | nil : Reps K mg O H [] []
  | cons {v : V} {vs : List V} {d : D} {ds : List D} : Rep K mg O H v d → Reps K mg O H vs ds → Reps K mg O H (v :: vs) (d :: ds)
end

section
variable {K : PySem.W.Frag} {mg : Str → Option Value} {O O' : Addr → Prop} {H H' : Hp}
mutual
theorem Rep.gen (k : ∀ a o, H a = some o → ¬ O a → H' a = some o ∧ ¬ O' a) (kt : ∀ a vs, SqT K H a vs → SqT K H' a vs) : ∀ (d : D) (v : V), Rep K mg O H v d → Rep K mg O' H' v d
  | .n, _, h => by cases h; exact .n
  | .b x, _, h => by cases h; exact .b x
  | .i x, _, h => by cases h; exact .i x
  | .s x, _, h => by cases h; exact .s x
  | .t ds, _, h => by
    cases h with
    | t h1 h2 => exact .t (kt _ _ h1) (Reps.gen k kt ds _ h2)
  | .l ds, _, h => by
    cases h with
    | l h1 h2 h3 => exact .l (k _ _ h1 h2).1 (k _ _ h1 h2).2 (Reps.gen k kt ds _ h3)
  | .o c ns ds, _, h => by
    cases h with
    | o h1 h2 h3 h4 h5 => exact .o (k _ _ h1 h2).1 (k _ _ h1 h2).2 h3 h4 (Reps.gen k kt ds _ h5)
  | .d ks ds, _, h => by
    cases h with
    | d h1 h2 h3 h4 => exact .d (k _ _ h1 h2).1 (k _ _ h1 h2).2 h3 (Reps.gen k kt ds _ h4)
theorem Reps.gen (k : ∀ a o, H a = some o → ¬ O a → H' a = some o ∧ ¬ O' a) (kt : ∀ a vs, SqT K H a vs → SqT K H' a vs) : ∀ (ds : List D) (vs : List V), Reps K mg O H vs ds → Reps K mg O' H' vs ds
  | [], _, h => by cases h; exact .nil
  | d :: ds, _, h => by
    cases h with
    | cons h1 h2 => exact .cons (Rep.gen k kt d _ h1) (Reps.gen k kt ds _ h2)
end
theorem Rep.sub (k : ∀ a, O' a → O a) {d : D} {v : V} (h : Rep K mg O H v d) : Rep K mg O' H v d := h.gen (fun _ _ e n => ⟨e, fun z => n (k _ z)⟩) (fun _ _ e => e)
theorem Reps.sub (k : ∀ a, O' a → O a) {d : List D} {v : List V} (h : Reps K mg O H v d) : Reps K mg O' H v d := Reps.gen (fun _ _ e n => ⟨e, fun z => n (k _ z)⟩) (fun _ _ e => e) _ _ h
theorem Reps.length : ∀ {vs : List V} {ds : List D}, Reps K mg O H vs ds → vs.length = ds.length
  | _, _, .nil => rfl
  | _, _, .cons _ t => by rw [List.length_cons, List.length_cons, t.length]
theorem Reps.get : ∀ {vs : List V} {ds : List D} {i : Nat} {d : D}, Reps K mg O H vs ds → ds[i]? = some d → ∃ v, vs[i]? = some v ∧ Rep K mg O H v d
  | _, _, _, _, .nil, e => by simp at e
  | _, _, 0, _, .cons r _, e => by simp at e; subst e; exact ⟨_, rfl, r⟩
  | _, _, i + 1, d, .cons _ t, e => by
    obtain ⟨v, h1, h2⟩ := Reps.get (i := i) (d := d) t (by simpa using e)
    exact ⟨v, by simpa using h1, h2⟩
theorem Reps.get' : ∀ {vs : List V} {ds : List D} {i : Nat} {v : V}, Reps K mg O H vs ds → vs[i]? = some v → ∃ d, ds[i]? = some d ∧ Rep K mg O H v d
  | _, _, _, _, .nil, e => by simp at e
  | _, _, 0, _, .cons r _, e => by simp at e; subst e; exact ⟨_, rfl, r⟩
  | _, _, i + 1, v, .cons _ t, e => by
    obtain ⟨d, h1, h2⟩ := Reps.get' (i := i) (v := v) t (by simpa using e)
    exact ⟨d, by simpa using h1, h2⟩
theorem Reps.append : ∀ {vs ws : List V} {ds es : List D}, Reps K mg O H vs ds → Reps K mg O H ws es → Reps K mg O H (vs ++ ws) (ds ++ es)
  | _, _, _, _, .nil, s => s
  | _, _, _, _, .cons r t, s => .cons r (Reps.append t s)
theorem Reps.take : ∀ {vs : List V} {ds : List D} (n : Nat), Reps K mg O H vs ds → Reps K mg O H (vs.take n) (ds.take n)
  | _, _, 0, _ => .nil
  | _, _, _ + 1, .nil => .nil
  | _, _, n + 1, .cons r t => .cons r (Reps.take n t)
theorem Reps.drop : ∀ {vs : List V} {ds : List D} (n : Nat), Reps K mg O H vs ds → Reps K mg O H (vs.drop n) (ds.drop n)
  | _, _, 0, r => r
  | _, _, _ + 1, .nil => .nil
  | _, _, n + 1, .cons _ t => Reps.drop n t
theorem Reps.set {v : V} {d : D} (r : Rep K mg O H v d) : ∀ {vs : List V} {ds : List D} (i : Nat), Reps K mg O H vs ds → Reps K mg O H (vs.set i v) (ds.set i d)
  | _, _, _, .nil => .nil
  | _, _, 0, .cons _ t => .cons r t
  | _, _, i + 1, .cons q t => .cons q (Reps.set r i t)
theorem Reps.eraseIdx : ∀ {vs : List V} {ds : List D} (i : Nat), Reps K mg O H vs ds → Reps K mg O H (vs.eraseIdx i) (ds.eraseIdx i)
  | _, _, _, .nil => .nil
  | _, _, 0, .cons _ t => t
  | _, _, i + 1, .cons r t => .cons r (Reps.eraseIdx i t)
theorem Reps.reverse : ∀ {vs : List V} {ds : List D}, Reps K mg O H vs ds → Reps K mg O H vs.reverse ds.reverse
  | _, _, .nil => .nil
  | _, _, .cons r t => by
    rw [List.reverse_cons, List.reverse_cons]
    exact Reps.append (Reps.reverse t) (.cons r .nil)
theorem Reps.ints : ∀ {ns : List Int} {vs : List V}, Reps K mg O H vs (ns.map D.i) → vs = ns.map V.int
  | [], _, h => by cases h; rfl
  | n :: ns, _, h => by
    cases h with
    | cons h1 h2 => cases h1; rw [Reps.ints h2]; rfl
theorem Reps.of_ints : ∀ (ns : List Int), Reps K mg O H (ns.map V.int) (ns.map D.i)
  | [] => .nil
  | n :: ns => .cons (.i n) (Reps.of_ints ns)
theorem Reps.bls : ∀ {ns : List Bool} {vs : List V}, Reps K mg O H vs (ns.map D.b) → vs = ns.map V.bl
  | [], _, h => by cases h; rfl
  | n :: ns, _, h => by
    cases h with
    | cons h1 h2 => cases h1; rw [Reps.bls h2]; rfl
end

/-! ### the heap's growth; sr: the address of the source (a list of two ints, which a call may change) -/
def SrcAt (H : Hp) (S : Addr) : Prop := ∃ i j : Int, H S = some (.lst [.int i, .int j])
def Ext (sr : Option Addr) (H H' : Hp) : Prop := (∀ a o, H a = some o → sr ≠ some a → H' a = some o) ∧ ∀ S, sr = some S → SrcAt H S ∧ SrcAt H' S
def Srs (sr : Option Addr) (H : Hp) : Prop := ∀ S, sr = some S → SrcAt H S
section
variable {K : PySem.W.Frag} {mg : Str → Option Value} {O O' : Addr → Prop} {H H' H1 H2 : Hp} {sr : Option Addr}
theorem Ext.refl (h : Srs sr H) : Ext sr H H := ⟨fun _ _ e _ => e, fun S e => ⟨h S e, h S e⟩⟩
theorem Ext.trans (a : Ext sr H H1) (b : Ext sr H1 H2) : Ext sr H H2 := ⟨fun x o e n => b.1 x o (a.1 x o e n) n, fun S e => ⟨(a.2 S e).1, (b.2 S e).2⟩⟩
theorem Ext.srs (a : Ext sr H H') : Srs sr H' := fun S e => (a.2 S e).2
theorem Ext.srs0 (a : Ext sr H H') : Srs sr H := fun S e => (a.2 S e).1
theorem Ext.new {p : Addr} {o : HO} (h : Srs sr H) (hp : H p = none) : Ext sr H (upd H p o) := by
  refine ⟨fun a u e _ => ?_, fun S e => ⟨h S e, ?_⟩⟩
  · rw [upd_ne (ne_of_none e hp)]; exact e
  · obtain ⟨i, j, e2⟩ := h S e
    exact ⟨i, j, by rw [upd_ne (ne_of_none e2 hp)]; exact e2⟩
theorem Ext.same (h : Srs sr H) (k : ∀ a o, H a = some o → H' a = some o) : Ext sr H H' :=
  ⟨fun a o e _ => k a o e, fun S e => ⟨h S e, let ⟨i, j, z⟩ := h S e; ⟨i, j, k _ _ z⟩⟩⟩
theorem Ext.sqT (e : Ext sr H H') {a : Addr} {vs : List V} (h : SqT K H a vs) : SqT K H' a vs := by
  have ne : ∀ u, H a = some u → (∀ xs, u ≠ .lst xs) → sr ≠ some a := fun u h1 h2 z => by
    obtain ⟨⟨i, j, q⟩, _⟩ := e.2 a z
    rw [h1] at q; cases q; exact h2 _ rfl
  rcases h with (h | ⟨o, h⟩) | h
  · exact .inl (.inl (e.1 a _ h (ne _ h fun _ z => nomatch z)))
  · exact .inl (.inr ⟨o, e.1 a _ h (ne _ h fun _ z => nomatch z)⟩)
  · exact .inr h
theorem Ext.back (e : Ext sr H H') {p : Addr} (h : H' p = none) : H p = none := by
  cases q : H p with
  | none => rfl
  | some o =>
    by_cases hs : sr = some p
    · obtain ⟨_, i, j, z⟩ := e.2 p hs
      rw [h] at z; cases z
    · rw [e.1 p o q hs] at h; cases h
theorem Rep.ext {d : D} {v : V} (h : Rep K mg O H v d) (e : Ext sr H H') (hs : ∀ S, sr = some S → O S) : Rep K mg O H' v d :=
  h.gen (fun a o q n => ⟨e.1 a o q fun z => n (hs a z), n⟩) (fun _ _ q => e.sqT q)
theorem Reps.ext {d : List D} {v : List V} (h : Reps K mg O H v d) (e : Ext sr H H') (hs : ∀ S, sr = some S → O S) : Reps K mg O H' v d :=
  Reps.gen (fun a o q n => ⟨e.1 a o q fun z => n (hs a z), n⟩) (fun _ _ q => e.sqT q) _ _ h
/-- an address that is new to the heap lies outside the footprints -/
theorem Rep.fresh {d : D} {v : V} {p : Addr} (h : Rep K mg O H v d) (hp : H p = none) : Rep K mg (fun a => O a ∨ a = p) H v d :=
  h.gen (fun a o q n => ⟨q, fun z => z.elim n fun z => by rw [z, hp] at q; cases q⟩) (fun _ _ q => q)
theorem Reps.fresh {d : List D} {v : List V} {p : Addr} (h : Reps K mg O H v d) (hp : H p = none) : Reps K mg (fun a => O a ∨ a = p) H v d :=
  Reps.gen (fun a o q n => ⟨q, fun z => z.elim n fun z => by rw [z, hp] at q; cases q⟩) (fun _ _ q => q) _ _ h
/-- a list that is left out is written -/
theorem sqT_upd {p : Addr} {o u : HO} (hp : H p = some u) (hu : Mut (some u)) {a : Addr} {vs : List V} (h : SqT K H a vs) : SqT K (upd H p o) a vs := by
  have ne : ∀ w, H a = some w → ¬ Mut (some w) → a ≠ p := fun w h1 h2 z => by
    rw [z, hp] at h1; cases h1; exact h2 hu
  rcases h with (h | ⟨ob, h⟩) | h
  · exact .inl (.inl (by rw [upd_ne (ne _ h fun z => z)]; exact h))
  · exact .inl (.inr ⟨ob, by rw [upd_ne (ne _ h fun z => z)]; exact h⟩)
  · exact .inr h
theorem Rep.upd {d : D} {v : V} {p : Addr} {o u : HO} (h : Rep K mg O H v d) (op : O p) (hp : H p = some u) (hu : Mut (some u)) : Rep K mg O (L2.upd H p o) v d :=
  h.gen (fun a w q n => ⟨by rw [upd_ne (fun z => n (by rw [z]; exact op))]; exact q, n⟩) (fun _ _ q => sqT_upd hp hu q)
theorem Reps.upd {d : List D} {v : List V} {p : Addr} {o u : HO} (h : Reps K mg O H v d) (op : O p) (hp : H p = some u) (hu : Mut (some u)) : Reps K mg O (L2.upd H p o) v d :=
  Reps.gen (fun a w q n => ⟨by rw [upd_ne (fun z => n (by rw [z]; exact op))]; exact q, n⟩) (fun _ _ q => sqT_upd hp hu q) _ _ h
end

/-! ### the frame's slots -/
inductive Slot where
  /-- nothing is known -/
  | u
  /-- data that does not change -/
  | d (x : D)
  /-- a list of one's own, that may change -/
  | l (xs : List D)
  /-- an object of one's own -/
  | ob (p : Addr) (c : Str) (ns : List Str) (ds : List D)
  /-- the source -/
  | src

def SlotOk (K : PySem.W.Frag) (mg : Str → Option Value) (Q : Addr → Prop) (sr : Option Addr) (H : Hp) (v : Option (Option V)) (a : Option Addr) : Option Slot → Prop
  | none => a = none
  | some .u => a = none
  | some (.d x) => a = none ∧ ∃ w, v = some (some w) ∧ Rep K mg Q H w x
  | some (.l xs) => ∃ p vs, a = some p ∧ v = some (some (.ref p)) ∧ H p = some (.lst vs) ∧ Reps K mg Q H vs xs
  | some (.ob p c ns ds) => ∃ C dx fs, a = some p ∧ v = some (some (.ref p)) ∧ H p = some (.ins C dx fs) ∧ mg c = some (.ref C) ∧ fs.map (·.1) = ns ∧ Reps K mg Q H (fs.map (·.2)) ds
  | some .src => a = none ∧ ∃ S, sr = some S ∧ v = some (some (.ref S))

/-- left out by the slots' own lists too -/
def OO (O : Addr → Prop) (ad : Nat → Option Addr) : Addr → Prop := fun p => O p ∨ ∃ j, ad j = some p
/-- M: true: data that may be kept; false: data for the moment, that may be a list of one's own -/
def OM (M : Bool) (O : Addr → Prop) (ad : Nat → Option Addr) : Addr → Prop := match M with
  | true => OO O ad
  | false => O
structure Env (K : PySem.W.Frag) (mg : Str → Option Value) (sr : Option Addr) (O : Addr → Prop) (H0 H : Hp) (σ : L2.St) (ρ : List Slot) (ad : Nat → Option Addr) : Prop where
  len : σ.length = ρ.length
  at_ : ∀ j, SlotOk K mg (OO O ad) sr H σ[j]? (ad j) ρ[j]?
  inj : ∀ j k p, ad j = some p → ad k = some p → j = k
  frs : ∀ j p, ad j = some p → H0 p = none
  mu : ∀ j p, ad j = some p → Mut (H p)
  src : ∀ S, sr = some S → O S ∧ SrcAt H S
  dom : ∀ p, O p → Mut (H p)
  dis : ∀ j p, ad j = some p → ¬ O p
  ext : ∀ a o, H0 a = some o → sr ≠ some a → H a = some o

section
variable {K : PySem.W.Frag} {mg : Str → Option Value} {O O' : Addr → Prop} {H0 H H' H1 H2 : Hp} {sr : Option Addr} {σ : L2.St} {ρ : List Slot} {ad : Nat → Option Addr}
theorem Env.srs (e : Env K mg sr O H0 H σ ρ ad) : Srs sr H := fun S h => (e.src S h).2
theorem Env.sO (e : Env K mg sr O H0 H σ ρ ad) : ∀ S, sr = some S → O S := fun S h => (e.src S h).1
theorem Env.sOM (e : Env K mg sr O H0 H σ ρ ad) (M : Bool) : ∀ S, sr = some S → OM M O ad S := fun S h => by
  cases M with
  | true => exact .inl (e.sO S h)
  | false => exact e.sO S h
theorem OM.le {M : Bool} : ∀ a, OM M O ad a → OO O ad a := fun a h => by
  cases M with
  | true => exact h
  | false => exact .inl h
theorem OM.of {M : Bool} : ∀ a, O a → OM M O ad a := fun a h => by
  cases M with
  | true => exact .inl h
  | false => exact h
theorem mut_some {x : Option HO} (h : Mut x) : ∃ o, x = some o := by
  cases x with
  | none => exact h.elim
  | some o => exact ⟨o, rfl⟩
theorem Env.fresh (e : Env K mg sr O H0 H σ ρ ad) {p : Addr} (h : H p = none) : ¬ OO O ad p := fun z => by
  rcases z with z | ⟨j, z⟩
  · have := e.dom p z; rw [h] at this; exact this
  · have := e.mu j p z; rw [h] at this; exact this
theorem Env.freshM (e : Env K mg sr O H0 H σ ρ ad) {p : Addr} (h : H p = none) (M : Bool) : ¬ OM M O ad p := fun z => e.fresh h (OM.le _ z)
theorem SlotOk.ext {Q : Addr → Prop} {v : Option (Option V)} {a : Option Addr} {s : Option Slot} (h : SlotOk K mg Q sr H v a s) (e : Ext sr H H') (hs : ∀ S, sr = some S → Q S) (hn : ∀ p, a = some p → sr ≠ some p) : SlotOk K mg Q sr H' v a s := by
  match s, h with
  | none, h => exact h
  | some .u, h => exact h
  | some (.d x), ⟨h1, w, h2, h3⟩ => exact ⟨h1, w, h2, h3.ext e hs⟩
  | some (.l xs), ⟨p, vs, h1, h2, h3, h4⟩ => exact ⟨p, vs, h1, h2, e.1 p _ h3 (hn p h1), h4.ext e hs⟩
  | some (.ob p c ns ds), ⟨C, dx, fs, h1, h2, h3, h4, h5, h6⟩ => exact ⟨C, dx, fs, h1, h2, e.1 p _ h3 (hn p h1), h4, h5, h6.ext e hs⟩
  | some .src, h => exact h
theorem Env.ext' (e : Env K mg sr O H0 H σ ρ ad) (x : Ext sr H H') : Env K mg sr O H0 H' σ ρ ad := by
  have keep : ∀ p, Mut (H p) → sr ≠ some p → Mut (H' p) := fun p h n => by
    obtain ⟨o, q⟩ := mut_some h
    rw [x.1 p o q n, ← q]; exact h
  have nsr : ∀ j p, ad j = some p → sr ≠ some p := fun j p h z => e.dis j p h (e.sO p z)
  refine ⟨e.len, fun j => (e.at_ j).ext x (fun S h => .inl (e.sO S h)) (nsr j), e.inj, e.frs, fun j p h => keep p (e.mu j p h) (nsr j p h), fun S h => ⟨e.sO S h, (x.2 S h).2⟩, fun p h => ?_, e.dis, fun a o h n => x.1 a o (e.ext a o h n) n⟩
  by_cases hs : sr = some p
  · obtain ⟨_, i, j, z⟩ := x.2 p hs
    rw [z]; trivial
  · exact keep p (e.dom p h) hs
/-- the slot i is forgotten or takes data -/
theorem SlotOk.sub {Q Q' : Addr → Prop} {v : Option (Option V)} {a : Option Addr} {s : Option Slot} (h : SlotOk K mg Q sr H v a s) (k : ∀ p, Q' p → Q p) : SlotOk K mg Q' sr H v a s := by
  match s, h with
  | none, h => exact h
  | some .u, h => exact h
  | some (.d x), ⟨h1, w, h2, h3⟩ => exact ⟨h1, w, h2, h3.sub k⟩
  | some (.l xs), ⟨p, vs, h1, h2, h3, h4⟩ => exact ⟨p, vs, h1, h2, h3, h4.sub k⟩
  | some (.ob p c ns ds), ⟨C, dx, fs, h1, h2, h3, h4, h5, h6⟩ => exact ⟨C, dx, fs, h1, h2, h3, h4, h5, h6.sub k⟩
  | some .src, h => exact h
def unad (ad : Nat → Option Addr) (i : Nat) : Nat → Option Addr := fun j => if j = i then none else ad j
theorem unad_le {i : Nat} : ∀ a, OO O (unad ad i) a → OO O ad a := fun a h => by
  rcases h with h | ⟨j, h⟩
  · exact .inl h
  · unfold unad at h
    split at h
    · cases h
    · exact .inr ⟨j, h⟩
theorem unad_some {i j : Nat} {p : Addr} (h : unad ad i j = some p) : ad j = some p ∧ j ≠ i := by
  unfold unad at h
  split at h
  · cases h
  · rename_i q; exact ⟨h, q⟩
theorem Env.put (e : Env K mg sr O H0 H σ ρ ad) (i : Nat) (v : V) (x : D) (h : Rep K mg (OO O ad) H v x) : Env K mg sr O H0 H (σ.set i (some v)) (ρ.set i (.d x)) (unad ad i) := by
  refine ⟨by simp [e.len], fun j => ?_, fun j k p h1 h2 => e.inj j k p (unad_some h1).1 (unad_some h2).1, fun j p h => e.frs j p (unad_some h).1, fun j p h => e.mu j p (unad_some h).1, e.src, e.dom, fun j p h => e.dis j p (unad_some h).1, e.ext⟩
  by_cases hj : j = i
  · subst hj
    by_cases hl : j < ρ.length
    · rw [List.getElem?_set_self (by rw [e.len]; exact hl), List.getElem?_set_self hl]
      exact ⟨by unfold unad; rw [if_pos rfl], v, rfl, h.sub unad_le⟩
    · rw [List.getElem?_eq_none (by rw [List.length_set, e.len]; omega), List.getElem?_eq_none (by rw [List.length_set]; omega)]
      show unad ad j j = none
      unfold unad; rw [if_pos rfl]
  · rw [List.getElem?_set_ne (Ne.symm hj), List.getElem?_set_ne (Ne.symm hj)]
    have := e.at_ j
    unfold unad
    rw [if_neg hj]
    exact this.sub unad_le
theorem Env.forget (e : Env K mg sr O H0 H σ ρ ad) (i : Nat) (v : Option V) : Env K mg sr O H0 H (σ.set i v) (ρ.set i .u) (unad ad i) := by
  refine ⟨by simp [e.len], fun j => ?_, fun j k p h1 h2 => e.inj j k p (unad_some h1).1 (unad_some h2).1, fun j p h => e.frs j p (unad_some h).1, fun j p h => e.mu j p (unad_some h).1, e.src, e.dom, fun j p h => e.dis j p (unad_some h).1, e.ext⟩
  by_cases hj : j = i
  · subst hj
    by_cases hl : j < ρ.length
    · rw [List.getElem?_set_self hl]
      show unad ad j j = none
      unfold unad; rw [if_pos rfl]
    · rw [List.getElem?_eq_none (l := ρ.set j .u) (by rw [List.length_set]; omega)]
      show unad ad j j = none
      unfold unad; rw [if_pos rfl]
  · rw [List.getElem?_set_ne (Ne.symm hj), List.getElem?_set_ne (Ne.symm hj)]
    have := e.at_ j
    unfold unad
    rw [if_neg hj]
    exact this.sub unad_le
def atad (ad : Nat → Option Addr) (i : Nat) (p : Addr) : Nat → Option Addr := fun j => if j = i then some p else ad j
theorem atad_some {i j : Nat} {p q : Addr} (h : atad ad i p j = some q) : (j = i ∧ q = p) ∨ (j ≠ i ∧ ad j = some q) := by
  unfold atad at h
  split at h
  · rename_i z; exact .inl ⟨z, (Option.some.inj h).symm⟩
  · rename_i z; exact .inr ⟨z, h⟩
/-- a new list becomes the slot's own; H: the heap ahead of its making -/
theorem Env.own (e : Env K mg sr O H0 H σ ρ ad) (x : Ext sr H H') {i : Nat} (hi : i < ρ.length) {p : Addr} {vs : List V} {xs : List D} (hp : H p = none) (hp' : H' p = some (.lst vs)) (h : Reps K mg (OO O ad) H' vs xs) (hf : Reps K mg (fun a => OO O ad a ∨ a = p) H' vs xs) :
    Env K mg sr O H0 H' (σ.set i (some (.ref p))) (ρ.set i (.l xs)) (atad ad i p) := by
  have le : ∀ a, OO O (atad ad i p) a → OO O ad a ∨ a = p := fun a h => by
    rcases h with h | ⟨j, h⟩
    · exact .inl (.inl h)
    · rcases atad_some h with ⟨_, z⟩ | ⟨_, z⟩
      · exact .inr z
      · exact .inl (.inr ⟨j, z⟩)
  have nn : ∀ j q, ad j = some q → q ≠ p := fun j q h z => by
    have := e.mu j q h; rw [z, hp] at this; exact this
  have e' := e.ext' x
  refine ⟨by simp [e.len], fun j => ?_, fun j k q h1 h2 => ?_, fun j q h => ?_, fun j q h => ?_, e'.src, e'.dom, fun j q h => ?_, e'.ext⟩
  · by_cases hj : j = i
    · subst hj
      rw [List.getElem?_set_self (by rw [e.len]; exact hi), List.getElem?_set_self hi]
      exact ⟨p, vs, by unfold atad; rw [if_pos rfl], rfl, hp', hf.sub le⟩
    · rw [List.getElem?_set_ne (Ne.symm hj), List.getElem?_set_ne (Ne.symm hj)]
      have q : SlotOk K mg (fun a => OO O ad a ∨ a = p) sr H σ[j]? (ad j) ρ[j]? := by
        have := e.at_ j
        revert this
        generalize ρ[j]? = s
        generalize σ[j]? = v
        generalize ad j = a
        intro h
        match s, h with
        | none, h => exact h
        | some .u, h => exact h
        | some (.d x), ⟨h1, w, h2, h3⟩ => exact ⟨h1, w, h2, h3.fresh hp⟩
        | some (.l xs), ⟨p, vs, h1, h2, h3, h4⟩ => exact ⟨p, vs, h1, h2, h3, h4.fresh hp⟩
        | some (.ob p c ns ds), ⟨C, dx, fs, h1, h2, h3, h4, h5, h6⟩ => exact ⟨C, dx, fs, h1, h2, h3, h4, h5, h6.fresh hp⟩
        | some .src, h => exact h
      have q2 := q.ext x (fun S h => .inl (.inl (e.sO S h))) (fun p h z => e.dis j p h (e.sO p z))
      unfold atad
      rw [if_neg hj]
      exact q2.sub le
  · rcases atad_some h1 with ⟨a1, b1⟩ | ⟨a1, b1⟩
    · rcases atad_some h2 with ⟨a2, b2⟩ | ⟨a2, b2⟩
      · rw [a1, a2]
      · exact absurd b1 (nn k q b2)
    · rcases atad_some h2 with ⟨a2, b2⟩ | ⟨a2, b2⟩
      · exact absurd b2 (nn j q b1)
      · exact e.inj j k q b1 b2
  · rcases atad_some h with ⟨a1, b1⟩ | ⟨a1, b1⟩
    · rw [b1]
      cases z : H0 p with
      | none => rfl
      | some o =>
        by_cases hs : sr = some p
        · obtain ⟨u, v, w⟩ := e.srs p hs
          rw [hp] at w; cases w
        · rw [e.ext p o z hs] at hp; cases hp
    · exact e.frs j q b1
  · rcases atad_some h with ⟨a1, b1⟩ | ⟨a1, b1⟩
    · rw [b1, hp']; trivial
    · exact e'.mu j q b1
  · rcases atad_some h with ⟨a1, b1⟩ | ⟨a1, b1⟩
    · rw [b1]; intro z; have := e.dom p z; rw [hp] at this; exact this
    · exact e.dis j q b1
/-- the slot's own list is written -/
theorem Env.write (e : Env K mg sr O H0 H σ ρ ad) {i : Nat} {xs ys : List D} (hi : ρ[i]? = some (.l xs)) {p : Addr} {vs ws : List V} (hp : ad i = some p) (h : Reps K mg (OO O ad) H ws ys) :
    Env K mg sr O H0 (upd H p (.lst ws)) σ (ρ.set i (.l ys)) ad := by
  have m := e.mu i p hp
  obtain ⟨u, hu⟩ := mut_some m
  have op : OO O ad p := .inr ⟨i, hp⟩
  rw [hu] at m
  have hl : i < ρ.length := (List.getElem?_eq_some_iff.mp hi).1
  have ei := e.at_ i
  rw [hi] at ei
  obtain ⟨p', vs', h1, h2, h3, h4⟩ := ei
  have epp : p' = p := Option.some.inj (h1.symm.trans hp)
  subst epp
  refine ⟨by simp [e.len], fun j => ?_, e.inj, e.frs, fun j q hq => ?_, fun S hS => ?_, fun q hq => ?_, e.dis, fun a o ha n => ?_⟩
  · by_cases hj : j = i
    · subst hj
      rw [List.getElem?_set_self hl]
      exact ⟨p', ws, hp, h2, upd_same, h.upd op hu m⟩
    · rw [List.getElem?_set_ne (Ne.symm hj)]
      have q := e.at_ j
      have nad : ∀ q, ad j = some q → q ≠ p' := fun q hq z => hj (e.inj j i p' (by rw [← z]; exact hq) hp)
      revert q nad
      generalize ρ[j]? = s
      generalize σ[j]? = v
      generalize ad j = a
      intro h nad
      match s, h with
      | none, h => exact h
      | some .u, h => exact h
      | some (.d x), ⟨h1, w, h2, h3⟩ => exact ⟨h1, w, h2, h3.upd op hu m⟩
      | some (.l xs), ⟨p, vs, h1, h2, h3, h4⟩ => exact ⟨p, vs, h1, h2, by rw [upd_ne (nad p h1)]; exact h3, h4.upd op hu m⟩
      | some (.ob p c ns ds), ⟨C, dx, fs, h1, h2, h3, h4, h5, h6⟩ => exact ⟨C, dx, fs, h1, h2, by rw [upd_ne (nad p h1)]; exact h3, h4, h5, h6.upd op hu m⟩
      | some .src, h => exact h
  · by_cases hqp : q = p'
    · rw [hqp, upd_same]; trivial
    · rw [upd_ne hqp]; exact e.mu j q hq
  · refine ⟨e.sO S hS, ?_⟩
    obtain ⟨a, b, z⟩ := e.srs S hS
    have : S ≠ p' := fun z => e.dis i p' hp (by rw [← z]; exact e.sO S hS)
    exact ⟨a, b, by rw [upd_ne this]; exact z⟩
  · have : q ≠ p' := fun z => e.dis i p' hp (by rw [← z]; exact hq)
    rw [upd_ne this]; exact e.dom q hq
  · have : a ≠ p' := fun z => by rw [z, e.frs i p' hp] at ha; cases ha
    rw [upd_ne this]; exact e.ext a o ha n
end
end Wk

namespace Wk
open PySem PySem.Spec PyProof.Rows L2

/-! ### what is computed: monotone wishes -/
structure Wp (α : Type) where
  run : (α → Prop) → Prop
  mono : ∀ {P Q : α → Prop}, (∀ x, P x → Q x) → run P → run Q
namespace Wp
variable {α β : Type}
def pure (x : α) : Wp α := ⟨fun P => P x, fun h p => h _ p⟩
def bind (w : Wp α) (f : α → Wp β) : Wp β := ⟨fun P => w.run fun x => (f x).run P, fun h p => w.mono (fun x q => (f x).mono h q) p⟩
def guard (C : Prop) (x : α) : Wp α := ⟨fun P => C ∧ P x, fun h p => ⟨p.1, h _ p.2⟩⟩
def ofO (m : Option α) : Wp α := ⟨fun P => ∃ x, m = some x ∧ P x, fun h ⟨x, e, p⟩ => ⟨x, e, h x p⟩⟩
def ite (b : Bool) (u v : Wp α) : Wp α := ⟨fun P => if b = true then u.run P else v.run P, fun h p => by
  cases b with
  | true => exact u.mono h p
  | false => exact v.mono h p⟩
/-- v is a better wish than u -/
def Le (u v : Wp α) : Prop := ∀ P, u.run P → v.run P
theorem Le.refl (u : Wp α) : Le u u := fun _ h => h
theorem Le.trans {u v w : Wp α} (a : Le u v) (b : Le v w) : Le u w := fun P h => b P (a P h)
theorem Le.bind {u u' : Wp α} {f f' : α → Wp β} (a : Le u u') (b : ∀ x, Le (f x) (f' x)) : Le (u.bind f) (u'.bind f') := fun P h => a _ (u.mono (fun x q => b x P q) h)
theorem ofO_bind {m : Option α} {f : α → Option β} : Le (ofO (m.bind f)) ((ofO m).bind fun x => ofO (f x)) := fun P ⟨y, e, p⟩ => by
  cases m with
  | none => cases e
  | some x => exact ⟨x, rfl, y, e, p⟩
theorem ofO_pure {x : α} : Le (ofO (some x)) (pure x) := fun P ⟨y, e, p⟩ => by cases e; exact p
theorem ofO_guard {C : Prop} [Decidable C] {x : α} : Le (ofO (if C then some x else none)) (guard C x) := fun P ⟨y, e, p⟩ => by
  split at e
  · cases e; exact ⟨by assumption, p⟩
  · cases e
end Wp

/-! ### draws -/
inductive G (α : Type) where
  | ret (x : α)
  | fail
  | draw (many : Int) (k : Int → G α)
namespace G
variable {α β : Type}
def bind : G α → (α → G β) → G β
  | ret x, f => f x
  | fail, _ => fail
  | draw n k, f => draw n fun r => (k r).bind f
def wp : G α → (α → Prop) → Prop
  | ret x, P => P x
  | fail, _ => False
  | draw n k, P => 0 < n ∧ ∀ r, 0 ≤ r → r < n → (k r).wp P
theorem wp_mono {P Q : α → Prop} (h : ∀ x, P x → Q x) : ∀ g : G α, g.wp P → g.wp Q
  | ret x, p => h x p
  | fail, p => p
  | draw n k, p => ⟨p.1, fun r h1 h2 => wp_mono h (k r) (p.2 r h1 h2)⟩
theorem wp_bind {f : α → G β} {P : β → Prop} : ∀ g : G α, (g.bind f).wp P ↔ g.wp fun x => (f x).wp P
  | ret x => Iff.rfl
  | fail => Iff.rfl
  | draw n k => ⟨fun h => ⟨h.1, fun r h1 h2 => (wp_bind (k r)).mp (h.2 r h1 h2)⟩, fun h => ⟨h.1, fun r h1 h2 => (wp_bind (k r)).mpr (h.2 r h1 h2)⟩⟩
def ofO : Option α → G α
  | some x => ret x
  | none => fail
def pick (n : Int) : G Int := draw n ret
end G
def Wp.ofG {α : Type} (g : G α) : Wp α := ⟨g.wp, fun h p => G.wp_mono h g p⟩
namespace Wp
variable {α β : Type}
theorem ofG_bind {g : G α} {f : α → G β} : Le (ofG (g.bind f)) ((ofG g).bind fun x => ofG (f x)) := fun P h => (G.wp_bind g).mp h
theorem ofG_ret {x : α} : Le (ofG (G.ret x)) (pure x) := fun P h => h
theorem ofG_ofO {m : Option α} : Le (ofG (G.ofO m)) (ofO m) := fun P h => by
  cases m with
  | none => exact h.elim
  | some x => exact ⟨x, rfl, h⟩
end Wp

/-! ### the canonical readings -/
section
variable {α β γ : Type}
def tE (K : PySem.W.Frag) (mg : Str → Option Value) (M : Bool) (ρ : List Slot) (E : α → D) (w : Wp α) : TE := fun σ H Q =>
  ∃ sr O H0 ad, Env K mg sr O H0 H σ ρ ad ∧ w.run fun x => ∀ v H', Ext sr H H' → Rep K mg (OM M O ad) H' v (E x) → Q v H'
/-- a new list -/
def tL (K : PySem.W.Frag) (mg : Str → Option Value) (M : Bool) (ρ : List Slot) (E : α → D) (w : Wp (List α)) : TE := fun σ H Q =>
  ∃ sr O H0 ad, Env K mg sr O H0 H σ ρ ad ∧ w.run fun xs => ∀ p vs H', H p = none → Ext sr H H' → H' p = some (.lst vs) → Reps K mg (fun a => OM M O ad a ∨ a = p) H' vs (xs.map E) → Q (.ref p) H'
def tA (K : PySem.W.Frag) (mg : Str → Option Value) (M : Bool) (ρ : List Slot) (w : Wp (List D)) : TA := fun σ H Q =>
  ∃ sr O H0 ad, Env K mg sr O H0 H σ ρ ad ∧ w.run fun ds => ∀ vs H', Ext sr H H' → Reps K mg (OM M O ad) H' vs ds → Q vs H'
def tT (K : PySem.W.Frag) (mg : Str → Option Value) (ρ : List Slot) (w : Wp Bool) : TT := fun σ H Q =>
  ∃ sr O H0 ad, Env K mg sr O H0 H σ ρ ad ∧ w.run fun b => ∀ H', Ext sr H H' → Q b H'

structure BE (X : Cx) (M : Bool) (e : Expr) (ρ : List Slot) (E : α → D) (w : Wp α) : Prop where
  pe : PE X e (tE X.K X.mg M ρ E w)
structure BL (X : Cx) (M : Bool) (e : Expr) (ρ : List Slot) (E : α → D) (w : Wp (List α)) : Prop where
  pe : PE X e (tL X.K X.mg M ρ E w)
structure BA (X : Cx) (M : Bool) (es : List Expr) (ρ : List Slot) (w : Wp (List D)) : Prop where
  pa : PA X es (tA X.K X.mg M ρ w)
structure BT (X : Cx) (e : Expr) (ρ : List Slot) (w : Wp Bool) : Prop where
  pt : PT X e (tT X.K X.mg ρ w)
structure BW (X : Cx) (e : Expr) (ρ : List Slot) (w : Wp Bool) : Prop where
  pw : PW X e (tT X.K X.mg ρ w)

theorem pe_weak {X : Cx} {e : Expr} {t t' : TE} (h : PE X e t) (k : ∀ σ H Q, t' σ H Q → t σ H Q) : PE X e t' := ⟨fun pins s σ H Q I hw => h.run pins s σ H Q I (k σ H Q hw)⟩
theorem pa_weak {X : Cx} {e : List Expr} {t t' : TA} (h : PA X e t) (k : ∀ σ H Q, t' σ H Q → t σ H Q) : PA X e t' := ⟨fun po pins s σ H Q I hw => h.run po pins s σ H Q I (k σ H Q hw)⟩
theorem pt_weak {X : Cx} {e : Expr} {t t' : TT} (h : PT X e t) (k : ∀ σ H Q, t' σ H Q → t σ H Q) : PT X e t' := ⟨fun pins s σ H Q I hw => h.run pins s σ H Q I (k σ H Q hw)⟩
theorem pw_weak {X : Cx} {e : Expr} {t t' : TT} (h : PW X e t) (k : ∀ σ H Q, t' σ H Q → t σ H Q) : PW X e t' := ⟨fun wh pins s σ H Q I hw => h.run wh pins s σ H Q I (k σ H Q hw)⟩
variable {X : Cx} {M : Bool} {e a b c : Expr} {es : List Expr} {ρ : List Slot} {E : α → D} {F : β → D} {w w' : Wp α} {pos : Pos}
theorem BE.conv (h : BE X M e ρ E w) (k : Wp.Le w' w) : BE X M e ρ E w' := ⟨pe_weak h.pe fun σ H Q ⟨sr, O, H0, ad, he, hw⟩ => ⟨sr, O, H0, ad, he, k _ hw⟩⟩
theorem BL.conv {w w' : Wp (List α)} (h : BL X M e ρ E w) (k : Wp.Le w' w) : BL X M e ρ E w' := ⟨pe_weak h.pe fun σ H Q ⟨sr, O, H0, ad, he, hw⟩ => ⟨sr, O, H0, ad, he, k _ hw⟩⟩
theorem BA.conv {w w' : Wp (List D)} (h : BA X M es ρ w) (k : Wp.Le w' w) : BA X M es ρ w' := ⟨pa_weak h.pa fun σ H Q ⟨sr, O, H0, ad, he, hw⟩ => ⟨sr, O, H0, ad, he, k _ hw⟩⟩
theorem BT.conv {w w' : Wp Bool} (h : BT X e ρ w) (k : Wp.Le w' w) : BT X e ρ w' := ⟨pt_weak h.pt fun σ H Q ⟨sr, O, H0, ad, he, hw⟩ => ⟨sr, O, H0, ad, he, k _ hw⟩⟩
theorem BW.conv {w w' : Wp Bool} (h : BW X e ρ w) (k : Wp.Le w' w) : BW X e ρ w' := ⟨pw_weak h.pw fun σ H Q ⟨sr, O, H0, ad, he, hw⟩ => ⟨sr, O, H0, ad, he, k _ hw⟩⟩

/-! ### encoders -/
def eI : Int → D := .i
def eB : Bool → D := .b
def eS : Str → D := .s
def eN : Unit → D := fun _ => .n
/-- a list or a tuple of items of one kind -/
inductive Kd where
  | l
  | t
def eQ : Kd → (α → D) → List α → D
  | .l, E, xs => .l (xs.map E)
  | .t, E, xs => .t (xs.map E)
abbrev eT (E : α → D) : List α → D := eQ .t E
abbrev eL (E : α → D) : List α → D := eQ .l E
def eP (E : α → D) (F : β → D) : α × β → D := fun p => .t [E p.1, F p.2]
def eO (E : α → D) : Option α → D
  | none => .n
  | some x => E x
def eD : D → D := id

/-- data in which nothing can change -/
inductive PureD : D → Prop
  | n : PureD .n
  | b (x) : PureD (.b x)
  | i (x) : PureD (.i x)
  | s (x) : PureD (.s x)
  | t {xs} : (∀ x ∈ xs, PureD x) → PureD (.t xs)
mutual
theorem Rep.pure {K : PySem.W.Frag} {mg : Str → Option Value} {O O' : Addr → Prop} {H : Hp} : ∀ (d : D) (v : V), PureD d → Rep K mg O H v d → Rep K mg O' H v d
  | .n, _, _, h => by cases h; exact .n
  | .b x, _, _, h => by cases h; exact .b x
  | .i x, _, _, h => by cases h; exact .i x
  | .s x, _, _, h => by cases h; exact .s x
  | .t ds, _, p, h => by
    cases h with
    | t h1 h2 =>
      cases p with
      | t p => exact .t h1 (Reps.pure ds _ p h2)
  | .l ds, _, p, _ => by cases p
  | .o _ _ ds, _, p, _ => by cases p
  | .d _ ds, _, p, _ => by cases p
theorem Reps.pure {K : PySem.W.Frag} {mg : Str → Option Value} {O O' : Addr → Prop} {H : Hp} : ∀ (ds : List D) (vs : List V), (∀ x ∈ ds, PureD x) → Reps K mg O H vs ds → Reps K mg O' H vs ds
  | [], _, _, h => by cases h; exact .nil
  | d :: ds, _, p, h => by
    cases h with
    | cons h1 h2 => exact .cons (Rep.pure d _ (p d List.mem_cons_self) h1) (Reps.pure ds _ (fun x hx => p x (List.mem_cons_of_mem _ hx)) h2)
end
def PureE (E : α → D) : Prop := ∀ x, PureD (E x)
theorem pure_I : PureE eI := fun x => .i x
theorem pure_B : PureE eB := fun x => .b x
theorem pure_S : PureE eS := fun x => .s x
theorem pure_N : PureE eN := fun _ => .n
theorem pure_T (h : PureE E) : PureE (eT E) := fun xs => .t fun x hx => by
  obtain ⟨y, _, e⟩ := List.mem_map.mp hx
  rw [← e]; exact h y
theorem pure_P (h : PureE E) (h' : PureE F) : PureE (eP E F) := fun p => .t fun x hx => by
  rcases List.mem_cons.mp hx with e | hx
  · rw [e]; exact h _
  · rcases List.mem_cons.mp hx with e | hx
    · rw [e]; exact h' _
    · cases hx
theorem pure_O (h : PureE E) : PureE (eO E) := fun x => by
  cases x with
  | none => exact .n
  | some x => exact h x

theorem BE.up (h : BE X false e ρ E w) (hp : PureE E) : BE X M e ρ E w := ⟨pe_weak h.pe fun σ H Q ⟨sr, O, H0, ad, he, hw⟩ =>
  ⟨sr, O, H0, ad, he, w.mono (fun x q v H' x1 r => q v H' x1 (r.pure _ _ (hp x))) hw⟩⟩
/-- data that may be kept serves for the moment -/
theorem BE.down (h : BE X true e ρ E w) : BE X M e ρ E w := ⟨pe_weak h.pe fun σ H Q ⟨sr, O, H0, ad, he, hw⟩ =>
  ⟨sr, O, H0, ad, he, w.mono (fun x q v H' x1 r => q v H' x1 (r.sub OM.le)) hw⟩⟩
/-- a new list as data -/
theorem BL.be {w : Wp (List α)} (h : BL X M e ρ E w) : BE X M e ρ (eL E) w := ⟨pe_weak h.pe fun σ H Q ⟨sr, O, H0, ad, he, hw⟩ =>
  ⟨sr, O, H0, ad, he, w.mono (fun xs q p vs H' hp x1 hp' r => q (.ref p) H' x1 (.l hp' (he.freshM hp M) (r.sub fun a h => .inl h))) hw⟩⟩

/-! ### names, constants -/
theorem BE.var (i : Nat) {n : Str} {x : α} (h : ρ[i]? = some (.d (E x))) (hN : X.N[i]? = some n := by rfl) (hv : Vis X.env.scope n := by first | exact Or.inl rfl | exact Or.inr (Or.inl rfl) | exact Or.inr (Or.inr rfl)) (hd : (n == ("__debug__" : Str)) = false := by decide) (hcd : (n == ("__classdict__" : Str)) = false := by decide) :
    BE X M (.Name n pos) ρ E (.pure x) := ⟨pe_weak (pv i hN hv hd hcd) fun σ H Q ⟨sr, O, H0, ad, he, hw⟩ => by
  have := he.at_ i
  rw [h] at this
  obtain ⟨_, v, e, r⟩ := this
  exact ⟨v, e, hw v H (Ext.refl he.srs) (r.sub OM.le)⟩⟩
theorem BE.varL (i : Nat) {n : Str} {xs : List α} (h : ρ[i]? = some (.l (xs.map E))) (hN : X.N[i]? = some n := by rfl) (hv : Vis X.env.scope n := by first | exact Or.inl rfl | exact Or.inr (Or.inl rfl) | exact Or.inr (Or.inr rfl)) (hd : (n == ("__debug__" : Str)) = false := by decide) (hcd : (n == ("__classdict__" : Str)) = false := by decide) :
    BE X false (.Name n pos) ρ (eL E) (.pure xs) := ⟨pe_weak (pv i hN hv hd hcd) fun σ H Q ⟨sr, O, H0, ad, he, hw⟩ => by
  have := he.at_ i
  rw [h] at this
  obtain ⟨p, vs, e, e2, e3, r⟩ := this
  exact ⟨.ref p, e2, hw _ H (Ext.refl he.srs) (.l e3 (he.dis i p e) (r.sub fun a h => .inl h))⟩⟩
theorem BE.int {i : Int} {j} : BE X M (.Constant (.int i) j pos) ρ eI (.pure i) := ⟨pe_weak pe_int fun σ H Q ⟨sr, O, H0, ad, he, hw⟩ => hw _ H (Ext.refl he.srs) (.i i)⟩
theorem BE.bl {i : Bool} {j} : BE X M (.Constant (.bool i) j pos) ρ eB (.pure i) := ⟨pe_weak pe_bl fun σ H Q ⟨sr, O, H0, ad, he, hw⟩ => hw _ H (Ext.refl he.srs) (.b i)⟩
theorem BE.str {i : Str} {j} : BE X M (.Constant (.str i) j pos) ρ eS (.pure i) := ⟨pe_weak pe_str fun σ H Q ⟨sr, O, H0, ad, he, hw⟩ => hw _ H (Ext.refl he.srs) (.s i)⟩
theorem BE.non {j} : BE X M (.Constant .none j pos) ρ eN (.pure ()) := ⟨pe_weak pe_non fun σ H Q ⟨sr, O, H0, ad, he, hw⟩ => hw _ H (Ext.refl he.srs) .n⟩
/-- the encoder changed -/
theorem BE.enc {f : α → β} (h : BE X M e ρ E w) (k : ∀ x, E x = F (f x)) : BE X M e ρ F (w.bind fun x => .pure (f x)) := ⟨pe_weak h.pe fun σ H Q ⟨sr, O, H0, ad, he, hw⟩ =>
  ⟨sr, O, H0, ad, he, w.mono (fun x q v H' x1 r => q v H' x1 (by rw [← k]; exact r)) hw⟩⟩

/-! ### operators -/
section
variable {wa wb : Wp Int}
theorem BE.opI {op : Operator} {C : Int → Int → Prop} {g : Int → Int → Int} (ho : OpR X (binaryOp op) (rI C fun i j => .int (g i j))) (ha : BE X false a ρ eI wa) (hb : BE X false b ρ eI wb) :
    BE X M (.BinOp a op b pos) ρ eI (wa.bind fun x => wb.bind fun y => .guard (C x y) (g x y)) := ⟨pe_weak (pe_op ho ha.pe hb.pe) fun σ H Q ⟨sr, O, H0, ad, he, hw⟩ =>
  ⟨sr, O, H0, ad, he, wa.mono (fun x q v H1 x1 r => ⟨sr, O, H0, ad, he.ext' x1, wb.mono (fun y q2 v2 H2 x2 r2 => by
    cases r; cases r2
    exact ⟨x, y, rfl, rfl, q2.1, q2.2 _ H2 (x1.trans x2) (.i _)⟩) q⟩) hw⟩⟩
theorem BE.opI0 {op : Operator} {g : Int → Int → Int} (ho : OpR X (binaryOp op) (rI0 fun i j => .int (g i j))) (ha : BE X false a ρ eI wa) (hb : BE X false b ρ eI wb) :
    BE X M (.BinOp a op b pos) ρ eI (wa.bind fun x => wb.bind fun y => .pure (g x y)) := ⟨pe_weak (pe_op ho ha.pe hb.pe) fun σ H Q ⟨sr, O, H0, ad, he, hw⟩ =>
  ⟨sr, O, H0, ad, he, wa.mono (fun x q v H1 x1 r => ⟨sr, O, H0, ad, he.ext' x1, wb.mono (fun y q2 v2 H2 x2 r2 => by
    cases r; cases r2
    exact ⟨x, y, rfl, rfl, q2 _ H2 (x1.trans x2) (.i _)⟩) q⟩) hw⟩⟩
theorem BE.neg (ha : BE X false a ρ eI wa) : BE X M (.UnaryOp .USub a pos) ρ eI (wa.bind fun x => .pure (-x)) := ⟨pe_weak (pe_un un_neg ha.pe) fun σ H Q ⟨sr, O, H0, ad, he, hw⟩ =>
  ⟨sr, O, H0, ad, he, wa.mono (fun x q v H1 x1 r => by
    cases r
    exact ⟨x, rfl, q _ H1 x1 (.i _)⟩) hw⟩⟩
/-- a comparison of ints -/
theorem BE.cmpI {op : CmpOp} {g : Int → Int → Bool} (ho : OpR X (compareOp op) (rI0 fun i j => .bl (g i j))) (ha : BE X false a ρ eI wa) (hb : BE X false b ρ eI wb) (hm : behindInMarks op b = false) :
    BE X M (.Compare a [op] [b] pos) ρ eB (wa.bind fun x => wb.bind fun y => .pure (g x y)) := ⟨pe_weak (pe_cmpR ho ha.pe hb.pe hm) fun σ H Q ⟨sr, O, H0, ad, he, hw⟩ =>
  ⟨sr, O, H0, ad, he, wa.mono (fun x q v H1 x1 r => ⟨sr, O, H0, ad, he.ext' x1, wb.mono (fun y q2 v2 H2 x2 r2 => by
    cases r; cases r2
    exact ⟨x, y, rfl, rfl, q2 _ H2 (x1.trans x2) (.b _)⟩) q⟩) hw⟩⟩
theorem BT.cmpI {op : CmpOp} {g : Int → Int → Bool} (ho : OpR X (compareOp op) (rI0 fun i j => .bl (g i j))) (ha : BE X false a ρ eI wa) (hb : BE X false b ρ eI wb) (hm : behindInMarks op b = false) :
    BT X (.Compare a [op] [b] pos) ρ (wa.bind fun x => wb.bind fun y => .pure (g x y)) := ⟨pt_weak (pt_cmpR ho ha.pe hb.pe hm) fun σ H Q ⟨sr, O, H0, ad, he, hw⟩ =>
  ⟨sr, O, H0, ad, he, wa.mono (fun x q v H1 x1 r => ⟨sr, O, H0, ad, he.ext' x1, wb.mono (fun y q2 v2 H2 x2 r2 => by
    cases r; cases r2
    exact ⟨x, y, rfl, rfl, _, rfl, q2 H2 (x1.trans x2)⟩) q⟩) hw⟩⟩
theorem op_eqI : OpR X (compareOp .Eq) (rI0 fun i j => .bl (decide (i = j))) := fun pins s σ H x y v u Q I rx ry h => by
  obtain ⟨i, j, rfl, rfl, q⟩ := h
  refine op_eq pins s σ H _ _ v u Q I rx ry ⟨rfl, ?_⟩
  rw [dec_int, Bool.beq_eq_decide_eq]; exact q
theorem op_neI : OpR X (compareOp .NotEq) (rI0 fun i j => .bl (!decide (i = j))) := fun pins s σ H x y v u Q I rx ry h => by
  obtain ⟨i, j, rfl, rfl, q⟩ := h
  refine op_ne pins s σ H _ _ v u Q I rx ry ⟨rfl, ?_⟩
  rw [dec_int, Bool.beq_eq_decide_eq]; exact q
end

/-! ### tests -/
theorem BT.val (h : BE X false e ρ eB w₁) (he : ∀ whole, isTrue e X.env whole = (do let v ← whole; standAt e.pos; holding [v] (truthy v)) := by intro _; rfl) : BT X e ρ w₁ := ⟨pt_weak (pt_val h.pe he) fun σ H Q ⟨sr, O, H0, ad, he, hw⟩ =>
  ⟨sr, O, H0, ad, he, w₁.mono (fun x q v H1 x1 r => by
    cases r
    exact ⟨x, rfl, q H1 x1⟩) hw⟩⟩
theorem BT.of_cmp {w : Wp Bool} (h : PT X e (tTest t)) (k : ∀ σ H Q, tT X.K X.mg ρ w σ H Q → tTest t σ H Q) : BT X e ρ w := ⟨pt_weak h k⟩
theorem BW.bt {w : Wp Bool} (h : BW X e ρ w) : BT X e ρ w := ⟨h.pw.pt⟩
variable {wa wb : Wp Bool} {rest : List Expr}
theorem BT.not (h : BT X a ρ wa) : BT X (.UnaryOp .Not a pos) ρ (wa.bind fun x => .pure (!x)) := ⟨pt_weak (pt_not h.pt) fun σ H Q ⟨sr, O, H0, ad, he, hw⟩ =>
  ⟨sr, O, H0, ad, he, wa.mono (fun x q H1 x1 => q H1 x1) hw⟩⟩
theorem BW.and1 (h : BT X a ρ wa) : BW X (.BoolOp .And [a] pos) ρ wa := ⟨pw_and1 h.pt⟩
theorem BW.or1 (h : BT X a ρ wa) : BW X (.BoolOp .Or [a] pos) ρ wa := ⟨pw_or1 h.pt⟩
theorem BW.and (ha : BT X a ρ wa) (hb : BW X (.BoolOp .And (b :: rest) pos) ρ wb) : BW X (.BoolOp .And (a :: b :: rest) pos) ρ (wa.bind fun x => .ite x wb (.pure false)) :=
  ⟨pw_weak (pw_and ha.pt hb.pw) fun σ H Q ⟨sr, O, H0, ad, he, hw⟩ => ⟨sr, O, H0, ad, he, wa.mono (fun x q H1 x1 => by
    cases x with
    | true => exact ⟨sr, O, H0, ad, he.ext' x1, wb.mono (fun y q2 H2 x2 => q2 H2 (x1.trans x2)) q⟩
    | false => exact q H1 x1) hw⟩⟩
theorem BW.or (ha : BT X a ρ wa) (hb : BW X (.BoolOp .Or (b :: rest) pos) ρ wb) : BW X (.BoolOp .Or (a :: b :: rest) pos) ρ (wa.bind fun x => .ite x (.pure true) wb) :=
  ⟨pw_weak (pw_or ha.pt hb.pw) fun σ H Q ⟨sr, O, H0, ad, he, hw⟩ => ⟨sr, O, H0, ad, he, wa.mono (fun x q H1 x1 => by
    cases x with
    | false => exact ⟨sr, O, H0, ad, he.ext' x1, wb.mono (fun y q2 H2 x2 => q2 H2 (x1.trans x2)) q⟩
    | true => exact q H1 x1) hw⟩⟩
theorem BE.not (h : BE X false a ρ eB wa) : BE X M (.UnaryOp .Not a pos) ρ eB (wa.bind fun x => .pure (!x)) := ⟨pe_weak (pe_not h.pe) fun σ H Q ⟨sr, O, H0, ad, he, hw⟩ =>
  ⟨sr, O, H0, ad, he, wa.mono (fun x q v H1 x1 r => by
    cases r
    exact ⟨x, rfl, q _ H1 x1 (.b _)⟩) hw⟩⟩
theorem BE.and1 (h : BE X M a ρ eB wa) : BE X M (.BoolOp .And [a] pos) ρ eB wa := ⟨pe_one h.pe⟩
theorem BE.or1 (h : BE X M a ρ eB wa) : BE X M (.BoolOp .Or [a] pos) ρ eB wa := ⟨pe_one h.pe⟩
theorem BE.and (ha : BE X false a ρ eB wa) (hb : BE X false (.BoolOp .And (b :: rest) pos) ρ eB wb) : BE X M (.BoolOp .And (a :: b :: rest) pos) ρ eB (wa.bind fun x => .ite x wb (.pure false)) :=
  ⟨pe_weak (pe_and ha.pe hb.pe) fun σ H Q ⟨sr, O, H0, ad, he, hw⟩ => ⟨sr, O, H0, ad, he, wa.mono (fun x q v H1 x1 r => by
    cases r
    refine ⟨x, rfl, ?_⟩
    cases x with
    | true => exact ⟨sr, O, H0, ad, he.ext' x1, wb.mono (fun y q2 v H2 x2 r2 => q2 v H2 (x1.trans x2) (r2.pure _ _ (.b _))) q⟩
    | false => exact q _ H1 x1 (.b _)) hw⟩⟩
theorem BE.or (ha : BE X false a ρ eB wa) (hb : BE X false (.BoolOp .Or (b :: rest) pos) ρ eB wb) : BE X M (.BoolOp .Or (a :: b :: rest) pos) ρ eB (wa.bind fun x => .ite x (.pure true) wb) :=
  ⟨pe_weak (pe_or ha.pe hb.pe) fun σ H Q ⟨sr, O, H0, ad, he, hw⟩ => ⟨sr, O, H0, ad, he, wa.mono (fun x q v H1 x1 r => by
    cases r
    refine ⟨x, rfl, ?_⟩
    cases x with
    | false => exact ⟨sr, O, H0, ad, he.ext' x1, wb.mono (fun y q2 v H2 x2 r2 => q2 v H2 (x1.trans x2) (r2.pure _ _ (.b _))) q⟩
    | true => exact q _ H1 x1 (.b _)) hw⟩⟩
theorem BE.ifExp {w1 w2 : Wp α} (hc : BT X c ρ wa) (h1 : BE X M a ρ E w1) (h2 : BE X M b ρ E w2) : BE X M (.IfExp c a b pos) ρ E (wa.bind fun x => .ite x w1 w2) :=
  ⟨pe_weak (pe_ifExp hc.pt h1.pe h2.pe) fun σ H Q ⟨sr, O, H0, ad, he, hw⟩ => ⟨sr, O, H0, ad, he, wa.mono (fun x q H1 x1 => by
    cases x with
    | true => exact ⟨sr, O, H0, ad, he.ext' x1, w1.mono (fun y q2 v H2 x2 r2 => q2 v H2 (x1.trans x2) r2) q⟩
    | false => exact ⟨sr, O, H0, ad, he.ext' x1, w2.mono (fun y q2 v H2 x2 r2 => q2 v H2 (x1.trans x2) r2) q⟩) hw⟩⟩
end
end Wk

namespace Wk
open PySem PySem.Spec PyProof.Rows L2

/-! ### the monads of the mirrors: Option, and draws -/
class Mn (m : Type → Type) where
  pure : {α : Type} → α → m α
  bind : {α β : Type} → m α → (α → m β) → m β
  lift : {α : Type} → Option α → m α
  wp : {α : Type} → m α → Wp α
  pure_le : ∀ {α : Type} (x : α), Wp.Le (wp (pure x)) (Wp.pure x)
  bind_le : ∀ {α β : Type} (a : m α) (f : α → m β), Wp.Le (wp (bind a f)) ((wp a).bind fun x => wp (f x))
  lift_le : ∀ {α : Type} (o : Option α), Wp.Le (wp (lift o)) (Wp.ofO o)
  pure_ge : ∀ {α : Type} (x : α), Wp.Le (Wp.pure x) (wp (pure x))
  bind_ge : ∀ {α β : Type} (a : m α) (f : α → m β), Wp.Le ((wp a).bind fun x => wp (f x)) (wp (bind a f))
instance : Mn Option where
  pure := some
  bind := Option.bind
  lift := id
  wp := Wp.ofO
  pure_le := fun _ => Wp.ofO_pure
  bind_le := fun _ _ => Wp.ofO_bind
  lift_le := fun _ => Wp.Le.refl _
  pure_ge := fun x P h => ⟨x, rfl, h⟩
  bind_ge := fun a f P ⟨x, e, y, e2, h⟩ => ⟨y, by rw [e]; exact e2, h⟩
instance : Mn G where
  pure := G.ret
  bind := G.bind
  lift := G.ofO
  wp := Wp.ofG
  pure_le := fun _ => Wp.ofG_ret
  bind_le := fun _ _ => Wp.ofG_bind
  lift_le := fun _ => Wp.ofG_ofO
  pure_ge := fun x P h => h
  bind_ge := fun a f P h => (G.wp_bind a).mpr h
section
variable {m : Type → Type} [Mn m] {α β γ δ : Type}
abbrev rt (x : α) : m α := Mn.pure x
abbrev bd (a : m α) (f : α → m β) : m β := Mn.bind a f
abbrev lf (o : Option α) : m α := Mn.lift o
theorem le1 {a : m α} {f : α → m β} {g : α → Wp β} (h : ∀ x, Wp.Le (Mn.wp (f x)) (g x)) : Wp.Le (Mn.wp (bd a f)) ((Mn.wp a).bind g) :=
  (Mn.bind_le a f).trans (Wp.Le.bind (Wp.Le.refl _) h)
theorem le2 {a : m α} {b : α → m β} {f : α → β → m γ} {g : α → β → Wp γ} (h : ∀ x y, Wp.Le (Mn.wp (f x y)) (g x y)) : Wp.Le (Mn.wp (bd a fun x => bd (b x) (f x))) ((Mn.wp a).bind fun x => (Mn.wp (b x)).bind (g x)) :=
  le1 fun x => le1 fun y => h x y
theorem lep {x : α} : Wp.Le (Mn.wp (rt (m := m) x)) (Wp.pure x) := Mn.pure_le x
theorem leg {C : Prop} [Decidable C] {x : α} : Wp.Le (Mn.wp (lf (m := m) (if C then some x else none))) (Wp.guard C x) := (Mn.lift_le _).trans Wp.ofO_guard

structure JE (X : Cx) (M : Bool) (e : Expr) (ρ : List Slot) (E : α → D) (a : m α) : Prop where
  b : BE X M e ρ E (Mn.wp a)
structure JL (X : Cx) (M : Bool) (e : Expr) (ρ : List Slot) (E : α → D) (a : m (List α)) : Prop where
  b : BL X M e ρ E (Mn.wp a)
structure JT (X : Cx) (e : Expr) (ρ : List Slot) (a : m Bool) : Prop where
  b : BT X e ρ (Mn.wp a)
structure JW (X : Cx) (e : Expr) (ρ : List Slot) (a : m Bool) : Prop where
  b : BW X e ρ (Mn.wp a)
/-- arguments of any kinds -/
structure JA (X : Cx) (M : Bool) (es : List Expr) (ρ : List Slot) (a : m (List D)) : Prop where
  b : BA X M es ρ (Mn.wp a)
/-- items of one kind -/
structure JH (X : Cx) (M : Bool) (es : List Expr) (ρ : List Slot) (E : α → D) (a : m (List α)) : Prop where
  b : BA X M es ρ ((Mn.wp a).bind fun xs => .pure (xs.map E))
  n : ∀ P, (Mn.wp a).run P → (Mn.wp a).run fun xs => P xs ∧ xs.length = es.length

variable {X : Cx} {M : Bool} {e a b c : Expr} {es : List Expr} {ρ : List Slot} {E : α → D} {F : β → D} {pos : Pos}

/-! ### names, constants -/
theorem JE.var (i : Nat) {n : Str} {x : α} (h : ρ[i]? = some (.d (E x))) (hN : X.N[i]? = some n := by rfl) (hv : Vis X.env.scope n := by first | exact Or.inl rfl | exact Or.inr (Or.inl rfl) | exact Or.inr (Or.inr rfl)) (hd : (n == ("__debug__" : Str)) = false := by decide) (hcd : (n == ("__classdict__" : Str)) = false := by decide) :
    JE X M (.Name n pos) ρ E (rt (m := m) x) := ⟨(BE.var i h hN hv hd hcd).conv lep⟩
theorem JE.varL (i : Nat) {n : Str} {xs : List α} (h : ρ[i]? = some (.l (xs.map E))) (hN : X.N[i]? = some n := by rfl) (hv : Vis X.env.scope n := by first | exact Or.inl rfl | exact Or.inr (Or.inl rfl) | exact Or.inr (Or.inr rfl)) (hd : (n == ("__debug__" : Str)) = false := by decide) (hcd : (n == ("__classdict__" : Str)) = false := by decide) :
    JE X false (.Name n pos) ρ (eL E) (rt (m := m) xs) := ⟨(BE.varL i h hN hv hd hcd).conv lep⟩
theorem JE.int {i : Int} {j} : JE X M (.Constant (.int i) j pos) ρ eI (rt (m := m) i) := ⟨BE.int.conv lep⟩
theorem JE.bl {i : Bool} {j} : JE X M (.Constant (.bool i) j pos) ρ eB (rt (m := m) i) := ⟨BE.bl.conv lep⟩
theorem JE.str {i : Str} {j} : JE X M (.Constant (.str i) j pos) ρ eS (rt (m := m) i) := ⟨BE.str.conv lep⟩
theorem JE.non {j} : JE X M (.Constant .none j pos) ρ eN (rt (m := m) ()) := ⟨BE.non.conv lep⟩
theorem JE.up {w : m α} (h : JE X false e ρ E w) (hp : PureE E) : JE X M e ρ E w := ⟨h.b.up hp⟩
theorem JE.down {w : m α} (h : JE X true e ρ E w) : JE X M e ρ E w := ⟨h.b.down⟩
theorem JL.je {w : m (List α)} (h : JL X M e ρ E w) : JE X M e ρ (eL E) w := ⟨h.b.be⟩
/-- another encoder -/
theorem JE.enc {w : m α} (f : α → β) (h : JE X M e ρ E w) (k : ∀ x, E x = F (f x)) : JE X M e ρ F (bd w fun x => rt (f x)) := ⟨(h.b.enc k).conv (le1 fun _ => lep)⟩

/-! ### operators on ints -/
def mulO (x y : Int) : Option Int := if (-(2 ^ 64) < x ∧ x < 2 ^ 64) ∨ (-(2 ^ 64) < y ∧ y < 2 ^ 64) then some (x * y) else none
def divO (x y : Int) : Option Int := if 0 < y ∧ y < 1073741824 then some (x / y) else none
def modO (x y : Int) : Option Int := if 0 < y then some (x % y) else none
def powO (x y : Int) : Option Int := if 0 ≤ y ∧ y ≤ 1000000 ∧ x.natAbs < 2 ^ 64 then some (x ^ y.toNat) else none
section
variable {wa wb : m Int}
theorem JE.add (ha : JE X false a ρ eI wa) (hb : JE X false b ρ eI wb) : JE X M (.BinOp a .Add b pos) ρ eI (bd wa fun x => bd wb fun y => rt (x + y)) := ⟨(BE.opI0 op_add ha.b hb.b).conv (le2 fun _ _ => lep)⟩
theorem JE.sub (ha : JE X false a ρ eI wa) (hb : JE X false b ρ eI wb) : JE X M (.BinOp a .Sub b pos) ρ eI (bd wa fun x => bd wb fun y => rt (x - y)) := ⟨(BE.opI0 op_sub ha.b hb.b).conv (le2 fun _ _ => lep)⟩
theorem JE.mul (ha : JE X false a ρ eI wa) (hb : JE X false b ρ eI wb) : JE X M (.BinOp a .Mult b pos) ρ eI (bd wa fun x => bd wb fun y => lf (mulO x y)) := ⟨(BE.opI op_mul ha.b hb.b).conv (le2 fun _ _ => leg)⟩
theorem JE.div (ha : JE X false a ρ eI wa) (hb : JE X false b ρ eI wb) : JE X M (.BinOp a .FloorDiv b pos) ρ eI (bd wa fun x => bd wb fun y => lf (divO x y)) := ⟨(BE.opI op_fdiv ha.b hb.b).conv (le2 fun _ _ => leg)⟩
theorem JE.mod (ha : JE X false a ρ eI wa) (hb : JE X false b ρ eI wb) : JE X M (.BinOp a .Mod b pos) ρ eI (bd wa fun x => bd wb fun y => lf (modO x y)) := ⟨(BE.opI op_mod ha.b hb.b).conv (le2 fun _ _ => leg)⟩
theorem JE.pow (ha : JE X false a ρ eI wa) (hb : JE X false b ρ eI wb) : JE X M (.BinOp a .Pow b pos) ρ eI (bd wa fun x => bd wb fun y => lf (powO x y)) := ⟨(BE.opI op_pow ha.b hb.b).conv (le2 fun _ _ => leg)⟩
/-- by a written factor, divisor -/
theorem JE.mulR {n : Int} {k p2} (hn : -(2 ^ 64) < n ∧ n < 2 ^ 64) (ha : JE X false a ρ eI wa) : JE X M (.BinOp a .Mult (.Constant (.int n) k p2) pos) ρ eI (bd wa fun x => rt (x * n)) := ⟨(BE.opI op_mul ha.b (BE.int (M := false))).conv (le1 fun x => lep.trans fun P h => ⟨.inr hn, h⟩)⟩
theorem JE.mulL {n : Int} {k p2} (hn : -(2 ^ 64) < n ∧ n < 2 ^ 64) (ha : JE X false a ρ eI wa) : JE X M (.BinOp (.Constant (.int n) k p2) .Mult a pos) ρ eI (bd wa fun x => rt (n * x)) := ⟨(BE.opI op_mul (BE.int (M := false)) ha.b).conv ((le1 fun x => lep).trans fun P h => (Mn.wp wa).mono (fun x q => ⟨.inl hn, q⟩) h)⟩
theorem JE.divR {n : Int} {k p2} (hn : 0 < n ∧ n < 1073741824) (ha : JE X false a ρ eI wa) : JE X M (.BinOp a .FloorDiv (.Constant (.int n) k p2) pos) ρ eI (bd wa fun x => rt (x / n)) := ⟨(BE.opI op_fdiv ha.b (BE.int (M := false))).conv (le1 fun x => lep.trans fun P h => ⟨hn, h⟩)⟩
theorem JE.modR {n : Int} {k p2} (hn : 0 < n) (ha : JE X false a ρ eI wa) : JE X M (.BinOp a .Mod (.Constant (.int n) k p2) pos) ρ eI (bd wa fun x => rt (x % n)) := ⟨(BE.opI op_mod ha.b (BE.int (M := false))).conv (le1 fun x => lep.trans fun P h => ⟨hn, h⟩)⟩
theorem JE.neg (ha : JE X false a ρ eI wa) : JE X M (.UnaryOp .USub a pos) ρ eI (bd wa fun x => rt (-x)) := ⟨(BE.neg ha.b).conv (le1 fun _ => lep)⟩
theorem JE.cmp {op : CmpOp} {g : Int → Int → Bool} (ho : OpR X (compareOp op) (rI0 fun i j => .bl (g i j))) (hm : behindInMarks op b = false) (ha : JE X false a ρ eI wa) (hb : JE X false b ρ eI wb) : JE X M (.Compare a [op] [b] pos) ρ eB (bd wa fun x => bd wb fun y => rt (g x y)) := ⟨(BE.cmpI ho ha.b hb.b hm).conv (le2 fun _ _ => lep)⟩
theorem JT.cmp {op : CmpOp} {g : Int → Int → Bool} (ho : OpR X (compareOp op) (rI0 fun i j => .bl (g i j))) (hm : behindInMarks op b = false) (ha : JE X false a ρ eI wa) (hb : JE X false b ρ eI wb) : JT X (.Compare a [op] [b] pos) ρ (bd wa fun x => bd wb fun y => rt (g x y)) := ⟨(BT.cmpI ho ha.b hb.b hm).conv (le2 fun _ _ => lep)⟩
theorem JE.eq (ha : JE X false a ρ eI wa) (hb : JE X false b ρ eI wb) : JE X M (.Compare a [.Eq] [b] pos) ρ eB (bd wa fun x => bd wb fun y => rt (decide (x = y))) := JE.cmp op_eqI (nomark _) ha hb
theorem JE.ne (ha : JE X false a ρ eI wa) (hb : JE X false b ρ eI wb) : JE X M (.Compare a [.NotEq] [b] pos) ρ eB (bd wa fun x => bd wb fun y => rt (!decide (x = y))) := JE.cmp op_neI (nomark _) ha hb
theorem JE.lt (ha : JE X false a ρ eI wa) (hb : JE X false b ρ eI wb) : JE X M (.Compare a [.Lt] [b] pos) ρ eB (bd wa fun x => bd wb fun y => rt (decide (x < y))) := JE.cmp op_lt (nomark _) ha hb
theorem JE.le (ha : JE X false a ρ eI wa) (hb : JE X false b ρ eI wb) : JE X M (.Compare a [.LtE] [b] pos) ρ eB (bd wa fun x => bd wb fun y => rt (decide (x ≤ y))) := JE.cmp op_le (nomark _) ha hb
theorem JE.gt (ha : JE X false a ρ eI wa) (hb : JE X false b ρ eI wb) : JE X M (.Compare a [.Gt] [b] pos) ρ eB (bd wa fun x => bd wb fun y => rt (decide (y < x))) := JE.cmp op_gt (nomark _) ha hb
theorem JE.ge (ha : JE X false a ρ eI wa) (hb : JE X false b ρ eI wb) : JE X M (.Compare a [.GtE] [b] pos) ρ eB (bd wa fun x => bd wb fun y => rt (decide (y ≤ x))) := JE.cmp op_ge (nomark _) ha hb
theorem JT.eq (ha : JE X false a ρ eI wa) (hb : JE X false b ρ eI wb) : JT X (.Compare a [.Eq] [b] pos) ρ (bd wa fun x => bd wb fun y => rt (decide (x = y))) := JT.cmp op_eqI (nomark _) ha hb
theorem JT.ne (ha : JE X false a ρ eI wa) (hb : JE X false b ρ eI wb) : JT X (.Compare a [.NotEq] [b] pos) ρ (bd wa fun x => bd wb fun y => rt (!decide (x = y))) := JT.cmp op_neI (nomark _) ha hb
theorem JT.lt (ha : JE X false a ρ eI wa) (hb : JE X false b ρ eI wb) : JT X (.Compare a [.Lt] [b] pos) ρ (bd wa fun x => bd wb fun y => rt (decide (x < y))) := JT.cmp op_lt (nomark _) ha hb
theorem JT.le (ha : JE X false a ρ eI wa) (hb : JE X false b ρ eI wb) : JT X (.Compare a [.LtE] [b] pos) ρ (bd wa fun x => bd wb fun y => rt (decide (x ≤ y))) := JT.cmp op_le (nomark _) ha hb
theorem JT.gt (ha : JE X false a ρ eI wa) (hb : JE X false b ρ eI wb) : JT X (.Compare a [.Gt] [b] pos) ρ (bd wa fun x => bd wb fun y => rt (decide (y < x))) := JT.cmp op_gt (nomark _) ha hb
theorem JT.ge (ha : JE X false a ρ eI wa) (hb : JE X false b ρ eI wb) : JT X (.Compare a [.GtE] [b] pos) ρ (bd wa fun x => bd wb fun y => rt (decide (y ≤ x))) := JT.cmp op_ge (nomark _) ha hb
/-- lo op x op' hi, ints -/
theorem BE.chain {op op' : CmpOp} {g g' : Int → Int → Bool} {wa wb wc : Wp Int} (ho : OpR X (compareOp op) (rI0 fun i j => .bl (g i j))) (ho' : OpR X (compareOp op') (rI0 fun i j => .bl (g' i j))) (ha : BE X false a ρ eI wa) (hb : BE X false b ρ eI wb) (hc : BE X false c ρ eI wc) (hm : lastMarks [op, op'] [b, c] = false) :
    BE X M (.Compare a [op, op'] [b, c] pos) ρ eB (wa.bind fun x => wb.bind fun y => .ite (g x y) (wc.bind fun z => .pure (g' y z)) (.pure false)) := ⟨pe_weak (pe_chain ho ho' ha.pe hb.pe hc.pe hm) fun σ H Q ⟨sr, O, H0, ad, he, hw⟩ =>
  ⟨sr, O, H0, ad, he, wa.mono (fun x q v H1 x1 r => ⟨sr, O, H0, ad, he.ext' x1, wb.mono (fun y q2 v2 H2 x2 r2 => by
    cases r; cases r2
    refine ⟨x, y, rfl, rfl, g x y, rfl, ?_⟩
    have q2 : (if g x y = true then _ else _) := q2
    cases hg : g x y with
    | true =>
      rw [hg, if_pos rfl] at q2
      exact ⟨sr, O, H0, ad, (he.ext' x1).ext' x2, wc.mono (fun z q3 v3 H3 x3 r3 => by
        cases r3
        exact ⟨y, z, rfl, rfl, q3 _ H3 ((x1.trans x2).trans x3) (.b _)⟩) q2⟩
    | false =>
      rw [hg, if_neg (by decide)] at q2
      exact q2 _ H2 (x1.trans x2) (.b _)) q⟩) hw⟩⟩
theorem BT.chain {op op' : CmpOp} {g g' : Int → Int → Bool} {wa wb wc : Wp Int} (ho : OpR X (compareOp op) (rI0 fun i j => .bl (g i j))) (ho' : OpR X (compareOp op') (rI0 fun i j => .bl (g' i j))) (ha : BE X false a ρ eI wa) (hb : BE X false b ρ eI wb) (hc : BE X false c ρ eI wc) (hm : lastMarks [op, op'] [b, c] = false) :
    BT X (.Compare a [op, op'] [b, c] pos) ρ (wa.bind fun x => wb.bind fun y => .ite (g x y) (wc.bind fun z => .pure (g' y z)) (.pure false)) := ⟨pt_weak (pt_chain ho ho' ha.pe hb.pe hc.pe hm) fun σ H Q ⟨sr, O, H0, ad, he, hw⟩ =>
  ⟨sr, O, H0, ad, he, wa.mono (fun x q v H1 x1 r => ⟨sr, O, H0, ad, he.ext' x1, wb.mono (fun y q2 v2 H2 x2 r2 => by
    cases r; cases r2
    refine ⟨x, y, rfl, rfl, g x y, rfl, ?_⟩
    have q2 : (if g x y = true then _ else _) := q2
    cases hg : g x y with
    | true =>
      rw [hg, if_pos rfl] at q2
      exact ⟨sr, O, H0, ad, (he.ext' x1).ext' x2, wc.mono (fun z q3 v3 H3 x3 r3 => by
        cases r3
        exact ⟨y, z, rfl, rfl, _, rfl, q3 H3 ((x1.trans x2).trans x3)⟩) q2⟩
    | false =>
      rw [hg, if_neg (by decide)] at q2
      exact ⟨_, rfl, q2 H2 (x1.trans x2)⟩) q⟩) hw⟩⟩
end
/-- the mirror's if -/
def ifM (b : Bool) (u v : m α) : m α := if b = true then u else v
theorem leI {b : Bool} {u v : m α} {u' v' : Wp α} (h1 : Wp.Le (Mn.wp u) u') (h2 : Wp.Le (Mn.wp v) v') : Wp.Le (Mn.wp (ifM b u v)) (.ite b u' v') := by
  cases b with
  | true => exact fun P h => h1 P h
  | false => exact fun P h => h2 P h
theorem JE.chain {op op' : CmpOp} {g g' : Int → Int → Bool} {wa wb wc : m Int} (ho : OpR X (compareOp op) (rI0 fun i j => .bl (g i j))) (ho' : OpR X (compareOp op') (rI0 fun i j => .bl (g' i j))) (hm : lastMarks [op, op'] [b, c] = false) (ha : JE X false a ρ eI wa) (hb : JE X false b ρ eI wb) (hc : JE X false c ρ eI wc) :
    JE X M (.Compare a [op, op'] [b, c] pos) ρ eB (bd wa fun x => bd wb fun y => ifM (g x y) (bd wc fun z => rt (g' y z)) (rt false)) := ⟨(BE.chain ho ho' ha.b hb.b hc.b hm).conv (le2 fun _ _ => leI (le1 fun _ => lep) lep)⟩
theorem JT.chain {op op' : CmpOp} {g g' : Int → Int → Bool} {wa wb wc : m Int} (ho : OpR X (compareOp op) (rI0 fun i j => .bl (g i j))) (ho' : OpR X (compareOp op') (rI0 fun i j => .bl (g' i j))) (hm : lastMarks [op, op'] [b, c] = false) (ha : JE X false a ρ eI wa) (hb : JE X false b ρ eI wb) (hc : JE X false c ρ eI wc) :
    JT X (.Compare a [op, op'] [b, c] pos) ρ (bd wa fun x => bd wb fun y => ifM (g x y) (bd wc fun z => rt (g' y z)) (rt false)) := ⟨(BT.chain ho ho' ha.b hb.b hc.b hm).conv (le2 fun _ _ => leI (le1 fun _ => lep) lep)⟩

/-! ### tests -/
section
variable {wa wb : m Bool} {rest : List Expr}
theorem JT.val (h : JE X false e ρ eB wa) (he : ∀ whole, isTrue e X.env whole = (do let v ← whole; standAt e.pos; holding [v] (truthy v)) := by intro _; rfl) : JT X e ρ wa := ⟨BT.val h.b he⟩
theorem JW.jt (h : JW X e ρ wa) : JT X e ρ wa := ⟨h.b.bt⟩
theorem JT.not (h : JT X a ρ wa) : JT X (.UnaryOp .Not a pos) ρ (bd wa fun x => rt (!x)) := ⟨(BT.not h.b).conv (le1 fun _ => lep)⟩
theorem JW.and1 (h : JT X a ρ wa) : JW X (.BoolOp .And [a] pos) ρ wa := ⟨BW.and1 h.b⟩
theorem JW.or1 (h : JT X a ρ wa) : JW X (.BoolOp .Or [a] pos) ρ wa := ⟨BW.or1 h.b⟩
theorem JW.and (ha : JT X a ρ wa) (hb : JW X (.BoolOp .And (b :: rest) pos) ρ wb) : JW X (.BoolOp .And (a :: b :: rest) pos) ρ (bd wa fun x => ifM x wb (rt false)) := ⟨(BW.and ha.b hb.b).conv (le1 fun _ => leI (Wp.Le.refl _) lep)⟩
theorem JW.or (ha : JT X a ρ wa) (hb : JW X (.BoolOp .Or (b :: rest) pos) ρ wb) : JW X (.BoolOp .Or (a :: b :: rest) pos) ρ (bd wa fun x => ifM x (rt true) wb) := ⟨(BW.or ha.b hb.b).conv (le1 fun _ => leI lep (Wp.Le.refl _))⟩
theorem JE.not (h : JE X false a ρ eB wa) : JE X M (.UnaryOp .Not a pos) ρ eB (bd wa fun x => rt (!x)) := ⟨(BE.not h.b).conv (le1 fun _ => lep)⟩
theorem JE.and1 (h : JE X M a ρ eB wa) : JE X M (.BoolOp .And [a] pos) ρ eB wa := ⟨BE.and1 h.b⟩
theorem JE.or1 (h : JE X M a ρ eB wa) : JE X M (.BoolOp .Or [a] pos) ρ eB wa := ⟨BE.or1 h.b⟩
theorem JE.and (ha : JE X false a ρ eB wa) (hb : JE X false (.BoolOp .And (b :: rest) pos) ρ eB wb) : JE X M (.BoolOp .And (a :: b :: rest) pos) ρ eB (bd wa fun x => ifM x wb (rt false)) := ⟨(BE.and ha.b hb.b).conv (le1 fun _ => leI (Wp.Le.refl _) lep)⟩
theorem JE.or (ha : JE X false a ρ eB wa) (hb : JE X false (.BoolOp .Or (b :: rest) pos) ρ eB wb) : JE X M (.BoolOp .Or (a :: b :: rest) pos) ρ eB (bd wa fun x => ifM x (rt true) wb) := ⟨(BE.or ha.b hb.b).conv (le1 fun _ => leI lep (Wp.Le.refl _))⟩
theorem JE.ifExp {w1 w2 : m α} (hc : JT X c ρ wa) (h1 : JE X M a ρ E w1) (h2 : JE X M b ρ E w2) : JE X M (.IfExp c a b pos) ρ E (bd wa fun x => ifM x w1 w2) := ⟨(BE.ifExp hc.b h1.b h2.b).conv (le1 fun _ => leI (Wp.Le.refl _) (Wp.Le.refl _))⟩
end

/-! ### displays, arguments -/
theorem JH.nil : JH X M [] ρ E (rt (m := m) []) := ⟨⟨pa_weak pa_nil fun σ H Q ⟨sr, O, H0, ad, he, hw⟩ => (lep _ hw) [] H (Ext.refl he.srs) .nil⟩,
  fun P h => Mn.pure_ge (m := m) [] _ ⟨lep _ h, rfl⟩⟩
theorem JH.cons {we : m α} {ws : m (List α)} (ha : JE X M e ρ E we) (hr : JH X M es ρ E ws) (hs : starEach (e :: es) X.env = (false, eval e X.env) :: starEach es X.env := by rfl) : JH X M (e :: es) ρ E (bd we fun x => bd ws fun xs => rt (x :: xs)) :=
  ⟨⟨pa_weak (pa_cons ha.b.pe hr.b.pa hs) fun σ H Q ⟨sr, O, H0, ad, he, hw⟩ => ⟨sr, O, H0, ad, he, by
      have hw := le2 (f := fun x xs => rt (m := m) (x :: xs)) (g := fun x xs => Wp.pure (x :: xs)) (fun _ _ => lep) _ hw
      refine (Mn.wp we).mono (fun x q v H1 x1 r => ⟨sr, O, H0, ad, he.ext' x1, (Mn.wp ws).mono (fun xs q2 vs H2 x2 r2 => q2 (v :: vs) H2 (x1.trans x2) (.cons (r.ext x2 (he.sOM M)) r2)) q⟩) hw⟩⟩,
   fun P h => by
    have h := le2 (f := fun x xs => rt (m := m) (x :: xs)) (g := fun x xs => Wp.pure (x :: xs)) (fun _ _ => lep) _ h
    refine Mn.bind_ge _ _ _ ((Mn.wp we).mono (fun x q => Mn.bind_ge _ _ _ ((Mn.wp ws).mono (fun xs q => Mn.pure_ge _ _ ⟨q.1, ?_⟩) (hr.n _ q))) h)
    rw [List.length_cons, List.length_cons, q.2]⟩
theorem JE.tup {w : m (List α)} {k} (h : JH X M es ρ E w) (hn : es.length ≤ 1000 := by decide) : JE X M (.Tuple es k pos) ρ (eT E) w := ⟨⟨pe_weak (pe_tup h.b.pa) fun σ H Q ⟨sr, O, H0, ad, he, hw⟩ =>
  ⟨sr, O, H0, ad, he, (Mn.wp w).mono (fun xs q vs H1 x1 r => ⟨by
    rw [r.length, List.length_map, q.2]; exact Nat.le_trans hn (by decide), fun p hp => q.1 _ _ (x1.trans (Ext.new x1.srs hp)) (.t (.inl (.inl upd_same)) (r.ext (Ext.new x1.srs hp) (he.sOM M)))⟩) (h.n _ hw)⟩⟩⟩
theorem JL.lst {w : m (List α)} (h : JH X M es ρ E w) (hn : es.length ≤ 1000 := by decide) : JL X M (.List es pos) ρ E w := ⟨⟨pe_weak (pe_lst h.b.pa) fun σ H Q ⟨sr, O, H0, ad, he, hw⟩ =>
  ⟨sr, O, H0, ad, he, (Mn.wp w).mono (fun xs q vs H1 x1 r => ⟨by
    rw [r.length, List.length_map, q.2]; exact Nat.le_trans hn (by decide), fun p hp => q.1 p vs _ (x1.back hp) (x1.trans (Ext.new x1.srs hp)) upd_same ((r.fresh hp).ext (Ext.new x1.srs hp) (fun S hS => .inl (he.sOM M S hS)))⟩) (h.n _ hw)⟩⟩⟩
theorem JA.nil : JA X M [] ρ (rt (m := m) []) := ⟨⟨pa_weak pa_nil fun σ H Q ⟨sr, O, H0, ad, he, hw⟩ => (lep _ hw) [] H (Ext.refl he.srs) .nil⟩⟩
theorem JA.cons {we : m α} {ws : m (List D)} (ha : JE X M e ρ E we) (hr : JA X M es ρ ws) (hs : starEach (e :: es) X.env = (false, eval e X.env) :: starEach es X.env := by rfl) : JA X M (e :: es) ρ (bd we fun x => bd ws fun xs => rt (E x :: xs)) :=
  ⟨⟨pa_weak (pa_cons ha.b.pe hr.b.pa hs) fun σ H Q ⟨sr, O, H0, ad, he, hw⟩ => ⟨sr, O, H0, ad, he, by
      have hw := le2 (f := fun x xs => rt (m := m) (E x :: xs)) (g := fun x xs => Wp.pure (E x :: xs)) (fun _ _ => lep) _ hw
      refine (Mn.wp we).mono (fun x q v H1 x1 r => ⟨sr, O, H0, ad, he.ext' x1, (Mn.wp ws).mono (fun xs q2 vs H2 x2 r2 => q2 (v :: vs) H2 (x1.trans x2) (.cons (r.ext x2 (he.sOM M)) r2)) q⟩) hw⟩⟩⟩
/-- a pair -/
theorem JE.pair {wa : m α} {wb : m β} {k} (ha : JE X M a ρ E wa) (hb : JE X M b ρ F wb) (hs : starEach [a, b] X.env = (false, eval a X.env) :: starEach [b] X.env := by rfl) (hs2 : starEach [b] X.env = (false, eval b X.env) :: starEach [] X.env := by rfl) : JE X M (.Tuple [a, b] k pos) ρ (eP E F) (bd wa fun x => bd wb fun y => rt (x, y)) :=
  ⟨⟨pe_weak (pe_tup (pa_cons ha.b.pe (pa_cons hb.b.pe pa_nil hs2) hs)) fun σ H Q ⟨sr, O, H0, ad, he, hw⟩ => ⟨sr, O, H0, ad, he, by
      have hw := le2 (f := fun x y => rt (m := m) (x, y)) (g := fun x y => Wp.pure (x, y)) (fun _ _ => lep) _ hw
      refine (Mn.wp wa).mono (fun x q v H1 x1 r => ⟨sr, O, H0, ad, he.ext' x1, (Mn.wp wb).mono (fun y q2 v2 H2 x2 r2 => ⟨by show 2 ≤ sizeLine; decide, fun p hp => q2 _ _ ((x1.trans x2).trans (Ext.new x2.srs hp)) (.t (.inl (.inl upd_same)) ((Reps.cons (r.ext x2 (he.sOM M)) (.cons r2 .nil)).ext (Ext.new x2.srs hp) (he.sOM M)))⟩) q⟩) hw⟩⟩⟩
/-- a tuple of unlike things -/
theorem JE.tupD {w : m (List D)} {k} (h : JA X M es ρ w) (hn : ∀ P, (Mn.wp w).run P → (Mn.wp w).run fun xs => P xs ∧ xs.length ≤ 1000) : JE X M (.Tuple es k pos) ρ D.t w := ⟨⟨pe_weak (pe_tup h.b.pa) fun σ H Q ⟨sr, O, H0, ad, he, hw⟩ =>
  ⟨sr, O, H0, ad, he, (Mn.wp w).mono (fun xs q vs H1 x1 r => ⟨by
    rw [r.length]; exact Nat.le_trans q.2 (by decide), fun p hp => q.1 _ _ (x1.trans (Ext.new x1.srs hp)) (.t (.inl (.inl upd_same)) (r.ext (Ext.new x1.srs hp) (he.sOM M)))⟩) (hn _ hw)⟩⟩⟩

/-! ### what is read as a list or a tuple -/
theorem Rep.seq {K : PySem.W.Frag} {mg : Str → Option Value} {O : Addr → Prop} {H : Hp} {v : V} {k : Kd} {xs : List α} (h : Rep K mg O H v (eQ k E xs)) :
    ∃ a vs, v = .ref a ∧ (SqL K H a vs ∨ SqT K H a vs) ∧ Reps K mg O H vs (xs.map E) := by
  cases k with
  | l => cases h with | l h1 h2 h3 => exact ⟨_, _, rfl, .inl (.inl (.inl h1)), h3⟩
  | t => cases h with | t h1 h2 => exact ⟨_, _, rfl, .inr h1, h2⟩
theorem Rep.seqL {K : PySem.W.Frag} {mg : Str → Option Value} {O : Addr → Prop} {H : Hp} {v : V} {xs : List α} (h : Rep K mg O H v (eQ .l E xs)) :
    ∃ a vs, v = .ref a ∧ H a = some (.lst vs) ∧ ¬ O a ∧ Reps K mg O H vs (xs.map E) := by
  cases h with | l h1 h2 h3 => exact ⟨_, _, rfl, h1, h2, h3⟩
theorem Rep.seqT {K : PySem.W.Frag} {mg : Str → Option Value} {O : Addr → Prop} {H : Hp} {v : V} {xs : List α} (h : Rep K mg O H v (eQ .t E xs)) :
    ∃ a vs, v = .ref a ∧ SqT K H a vs ∧ Reps K mg O H vs (xs.map E) := by
  cases h with | t h1 h2 => exact ⟨_, _, rfl, h1, h2⟩

/-! ### subscripts, slices -/
def ixO (xs : List α) (i : Int) : Option α := atI xs i
theorem Reps.atI {K : PySem.W.Frag} {mg : Str → Option Value} {O : Addr → Prop} {H : Hp} {vs : List V} {xs : List α} {i : Int} {x : α} (r : Reps K mg O H vs (xs.map E)) (h : atI xs i = some x) : ∃ v, L2.atI vs i = some v ∧ Rep K mg O H v (E x) := by
  unfold L2.atI at h ⊢
  have hl : vs.length = xs.length := by rw [r.length, List.length_map]
  rw [hl]
  cases hj : ixN xs.length i with
  | none => rw [hj] at h; cases h
  | some j =>
    rw [hj] at h
    have h : xs[j]? = some x := h
    exact r.get (d := E x) (by rw [List.getElem?_map, h]; rfl)
theorem JE.ix {k : Kd} {wa : m (List α)} {wb : m Int} (hp : PlainIx b) (ha : JE X M a ρ (eQ k E) wa) (hb : JE X false b ρ eI wb) : JE X M (.Subscript a b pos) ρ E (bd wa fun xs => bd wb fun i => lf (ixO xs i)) :=
  ⟨⟨pe_weak (pe_ix ix_seq ha.b.pe hb.b.pe hp) fun σ H Q ⟨sr, O, H0, ad, he, hw⟩ => ⟨sr, O, H0, ad, he, by
      have hw := le2 (f := fun xs i => lf (m := m) (ixO xs i)) (g := fun xs i => Wp.ofO (ixO xs i)) (fun _ _ => Mn.lift_le _) _ hw
      refine (Mn.wp wa).mono (fun xs q v H1 x1 r => ⟨sr, O, H0, ad, he.ext' x1, (Mn.wp wb).mono (fun i q2 v2 H2 x2 r2 => ?_) q⟩) hw
      obtain ⟨y, hy, q2⟩ := q2
      cases r2
      obtain ⟨p, vs, rfl, hs, rs⟩ := (r.ext x2 (he.sOM M)).seq
      obtain ⟨u, hu, ru⟩ := rs.atI hy
      rcases hs with hs | hs
      · exact .inl ⟨p, vs, i, u, rfl, rfl, hs, hu, q2 u H2 (x1.trans x2) ru⟩
      · exact .inr (.inl ⟨p, vs, i, u, rfl, rfl, hs, hu, q2 u H2 (x1.trans x2) ru⟩)⟩⟩⟩
/-- of one's own list, what may be kept -/
theorem JE.ixV {wb : m Int} (i : Nat) {n : Str} {p2 : Pos} {xs : List α} (hp : PlainIx b) (h : ρ[i]? = some (.l (xs.map E))) (hb : JE X false b ρ eI wb) (hN : X.N[i]? = some n := by rfl) (hv : Vis X.env.scope n := by first | exact Or.inl rfl | exact Or.inr (Or.inl rfl) | exact Or.inr (Or.inr rfl)) (hd : (n == ("__debug__" : Str)) = false := by decide) (hcd : (n == ("__classdict__" : Str)) = false := by decide) :
    JE X M (.Subscript (.Name n p2) b pos) ρ E (bd (rt xs) fun xs => bd wb fun i => lf (ixO xs i)) :=
  ⟨⟨pe_weak (pe_ix ix_seq (pv i hN hv hd hcd) hb.b.pe hp) fun σ H Q ⟨sr, O, H0, ad, he, hw⟩ => by
      have hw := le2 (f := fun xs i => lf (m := m) (ixO xs i)) (g := fun xs i => Wp.ofO (ixO xs i)) (fun _ _ => Mn.lift_le _) _ hw
      have hw := lep _ hw
      have hi := he.at_ i
      rw [h] at hi
      obtain ⟨p, vs, e1, e2, e3, rs⟩ := hi
      refine ⟨.ref p, e2, sr, O, H0, ad, he, (Mn.wp wb).mono (fun i q2 v2 H2 x2 r2 => ?_) hw⟩
      obtain ⟨y, hy, q2⟩ := q2
      cases r2
      obtain ⟨u, hu, ru⟩ := (rs.ext x2 (fun S h => .inl (he.sO S h))).atI hy
      exact .inl ⟨p, vs, i, u, rfl, rfl, .inl (.inl (x2.1 p _ e3 fun z => he.dis _ p e1 (he.sO p z))), hu, q2 u H2 x2 (ru.sub OM.le)⟩⟩⟩
/-- a part of a slice -/
def tO' (K : PySem.W.Frag) (mg : Str → Option Value) (ρ : List Slot) (w : Wp (Option Int)) : TO := fun σ H Q =>
  ∃ sr O H0 ad, Env K mg sr O H0 H σ ρ ad ∧ w.run fun b => ∀ H', Ext sr H H' → Q b H'
structure JO (X : Cx) (e : Option Expr) (ρ : List Slot) (a : m (Option Int)) : Prop where
  b : PO X e (tO' X.K X.mg ρ (Mn.wp a))
theorem po_weak {e : Option Expr} {t t' : TO} (h : PO X e t) (k : ∀ σ H Q, t' σ H Q → t σ H Q) : PO X e t' := ⟨fun pins s σ H Q I hw => h.run pins s σ H Q I (k σ H Q hw)⟩
theorem JO.no : JO X none ρ (rt (m := m) none) := ⟨po_weak po_none fun σ H Q ⟨sr, O, H0, ad, he, hw⟩ => (lep _ hw) H (Ext.refl he.srs)⟩
theorem JO.of {w : m Int} (h : JE X false e ρ eI w) : JO X (some e) ρ (bd w fun i => rt (some i)) := ⟨po_weak (po_some h.b.pe) fun σ H Q ⟨sr, O, H0, ad, he, hw⟩ =>
  ⟨sr, O, H0, ad, he, (Mn.wp w).mono (fun i q v H1 x1 r => by
    cases r
    exact ⟨i, rfl, q H1 x1⟩) (le1 (f := fun i => rt (m := m) (some i)) (g := fun i => Wp.pure (some i)) (fun _ => lep) _ hw)⟩⟩
def cutL (xs : List α) (lo hi : Option Int) : List α := (xs.drop (HT.sIx xs.length 0 lo)).take (HT.sIx xs.length xs.length hi - HT.sIx xs.length 0 lo)
theorem Reps.cut {K : PySem.W.Frag} {mg : Str → Option Value} {O : Addr → Prop} {H : Hp} {vs : List V} {xs : List α} (r : Reps K mg O H vs (xs.map E)) (lo hi : Option Int) : Reps K mg O H (cutV vs lo hi) ((cutL xs lo hi).map E) := by
  have hl : vs.length = xs.length := by rw [r.length, List.length_map]
  unfold cutV cutL
  rw [hl, List.map_take, List.map_drop]
  exact (r.drop _).take _
variable {lo hi : Option Expr} {p2 : Pos}
theorem JL.sl {wa : m (List α)} {wl wh : m (Option Int)} (ha : JE X M a ρ (eL E) wa) (hl : JO X lo ρ wl) (hh : JO X hi ρ wh) : JL X M (.Subscript a (.Slice lo hi none p2) pos) ρ E (bd wa fun xs => bd wl fun i => bd wh fun j => rt (cutL xs i j)) :=
  ⟨⟨pe_weak (pe_slice sl_list ha.b.pe hl.b hh.b) fun σ H Q ⟨sr, O, H0, ad, he, hw⟩ => ⟨sr, O, H0, ad, he, by
      have hw := le1 (fun xs => le2 (f := fun i j => rt (m := m) (cutL xs i j)) (g := fun i j => Wp.pure (cutL xs i j)) (fun _ _ => lep)) _ hw
      refine (Mn.wp wa).mono (fun xs q v H1 x1 r => ⟨sr, O, H0, ad, he.ext' x1, (Mn.wp wl).mono (fun i q2 H2 x2 => ⟨sr, O, H0, ad, (he.ext' x1).ext' x2, (Mn.wp wh).mono (fun j q3 H3 x3 => ?_) q2⟩) q⟩) hw
      obtain ⟨p, vs, rfl, hs, _, rs⟩ := (r.ext (x2.trans x3) (he.sOM M)).seqL
      exact ⟨p, vs, rfl, .inl (.inl hs), fun p hp => q3 p _ _ ((x1.trans (x2.trans x3)).back hp) ((x1.trans (x2.trans x3)).trans (Ext.new x3.srs hp)) upd_same (((rs.cut i j).fresh hp).ext (Ext.new x3.srs hp) (fun S hS => .inl (he.sOM M S hS)))⟩⟩⟩⟩
theorem JE.slT {wa : m (List α)} {wl wh : m (Option Int)} (ha : JE X M a ρ (eT E) wa) (hl : JO X lo ρ wl) (hh : JO X hi ρ wh) : JE X M (.Subscript a (.Slice lo hi none p2) pos) ρ (eT E) (bd wa fun xs => bd wl fun i => bd wh fun j => rt (cutL xs i j)) :=
  ⟨⟨pe_weak (pe_slice sl_tupA ha.b.pe hl.b hh.b) fun σ H Q ⟨sr, O, H0, ad, he, hw⟩ => ⟨sr, O, H0, ad, he, by
      have hw := le1 (fun xs => le2 (f := fun i j => rt (m := m) (cutL xs i j)) (g := fun i j => Wp.pure (cutL xs i j)) (fun _ _ => lep)) _ hw
      refine (Mn.wp wa).mono (fun xs q v H1 x1 r => ⟨sr, O, H0, ad, he.ext' x1, (Mn.wp wl).mono (fun i q2 H2 x2 => ⟨sr, O, H0, ad, (he.ext' x1).ext' x2, (Mn.wp wh).mono (fun j q3 H3 x3 => ?_) q2⟩) q⟩) hw
      obtain ⟨p, vs, rfl, hs, rs⟩ := (r.ext (x2.trans x3) (he.sOM M)).seqT
      refine ⟨p, vs, rfl, hs, fun z => q3 _ _ (x1.trans (x2.trans x3)) (.t hs ?_), fun _ p hp => q3 _ _ ((x1.trans (x2.trans x3)).trans (Ext.new x3.srs hp)) (.t (.inl (.inl upd_same)) ((rs.cut i j).ext (Ext.new x3.srs hp) (he.sOM M)))⟩
      have hc := rs.cut i j
      have : cutV vs i j = vs := by
        unfold cutV
        rw [z.1, z.2, List.drop_zero, Nat.sub_zero, List.take_length]
      rw [this] at hc
      exact hc⟩⟩⟩
/-! ### + and * of lists and tuples -/
def catO (xs ys : List α) : Option (List α) := if xs.length + ys.length ≤ 16777216 then some (xs ++ ys) else none
theorem JL.cat {wa wb : m (List α)} (ha : JE X M a ρ (eL E) wa) (hb : JE X M b ρ (eL E) wb) : JL X M (.BinOp a .Add b pos) ρ E (bd wa fun xs => bd wb fun ys => lf (catO xs ys)) :=
  ⟨⟨pe_weak (pe_op op_cat ha.b.pe hb.b.pe) fun σ H Q ⟨sr, O, H0, ad, he, hw⟩ => ⟨sr, O, H0, ad, he, by
      have hw := le2 (f := fun xs ys => lf (m := m) (catO xs ys)) (g := fun xs ys => Wp.guard (xs.length + ys.length ≤ 16777216) (xs ++ ys)) (fun _ _ => leg) _ hw
      refine (Mn.wp wa).mono (fun xs q v H1 x1 r => ⟨sr, O, H0, ad, he.ext' x1, (Mn.wp wb).mono (fun ys q2 v2 H2 x2 r2 => ?_) q⟩) hw
      obtain ⟨hz, q2⟩ := q2
      obtain ⟨p, vs, rfl, hs, _, rs⟩ := (r.ext x2 (he.sOM M)).seqL
      obtain ⟨p2, ws, rfl, hs2, _, rs2⟩ := r2.seqL
      refine ⟨p, p2, vs, ws, rfl, rfl, hs, hs2, by rw [rs.length, rs2.length, List.length_map, List.length_map]; exact hz, fun z hp => q2 z _ _ ((x1.trans x2).back hp) ((x1.trans x2).trans (Ext.new x2.srs hp)) upd_same ?_⟩
      rw [List.map_append]
      exact ((rs.append rs2).fresh hp).ext (Ext.new x2.srs hp) (fun S hS => .inl (he.sOM M S hS))⟩⟩⟩
theorem JE.catT {wa wb : m (List α)} (ha : JE X M a ρ (eT E) wa) (hb : JE X M b ρ (eT E) wb) : JE X M (.BinOp a .Add b pos) ρ (eT E) (bd wa fun xs => bd wb fun ys => lf (catO xs ys)) :=
  ⟨⟨pe_weak (pe_op op_catA ha.b.pe hb.b.pe) fun σ H Q ⟨sr, O, H0, ad, he, hw⟩ => ⟨sr, O, H0, ad, he, by
      have hw := le2 (f := fun xs ys => lf (m := m) (catO xs ys)) (g := fun xs ys => Wp.guard (xs.length + ys.length ≤ 16777216) (xs ++ ys)) (fun _ _ => leg) _ hw
      refine (Mn.wp wa).mono (fun xs q v H1 x1 r => ⟨sr, O, H0, ad, he.ext' x1, (Mn.wp wb).mono (fun ys q2 v2 H2 x2 r2 => ?_) q⟩) hw
      obtain ⟨hz, q2⟩ := q2
      obtain ⟨p, vs, rfl, hs, rs⟩ := (r.ext x2 (he.sOM M)).seqT
      obtain ⟨p2, ws, rfl, hs2, rs2⟩ := r2.seqT
      have rr := rs.append rs2
      rw [← List.map_append] at rr
      refine ⟨p, p2, vs, ws, rfl, rfl, hs, hs2, by rw [rs.length, rs2.length, List.length_map, List.length_map]; exact hz, fun z => ?_, fun _ z => ?_, fun _ _ z hp => ?_⟩
      · subst z
        exact q2 _ _ (x1.trans x2) (.t hs2 rr)
      · subst z
        rw [List.append_nil] at rr
        exact q2 _ _ (x1.trans x2) (.t hs rr)
      · exact q2 _ _ ((x1.trans x2).trans (Ext.new x2.srs hp)) (.t (.inl (.inl upd_same)) (rr.ext (Ext.new x2.srs hp) (he.sOM M)))⟩⟩⟩
def repO (xs : List α) (n : Int) : Option (List α) := if -(2 ^ 63) ≤ n ∧ n < 2 ^ 63 ∧ xs.length * n.toNat ≤ 16777216 then some (List.replicate n.toNat xs).flatten else none
theorem Reps.rep {K : PySem.W.Frag} {mg : Str → Option Value} {O : Addr → Prop} {H : Hp} {vs : List V} {ds : List D} (r : Reps K mg O H vs ds) : ∀ n, Reps K mg O H (List.replicate n vs).flatten (List.replicate n ds).flatten
  | 0 => .nil
  | n + 1 => by
    rw [List.replicate_succ, List.replicate_succ, List.flatten_cons, List.flatten_cons]
    exact r.append (Reps.rep r n)
theorem JL.rep {wa : m (List α)} {wb : m Int} (ha : JE X M a ρ (eL E) wa) (hb : JE X false b ρ eI wb) : JL X M (.BinOp a .Mult b pos) ρ E (bd wa fun xs => bd wb fun n => lf (repO xs n)) :=
  ⟨⟨pe_weak (pe_op op_rep ha.b.pe hb.b.pe) fun σ H Q ⟨sr, O, H0, ad, he, hw⟩ => ⟨sr, O, H0, ad, he, by
      have hw := le2 (f := fun xs n => lf (m := m) (repO xs n)) (g := fun xs n => Wp.guard (-(2 ^ 63) ≤ n ∧ n < 2 ^ 63 ∧ xs.length * n.toNat ≤ 16777216) (List.replicate n.toNat xs).flatten) (fun _ _ => leg) _ hw
      refine (Mn.wp wa).mono (fun xs q v H1 x1 r => ⟨sr, O, H0, ad, he.ext' x1, (Mn.wp wb).mono (fun n q2 v2 H2 x2 r2 => ?_) q⟩) hw
      obtain ⟨⟨h1, h2, h3⟩, q2⟩ := q2
      cases r2
      obtain ⟨p, vs, rfl, hs, _, rs⟩ := (r.ext x2 (he.sOM M)).seqL
      refine ⟨p, n, vs, rfl, rfl, hs, h1, h2, by rw [rs.length, List.length_map]; exact h3, fun z hp => q2 z _ _ ((x1.trans x2).back hp) ((x1.trans x2).trans (Ext.new x2.srs hp)) upd_same ?_⟩
      rw [List.map_flatten, List.map_replicate]
      exact ((rs.rep n.toNat).fresh hp).ext (Ext.new x2.srs hp) (fun S hS => .inl (he.sOM M S hS))⟩⟩⟩
end
end Wk

namespace Wk
open PySem PySem.Spec PyProof.Rows L2

/-! ### built-ins -/
/-- sorted, of ints -/
def insI (x : Int) : List Int → List Int
  | [] => [x]
  | y :: ys => if x ≤ y then x :: y :: ys else y :: insI x ys
def sortI : List Int → List Int
  | [] => []
  | x :: xs => insI x (sortI xs)
theorem insI_perm (x : Int) : ∀ ys, (insI x ys).Perm (x :: ys)
  | [] => .refl _
  | y :: ys => by
    unfold insI
    split
    · exact .refl _
    · exact ((insI_perm x ys).cons y).trans (.swap x y ys)
theorem sortI_perm : ∀ xs, (sortI xs).Perm xs
  | [] => .refl _
  | x :: xs => (insI_perm x _).trans ((sortI_perm xs).cons x)
theorem insI_sorted (x : Int) : ∀ ys : List Int, ys.Pairwise (· ≤ ·) → (insI x ys).Pairwise (· ≤ ·)
  | [], _ => by simp [insI]
  | y :: ys, h => by
    have h' := List.pairwise_cons.mp h
    unfold insI
    split
    · rename_i hxy
      refine List.pairwise_cons.mpr ⟨fun z hz => ?_, h⟩
      rcases List.mem_cons.mp hz with e | hz
      · rw [e]; exact hxy
      · exact Int.le_trans hxy (h'.1 z hz)
    · rename_i hxy
      refine List.pairwise_cons.mpr ⟨fun z hz => ?_, insI_sorted x ys h'.2⟩
      rcases List.mem_cons.mp ((insI_perm x ys).mem_iff.mp hz) with e | hz
      · rw [e]; omega
      · exact h'.1 z hz
theorem sortI_sorted : ∀ xs, (sortI xs).Pairwise (· ≤ ·)
  | [] => .nil
  | x :: xs => insI_sorted x _ (sortI_sorted xs)
theorem sorted_eq : ∀ {xs ys : List Int}, xs.Perm ys → xs.Pairwise (· ≤ ·) → ys.Pairwise (· ≤ ·) → xs = ys
  | [], ys, p, _, _ => p.nil_eq
  | x :: xs, [], p, _, _ => absurd p.length_eq (by simp)
  | x :: xs, y :: ys, p, hx, hy => by
    have hx' := List.pairwise_cons.mp hx
    have hy' := List.pairwise_cons.mp hy
    have e : x = y := by
      have h1 : x ∈ y :: ys := p.mem_iff.mp List.mem_cons_self
      have h2 : y ∈ x :: xs := p.mem_iff.mpr List.mem_cons_self
      rcases List.mem_cons.mp h1 with h1 | h1
      · exact h1
      · rcases List.mem_cons.mp h2 with h2 | h2
        · exact h2.symm
        · have := hx'.1 y h2
          have := hy'.1 x h1
          omega
    subst e
    rw [sorted_eq (List.Perm.cons_inv p) hx'.2 hy'.2]
/-- max, min of a list of ints -/
def maxO : List Int → Option Int
  | [] => none
  | x :: xs => some (xs.foldl (fun a y => if a < y then y else a) x)
def minO : List Int → Option Int
  | [] => none
  | x :: xs => some (xs.foldl (fun a y => if y < a then y else a) x)
theorem fold_max : ∀ (xs : List Int) (x : Int), (xs.foldl (fun a y => if a < y then y else a) x ∈ x :: xs) ∧ ∀ y ∈ x :: xs, y ≤ xs.foldl (fun a y => if a < y then y else a) x
  | [], x => by simp
  | z :: xs, x => by
    have ih := fold_max xs (if x < z then z else x)
    rw [List.foldl_cons]
    refine ⟨?_, fun y hy => ?_⟩
    · rcases List.mem_cons.mp ih.1 with h | h
      · rw [h]; split <;> simp
      · exact List.mem_cons_of_mem _ (List.mem_cons_of_mem _ h)
    · have h0 := ih.2 _ List.mem_cons_self
      rcases List.mem_cons.mp hy with e | hy
      · subst e; split at h0 <;> rename_i q
        · rw [if_pos q]; omega
        · rw [if_neg q]; exact h0
      · rcases List.mem_cons.mp hy with e | hy
        · subst e; split at h0 <;> rename_i q
          · rw [if_pos q]; exact h0
          · rw [if_neg q]; omega
        · exact ih.2 y (List.mem_cons_of_mem _ hy)
theorem fold_min : ∀ (xs : List Int) (x : Int), (xs.foldl (fun a y => if y < a then y else a) x ∈ x :: xs) ∧ ∀ y ∈ x :: xs, xs.foldl (fun a y => if y < a then y else a) x ≤ y
  | [], x => by simp
  | z :: xs, x => by
    have ih := fold_min xs (if z < x then z else x)
    rw [List.foldl_cons]
    refine ⟨?_, fun y hy => ?_⟩
    · rcases List.mem_cons.mp ih.1 with h | h
      · rw [h]; split <;> simp
      · exact List.mem_cons_of_mem _ (List.mem_cons_of_mem _ h)
    · have h0 := ih.2 _ List.mem_cons_self
      rcases List.mem_cons.mp hy with e | hy
      · subst e; split at h0 <;> rename_i q
        · rw [if_pos q]; omega
        · rw [if_neg q]; exact h0
      · rcases List.mem_cons.mp hy with e | hy
        · subst e; split at h0 <;> rename_i q
          · rw [if_pos q]; exact h0
          · rw [if_neg q]; omega
        · exact ih.2 y (List.mem_cons_of_mem _ hy)
theorem maxO_is {xs : List Int} {m : Int} (h : m ∈ xs) (k : ∀ y ∈ xs, y ≤ m) : maxO xs = some m := by
  cases xs with
  | nil => cases h
  | cons x xs =>
    have := fold_max xs x
    exact congrArg some (Int.le_antisymm (k _ this.1) (this.2 m h))
theorem minO_is {xs : List Int} {m : Int} (h : m ∈ xs) (k : ∀ y ∈ xs, m ≤ y) : minO xs = some m := by
  cases xs with
  | nil => cases h
  | cons x xs =>
    have := fold_min xs x
    exact congrArg some (Int.le_antisymm (this.2 m h) (k _ this.1))

abbrev St1 (X : Cx) (a : Expr) : Prop := starEach [a] X.env = (false, eval a X.env) :: starEach [] X.env
abbrev St2 (X : Cx) (a b : Expr) : Prop := starEach [a, b] X.env = (false, eval a X.env) :: starEach [b] X.env
section
variable {m : Type → Type} [Mn m] {α β γ δ : Type}
variable {X : Cx} {M : Bool} {e a b c : Expr} {es : List Expr} {ρ : List Slot} {E : α → D} {F : β → D} {p pos : Pos}
variable {wa : m α} {wb : m β}

/-- a call of one argument, by values: data out -/
theorem JE.fn1 {r : List V → Hp → VK → Prop} {call : Expr} (g : α → Option β) (hp : ∀ ta, PA X [a] ta → PE X call (tCB r ta))
    (k : ∀ O H v x y, g x = some y → Rep X.K X.mg O H v (E x) → ∀ Q : VK, (∀ v', Rep X.K X.mg O H v' (F y) → Q v' H) → r [v] H Q) (ha : JE X M a ρ E wa) (hs : starEach [a] X.env = (false, eval a X.env) :: starEach [] X.env := by rfl) :
    JE X M call ρ F (bd wa fun x => lf (g x)) :=
  ⟨⟨pe_weak (hp _ (pa_cons ha.b.pe pa_nil hs)) fun σ H Q ⟨sr, O, H0, ad, he, hw⟩ => ⟨sr, O, H0, ad, he, by
      have hw := le1 (f := fun x => lf (m := m) (g x)) (g := fun x => Wp.ofO (g x)) (fun _ => Mn.lift_le _) _ hw
      refine (Mn.wp wa).mono (fun x ⟨y, hy, q⟩ v H1 x1 r => k _ H1 v x y hy r Q fun v' r' => q v' H1 x1 r') hw⟩⟩⟩
theorem JE.fn1p {r : List V → Hp → VK → Prop} {call : Expr} (g : α → β) (hp : ∀ ta, PA X [a] ta → PE X call (tCB r ta))
    (k : ∀ O H v x, Rep X.K X.mg O H v (E x) → ∀ Q : VK, (∀ v', Rep X.K X.mg O H v' (F (g x)) → Q v' H) → r [v] H Q) (ha : JE X M a ρ E wa) (hs : starEach [a] X.env = (false, eval a X.env) :: starEach [] X.env := by rfl) :
    JE X M call ρ F (bd wa fun x => rt (g x)) :=
  ⟨⟨pe_weak (hp _ (pa_cons ha.b.pe pa_nil hs)) fun σ H Q ⟨sr, O, H0, ad, he, hw⟩ => ⟨sr, O, H0, ad, he, by
      have hw := le1 (f := fun x => rt (m := m) (g x)) (g := fun x => Wp.pure (g x)) (fun _ => lep) _ hw
      refine (Mn.wp wa).mono (fun x q v H1 x1 r => k _ H1 v x r Q fun v' r' => q v' H1 x1 r') hw⟩⟩⟩
/-- a call of one argument: a new list out -/
theorem JL.fn1p {r : List V → Hp → VK → Prop} {call : Expr} (g : α → List β) (hp : ∀ ta, PA X [a] ta → PE X call (tCB r ta))
    (k : ∀ O H v x, Rep X.K X.mg O H v (E x) → ∀ Q : VK, (∀ p vs, H p = none → Reps X.K X.mg O H vs ((g x).map F) → Q (.ref p) (upd H p (.lst vs))) → r [v] H Q) (ha : JE X M a ρ E wa) (hs : starEach [a] X.env = (false, eval a X.env) :: starEach [] X.env := by rfl) :
    JL X M call ρ F (bd wa fun x => rt (g x)) :=
  ⟨⟨pe_weak (hp _ (pa_cons ha.b.pe pa_nil hs)) fun σ H Q ⟨sr, O, H0, ad, he, hw⟩ => ⟨sr, O, H0, ad, he, by
      have hw := le1 (f := fun x => rt (m := m) (g x)) (g := fun x => Wp.pure (g x)) (fun _ => lep) _ hw
      refine (Mn.wp wa).mono (fun x q v H1 x1 r => k _ H1 v x r Q fun p vs hp r' => q p vs _ (x1.back hp) (x1.trans (Ext.new x1.srs hp)) upd_same ((r'.fresh hp).ext (Ext.new x1.srs hp) (fun S hS => .inl (he.sOM M S hS)))) hw⟩⟩⟩
/-- a call of two arguments: a value out -/
theorem JE.fn2p {r : List V → Hp → VK → Prop} {call : Expr} {G : γ → D} (g : α → β → γ) (hG : PureE G) (hp : ∀ ta, PA X [a, b] ta → PE X call (tCB r ta))
    (k : ∀ O H u v x y, Rep X.K X.mg O H u (E x) → Rep X.K X.mg O H v (F y) → ∀ Q : VK, (∀ v', Rep X.K X.mg O H v' (G (g x y)) → Q v' H) → r [u, v] H Q) (ha : JE X false a ρ E wa) (hb : JE X false b ρ F wb) (hs : starEach [a, b] X.env = (false, eval a X.env) :: starEach [b] X.env := by rfl) (hs2 : starEach [b] X.env = (false, eval b X.env) :: starEach [] X.env := by rfl) :
    JE X M call ρ G (bd wa fun x => bd wb fun y => rt (g x y)) :=
  ⟨⟨pe_weak (hp _ (pa_cons ha.b.pe (pa_cons hb.b.pe pa_nil hs2) hs)) fun σ H Q ⟨sr, O, H0, ad, he, hw⟩ => ⟨sr, O, H0, ad, he, by
      have hw := le2 (f := fun x y => rt (m := m) (g x y)) (g := fun x y => Wp.pure (g x y)) (fun _ _ => lep) _ hw
      refine (Mn.wp wa).mono (fun x q v H1 x1 r => ⟨sr, O, H0, ad, he.ext' x1, (Mn.wp wb).mono (fun y q2 v2 H2 x2 r2 => k O H2 v v2 x y (r.ext x2 he.sO) r2 Q fun v' r' => q2 v' H2 (x1.trans x2) (r'.pure _ _ (hG _))) q⟩) hw⟩⟩⟩

theorem JE.len {k : Kd} {wa : m (List α)} (hg : Gl X "len") (hm : X.mg "len" = none) (ha : JE X false a ρ (eQ k E) wa) (hs : St1 X a := by rfl) : JE X M (.Call (.Name "len" p) [a] [] pos) ρ eI (bd wa fun xs => rt (xs.length : Int)) :=
  (JE.fn1p (M := false) (E := eQ k E) (fun xs : List α => (xs.length : Int)) (fun ta hta => pe_callB call_len_seq hg hm PySem.boot_len hta (by decide) (by decide) hs rfl) (fun O H v xs r Q q => by
    obtain ⟨p, vs, rfl, hs, rs⟩ := r.seq
    refine ⟨p, vs, rfl, hs, ?_⟩
    rw [rs.length, List.length_map]
    exact q _ (.i _) ) ha hs).up pure_I
theorem JE.sum {wa : m (List Int)} (hc : X.calm = true) (hg : Gl X "sum") (hm : X.mg "sum" = none) (ha : JE X false a ρ (eL eI) wa) (hs : St1 X a := by rfl) : JE X M (.Call (.Name "sum" p) [a] [] pos) ρ eI (bd wa fun xs => rt xs.sum) :=
  (JE.fn1p (M := false) (E := eL eI) (fun xs : List Int => xs.sum) (fun ta hta => pe_callB (cr_sum hc) hg hm (by decide +kernel) hta (by decide) (by decide) hs rfl) (fun O H v xs r Q q => by
    obtain ⟨p, vs, rfl, hs, _, rs⟩ := r.seqL
    have rs : Reps X.K X.mg O H vs (xs.map D.i) := rs
    rw [rs.ints] at hs
    exact ⟨p, xs, rfl, .inl (.inl hs), q _ (.i _)⟩ ) ha hs).up pure_I
theorem JE.maxL {wa : m (List Int)} (hc : X.calm = true) (hg : Gl X "max") (hm : X.mg "max" = none) (ha : JE X false a ρ (eL eI) wa) (hs : St1 X a := by rfl) : JE X M (.Call (.Name "max" p) [a] [] pos) ρ eI (bd wa fun xs => lf (maxO xs)) :=
  (JE.fn1 (M := false) (E := eL eI) maxO (fun ta hta => pe_callB (cr_max hc) hg hm (by decide +kernel) hta (by decide) (by decide) hs rfl) (fun O H v xs y hy r Q q => by
    obtain ⟨p, vs, rfl, hs, _, rs⟩ := r.seqL
    have rs : Reps X.K X.mg O H vs (xs.map D.i) := rs
    rw [rs.ints] at hs
    refine ⟨p, xs, rfl, .inl (.inl hs), ?_, fun n hn hle => ?_⟩
    · cases xs with
      | nil => cases hy
      | cons x xs => simp
    · have : n = y := Option.some.inj ((maxO_is hn hle).symm.trans hy)
      rw [this]; exact q _ (.i _) ) ha hs).up pure_I
theorem JE.minL {wa : m (List Int)} (hc : X.calm = true) (hg : Gl X "min") (hm : X.mg "min" = none) (ha : JE X false a ρ (eL eI) wa) (hs : St1 X a := by rfl) : JE X M (.Call (.Name "min" p) [a] [] pos) ρ eI (bd wa fun xs => lf (minO xs)) :=
  (JE.fn1 (M := false) (E := eL eI) minO (fun ta hta => pe_callB (cr_min hc) hg hm (by decide +kernel) hta (by decide) (by decide) hs rfl) (fun O H v xs y hy r Q q => by
    obtain ⟨p, vs, rfl, hs, _, rs⟩ := r.seqL
    have rs : Reps X.K X.mg O H vs (xs.map D.i) := rs
    rw [rs.ints] at hs
    refine ⟨p, xs, rfl, .inl (.inl hs), ?_, fun n hn hle => ?_⟩
    · cases xs with
      | nil => cases hy
      | cons x xs => simp
    · have : n = y := Option.some.inj ((minO_is hn hle).symm.trans hy)
      rw [this]; exact q _ (.i _) ) ha hs).up pure_I
theorem JE.max2 {wa wb : m Int} (hc : X.calm = true) (hg : Gl X "max") (hm : X.mg "max" = none) (ha : JE X false a ρ eI wa) (hb : JE X false b ρ eI wb) (hs : St2 X a b := by rfl) (hs2 : St1 X b := by rfl) : JE X M (.Call (.Name "max" p) [a, b] [] pos) ρ eI (bd wa fun x => bd wb fun y => rt (if y > x then y else x)) :=
  JE.fn2p (E := eI) (F := eI) (G := eI) (fun x y : Int => if y > x then y else x) pure_I (fun ta hta => pe_callB (call_max2 hc) hg hm (by decide +kernel) hta (by decide) (by decide) hs (by rw [hs2]; rfl)) (fun O H u v x y r1 r2 Q q => by
    cases r1; cases r2
    exact ⟨x, y, rfl, q _ (.i _)⟩) ha hb hs hs2
theorem JE.min2 {wa wb : m Int} (hc : X.calm = true) (hg : Gl X "min") (hm : X.mg "min" = none) (ha : JE X false a ρ eI wa) (hb : JE X false b ρ eI wb) (hs : St2 X a b := by rfl) (hs2 : St1 X b := by rfl) : JE X M (.Call (.Name "min" p) [a, b] [] pos) ρ eI (bd wa fun x => bd wb fun y => rt (if y < x then y else x)) :=
  JE.fn2p (E := eI) (F := eI) (G := eI) (fun x y : Int => if y < x then y else x) pure_I (fun ta hta => pe_callB (call_min2 hc) hg hm (by decide +kernel) hta (by decide) (by decide) hs (by rw [hs2]; rfl)) (fun O H u v x y r1 r2 Q q => by
    cases r1; cases r2
    exact ⟨x, y, rfl, q _ (.i _)⟩) ha hb hs hs2
theorem JE.abs {wa : m Int} (hg : Gl X "abs") (hm : X.mg "abs" = none) (ha : JE X false a ρ eI wa) (hs : St1 X a := by rfl) : JE X M (.Call (.Name "abs" p) [a] [] pos) ρ eI (bd wa fun x => rt (if x < 0 then -x else x)) :=
  (JE.fn1p (M := false) (E := eI) (fun x : Int => if x < 0 then -x else x) (fun ta hta => pe_callB call_abs hg hm (by decide +kernel) hta (by decide) (by decide) hs rfl) (fun O H v x r Q q => by
    cases r
    exact ⟨x, rfl, q _ (.i _)⟩ ) ha hs).up pure_I
theorem JE.intI {wa : m Int} (hg : Gl X "int") (hm : X.mg "int" = none) (ha : JE X false a ρ eI wa) (hs : St1 X a := by rfl) : JE X M (.Call (.Name "int" p) [a] [] pos) ρ eI (bd wa fun x => rt x) :=
  (JE.fn1p (M := false) (E := eI) (fun x : Int => x) (fun ta hta => pe_callTy call_int1 hg hm (by decide +kernel) hta (by decide) (by decide) hs rfl) (fun O H v x r Q q => by
    cases r
    exact .inl ⟨x, rfl, q _ (.i _)⟩ ) ha hs).up pure_I
theorem JE.intB {wa : m Bool} (hg : Gl X "int") (hm : X.mg "int" = none) (ha : JE X false a ρ eB wa) (hs : St1 X a := by rfl) : JE X M (.Call (.Name "int" p) [a] [] pos) ρ eI (bd wa fun x => rt (if x then 1 else 0)) :=
  (JE.fn1p (M := false) (E := eB) (fun x : Bool => if x then (1 : Int) else 0) (fun ta hta => pe_callTy call_int1 hg hm (by decide +kernel) hta (by decide) (by decide) hs rfl) (fun O H v x r Q q => by
    cases r
    exact .inr ⟨x, rfl, q _ (.i _)⟩ ) ha hs).up pure_I
theorem JE.any {wa : m (List Bool)} (hc : X.calm = true) (hg : Gl X "any") (hm : X.mg "any" = none) (ha : JE X false a ρ (eL eB) wa) (hs : St1 X a := by rfl) : JE X M (.Call (.Name "any" p) [a] [] pos) ρ eB (bd wa fun xs => rt (xs.any id)) :=
  (JE.fn1p (M := false) (E := eL eB) (fun xs : List Bool => xs.any id) (fun ta hta => pe_callB (cr_any hc) hg hm (by decide +kernel) hta (by decide) (by decide) hs rfl) (fun O H v xs r Q q => by
    obtain ⟨p, vs, rfl, hs, _, rs⟩ := r.seqL
    have rs : Reps X.K X.mg O H vs (xs.map D.b) := rs
    rw [rs.bls] at hs
    exact ⟨p, xs, rfl, .inl (.inl hs), q _ (.b _)⟩ ) ha hs).up pure_B
theorem JE.all {wa : m (List Bool)} (hc : X.calm = true) (hg : Gl X "all") (hm : X.mg "all" = none) (ha : JE X false a ρ (eL eB) wa) (hs : St1 X a := by rfl) : JE X M (.Call (.Name "all" p) [a] [] pos) ρ eB (bd wa fun xs => rt (xs.all id)) :=
  (JE.fn1p (M := false) (E := eL eB) (fun xs : List Bool => xs.all id) (fun ta hta => pe_callB (cr_all hc) hg hm (by decide +kernel) hta (by decide) (by decide) hs rfl) (fun O H v xs r Q q => by
    obtain ⟨p, vs, rfl, hs, _, rs⟩ := r.seqL
    have rs : Reps X.K X.mg O H vs (xs.map D.b) := rs
    rw [rs.bls] at hs
    exact ⟨p, xs, rfl, .inl (.inl hs), q _ (.b _)⟩ ) ha hs).up pure_B
/-- any of ints, by their truth -/
def rAnyI (K : PySem.W.Frag) : List V → Hp → VK → Prop := fun vs H Q => ∃ (a : Addr) (ns : List Int), vs = [V.ref a] ∧ SqL K H a (ns.map V.int) ∧ Q (.bl (ns.any fun x => x != 0)) H
theorem truth_ints {prog : Program} {w : World} {A : Around} {ns : List Int} {its : List Value} (e : IntsAre its ns) :
    TruthOf prog w A (fun i v => its.toArray[i]? = some v) (fun i => (ns.map fun x => x != 0).getD i false) := by
  intro i v s Q E hv hq
  have hq : Q ((ns.map fun x => x != 0).getD i false) s := hq
  have hv : its[i]? = some v := by simpa using hv
  have : ∀ {its : List Value} {ns : List Int} (i : Nat) (v : Value), IntsAre its ns → its[i]? = some v → ∃ n t, v = .int n t ∧ ns[i]? = some n := by
    intro its ns i v h
    induction h generalizing i with
    | nil => intro h; simp at h
    | cons n t r ih =>
      cases i with
      | zero => intro h; simp at h; exact ⟨n, t, h.symm, rfl⟩
      | succ i => intro h; exact ih i (by simpa using h)
  obtain ⟨n, t, rfl, hn⟩ := this i v e hv
  rw [List.getD_eq_getElem?_getD, List.getElem?_map, hn] at hq
  exact PyProof.Rows.truthy_int hq
theorem cr_anyI (hc : X.calm = true) : CallR X (.builtin "any") (rAnyI X.K) := by
  intro pins s σ H vs us Q I r h
  obtain ⟨a, ns, rfl, hs, q⟩ := h
  obtain ⟨its, rv, hl, _⟩ := I.list hs
  rw [Vals.ref1 r]
  have hb := rv.ints
  refine call_any_walk (iter_any hl.isList fun s₂ e2 st hne => ?_)
  subst e2
  refine ⟨_, _, _, _, _, _, _, rfl, Walks.list (A := X.A.in1) (I.ok.hd hc) _ a hne its.toArray, st, truth_ints hb, fun h' tk hk => ?_⟩
  refine ⟨.bl _, H, I.kept fun b o eo => hk b o (fun hmem => ?_) (Heap.get?_push_of_some _ eo), ?_, q⟩
  · rcases List.mem_cons.mp hmem with e1 | hmem
    · exact absurd (e1 ▸ Heap.lt_size eo) (Nat.lt_irrefl _)
    · cases hmem
  · show Value.bool _ = Value.bool _
    have hlen : its.length = (ns.map fun x => x != 0).length := by
      rw [List.length_map, ← rv.length, List.length_map]
    rw [List.size_toArray, hlen, L2.any_range, List.any_map]
    rfl
theorem JE.anyI {wa : m (List Int)} (hc : X.calm = true) (hg : Gl X "any") (hm : X.mg "any" = none) (ha : JE X false a ρ (eL eI) wa) (hs : St1 X a := by rfl) : JE X M (.Call (.Name "any" p) [a] [] pos) ρ eB (bd wa fun xs => rt (xs.any fun x => x != 0)) :=
  (JE.fn1p (M := false) (E := eL eI) (fun xs : List Int => xs.any fun x => x != 0) (fun ta hta => pe_callB (cr_anyI hc) hg hm (by decide +kernel) hta (by decide) (by decide) hs rfl) (fun O H v xs r Q q => by
    obtain ⟨p, vs, rfl, hs, _, rs⟩ := r.seqL
    have rs : Reps X.K X.mg O H vs (xs.map D.i) := rs
    rw [rs.ints] at hs
    exact ⟨p, xs, rfl, .inl (.inl hs), q _ (.b _)⟩ ) ha hs).up pure_B
theorem JL.sortedI {wa : m (List Int)} (hg : Gl X "sorted") (hm : X.mg "sorted" = none) (ha : JE X M a ρ (eL eI) wa) (hs : St1 X a := by rfl) : JL X M (.Call (.Name "sorted" p) [a] [] pos) ρ eI (bd wa fun xs => rt (sortI xs)) :=
  JL.fn1p (E := eL eI) sortI (fun ta hta => pe_callB cr_sortedI hg hm (by decide +kernel) hta (by decide) (by decide) hs rfl) (fun O H v xs r Q q => by
    obtain ⟨p, vs, rfl, hs, _, rs⟩ := r.seqL
    have rs : Reps X.K X.mg O H vs (xs.map D.i) := rs
    rw [rs.ints] at hs
    refine ⟨p, xs, rfl, .inl (.inl hs), fun ns' z hp hw hz => ?_⟩
    have : ns' = sortI xs := sorted_eq (hp.trans (sortI_perm xs).symm) hw (sortI_sorted xs)
    subst this
    exact q z _ hz (Reps.of_ints _)) ha hs
theorem JL.list {k : Kd} {wa : m (List α)} (hg : Gl X "list") (hm : X.mg "list" = none) (ha : JE X M a ρ (eQ k E) wa) (hs : St1 X a := by rfl) : JL X M (.Call (.Name "list" p) [a] [] pos) ρ E (bd wa fun xs => rt xs) :=
  JL.fn1p (E := eQ k E) (fun xs => xs) (fun ta hta => pe_callTy call_list_of hg hm (by decide +kernel) hta (by decide) (by decide) hs rfl) (fun O H v xs r Q q => by
    obtain ⟨p, vs, rfl, hs, rs⟩ := r.seq
    exact ⟨p, vs, rfl, hs, fun l hl => q l vs hl rs⟩) ha hs
theorem JE.tupleT {wa : m (List α)} (hg : Gl X "tuple") (hm : X.mg "tuple" = none) (ha : JE X M a ρ (eT E) wa) (hs : St1 X a := by rfl) : JE X M (.Call (.Name "tuple" p) [a] [] pos) ρ (eT E) (bd wa fun xs => rt xs) :=
  JE.fn1p (E := eT E) (F := eT E) (fun xs => xs) (fun ta hta => pe_callTy call_tupleT hg hm (by decide +kernel) hta (by decide) (by decide) hs rfl) (fun O H v xs r Q q => by
    obtain ⟨p, vs, rfl, hs, rs⟩ := r.seqT
    exact ⟨p, vs, rfl, hs, q _ (.t hs rs)⟩) ha hs
theorem JE.tupleL {wa : m (List α)} (hg : Gl X "tuple") (hm : X.mg "tuple" = none) (ha : JE X M a ρ (eL E) wa) (hs : starEach [a] X.env = (false, eval a X.env) :: starEach [] X.env := by rfl) : JE X M (.Call (.Name "tuple" p) [a] [] pos) ρ (eT E) (bd wa fun xs => rt xs) :=
  ⟨⟨pe_weak (pe_callTy call_tuple_of hg hm (by decide +kernel) (pa_cons ha.b.pe pa_nil hs) (by decide) (by decide) hs rfl) fun σ H Q ⟨sr, O, H0, ad, he, hw⟩ => ⟨sr, O, H0, ad, he, by
      have hw := le1 (f := fun x => rt (m := m) x) (g := fun x => Wp.pure x) (fun _ => lep) _ hw
      refine (Mn.wp wa).mono (fun x q v H1 x1 r => ?_) hw
      obtain ⟨p, vs, rfl, hs, _, rs⟩ := r.seqL
      exact ⟨p, vs, rfl, .inl ⟨.inl (.inl hs), fun l hl => q _ _ (x1.trans (Ext.new x1.srs hl)) (.t (.inl (.inl upd_same)) (rs.ext (Ext.new x1.srs hl) (he.sOM M)))⟩⟩⟩⟩⟩

/-! ### == of data -/
mutual
def toPy : D → PyData
  | .n => .none
  | .b x => .bool x
  | .i x => .int x
  | .s x => .str x
  | .t xs => .tuple (toPys xs)
  | .l xs => .list (toPys xs)
  | .o _ _ _ => .dict []
  | .d _ _ => .dict []
def toPys : List D → List PyData
  | [] => []
  | x :: xs => toPy x :: toPys xs
end
mutual
def flatD : D → Bool
  | .n => true
  | .b _ => true
  | .i _ => true
  | .s _ => true
  | .t xs => flatDs xs
  | .l xs => flatDs xs
  | .o _ _ _ => false
  | .d _ _ => false
def flatDs : List D → Bool
  | [] => true
  | x :: xs => flatD x && flatDs xs
end
theorem toPys_map : ∀ xs : List D, toPys xs = xs.map toPy
  | [] => rfl
  | x :: xs => by rw [toPys, toPys_map xs]; rfl
section
variable {K : PySem.W.Frag} {mg : Str → Option Value} {O : Addr → Prop} {H : Hp}
mutual
theorem Rep.dp : ∀ (d : D) (v : V), flatD d = true → Rep K mg O H v d → Dp K H v (toPy d)
  | .n, _, _, h => by cases h; exact .non
  | .b x, _, _, h => by cases h; exact .bl x
  | .i x, _, _, h => by cases h; exact .int x
  | .s x, _, _, h => by cases h; exact .str x
  | .t ds, _, f, h => by
    cases h with
    | t h1 h2 => exact .tup h1 (Reps.dp ds _ f h2)
  | .l ds, _, f, h => by
    cases h with
    | l h1 h2 h3 => exact .lst (.inl (.inl h1)) (Reps.dp ds _ f h3)
  | .o _ _ _, _, f, _ => by cases f
  | .d _ _, _, f, _ => by cases f
theorem Reps.dp : ∀ (ds : List D) (vs : List V), flatDs ds = true → Reps K mg O H vs ds → DpAll K H vs (toPys ds)
  | [], _, _, h => by cases h; exact .nil
  | d :: ds, _, f, h => by
    cases h with
    | cons h1 h2 =>
      have f := Bool.and_eq_true_iff.mp f
      exact .cons (Rep.dp d _ f.1 h1) (Reps.dp ds _ f.2 h2)
end
end
/-- data that == can lay: of a depth below n -/
structure Shp (E : α → D) (n : Nat) : Prop where
  flat : ∀ x, flatD (E x) = true
  lay : ∀ x, (toPy (E x)).canLay0 = true
  dep : ∀ x, (toPy (E x)).depth ≤ n
theorem Shp.shaped {n : Nat} (h : Shp E n) (hn : n ≤ 64) (x : α) : SeqAt.shaped (toPy (E x)) = true := by
  unfold SeqAt.shaped
  rw [h.lay, decide_eq_true (Nat.le_trans (h.dep x) hn)]
  rfl
theorem shp_I : Shp eI 0 := ⟨fun _ => rfl, fun _ => rfl, fun _ => Nat.le_refl _⟩
theorem shp_B : Shp eB 0 := ⟨fun _ => rfl, fun _ => rfl, fun _ => Nat.le_refl _⟩
theorem shp_N : Shp eN 0 := ⟨fun _ => rfl, fun _ => rfl, fun _ => Nat.le_refl _⟩
theorem depth_all {n : Nat} : ∀ xs : List PyData, (∀ x ∈ xs, x.depth ≤ n) → PyData.depthAll xs ≤ n
  | [], _ => Nat.zero_le _
  | x :: xs, h => by
    rw [PyData.depthAll]
    exact Nat.max_le.mpr ⟨h x List.mem_cons_self, depth_all xs fun y hy => h y (List.mem_cons_of_mem _ hy)⟩
theorem lay_all : ∀ xs : List PyData, (∀ x ∈ xs, x.canLay0 = true) → PyData.canLayAll0 xs = true
  | [], _ => rfl
  | x :: xs, h => by
    rw [PyData.canLayAll0, h x List.mem_cons_self, lay_all xs fun y hy => h y (List.mem_cons_of_mem _ hy)]
    rfl
theorem flat_all : ∀ xs : List D, (∀ x ∈ xs, flatD x = true) → flatDs xs = true
  | [], _ => rfl
  | x :: xs, h => by
    rw [flatDs, h x List.mem_cons_self, flat_all xs fun y hy => h y (List.mem_cons_of_mem _ hy)]
    rfl
theorem shp_Q {n : Nat} {k : Kd} (h : Shp E n) : Shp (eQ k E) (n + 1) := by
  have m1 : ∀ xs : List α, ∀ d ∈ xs.map E, flatD d = true := fun xs d hd => by
    obtain ⟨x, _, rfl⟩ := List.mem_map.mp hd; exact h.flat x
  have m2 : ∀ xs : List α, ∀ d ∈ toPys (xs.map E), d.canLay0 = true := fun xs d hd => by
    rw [toPys_map] at hd
    obtain ⟨x, hx, rfl⟩ := List.mem_map.mp hd
    obtain ⟨y, _, rfl⟩ := List.mem_map.mp hx; exact h.lay y
  have m3 : ∀ xs : List α, ∀ d ∈ toPys (xs.map E), d.depth ≤ n := fun xs d hd => by
    rw [toPys_map] at hd
    obtain ⟨x, hx, rfl⟩ := List.mem_map.mp hd
    obtain ⟨y, _, rfl⟩ := List.mem_map.mp hx; exact h.dep y
  cases k with
  | l => exact ⟨fun xs => flat_all _ (m1 xs), fun xs => lay_all _ (m2 xs), fun xs => by
      show PyData.depth (.list _) ≤ n + 1
      rw [PyData.depth]; have := depth_all _ (m3 xs); omega⟩
  | t => exact ⟨fun xs => flat_all _ (m1 xs), fun xs => lay_all _ (m2 xs), fun xs => by
      show PyData.depth (.tuple _) ≤ n + 1
      rw [PyData.depth]; have := depth_all _ (m3 xs); omega⟩
theorem shp_P {n n' : Nat} (h : Shp E n) (h' : Shp F n') : Shp (eP E F) (max n n' + 1) := ⟨fun x => by
    show flatDs [E x.1, F x.2] = true
    simp [flatDs, h.flat, h'.flat], fun x => by
    show PyData.canLayAll0 [toPy (E x.1), toPy (F x.2)] = true
    simp [PyData.canLayAll0, h.lay, h'.lay], fun x => by
    show PyData.depth (.tuple [toPy (E x.1), toPy (F x.2)]) ≤ _
    have h1 := h.dep x.1
    have h2 := h'.dep x.2
    simp only [PyData.depth, PyData.depthAll]
    omega⟩
theorem shp_O {n : Nat} (h : Shp E n) : Shp (eO E) n := ⟨fun x => by cases x; exact rfl; exact h.flat _, fun x => by cases x; exact rfl; exact h.lay _, fun x => by cases x; exact Nat.zero_le _; exact h.dep _⟩
/-- == is = of what it stands for -/
structure Fth (E : α → D) [DecidableEq α] : Prop where
  eq : ∀ x y, PyData.eqv (toPy (E x)) (toPy (E y)) = decide (x = y)
theorem fth_I : Fth eI := ⟨fun x y => by show (x == y) = _; rw [Bool.beq_eq_decide_eq]⟩
theorem fth_B : Fth eB := ⟨fun x y => by show (x == y) = _; rw [Bool.beq_eq_decide_eq]⟩
theorem fth_S : Fth eS := ⟨fun x y => by show (x == y) = _; rw [Bool.beq_eq_decide_eq]⟩
theorem fth_all [DecidableEq α] (h : Fth E) : ∀ xs ys : List α, PyData.eqvAll (toPys (xs.map E)) (toPys (ys.map E)) = decide (xs = ys)
  | [], [] => rfl
  | [], _ :: _ => by simp [toPys, PyData.eqvAll]
  | _ :: _, [] => by simp [toPys, PyData.eqvAll]
  | x :: xs, y :: ys => by
    rw [List.map_cons, List.map_cons, toPys, toPys, PyData.eqvAll, h.eq, fth_all h xs ys]
    by_cases h1 : x = y
    · by_cases h2 : xs = ys <;> simp [h1, h2]
    · simp [h1]
theorem fth_Q [DecidableEq α] {k : Kd} (h : Fth E) : Fth (eQ k E) := by
  cases k with
  | l => exact ⟨fun x y => fth_all h x y⟩
  | t => exact ⟨fun x y => fth_all h x y⟩
theorem fth_P [DecidableEq α] [DecidableEq β] (h : Fth E) (h' : Fth F) : Fth (eP E F) := ⟨fun x y => by
  show PyData.eqvAll [toPy (E x.1), toPy (F x.2)] [toPy (E y.1), toPy (F y.2)] = _
  obtain ⟨x1, x2⟩ := x
  obtain ⟨y1, y2⟩ := y
  simp only [PyData.eqvAll, h.eq, h'.eq]
  by_cases h1 : x1 = y1
  · by_cases h2 : x2 = y2 <;> simp [h1, h2]
  · simp [h1]⟩
/-- == by what it stands for as data -/
def eqD (x y : D) : Bool := PyData.eqv (toPy x) (toPy y)
theorem JE.cmpD {op : CmpOp} {rr : PySem.W.Frag → R2} {g : Bool → Bool} (ho : OpR X (compareOp op) (rr X.K)) (hr : ∀ K x y H Q d e', Dp K H x d → Dp K H y e' → SeqAt.shaped d = true → SeqAt.shaped e' = true → Q (.bl (g (PyData.eqv d e'))) H → rr K x y H Q) (hm : behindInMarks op b = false) {n n' : Nat} (sE : Shp E n) (sF : Shp F n') (hn : n ≤ 64) (hn' : n' ≤ 64) (ha : JE X false a ρ E wa) (hb : JE X false b ρ F wb) :
    JE X M (.Compare a [op] [b] pos) ρ eB (bd wa fun x => bd wb fun y => rt (g (eqD (E x) (F y)))) :=
  ⟨⟨pe_weak (pe_cmpR ho ha.b.pe hb.b.pe hm) fun σ H Q ⟨sr, O, H0, ad, he, hw⟩ => ⟨sr, O, H0, ad, he, by
      have hw := le2 (f := fun x y => rt (m := m) (g (eqD (E x) (F y)))) (g := fun x y => Wp.pure (g (eqD (E x) (F y)))) (fun _ _ => lep) _ hw
      refine (Mn.wp wa).mono (fun x q v H1 x1 r => ⟨sr, O, H0, ad, he.ext' x1, (Mn.wp wb).mono (fun y q2 v2 H2 x2 r2 => hr _ _ _ _ _ _ _ ((r.ext x2 he.sO).dp _ _ (sE.flat x)) (r2.dp _ _ (sF.flat y)) (sE.shaped hn x) (sF.shaped hn' y) (q2 _ H2 (x1.trans x2) (.b _))) q⟩) hw⟩⟩⟩
theorem JT.cmpD {op : CmpOp} {rr : PySem.W.Frag → R2} {g : Bool → Bool} (ho : OpR X (compareOp op) (rr X.K)) (hr : ∀ K x y H Q d e', Dp K H x d → Dp K H y e' → SeqAt.shaped d = true → SeqAt.shaped e' = true → Q (.bl (g (PyData.eqv d e'))) H → rr K x y H Q) (hm : behindInMarks op b = false) {n n' : Nat} (sE : Shp E n) (sF : Shp F n') (hn : n ≤ 64) (hn' : n' ≤ 64) (ha : JE X false a ρ E wa) (hb : JE X false b ρ F wb) :
    JT X (.Compare a [op] [b] pos) ρ (bd wa fun x => bd wb fun y => rt (g (eqD (E x) (F y)))) :=
  ⟨⟨pt_weak (pt_cmpR ho ha.b.pe hb.b.pe hm) fun σ H Q ⟨sr, O, H0, ad, he, hw⟩ => ⟨sr, O, H0, ad, he, by
      have hw := le2 (f := fun x y => rt (m := m) (g (eqD (E x) (F y)))) (g := fun x y => Wp.pure (g (eqD (E x) (F y)))) (fun _ _ => lep) _ hw
      refine (Mn.wp wa).mono (fun x q v H1 x1 r => ⟨sr, O, H0, ad, he.ext' x1, (Mn.wp wb).mono (fun y q2 v2 H2 x2 r2 => hr _ _ _ _ _ _ _ ((r.ext x2 he.sO).dp _ _ (sE.flat x)) (r2.dp _ _ (sF.flat y)) (sE.shaped hn x) (sF.shaped hn' y) ⟨_, rfl, q2 H2 (x1.trans x2)⟩) q⟩) hw⟩⟩⟩
theorem JE.eqD {n n' : Nat} (hu : X.A.units + 64 < cLine) (sE : Shp E n) (sF : Shp F n') (hn : n ≤ 64) (hn' : n' ≤ 64) (ha : JE X false a ρ E wa) (hb : JE X false b ρ F wb) : JE X M (.Compare a [.Eq] [b] pos) ρ eB (bd wa fun x => bd wb fun y => rt (eqD (E x) (F y))) :=
  JE.cmpD (g := id) (op_eqD hu) (fun K x y H Q d e' h1 h2 h3 h4 q => ⟨d, e', h1, h2, h3, h4, q⟩) (nomark _) sE sF hn hn' ha hb
theorem JE.neD {n n' : Nat} (hu : X.A.units + 64 < cLine) (sE : Shp E n) (sF : Shp F n') (hn : n ≤ 64) (hn' : n' ≤ 64) (ha : JE X false a ρ E wa) (hb : JE X false b ρ F wb) : JE X M (.Compare a [.NotEq] [b] pos) ρ eB (bd wa fun x => bd wb fun y => rt (!(Wk.eqD (E x) (F y)))) :=
  JE.cmpD (g := fun b => !b) (op_neD hu) (fun K x y H Q d e' h1 h2 h3 h4 q => ⟨d, e', h1, h2, h3, h4, q⟩) (nomark _) sE sF hn hn' ha hb
/-- .. of one kind -/
theorem JE.eqF [DecidableEq α] {wb : m α} {n : Nat} (hu : X.A.units + 64 < cLine) (f : Fth E) (sE : Shp E n) (hn : n ≤ 64) (ha : JE X false a ρ E wa) (hb : JE X false b ρ E wb) : JE X M (.Compare a [.Eq] [b] pos) ρ eB (bd wa fun x => bd wb fun y => rt (decide (x = y))) := by
  have h := JE.eqD (M := M) (pos := pos) hu sE sE hn hn ha hb
  have e : (fun x y => rt (m := m) (Wk.eqD (E x) (E y))) = fun x y => rt (decide (x = y)) := funext fun x => funext fun y => congrArg _ (f.eq x y)
  have e2 : (fun x => bd wb fun y => rt (m := m) (Wk.eqD (E x) (E y))) = fun x => bd wb fun y => rt (decide (x = y)) := funext fun x => by rw [show (fun y => rt (m := m) (Wk.eqD (E x) (E y))) = _ from congrFun e x]
  rw [e2] at h
  exact h
theorem JE.neF [DecidableEq α] {wb : m α} {n : Nat} (hu : X.A.units + 64 < cLine) (f : Fth E) (sE : Shp E n) (hn : n ≤ 64) (ha : JE X false a ρ E wa) (hb : JE X false b ρ E wb) : JE X M (.Compare a [.NotEq] [b] pos) ρ eB (bd wa fun x => bd wb fun y => rt (!decide (x = y))) := by
  have h := JE.neD (M := M) (pos := pos) hu sE sE hn hn ha hb
  have e : (fun x y => rt (m := m) (!(Wk.eqD (E x) (E y)))) = fun x y => rt (!decide (x = y)) := funext fun x => funext fun y => congrArg (fun z => rt (!z)) (f.eq x y)
  have e2 : (fun x => bd wb fun y => rt (m := m) (!(Wk.eqD (E x) (E y)))) = fun x => bd wb fun y => rt (!decide (x = y)) := funext fun x => by rw [show (fun y => rt (m := m) (!(Wk.eqD (E x) (E y)))) = _ from congrFun e x]
  rw [e2] at h
  exact h
theorem JT.eqD {n n' : Nat} (hu : X.A.units + 64 < cLine) (sE : Shp E n) (sF : Shp F n') (hn : n ≤ 64) (hn' : n' ≤ 64) (ha : JE X false a ρ E wa) (hb : JE X false b ρ F wb) : JT X (.Compare a [.Eq] [b] pos) ρ (bd wa fun x => bd wb fun y => rt (eqD (E x) (F y))) :=
  JT.cmpD (g := id) (op_eqD hu) (fun K x y H Q d e' h1 h2 h3 h4 q => ⟨d, e', h1, h2, h3, h4, q⟩) (nomark _) sE sF hn hn' ha hb
theorem JT.neD {n n' : Nat} (hu : X.A.units + 64 < cLine) (sE : Shp E n) (sF : Shp F n') (hn : n ≤ 64) (hn' : n' ≤ 64) (ha : JE X false a ρ E wa) (hb : JE X false b ρ F wb) : JT X (.Compare a [.NotEq] [b] pos) ρ (bd wa fun x => bd wb fun y => rt (!(Wk.eqD (E x) (F y)))) :=
  JT.cmpD (g := fun b => !b) (op_neD hu) (fun K x y H Q d e' h1 h2 h3 h4 q => ⟨d, e', h1, h2, h3, h4, q⟩) (nomark _) sE sF hn hn' ha hb
/-- .. of one kind -/
theorem JT.eqF [DecidableEq α] {wb : m α} {n : Nat} (hu : X.A.units + 64 < cLine) (f : Fth E) (sE : Shp E n) (hn : n ≤ 64) (ha : JE X false a ρ E wa) (hb : JE X false b ρ E wb) : JT X (.Compare a [.Eq] [b] pos) ρ (bd wa fun x => bd wb fun y => rt (decide (x = y))) := by
  have h := JT.eqD (pos := pos) hu sE sE hn hn ha hb
  have e : (fun x y => rt (m := m) (Wk.eqD (E x) (E y))) = fun x y => rt (decide (x = y)) := funext fun x => funext fun y => congrArg _ (f.eq x y)
  have e2 : (fun x => bd wb fun y => rt (m := m) (Wk.eqD (E x) (E y))) = fun x => bd wb fun y => rt (decide (x = y)) := funext fun x => by rw [show (fun y => rt (m := m) (Wk.eqD (E x) (E y))) = _ from congrFun e x]
  rw [e2] at h
  exact h
theorem JT.neF [DecidableEq α] {wb : m α} {n : Nat} (hu : X.A.units + 64 < cLine) (f : Fth E) (sE : Shp E n) (hn : n ≤ 64) (ha : JE X false a ρ E wa) (hb : JE X false b ρ E wb) : JT X (.Compare a [.NotEq] [b] pos) ρ (bd wa fun x => bd wb fun y => rt (!decide (x = y))) := by
  have h := JT.neD (pos := pos) hu sE sE hn hn ha hb
  have e : (fun x y => rt (m := m) (!(Wk.eqD (E x) (E y)))) = fun x y => rt (!decide (x = y)) := funext fun x => funext fun y => congrArg (fun z => rt (!z)) (f.eq x y)
  have e2 : (fun x => bd wb fun y => rt (m := m) (!(Wk.eqD (E x) (E y)))) = fun x => bd wb fun y => rt (!decide (x = y)) := funext fun x => by rw [show (fun y => rt (m := m) (!(Wk.eqD (E x) (E y)))) = _ from congrFun e x]
  rw [e2] at h
  exact h
end
end Wk

namespace Wk
open PySem PySem.Spec PyProof.Rows L2

/-! ### what is walked -/
def Keep (K : PySem.W.Frag) (P : Addr → Prop) (H H' : Hp) : Prop := (∀ a o, H a = some o → ¬ P a → H' a = some o) ∧ ∀ a vs, SqT K H a vs → SqT K H' a vs
section
variable {K : PySem.W.Frag} {mg : Str → Option Value} {P O : Addr → Prop} {H H' H1 H2 : Hp} {sr : Option Addr}
theorem Keep.refl : Keep K P H H := ⟨fun _ _ e _ => e, fun _ _ e => e⟩
theorem Keep.trans (a : Keep K P H H1) (b : Keep K P H1 H2) : Keep K P H H2 := ⟨fun x o e n => b.1 x o (a.1 x o e n) n, fun x vs e => b.2 x vs (a.2 x vs e)⟩
theorem Rep.keep {v : V} {d : D} (h : Rep K mg P H v d) (k : Keep K P H H') : Rep K mg P H' v d := h.gen (fun a o e n => ⟨k.1 a o e n, n⟩) k.2
theorem Reps.keep {v : List V} {d : List D} (h : Reps K mg P H v d) (k : Keep K P H H') : Reps K mg P H' v d := Reps.gen (fun a o e n => ⟨k.1 a o e n, n⟩) k.2 _ _ h
theorem Ext.keep (e : Ext sr H H') (h : ∀ S, sr = some S → P S) : Keep K P H H' := ⟨fun a o q n => e.1 a o q fun z => n (h a z), fun _ _ q => e.sqT q⟩
/-- all is kept -/
def All (H H' : Hp) : Prop := ∀ a o, H a = some o → H' a = some o
theorem All.refl : All H H := fun _ _ e => e
theorem All.ext (h : All H H') (s : Srs sr H) : Ext sr H H' := Ext.same s h
theorem All.new {p : Addr} {o : HO} (hp : H p = none) : All H (upd H p o) := fun a u e => by rw [upd_ne (ne_of_none e hp)]; exact e
theorem All.sqT (h : All H H') {a : Addr} {vs : List V} (q : SqT K H a vs) : SqT K H' a vs := by
  rcases q with (q | ⟨o, q⟩) | q
  · exact .inl (.inl (h a _ q))
  · exact .inl (.inr ⟨o, h a _ q⟩)
  · exact .inr q
theorem All.keep (h : All H H') : Keep K P H H' := ⟨fun a o e _ => h a o e, fun _ _ q => h.sqT q⟩
end
section
variable {m : Type → Type} [Mn m] {α β γ δ : Type}
variable {X : Cx} {M : Bool} {e a b c iter tg : Expr} {es : List Expr} {ρ : List Slot} {E : α → D} {F : β → D} {p pos : Pos}
/-- .. or new to the heap -/
def Out (P : Addr → Prop) (H1 : Hp) : Addr → Prop := fun a => P a ∨ H1 a = none
theorem Reps.out {K : PySem.W.Frag} {mg : Str → Option Value} {P : Addr → Prop} {H : Hp} {vs : List V} {ds : List D} (r : Reps K mg P H vs ds) : Reps K mg (Out P H) H vs ds :=
  Reps.gen (fun a o e n => ⟨e, fun z => z.elim n fun z => by rw [e] at z; cases z⟩) (fun _ _ q => q) _ _ r
/-- a walk over xs: the items are data that may be kept, while what is not left out stands -/
def Wkn (K : PySem.W.Frag) (mg : Str → Option Value) (P Pi : Addr → Prop) (H1 : Hp) (E : α → D) (xs : List α) (J : It) : Prop :=
  Walk J xs.length (fun H => Keep K P H1 H) (fun i H v H' => All H H' ∧ ∃ x, xs[i]? = some x ∧ Rep K mg Pi H' v (E x))
def tI (K : PySem.W.Frag) (mg : Str → Option Value) (M : Bool) (ρ : List Slot) (E : α → D) (w : Wp (List α)) : TI := fun σ H R =>
  ∃ sr O H0 ad, Env K mg sr O H0 H σ ρ ad ∧ w.run fun xs => ∀ J H1, Ext sr H H1 → Wkn K mg (OM M O ad) (Out (OO O ad) H1) H1 E xs J → R J H1
structure JI (X : Cx) (M : Bool) (tg iter : Expr) (ρ : List Slot) (E : α → D) (a : m (List α)) : Prop where
  b : PI X tg iter (tI X.K X.mg M ρ E (Mn.wp a))
theorem pi_weak {X : Cx} {tg e : Expr} {t t' : TI} (h : PI X tg e t) (k : ∀ σ H Q, t' σ H Q → t σ H Q) : PI X tg e t' := ⟨fun pins s σ H Q I hw => h.run pins s σ H Q I (k σ H Q hw)⟩
theorem wkn_list {K : PySem.W.Frag} {mg : Str → Option Value} {P Pi : Addr → Prop} {H1 : Hp} {xs : List α} {p : Addr} {vs : List V} (hs : ∀ H, Keep K P H1 H → SqL K H p vs) (r : ∀ H, Keep K P H1 H → Reps K mg Pi H vs (xs.map E)) : Wkn K mg P Pi H1 E xs (Itl K p) where
  goes := fun i H hi g => by
    have hl : vs.length = xs.length := by rw [(r H g).length, List.length_map]
    exact ⟨vs, vs[i]'(by omega), hs H g, List.getElem?_eq_getElem (by omega)⟩
  stops := fun H g => by
    have hl : vs.length = xs.length := by rw [(r H g).length, List.length_map]
    exact ⟨vs, hs H g, by omega⟩
  yields := fun i H v H' hi g y => by
    obtain ⟨rfl, y⟩ := y
    obtain ⟨d, hd, rd⟩ := (r _ g).get' (y vs (hs _ g))
    rw [List.getElem?_map] at hd
    obtain ⟨x, hx, rfl⟩ := Option.map_eq_some_iff.mp hd
    exact ⟨All.refl, x, hx, rd⟩
theorem wkn_tup {K : PySem.W.Frag} {mg : Str → Option Value} {P Pi : Addr → Prop} {H1 : Hp} {xs : List α} {p : Addr} {vs : List V} (hs : ∀ H, Keep K P H1 H → SqT K H p vs) (r : ∀ H, Keep K P H1 H → Reps K mg Pi H vs (xs.map E)) : Wkn K mg P Pi H1 E xs (Itt K p) where
  goes := fun i H hi g => by
    have hl : vs.length = xs.length := by rw [(r H g).length, List.length_map]
    exact ⟨vs, vs[i]'(by omega), hs H g, List.getElem?_eq_getElem (by omega)⟩
  stops := fun H g => by
    have hl : vs.length = xs.length := by rw [(r H g).length, List.length_map]
    exact ⟨vs, hs H g, by omega⟩
  yields := fun i H v H' hi g y => by
    obtain ⟨rfl, y⟩ := y
    obtain ⟨d, hd, rd⟩ := (r _ g).get' (y vs (hs _ g))
    rw [List.getElem?_map] at hd
    obtain ⟨x, hx, rfl⟩ := Option.map_eq_some_iff.mp hd
    exact ⟨All.refl, x, hx, rd⟩
theorem Keep.le {K : PySem.W.Frag} {P P' : Addr → Prop} {H H' : Hp} (k : Keep K P H H') (h : ∀ a, P a → P' a) : Keep K P' H H' := ⟨fun a o e n => k.1 a o e fun z => n (h a z), k.2⟩
theorem JI.list {wa : m (List α)} (ha : JE X true a ρ (eL E) wa) : JI X M tg a ρ E wa := ⟨pi_weak (pi_list ha.b.pe) fun σ H R ⟨sr, O, H0, ad, he, hw⟩ =>
  ⟨sr, O, H0, ad, he, (Mn.wp wa).mono (fun xs q v H1 x1 r => by
    obtain ⟨p, vs, rfl, hs, hn, rs⟩ := r.seqL
    exact ⟨p, rfl, ⟨vs, .inl (.inl hs)⟩, q _ H1 x1 (wkn_list (fun H k => .inl (.inl ((k.le OM.le).1 p _ hs hn))) (fun H k => rs.out.keep (k.le fun a h => .inl (OM.le a h))))⟩) hw⟩⟩
theorem JI.tup {wa : m (List α)} (ha : JE X true a ρ (eT E) wa) : JI X M tg a ρ E wa := ⟨pi_weak (pi_tup ha.b.pe) fun σ H R ⟨sr, O, H0, ad, he, hw⟩ =>
  ⟨sr, O, H0, ad, he, (Mn.wp wa).mono (fun xs q v H1 x1 r => by
    obtain ⟨p, vs, rfl, hs, rs⟩ := r.seqT
    exact ⟨p, rfl, ⟨vs, hs⟩, q _ H1 x1 (wkn_tup (fun H k => k.2 _ _ hs) (fun H k => rs.out.keep (k.le fun a h => .inl (OM.le a h))))⟩) hw⟩⟩
theorem Reps.pureE {K : PySem.W.Frag} {mg : Str → Option Value} {O O' : Addr → Prop} {H : Hp} {vs : List V} {xs : List α} (h : PureE E) (r : Reps K mg O H vs (xs.map E)) : Reps K mg O' H vs (xs.map E) :=
  Reps.pure _ _ (fun x hx => by obtain ⟨y, _, rfl⟩ := List.mem_map.mp hx; exact h y) r
/-- a list of the moment, of items that can't change -/
theorem JI.listP {wa : m (List α)} (hp : PureE E) (ha : JE X false a ρ (eL E) wa) : JI X false tg a ρ E wa := ⟨pi_weak (pi_list ha.b.pe) fun σ H R ⟨sr, O, H0, ad, he, hw⟩ =>
  ⟨sr, O, H0, ad, he, (Mn.wp wa).mono (fun xs q v H1 x1 r => by
    obtain ⟨p, vs, rfl, hs, hn, rs⟩ := r.seqL
    exact ⟨p, rfl, ⟨vs, .inl (.inl hs)⟩, q _ H1 x1 (wkn_list (fun H k => .inl (.inl (k.1 p _ hs hn))) (fun H k => (rs.pureE (O' := Out (OO O ad) H1) hp).keep (k.le fun a h => .inl (OM.le a h))))⟩) hw⟩⟩
/-- one's own list, in an expression -/
theorem JI.var (i : Nat) {n : Str} {xs : List α} (h : ρ[i]? = some (.l (xs.map E))) (hN : X.N[i]? = some n := by rfl) (hv : Vis X.env.scope n := by first | exact Or.inl rfl | exact Or.inr (Or.inl rfl) | exact Or.inr (Or.inr rfl)) (hd : (n == ("__debug__" : Str)) = false := by decide) (hcd : (n == ("__classdict__" : Str)) = false := by decide) :
    JI X false tg (.Name n pos) ρ E (rt (m := m) xs) := ⟨pi_weak (pi_list (pv i hN hv hd hcd)) fun σ H R ⟨sr, O, H0, ad, he, hw⟩ => by
  have hw := lep _ hw
  have hi := he.at_ i
  rw [h] at hi
  obtain ⟨p, vs, e1, e2, e3, rs⟩ := hi
  exact ⟨.ref p, e2, p, rfl, ⟨vs, .inl (.inl e3)⟩, hw _ H (Ext.refl he.srs) (wkn_list (fun H k => .inl (.inl (k.1 p _ e3 (he.dis _ p e1)))) (fun H k => rs.out.keep (k.le fun a h => .inl (OM.le a h))))⟩⟩

/-! ### ranges -/
def upFrom (a c : Int) : Nat → List Int
  | 0 => []
  | n + 1 => a :: upFrom (a + c) c n
theorem upFrom_len (c : Int) : ∀ (n : Nat) (a : Int), (upFrom a c n).length = n
  | 0, _ => rfl
  | n + 1, a => by rw [upFrom, List.length_cons, upFrom_len c n]
theorem upFrom_get (c : Int) : ∀ (n : Nat) (a : Int) (i : Nat), i < n → (upFrom a c n)[i]? = some (a + i * c)
  | n + 1, a, 0, _ => by simp [upFrom]
  | n + 1, a, i + 1, h => by
    rw [upFrom, List.getElem?_cons_succ, upFrom_get c n _ i (by omega)]
    congr 1
    rw [Int.natCast_add, Int.add_mul]
    omega
def bdd (x : Int) : Bool := decide (-4611686018427387904 ≤ x) && decide (x < 4611686018427387904)
theorem bdd_is {x : Int} (h : bdd x = true) : -(2 ^ 62) ≤ x ∧ x < 2 ^ 62 := by
  have h := Bool.and_eq_true_iff.mp h
  have h1 := of_decide_eq_true h.1
  have h2 := of_decide_eq_true h.2
  omega
def rangeO (a b : Int) : Option (List Int) := if (bdd a && bdd b) = true then some (upFrom a 1 (b - a).toNat) else none
def range1O (b : Int) : Option (List Int) := if bdd b = true then some (upFrom 0 1 b.toNat) else none
/-- range(a, b, -1) -/
def rangeDO (a b : Int) : Option (List Int) := if (bdd a && bdd b) = true then some (upFrom a (-1) (a - b).toNat) else none
theorem wkn_range {K : PySem.W.Frag} {mg : Str → Option Value} {P Pi : Addr → Prop} {H1 : Hp} {lo : Int} {n : Nat} : Wkn K mg P Pi H1 eI (upFrom lo 1 n) (Itr lo n) where
  goes := fun i H hi _ => by rw [upFrom_len] at hi; exact hi
  stops := fun H _ => by rw [upFrom_len]; exact Nat.le_refl _
  yields := fun i H v H' hi _ y => by
    obtain ⟨rfl, rfl⟩ := y
    rw [upFrom_len] at hi
    exact ⟨All.refl, lo + i, by rw [upFrom_get 1 n lo i hi, Int.mul_one], .i _⟩
theorem wkn_rangeC {K : PySem.W.Frag} {mg : Str → Option Value} {P Pi : Addr → Prop} {H1 : Hp} {lo c : Int} {n : Nat} : Wkn K mg P Pi H1 eI (upFrom lo c n) (Itc lo c n) where
  goes := fun i H hi _ => by rw [upFrom_len] at hi; exact hi
  stops := fun H _ => by rw [upFrom_len]; exact Nat.le_refl _
  yields := fun i H v H' hi _ y => by
    obtain ⟨rfl, rfl⟩ := y
    rw [upFrom_len] at hi
    exact ⟨All.refl, lo + (i : Nat) * c, upFrom_get c n lo i hi, .i _⟩
variable {wa wb : m Int}
theorem JI.range1 (hg : Gl X "range") (hm : X.mg "range" = none) (ha : JE X false a ρ eI wa) (hs : starEach [a] X.env = [(false, eval a X.env)] := by rfl) : JI X M tg (.Call (.Name "range" p) [a] [] pos) ρ eI (bd wa fun x => lf (range1O x)) :=
  ⟨pi_weak (pi_range1 hg hm (pa_cons ha.b.pe pa_nil hs) hs) fun σ H R ⟨sr, O, H0, ad, he, hw⟩ => ⟨sr, O, H0, ad, he, by
      have hw := le1 (f := fun x => lf (m := m) (range1O x)) (g := fun x => Wp.guard (bdd x = true) (upFrom 0 1 x.toNat)) (fun _ => leg) _ hw
      refine (Mn.wp wa).mono (fun x ⟨h, q⟩ v H1 x1 r => ?_) hw
      cases r
      obtain ⟨h1, h2⟩ := bdd_is h
      exact ⟨x, rfl, h1, h2, q _ H1 x1 wkn_range⟩⟩⟩
theorem JI.range2 (hg : Gl X "range") (hm : X.mg "range" = none) (ha : JE X false a ρ eI wa) (hb : JE X false b ρ eI wb) (hs : starEach [a, b] X.env = [(false, eval a X.env), (false, eval b X.env)] := by rfl) (hs2 : starEach [b] X.env = [(false, eval b X.env)] := by rfl) : JI X M tg (.Call (.Name "range" p) [a, b] [] pos) ρ eI (bd wa fun x => bd wb fun y => lf (rangeO x y)) :=
  ⟨pi_weak (pi_range2 hg hm (pa_cons ha.b.pe (pa_cons hb.b.pe pa_nil hs2) (by rw [hs, hs2])) hs hs2) fun σ H R ⟨sr, O, H0, ad, he, hw⟩ => ⟨sr, O, H0, ad, he, by
      have hw := le2 (f := fun x y => lf (m := m) (rangeO x y)) (g := fun x y => Wp.guard ((bdd x && bdd y) = true) (upFrom x 1 (y - x).toNat)) (fun _ _ => leg) _ hw
      refine (Mn.wp wa).mono (fun x q v H1 x1 r => ⟨sr, O, H0, ad, he.ext' x1, (Mn.wp wb).mono (fun y ⟨h, q⟩ v2 H2 x2 r2 => ?_) q⟩) hw
      cases r; cases r2
      have h := Bool.and_eq_true_iff.mp h
      obtain ⟨h1, h2⟩ := bdd_is h.1
      obtain ⟨h3, h4⟩ := bdd_is h.2
      exact ⟨x, y, rfl, ⟨h1, h2, h3, h4⟩, q _ H2 (x1.trans x2) wkn_range⟩⟩⟩
/-- range(a, b, -1) -/
theorem JI.rangeD {k p1 p2} (hg : Gl X "range") (hm : X.mg "range" = none) (ha : JE X false a ρ eI wa) (hb : JE X false b ρ eI wb) (hs : starEach [a, b, .UnaryOp .USub (.Constant (.int 1) k p1) p2] X.env = (false, eval a X.env) :: starEach [b, .UnaryOp .USub (.Constant (.int 1) k p1) p2] X.env := by rfl)
    (hs2 : starEach [b, .UnaryOp .USub (.Constant (.int 1) k p1) p2] X.env = (false, eval b X.env) :: starEach [.UnaryOp .USub (.Constant (.int 1) k p1) p2] X.env := by rfl) : JI X M tg (.Call (.Name "range" p) [a, b, .UnaryOp .USub (.Constant (.int 1) k p1) p2] [] pos) ρ eI (bd wa fun x => bd wb fun y => lf (rangeDO x y)) :=
  ⟨pi_weak (pi_range3 hg hm (pa_cons ha.b.pe (pa_cons hb.b.pe (pa_cons (pe_un un_neg pe_int) pa_nil) hs2) hs) hs (by rw [hs2]; rfl)) fun σ H R ⟨sr, O, H0, ad, he, hw⟩ => ⟨sr, O, H0, ad, he, by
      have hw := le2 (f := fun x y => lf (m := m) (rangeDO x y)) (g := fun x y => Wp.guard ((bdd x && bdd y) = true) (upFrom x (-1) (x - y).toNat)) (fun _ _ => leg) _ hw
      refine (Mn.wp wa).mono (fun x q v H1 x1 r => ⟨sr, O, H0, ad, he.ext' x1, (Mn.wp wb).mono (fun y ⟨h, q⟩ v2 H2 x2 r2 => ?_) q⟩) hw
      cases r; cases r2
      have h := Bool.and_eq_true_iff.mp h
      obtain ⟨h1, h2⟩ := bdd_is h.1
      obtain ⟨h3, h4⟩ := bdd_is h.2
      exact ⟨1, rfl, x, y, -1, (x - y).toNat, rfl, RgC.neg h1 h2 h3 h4, q _ H2 (x1.trans x2) wkn_rangeC⟩⟩⟩
/-! ### reversed, zip, enumerate -/
theorem rev_at {xs : List α} {i : Nat} (hi : i < xs.length) : xs.reverse[i]? = xs[xs.length - 1 - i]? := by
  rw [List.getElem?_reverse hi]
theorem JI.rev {k : Kd} {wa : m (List α)} (hg : Gl X "reversed") (hm : X.mg "reversed" = none) (ha : JE X true a ρ (eQ k E) wa) (hs : starEach [a] X.env = (false, eval a X.env) :: starEach [] X.env := by rfl) : JI X M tg (.Call (.Name "reversed" p) [a] [] pos) ρ E (bd wa fun xs => rt xs.reverse) :=
  ⟨pi_weak (RT.pi_revA hg hm ha.b.pe hs) fun σ H R ⟨sr, O, H0, ad, he, hw⟩ => ⟨sr, O, H0, ad, he, by
      have hw := le1 (f := fun x : List α => rt (m := m) x.reverse) (g := fun x : List α => Wp.pure x.reverse) (fun _ => lep) _ hw
      refine (Mn.wp wa).mono (fun xs q v H1 x1 r => ?_) hw
      cases k with
      | l =>
        obtain ⟨p, vs, rfl, hs, hn, rs⟩ := r.seqL
        have hl : vs.length = xs.length := by rw [rs.length, List.length_map]
        refine ⟨p, vs, rfl, .inl ⟨.inl (.inl hs), q _ H1 x1 ⟨fun i H hi g => ?_, fun H g => ?_, fun i H v H' hi g y => ?_⟩⟩⟩
        · rw [List.length_reverse] at hi
          exact ⟨by omega, vs, vs[vs.length - 1 - i]'(by omega), .inl (.inl ((g.le OM.le).1 p _ hs hn)), List.getElem?_eq_getElem (by omega)⟩
        · rw [List.length_reverse, ← hl]; exact Nat.le_refl _
        · obtain ⟨rfl, y⟩ := y
          rw [List.length_reverse] at hi
          obtain ⟨d, hd, rd⟩ := (rs.out.keep (g.le fun a h => .inl (OM.le a h))).get' (y vs (.inl (.inl ((g.le OM.le).1 p _ hs hn))))
          rw [List.getElem?_map] at hd
          obtain ⟨x, hx, rfl⟩ := Option.map_eq_some_iff.mp hd
          exact ⟨All.refl, x, by rw [rev_at hi, ← hl]; exact hx, rd⟩
      | t =>
        obtain ⟨p, vs, rfl, hs, rs⟩ := r.seqT
        have hl : vs.length = xs.length := by rw [rs.length, List.length_map]
        refine ⟨p, vs, rfl, .inr ⟨hs, q _ H1 x1 ⟨fun i H hi g => ?_, fun H g => ?_, fun i H v H' hi g y => ?_⟩⟩⟩
        · rw [List.length_reverse] at hi
          exact ⟨by omega, vs, vs[vs.length - 1 - i]'(by omega), g.2 _ _ hs, List.getElem?_eq_getElem (by omega)⟩
        · rw [List.length_reverse, ← hl]; exact Nat.le_refl _
        · obtain ⟨rfl, y⟩ := y
          rw [List.length_reverse] at hi
          obtain ⟨d, hd, rd⟩ := (rs.out.keep (g.le fun a h => .inl (OM.le a h))).get' (y vs (g.2 _ _ hs))
          rw [List.getElem?_map] at hd
          obtain ⟨x, hx, rfl⟩ := Option.map_eq_some_iff.mp hd
          exact ⟨All.refl, x, by rw [rev_at hi, ← hl]; exact hx, rd⟩⟩⟩
def enumL (i : Int) : List α → List (Int × α)
  | [] => []
  | x :: xs => (i, x) :: enumL (i + 1) xs
theorem enumL_len : ∀ (xs : List α) (i : Int), (enumL i xs).length = xs.length
  | [], _ => rfl
  | x :: xs, i => by rw [enumL, List.length_cons, List.length_cons, enumL_len xs]
theorem enumL_get : ∀ (xs : List α) (i : Int) (j : Nat) (x : α), xs[j]? = some x → (enumL i xs)[j]? = some (i + j, x)
  | [], _, _, _, h => by simp at h
  | y :: xs, i, 0, x, h => by simp at h; subst h; simp [enumL]
  | y :: xs, i, j + 1, x, h => by
    rw [enumL, List.getElem?_cons_succ, enumL_get xs (i + 1) j x (by simpa using h)]
    congr 2
    omega
variable {elts : List Expr} {kk : Nat} {tpos : Pos}
theorem JI.enum {wa : m (List α)} (hg : Gl X "enumerate") (hm : X.mg "enumerate" = none) (ha : JE X true a ρ (eL E) wa) (hs : starEach [a] X.env = [(false, eval a X.env)] := by rfl) : JI X M (.Tuple elts kk tpos) (.Call (.Name "enumerate" p) [a] [] pos) ρ (eP eI E) (bd wa fun xs => rt (enumL 0 xs)) :=
  ⟨pi_weak (pi_enum hg hm (pa_cons ha.b.pe pa_nil hs) hs) fun σ H R ⟨sr, O, H0, ad, he, hw⟩ => ⟨sr, O, H0, ad, he, by
      have hw := le1 (f := fun x => rt (m := m) (enumL 0 x)) (g := fun x => Wp.pure (enumL 0 x)) (fun _ => lep) _ hw
      refine (Mn.wp wa).mono (fun xs q v H1 x1 r => ?_) hw
      obtain ⟨p, vs, rfl, hs, hn, rs⟩ := r.seqL
      have hl : vs.length = xs.length := by rw [rs.length, List.length_map]
      refine ⟨p, vs, rfl, .inl (.inl hs), q _ H1 x1 ⟨fun i H hi g => ?_, fun H g => ?_, fun i H v H' hi g y => ?_⟩⟩
      · rw [enumL_len] at hi
        exact ⟨vs, vs[i]'(by omega), .inl (.inl ((g.le OM.le).1 p _ hs hn)), List.getElem?_eq_getElem (by omega)⟩
      · rw [enumL_len]; exact ⟨vs, .inl (.inl ((g.le OM.le).1 p _ hs hn)), by omega⟩
      · obtain ⟨T, z, rfl, hT, rfl, y⟩ := y
        obtain ⟨d, hd, rd⟩ := (rs.out.keep (g.le fun a h => .inl (OM.le a h))).get' (y vs (.inl (.inl ((g.le OM.le).1 p _ hs hn))))
        rw [List.getElem?_map] at hd
        obtain ⟨x, hx, rfl⟩ := Option.map_eq_some_iff.mp hd
        refine ⟨All.new hT, ((i : Nat) : Int) |> fun j => (j, x), by rw [enumL_get xs 0 i x hx]; simp, .t (.inl (.inl upd_same)) (.cons (.i _) (.cons (rd.keep (All.new hT).keep) .nil))⟩⟩⟩
theorem zip_get : ∀ {xs : List α} {ys : List β} {i : Nat} {x : α} {y : β}, xs[i]? = some x → ys[i]? = some y → (xs.zip ys)[i]? = some (x, y)
  | [], _, _, _, _, h, _ => by simp at h
  | _ :: _, [], _, _, _, _, h => by simp at h
  | x :: xs, y :: ys, 0, _, _, h, h' => by simp at h h'; subst h; subst h'; rfl
  | x :: xs, y :: ys, i + 1, _, _, h, h' => by
    rw [List.zip_cons_cons, List.getElem?_cons_succ]
    exact zip_get (by simpa using h) (by simpa using h')
theorem JI.zip {k : Kd} {wa : m (List α)} {wb : m (List β)} (hg : Gl X "zip") (hm : X.mg "zip" = none) (ha : JE X true a ρ (eQ k E) wa) (hb : JE X true b ρ (eQ k F) wb) (hs : St2 X a b := by rfl) (hs2 : St1 X b := by rfl) : JI X M (.Tuple elts kk tpos) (.Call (.Name "zip" p) [a, b] [] pos) ρ (eP E F) (bd wa fun xs => bd wb fun ys => rt (xs.zip ys)) :=
  ⟨pi_weak (RZ.pi_zipA hg hm (pa_cons ha.b.pe (pa_cons hb.b.pe pa_nil hs2) hs) hs (by rw [hs2]; rfl)) fun σ H R ⟨sr, O, H0, ad, he, hw⟩ => ⟨sr, O, H0, ad, he, by
      have hw := le2 (f := fun (x : List α) (y : List β) => rt (m := m) (x.zip y)) (g := fun (x : List α) (y : List β) => Wp.pure (x.zip y)) (fun _ _ => lep) _ hw
      refine (Mn.wp wa).mono (fun xs q v H1 x1 r => ⟨sr, O, H0, ad, he.ext' x1, (Mn.wp wb).mono (fun ys q v2 H2 x2 r2 => ?_) q⟩) hw
      have r := r.ext x2 (he.sOM true)
      cases k with
      | l =>
        obtain ⟨p1, vs, rfl, hs, hn, rs⟩ := r.seqL
        obtain ⟨p2, us, rfl, hs2, hn2, rs2⟩ := r2.seqL
        have hl : vs.length = xs.length := by rw [rs.length, List.length_map]
        have hl2 : us.length = ys.length := by rw [rs2.length, List.length_map]
        refine ⟨p1, p2, vs, us, rfl, .inl ⟨.inl (.inl hs), .inl (.inl hs2), q _ H2 (x1.trans x2) ⟨fun i H hi g => ?_, fun H g => ?_, fun i H v H' hi g y => ?_⟩⟩⟩
        · rw [List.length_zip] at hi
          exact ⟨vs, us, vs[i]'(by omega), us[i]'(by omega), .inl (.inl ((g.le OM.le).1 p1 _ hs hn)), .inl (.inl ((g.le OM.le).1 p2 _ hs2 hn2)), List.getElem?_eq_getElem (by omega), List.getElem?_eq_getElem (by omega)⟩
        · refine ⟨vs, us, .inl (.inl ((g.le OM.le).1 p1 _ hs hn)), .inl (.inl ((g.le OM.le).1 p2 _ hs2 hn2)), ?_⟩
          rw [List.length_zip]; omega
        · obtain ⟨T, z1, z2, rfl, hT, rfl, y, y2⟩ := y
          obtain ⟨d, hd, rd⟩ := (rs.out.keep (g.le fun a h => .inl (OM.le a h))).get' (y vs (.inl (.inl ((g.le OM.le).1 p1 _ hs hn))))
          obtain ⟨d2, hd2, rd2⟩ := (rs2.out.keep (g.le fun a h => .inl (OM.le a h))).get' (y2 us (.inl (.inl ((g.le OM.le).1 p2 _ hs2 hn2))))
          rw [List.getElem?_map] at hd hd2
          obtain ⟨x, hx, rfl⟩ := Option.map_eq_some_iff.mp hd
          obtain ⟨x2, hx2, rfl⟩ := Option.map_eq_some_iff.mp hd2
          exact ⟨All.new hT, (x, x2), zip_get hx hx2, .t (.inl (.inl upd_same)) (.cons (rd.keep (All.new hT).keep) (.cons (rd2.keep (All.new hT).keep) .nil))⟩
      | t =>
        obtain ⟨p1, vs, rfl, hs, rs⟩ := r.seqT
        obtain ⟨p2, us, rfl, hs2, rs2⟩ := r2.seqT
        have hl : vs.length = xs.length := by rw [rs.length, List.length_map]
        have hl2 : us.length = ys.length := by rw [rs2.length, List.length_map]
        refine ⟨p1, p2, vs, us, rfl, .inr ⟨hs, hs2, q _ H2 (x1.trans x2) ⟨fun i H hi g => ?_, fun H g => ?_, fun i H v H' hi g y => ?_⟩⟩⟩
        · rw [List.length_zip] at hi
          exact ⟨vs, us, vs[i]'(by omega), us[i]'(by omega), g.2 _ _ hs, g.2 _ _ hs2, List.getElem?_eq_getElem (by omega), List.getElem?_eq_getElem (by omega)⟩
        · refine ⟨vs, us, g.2 _ _ hs, g.2 _ _ hs2, ?_⟩
          rw [List.length_zip]; omega
        · obtain ⟨T, z1, z2, rfl, hT, rfl, y, y2⟩ := y
          obtain ⟨d, hd, rd⟩ := (rs.out.keep (g.le fun a h => .inl (OM.le a h))).get' (y vs (g.2 _ _ hs))
          obtain ⟨d2, hd2, rd2⟩ := (rs2.out.keep (g.le fun a h => .inl (OM.le a h))).get' (y2 us (g.2 _ _ hs2))
          rw [List.getElem?_map] at hd hd2
          obtain ⟨x, hx, rfl⟩ := Option.map_eq_some_iff.mp hd
          obtain ⟨x2, hx2, rfl⟩ := Option.map_eq_some_iff.mp hd2
          exact ⟨All.new hT, (x, x2), zip_get hx hx2, .t (.inl (.inl upd_same)) (.cons (rd.keep (All.new hT).keep) (.cons (rd2.keep (All.new hT).keep) .nil))⟩⟩⟩
end
end Wk

namespace Wk
open PySem PySem.Spec PyProof.Rows L2

/-! ### targets -/
def unads (ad : Nat → Option Addr) (js : List Nat) : Nat → Option Addr := fun j => if j ∈ js then none else ad j
theorem unads_nil {ad : Nat → Option Addr} : unads ad [] = ad := funext fun j => by unfold unads; rw [if_neg (by simp)]
theorem unads_cons {ad : Nat → Option Addr} {i : Nat} {js : List Nat} : unads ad (i :: js) = unad (unads ad js) i := funext fun j => by
  unfold unads unad
  by_cases h : j = i
  · subst h; simp
  · by_cases h2 : j ∈ js <;> simp [h, h2]
theorem unads_comm {ad : Nat → Option Addr} {i : Nat} {js : List Nat} : unads (unad ad i) js = unad (unads ad js) i := funext fun j => by
  unfold unads unad
  by_cases h : j = i
  · subst h; simp
  · by_cases h2 : j ∈ js <;> simp [h, h2]
def Off (js : List Nat) (σ σ' : L2.St) : Prop := σ'.length = σ.length ∧ ∀ i, i ∉ js → σ'[i]? = σ[i]?
section
variable {m : Type → Type} [Mn m] {α β γ δ : Type}
variable {X : Cx} {M : Bool} {e a b c iter tg : Expr} {es : List Expr} {ρ : List Slot} {E : α → D} {F : β → D} {p pos : Pos}
def tG (K : PySem.W.Frag) (mg : Str → Option Value) (js : List Nat) (E : α → D) (up : List Slot → α → List Slot) : TG := fun v σ H Q =>
  ∃ sr O H0 ad ρ x, Env K mg sr O H0 H σ ρ ad ∧ Rep K mg (OO O ad) H v (E x) ∧ ∀ σ', Env K mg sr O H0 H σ' (up ρ x) (unads ad js) → Off js σ σ' → Q σ' H
structure JG (X : Cx) (tg : Expr) (js : List Nat) (E : α → D) (up : List Slot → α → List Slot) : Prop where
  pg : PG X tg (tG X.K X.mg js E up)
theorem pg_weak {X : Cx} {tg : Expr} {t t' : TG} (h : PG X tg t) (k : ∀ v σ H Q, t' v σ H Q → t v σ H Q) : PG X tg t' := ⟨fun pins s σ H v u Q I r hw => h.run pins s σ H v u Q I r (k v σ H Q hw)⟩
theorem off_set {σ : L2.St} {j : Nat} {v : Option V} : Off [j] σ (σ.set j v) := ⟨by simp, fun i h => by
  rw [List.getElem?_set_ne]
  intro z; exact h (by simp [z])⟩
theorem JG.name (j : Nat) {n : Str} (hN : X.N.Nodup) (hi : X.N[j]? = some n) (hx : Loc X.env.scope n) (hf : X.fn n = true ∨ X.env.scope.names.lookup n = some .local) : JG X (.Name n pos) [j] E fun ρ x => ρ.set j (.d (E x)) :=
  ⟨pg_weak (pg_name hN hi hx hf) fun v σ H Q ⟨sr, O, H0, ad, ρ, x, he, r, k⟩ => k _ (by
    rw [unads_cons, unads_nil]
    exact he.put j v (E x) r) off_set⟩
theorem JG.pair (i j : Nat) {n n2 : Str} {p2 : Pos} {kk : Nat} (hc : X.calm = true) (hN : X.N.Nodup) (hi : X.N[i]? = some n) (hx : Loc X.env.scope n) (hf : X.fn n = true ∨ X.env.scope.names.lookup n = some .local) (hi2 : X.N[j]? = some n2) (hx2 : Loc X.env.scope n2) (hf2 : X.fn n2 = true ∨ X.env.scope.names.lookup n2 = some .local) :
    JG X (.Tuple [.Name n p, .Name n2 p2] kk pos) [i, j] (eP E F) fun ρ x => (ρ.set i (.d (E x.1))).set j (.d (F x.2)) :=
  ⟨pg_weak (pg_tup hc (pgs_cons (pg_name hN hi hx hf) (pgs_cons (pg_name hN hi2 hx2 hf2) pgs_nil (by rfl)) (by rfl)) (by rfl) (by rfl)) fun v σ H Q ⟨sr, O, H0, ad, ρ, x, he, r, k⟩ => by
    cases r with
    | t h1 h2 =>
      cases h2 with
      | cons r1 h2 =>
        cases h2 with
        | cons r2 h2 =>
          cases h2
          refine ⟨_, _, rfl, h1, rfl, _, _, rfl, _, _, rfl, rfl, k _ ?_ ⟨by simp, fun l hl => ?_⟩⟩
          · have := (he.put i _ (E x.1) r1).put j _ (F x.2) (r2.sub unad_le)
            rw [unads_cons, unads_cons, unads_nil]
            have e2 : unad (unad ad j) i = unad (unad ad i) j := funext fun l => by
              unfold unad
              by_cases h : l = i <;> by_cases h2 : l = j <;> simp [h, h2]
            rw [e2]
            exact this
          · rw [List.getElem?_set_ne (fun z => hl (by simp [z])), List.getElem?_set_ne (fun z => hl (by simp [z]))]⟩

/-! ### comprehensions -/
def wipeS (ρ : List Slot) : List Nat → List Slot
  | [] => ρ
  | v :: vs => (wipeS ρ vs).set v .u
theorem Env.wipe {K : PySem.W.Frag} {mg : Str → Option Value} {sr : Option Addr} {O : Addr → Prop} {H0 H : Hp} {σ : L2.St} {ad : Nat → Option Addr} (e : Env K mg sr O H0 H σ ρ ad) : ∀ vs : List Nat, Env K mg sr O H0 H (L2.wipe σ vs) (wipeS ρ vs) (unads ad vs)
  | [] => by rw [unads_nil]; exact e
  | v :: vs => by
    rw [unads_cons]
    exact (Env.wipe e vs).forget v none
theorem wipe_at (σ : L2.St) (i : Nat) : ∀ vs : List Nat, (L2.wipe σ vs)[i]? = if i ∈ vs ∧ i < σ.length then some none else σ[i]?
  | [] => by rw [if_neg (by simp)]; rfl
  | v :: vs => by
    unfold L2.wipe
    by_cases h : v = i
    · subst h
      by_cases hl : v < σ.length
      · rw [List.getElem?_set_self (by rw [wipe_length]; exact hl), if_pos ⟨by simp, hl⟩]
      · rw [List.getElem?_eq_none (by rw [List.length_set, wipe_length]; omega), if_neg (fun z => hl z.2), List.getElem?_eq_none (by omega)]
    · rw [List.getElem?_set_ne h, wipe_at σ i vs]
      have : (i ∈ v :: vs ∧ i < σ.length) ↔ (i ∈ vs ∧ i < σ.length) := by
        rw [List.mem_cons]
        exact ⟨fun z => ⟨z.1.resolve_left (fun q => h q.symm), z.2⟩, fun z => ⟨.inr z.1, z.2⟩⟩
      simp only [this]
theorem wipe_off {σ σ' : L2.St} {js vs : List Nat} (h : Off js (L2.wipe σ vs) σ') (hj : ∀ j ∈ js, j ∈ vs) : L2.wipe σ' vs = L2.wipe σ vs := by
  apply List.ext_getElem?
  intro i
  have hl : σ'.length = σ.length := by rw [h.1, wipe_length]
  rw [wipe_at, wipe_at, hl]
  by_cases hi : i ∈ vs
  · by_cases h2 : i < σ.length
    · rw [if_pos ⟨hi, h2⟩, if_pos ⟨hi, h2⟩]
    · rw [if_neg (fun z => h2 z.2), if_neg (fun z => h2 z.2), List.getElem?_eq_none (by omega), List.getElem?_eq_none (by omega)]
  · rw [if_neg (fun z => hi z.1), if_neg (fun z => hi z.1), h.2 i (fun z => hi (hj i z)), wipe_at, if_neg (fun z => hi z.1)]
/-- no list of one's own stands at these slots -/
def ownFree (ρ : List Slot) (vs : List Nat) : Bool := vs.all fun j => match ρ[j]? with
  | some (.l _) => false
  | some (.ob _ _ _ _) => false
  | _ => true
theorem ownFree_ad {K : PySem.W.Frag} {mg : Str → Option Value} {sr : Option Addr} {O : Addr → Prop} {H0 H : Hp} {σ : L2.St} {ad : Nat → Option Addr} (e : Env K mg sr O H0 H σ ρ ad) {vs : List Nat} (h : ownFree ρ vs = true) : unads ad vs = ad := funext fun j => by
  unfold unads
  split
  · rename_i hj
    have := List.all_eq_true.mp h j hj
    have ej := e.at_ j
    revert ej this
    generalize ρ[j]? = s
    intro this ej
    match s, this, ej with
    | none, _, ej => exact ej.symm
    | some .u, _, ej => exact ej.symm
    | some (.d x), _, ej => exact ej.1.symm
    | some .src, _, ej => exact ej.1.symm
    | some (.l _), this, _ => cases this
    | some (.ob _ _ _ _), this, _ => cases this
  · rfl
/-- the outer heap with a new list at D, left out -/
theorem Env.more {K : PySem.W.Frag} {mg : Str → Option Value} {sr : Option Addr} {O : Addr → Prop} {H0 H H' : Hp} {σ : L2.St} {ad : Nat → Option Addr} (e : Env K mg sr O H0 H σ ρ ad) {d : Addr} (hd : H d = none) (x : Ext sr H H') (hm : Mut (H' d)) : Env K mg sr (fun a => O a ∨ a = d) H0 H' σ ρ ad := by
  have e' := e.ext' x
  have le : ∀ a, OO (fun a => O a ∨ a = d) ad a → OO O ad a ∨ a = d := fun a h => by
    rcases h with (h | h) | h
    · exact .inl (.inl h)
    · exact .inr h
    · exact .inl (.inr h)
  refine ⟨e.len, fun j => ?_, e.inj, e.frs, e'.mu, fun S h => ⟨.inl (e'.sO S h), e'.srs S h⟩, fun p h => h.elim (e'.dom p) (fun z => by rw [z]; exact hm), fun j p h z => z.elim (e.dis j p h) (fun z => by
    have := e.mu j p h; rw [z, hd] at this; exact this), e'.ext⟩
  have q : SlotOk K mg (fun a => OO O ad a ∨ a = d) sr H σ[j]? (ad j) ρ[j]? := by
    have := e.at_ j
    revert this
    generalize ρ[j]? = s
    generalize σ[j]? = v
    generalize ad j = a
    intro h
    match s, h with
    | none, h => exact h
    | some .u, h => exact h
    | some (.d x), ⟨h1, w, h2, h3⟩ => exact ⟨h1, w, h2, h3.fresh hd⟩
    | some (.l xs), ⟨p, vs, h1, h2, h3, h4⟩ => exact ⟨p, vs, h1, h2, h3, h4.fresh hd⟩
    | some (.ob p c ns ds), ⟨C, dx, fs, h1, h2, h3, h4, h5, h6⟩ => exact ⟨C, dx, fs, h1, h2, h3, h4, h5, h6.fresh hd⟩
    | some .src, h => exact h
  exact (q.ext x (fun S h => .inl (.inl (e.sO S h))) (fun p h z => e.dis j p h (e.sO p z))).sub le
def lcM (c : α → m Bool) (f : α → m β) : List α → m (List β)
  | [] => rt []
  | x :: xs => bd (c x) fun b => ifM b (bd (f x) fun y => bd (lcM c f xs) fun ys => rt (y :: ys)) (lcM c f xs)
/-- no more than a list may hold -/
def szO (xs : List α) : Option (List α) := if xs.length ≤ 16777216 then some xs else none
structure JTs (X : Cx) (ifs : List Expr) (ρ : List Slot) (a : m Bool) : Prop where
  pt : PTs X ifs (tT X.K X.mg ρ (Mn.wp a))
theorem JTs.nil : JTs X [] ρ (rt (m := m) true) := ⟨⟨fun pins s σ H Q I ⟨sr, O, H0, ad, he, hw⟩ => pts_nil.run pins s σ H Q I ((lep _ hw) H (Ext.refl he.srs))⟩⟩
theorem JTs.one {w : m Bool} (h : JT X c ρ w) : JTs X [c] ρ w := ⟨pts_one h.b.pt⟩
theorem pe_ex {X : Cx} {e : Expr} {t : α → TE} (h : ∀ x, PE X e (t x)) : PE X e (fun σ H Q => ∃ x, t x σ H Q) := ⟨fun pins s σ H Q I ⟨x, hw⟩ => (h x).run pins s σ H Q I hw⟩
theorem pts_ex {X : Cx} {e : List Expr} {t : α → TT} (h : ∀ x, PTs X e (t x)) : PTs X e (fun σ H Q => ∃ x, t x σ H Q) := ⟨fun pins s σ H Q I ⟨x, hw⟩ => (h x).run pins s σ H Q I hw⟩
theorem get_drop {xs : List α} {i : Nat} {x : α} (h : xs[i]? = some x) : xs.drop i = x :: xs.drop (i + 1) := by
  obtain ⟨hi, e⟩ := List.getElem?_eq_some_iff.mp h
  rw [List.drop_eq_getElem_cons hi, e]
theorem leM {c : α → m Bool} {f : α → m β} {x : α} {xs : List α} : Wp.Le (Mn.wp (lcM c f (x :: xs))) ((Mn.wp (c x)).bind fun b => .ite b ((Mn.wp (f x)).bind fun y => (Mn.wp (lcM c f xs)).bind fun ys => .pure (y :: ys)) (Mn.wp (lcM c f xs))) :=
  le1 fun b => leI (le1 fun y => le1 fun ys => lep) (Wp.Le.refl _)
variable {elt : Expr} {ifs : List Expr} {scope : Scope} {own : List (Str × Nat)} {js : List Nat} {up : List Slot → α → List Slot} {cM : α → m Bool} {f : α → m β} {wx : m (List α)} {M0 : Bool}
theorem Ext.updNew {sr : Option Addr} {H H' : Hp} {d : Addr} {o : HO} (x : Ext sr H H') (hd : H d = none) : Ext sr H (upd H' d o) := by
  refine ⟨fun a u e n => ?_, fun S hS => ⟨x.srs0 S hS, ?_⟩⟩
  · rw [upd_ne (ne_of_none e hd)]; exact x.1 a u e n
  · obtain ⟨i, j, e⟩ := x.srs S hS
    obtain ⟨i', j', e'⟩ := x.srs0 S hS
    exact ⟨i, j, by rw [upd_ne (ne_of_none e' hd)]; exact e⟩
theorem JL.lc_core (hi : JI X M0 tg iter ρ E wx) (hj : ∀ j ∈ js, j ∈ own.map (·.2)) (ho : ownFree ρ (own.map (·.2)) = true) {σ : L2.St} {H : Hp} {Q : VK}
    (h : tL X.K X.mg M ρ F (Mn.wp (bd wx fun xs => bd (lf (szO xs)) fun xs => lcM cM f xs)) σ H Q) :
    tLc (tI X.K X.mg M0 ρ E (Mn.wp wx)) (tG X.K X.mg js E up) (fun σ H Q => ∃ x, tT X.K X.mg (up (wipeS ρ (own.map (·.2))) x) (Mn.wp (cM x)) σ H Q) (fun σ H Q => ∃ x, tE X.K X.mg M (up (wipeS ρ (own.map (·.2))) x) F (Mn.wp (f x)) σ H Q) (own.map (·.2)) σ H Q := by
  obtain ⟨sr, O, H0, ad, he, hw⟩ := h
  have hw := le1 (fun xs => le1 (f := fun xs => lcM cM f xs) (g := fun xs => Mn.wp (lcM cM f xs)) (fun _ => Wp.Le.refl _)) _ hw
  generalize hvs : own.map (·.2) = vs at *
  refine ⟨sr, O, H0, ad, he, (Mn.wp wx).mono (fun xs q J H1 x1 wk D hD => ?_) hw⟩
  obtain ⟨xs', exs, q⟩ := Mn.lift_le _ _ q
  unfold szO at exs
  split at exs
  · rename_i hsz
    cases exs
    have e1 := he.ext' x1
    have nsr : sr ≠ some D := fun z => by obtain ⟨i, j, w⟩ := x1.srs D z; rw [hD] at w; cases w
    refine lc_it wk (g := tG X.K X.mg js E up) (tt := fun σ H Q => ∃ x, tT X.K X.mg (up (wipeS ρ vs) x) (Mn.wp (cM x)) σ H Q) (te := fun σ H Q => ∃ x, tE X.K X.mg M (up (wipeS ρ vs) x) F (Mn.wp (f x)) σ H Q) (vs := vs) (σ := σ) (Qd := fun H => Q (.ref D) H) (fun i H' => ∃ ys acc, H' D = some (.lst acc) ∧ acc.length ≤ i ∧ Reps X.K X.mg (fun a => OM M O ad a ∨ a = D) H' acc (ys.map F) ∧ Ext sr H1 H' ∧ (Mn.wp (lcM cM f (xs.drop i))).run fun zs => ∀ p vs H', H p = none → Ext sr H H' → H' p = some (.lst vs) → Reps X.K X.mg (fun a => OM M O ad a ∨ a = p) H' vs ((ys ++ zs).map F) → Q (.ref p) H')
      ⟨[], [], upd_same, Nat.le_refl _, .nil, Ext.new x1.srs hD, by rw [List.drop_zero]; exact q⟩ (fun i H' _ ⟨ys, acc, _, _, _, x2, _⟩ => x2.keep fun S hS => OM.of _ (he.sO S hS)) ?_ ?_
    · rintro i v H2 H3 hi ⟨ys, acc, h1, h2, h3, x2, hr⟩ ⟨ha, x, hx, rx⟩
      have x3 : Ext sr H1 H3 := x2.trans (ha.ext x2.srs)
      have hD3 : H3 D = some (.lst acc) := ha D _ h1
      rw [get_drop hx] at hr
      have hr := leM _ hr
      have e3 := (e1.more hD x3 (by rw [hD3]; trivial)).wipe vs
      have ead : unads ad vs = ad := ownFree_ad he ho
      rw [ead] at e3
      refine ⟨sr, _, H0, ad, _, x, e3, rx.sub (fun a z => ?_), fun σ' e4 off => ⟨wipe_off off hj, x, sr, _, H0, _, e4, (Mn.wp (cM x)).mono (fun b hb H4 x4 => ?_) hr⟩⟩
      · rcases z with (z | z) | z
        · exact .inl (.inl z)
        · rw [z]; exact .inr hD
        · exact .inl (.inr z)
      have eads : unads ad js = ad := funext fun j => by
        unfold unads
        split
        · rename_i hjj
          have := congrFun ead j
          unfold unads at this
          rw [if_pos (hj j hjj)] at this
          exact this
        · rfl
      rw [eads] at e4
      have hD4 : H4 D = some (.lst acc) := x4.1 D _ hD3 nsr
      have r4 : Reps X.K X.mg (fun a => OM M O ad a ∨ a = D) H4 acc (ys.map F) := h3.ext ((ha.ext x2.srs).trans x4) (fun S hS => .inl (he.sOM M S hS))
      cases b with
      | true =>
        dsimp only
        rw [if_pos rfl]
        have hb : ((Mn.wp (f x)).bind _).run _ := hb
        refine ⟨x, sr, _, H0, ad, e4.ext' x4, (Mn.wp (f x)).mono (fun y hy v H5 x5 ry => ?_) hb⟩
        have hD5 : H5 D = some (.lst acc) := x5.1 D _ hD4 nsr
        refine ⟨acc, hD5, ?_, ys ++ [y], acc ++ [v], upd_same, by simp; omega, ?_, ?_, (Mn.wp _).mono (fun zs hz => ?_) hy⟩
        · have := (List.getElem?_eq_some_iff.mp hx).1
          have : sizeLine = 16777216 := rfl
          omega
        · rw [List.map_append]
          refine Reps.append ((r4.ext x5 (fun S hS => .inl (he.sOM M S hS))).upd (.inr rfl) hD5 trivial) (.cons ?_ .nil)
          have ry : Rep X.K X.mg (fun a => OM M O ad a ∨ a = D) H5 v (F y) := ry.sub fun a z => by
            cases M with
            | true =>
              rcases z with (z | z) | z
              · exact .inl (.inl z)
              · exact .inr z
              · exact .inl (.inr z)
            | false => exact z
          exact ry.upd (.inr rfl) hD5 trivial
        · exact (x3.trans (x4.trans x5)).updNew hD
        · have hz : ∀ p vs H', H p = none → Ext sr H H' → H' p = some (.lst vs) → Reps X.K X.mg (fun a => OM M O ad a ∨ a = p) H' vs ((ys ++ y :: zs).map F) → Q (.ref p) H' := hz
          rw [List.append_assoc]
          exact hz
      | false =>
        dsimp only
        rw [if_neg Bool.false_ne_true]
        exact ⟨ys, acc, hD4, by omega, r4, x3.trans x4, hb⟩
    · rintro H' ⟨ys, acc, h1, h2, h3, x2, hr⟩
      rw [List.drop_length] at hr
      have hr := lep (m := m) _ hr
      have hr : ∀ p vs H', H p = none → Ext sr H H' → H' p = some (.lst vs) → Reps X.K X.mg (fun a => OM M O ad a ∨ a = p) H' vs ((ys ++ []).map F) → Q (.ref p) H' := hr
      rw [List.append_nil] at hr
      exact hr D acc H' (x1.back hD) (x1.trans x2) h1 h3
  · cases exs

abbrev Blk (X : Cx) (s : Shared) (H : Hp) (scope : Scope) (C : Addr) (cl : List (Str × Addr)) (fp : List Addr) : Cx := X.blk s H scope (compEnvC scope cl C X.env) fp
theorem JL.lc (hc : X.calm = true) (hN : X.N.Nodup) (hi : JI X M0 tg iter ρ E wx) (ok : BlkOk X.N X.env.scope scope own) (hj : ∀ j ∈ js, j ∈ own.map (·.2)) (ho : ownFree ρ (own.map (·.2)) = true)
    (hg : ∀ s H C cl fp, JG (Blk X s H scope C cl fp) tg js E up) (ht : ∀ s H C cl fp x, JTs (Blk X s H scope C cl fp) ifs (up (wipeS ρ (own.map (·.2))) x) (cM x)) (he : ∀ s H C cl fp x, JE (Blk X s H scope C cl fp) M elt (up (wipeS ρ (own.map (·.2))) x) F (f x)) (hs : ∀ x, foldedSetIterable iter X.env x = pure x := by intro _; rfl) :
    JL X M (.ListComp elt [⟨tg, iter, ifs, 0⟩] scope pos) ρ F (bd wx fun xs => bd (lf (szO xs)) fun xs => lcM cM f xs) :=
  ⟨⟨pe_weak (pe_lc hc hN hi.b ok (fun s H C cl fp => (hg s H C cl fp).pg) (fun s H C cl fp => pts_ex fun x => (ht s H C cl fp x).pt) (fun s H C cl fp => pe_ex fun x => (he s H C cl fp x).b.pe) hs) fun σ H Q h => JL.lc_core hi hj ho h⟩⟩
/-- .. no if -/
def mapM' (f : α → m β) : List α → m (List β)
  | [] => rt []
  | x :: xs => bd (f x) fun y => bd (mapM' f xs) fun ys => rt (y :: ys)
theorem mapM_le (f : α → m β) : ∀ xs, Wp.Le (Mn.wp (mapM' f xs)) (Mn.wp (lcM (fun _ => rt true) f xs))
  | [] => Wp.Le.refl _
  | x :: xs => by
    intro P h
    have h := le1 (f := fun y => bd (mapM' f xs) fun ys => rt (m := m) (y :: ys)) (g := fun y => (Mn.wp (mapM' f xs)).bind fun ys => .pure (y :: ys)) (fun y => le1 fun ys => lep) _ h
    refine Mn.bind_ge _ _ _ (Mn.pure_ge _ _ ?_)
    show (Mn.wp (ifM true _ _)).run P
    unfold ifM
    rw [if_pos rfl]
    exact Mn.bind_ge _ _ _ ((Mn.wp (f x)).mono (fun y q => Mn.bind_ge _ _ _ ((mapM_le f xs _ ((Mn.wp _).mono (fun ys z => Mn.pure_ge _ _ z) q)))) h)
theorem JL.lc0 (hc : X.calm = true) (hN : X.N.Nodup) (hi : JI X M0 tg iter ρ E wx) (ok : BlkOk X.N X.env.scope scope own) (hj : ∀ j ∈ js, j ∈ own.map (·.2)) (ho : ownFree ρ (own.map (·.2)) = true)
    (hg : ∀ s H C cl fp, JG (Blk X s H scope C cl fp) tg js E up) (he : ∀ s H C cl fp x, JE (Blk X s H scope C cl fp) M elt (up (wipeS ρ (own.map (·.2))) x) F (f x)) (hs : ∀ x, foldedSetIterable iter X.env x = pure x := by intro _; rfl) :
    JL X M (.ListComp elt [⟨tg, iter, [], 0⟩] scope pos) ρ F (bd wx fun xs => bd (lf (szO xs)) fun xs => mapM' f xs) :=
  ⟨(JL.lc hc hN hi ok hj ho hg (fun s H C cl fp x => JTs.nil) he hs).b.conv (fun P h => Mn.bind_ge _ _ _ ((Mn.wp wx).mono (fun xs q => Mn.bind_ge _ _ _ ((Mn.wp _).mono (fun ys q => mapM_le f ys _ q) (Mn.bind_le _ _ _ q))) (Mn.bind_le _ _ _ h)))⟩

/-! ### two clauses -/
def sz4 (xs : List α) : Option (List α) := if xs.length ≤ 4000 then some xs else none
def lc2M (c : α → m Bool) (g : α → m (List β)) (c1 : α → β → m Bool) (f : α → β → m γ) : List α → m (List γ)
  | [] => rt []
  | x :: xs => bd (c x) fun b => ifM b (bd (g x) fun ys => bd (lf (sz4 ys)) fun ys => bd (lcM (c1 x) (f x) ys) fun zs => bd (lc2M c g c1 f xs) fun ws => rt (zs ++ ws)) (lc2M c g c1 f xs)
variable {g2 : α → m (List β)} {c2 : α → β → m Bool} {f2 : α → β → m γ} {G : γ → D} {F2 : β → D} {tg1 iter1 : Expr} {ifs1 : List Expr} {vs1 js1 : List Nat} {up1 : List Slot → β → List Slot} {M1 : Bool}
theorem leM2 {x : α} {xs : List α} : Wp.Le (Mn.wp (lc2M cM g2 c2 f2 (x :: xs))) ((Mn.wp (cM x)).bind fun b => .ite b ((Mn.wp (g2 x)).bind fun ys => (Wp.ofO (sz4 ys)).bind fun ys => (Mn.wp (lcM (c2 x) (f2 x) ys)).bind fun zs => (Mn.wp (lc2M cM g2 c2 f2 xs)).bind fun ws => .pure (zs ++ ws)) (Mn.wp (lc2M cM g2 c2 f2 xs))) :=
  le1 fun b => leI (le1 fun ys => (Mn.bind_le _ _).trans (Wp.Le.bind (Mn.lift_le _) fun ys => le1 fun zs => le1 fun ws => lep)) (Wp.Le.refl _)
theorem Wp.ofO_run {o : Option α} {P : α → Prop} (h : (Wp.ofO o).run P) : ∃ x, o = some x ∧ P x := h
theorem walk_gen {J : It} {n : Nat} {Gd : Hp → Prop} {Y : Nat → Hp → V → Hp → Prop} (w : Walk J n Gd Y) (Pv : Nat → Hp → Prop) (body : V → Hp → (Hp → Prop) → Prop) {Hs : Hp} {Qd : Hp → Prop} (h0 : Pv 0 Hs) (hG : ∀ i H, i ≤ n → Pv i H → Gd H)
    (hs : ∀ i x H H', i < n → Pv i H → Y i H x H' → body x H' (Pv (i + 1))) (hd : ∀ H, Pv n H → Qd H) :
    ∃ W : Nat → Nat → Hp → Prop, (∃ m, W 0 m Hs) ∧ ∀ i m H, W i m H → (J.stop i H ∧ Qd H) ∨ (J.go i H ∧ ∃ Nx : Hp → Prop, (∀ H', Nx H' → ∃ m', m' < m ∧ W (i + 1) m' H') ∧ ∀ x H', J.yld i H x H' → body x H' Nx) := by
  refine ⟨fun i m H => m = n - i ∧ i ≤ n ∧ Pv i H, ⟨n, by simp, Nat.zero_le _, h0⟩, ?_⟩
  rintro i m H ⟨rfl, hi, p⟩
  have q := hG i H hi p
  by_cases hlt : i < n
  · refine .inr ⟨w.goes i H hlt q, Pv (i + 1), fun H' p' => ⟨n - (i + 1), by omega, rfl, hlt, p'⟩, fun x H' y => hs i x H H' hlt p (w.yields i H x H' hlt q y)⟩
  · have e : i = n := by omega
    subst e
    exact .inl ⟨w.stops H q, hd H p⟩
/-- all but the list at d is kept -/
structure ExtD (d : Addr) (sr : Option Addr) (H H' : Hp) : Prop where
  k : ∀ a o, H a = some o → a ≠ d → sr ≠ some a → H' a = some o
  s : ∀ S, sr = some S → SrcAt H S ∧ SrcAt H' S
  m : ∃ xs, H d = some (.lst xs)
  m' : ∃ xs, H' d = some (.lst xs)
theorem ExtD.sqT {K : PySem.W.Frag} {d : Addr} {sr : Option Addr} {H H' : Hp} (x : ExtD d sr H H') {a : Addr} {vs : List V} (h : SqT K H a vs) : SqT K H' a vs := by
  have ne : ∀ u, H a = some u → (∀ xs, u ≠ .lst xs) → sr ≠ some a := fun u h1 h2 z => by
    obtain ⟨⟨i, j, q⟩, _⟩ := x.s a z
    rw [h1] at q; cases q; exact h2 _ rfl
  have ne2 : ∀ u, H a = some u → (∀ xs, u ≠ .lst xs) → a ≠ d := fun u h1 h2 z => by
    obtain ⟨xs, q⟩ := x.m
    rw [← z, h1] at q; cases q; exact h2 _ rfl
  rcases h with (h | ⟨o, h⟩) | h
  · exact .inl (.inl (x.k a _ h (ne2 _ h fun _ z => nomatch z) (ne _ h fun _ z => nomatch z)))
  · exact .inl (.inr ⟨o, x.k a _ h (ne2 _ h fun _ z => nomatch z) (ne _ h fun _ z => nomatch z)⟩)
  · exact .inr h
theorem ExtD.keep {K : PySem.W.Frag} {P : Addr → Prop} {d : Addr} {sr : Option Addr} {H H' : Hp} (x : ExtD d sr H H') (hd : P d) (hs : ∀ S, sr = some S → P S) : Keep K P H H' :=
  ⟨fun a o e n => x.k a o e (fun z => n (by rw [z]; exact hd)) fun z => n (hs a z), fun _ _ q => x.sqT q⟩
theorem ExtD.ext {d : Addr} {sr : Option Addr} {H H1 H2 : Hp} (x : ExtD d sr H H1) (y : Ext sr H1 H2) (n : sr ≠ some d) : ExtD d sr H H2 :=
  ⟨fun a o e ne ns => y.1 a o (x.k a o e ne ns) ns, fun S hS => ⟨(x.s S hS).1, y.srs S hS⟩, x.m, let ⟨xs, e⟩ := x.m'; ⟨xs, y.1 d _ e n⟩⟩
theorem ExtD.upd {d : Addr} {sr : Option Addr} {H H1 : Hp} (x : ExtD d sr H H1) (ys : List V) (n : sr ≠ some d) : ExtD d sr H (L2.upd H1 d (.lst ys)) :=
  ⟨fun a o e ne ns => by rw [upd_ne ne]; exact x.k a o e ne ns, fun S hS => ⟨(x.s S hS).1, let ⟨i, j, e⟩ := (x.s S hS).2; ⟨i, j, by rw [upd_ne (fun z => n (by rw [hS, z]))]; exact e⟩⟩, x.m, ⟨ys, upd_same⟩⟩
theorem SlotOk.chg {K : PySem.W.Frag} {mg : Str → Option Value} {sr : Option Addr} {H H' : Hp} {Q : Addr → Prop} {v : Option (Option V)} {a : Option Addr} {s : Option Slot} (h : SlotOk K mg Q sr H v a s) (k : Keep K Q H H') (ka : ∀ p o, a = some p → H p = some o → H' p = some o) : SlotOk K mg Q sr H' v a s := by
  match s, h with
  | none, h => exact h
  | some .u, h => exact h
  | some (.d x), ⟨h1, w, h2, h3⟩ => exact ⟨h1, w, h2, h3.keep k⟩
  | some (.l xs), ⟨p, vs, h1, h2, h3, h4⟩ => exact ⟨p, vs, h1, h2, ka p _ h1 h3, h4.keep k⟩
  | some (.ob p c ns ds), ⟨C, dx, fs, h1, h2, h3, h4, h5, h6⟩ => exact ⟨C, dx, fs, h1, h2, ka p _ h1 h3, h4, h5, h6.keep k⟩
  | some .src, h => exact h
theorem Env.extD {K : PySem.W.Frag} {mg : Str → Option Value} {sr : Option Addr} {O : Addr → Prop} {H0 H H' : Hp} {σ : L2.St} {ad : Nat → Option Addr} (e : Env K mg sr O H0 H σ ρ ad) {d : Addr} (hd : O d) (x : ExtD d sr H H') (h0 : H0 d = none) : Env K mg sr O H0 H' σ ρ ad := by
  have nd : ∀ j p, ad j = some p → p ≠ d := fun j p h z => e.dis j p h (by rw [z]; exact hd)
  have ns : ∀ j p, ad j = some p → sr ≠ some p := fun j p h z => e.dis j p h (e.sO p z)
  have mtt : ∀ p, Mut (H p) → p ≠ d → sr ≠ some p → Mut (H' p) := fun p h n1 n2 => by
    obtain ⟨o, q⟩ := mut_some h
    rw [x.k p o q n1 n2, ← q]; exact h
  refine ⟨e.len, fun j => (e.at_ j).chg (x.keep (.inl hd) fun S h => .inl (e.sO S h)) fun p o h q => x.k p o q (nd j p h) (ns j p h), e.inj, e.frs, fun j p h => mtt p (e.mu j p h) (nd j p h) (ns j p h), fun S h => ⟨e.sO S h, (x.s S h).2⟩, fun p h => ?_, e.dis, fun a o h n => x.k a o (e.ext a o h n) (fun z => by rw [z, h0] at h; cases h) n⟩
  by_cases h1 : p = d
  · obtain ⟨xs, q⟩ := x.m'
    rw [h1, q]; trivial
  · by_cases h2 : sr = some p
    · obtain ⟨_, i, j, q⟩ := x.s p h2
      rw [q]; trivial
    · exact mtt p (e.dom p h) h1 h2
theorem JL.lc2_core (hi : JI X M0 tg iter ρ E wx) (hj : ∀ j ∈ js, j ∈ own.map (·.2)) (ho : ownFree ρ (own.map (·.2)) = true) (hj1 : ∀ j ∈ js1, j ∈ vs1) (hv1 : ∀ j ∈ vs1, j ∈ own.map (·.2)) {σ : L2.St} {H : Hp} {Q : VK}
    (h : tL X.K X.mg M ρ G (Mn.wp (bd wx fun xs => bd (lf (sz4 xs)) fun xs => lc2M cM g2 c2 f2 xs)) σ H Q) :
    tLc2 (tI X.K X.mg M0 ρ E (Mn.wp wx)) (tG X.K X.mg js E up) (fun σ H Q => ∃ x, tT X.K X.mg (up (wipeS ρ (own.map (·.2))) x) (Mn.wp (cM x)) σ H Q)
      (fun σ H Q => ∃ x, tI X.K X.mg M1 (up (wipeS ρ (own.map (·.2))) x) F2 (Mn.wp (g2 x)) σ H Q) (tG X.K X.mg js1 F2 up1)
      (fun σ H Q => ∃ x : α × β, tT X.K X.mg (up1 (wipeS (up (wipeS ρ (own.map (·.2))) x.1) vs1) x.2) (Mn.wp (c2 x.1 x.2)) σ H Q)
      (fun σ H Q => ∃ x : α × β, tE X.K X.mg M (up1 (wipeS (up (wipeS ρ (own.map (·.2))) x.1) vs1) x.2) G (Mn.wp (f2 x.1 x.2)) σ H Q) (own.map (·.2)) vs1 σ H Q := by
  obtain ⟨sr, O, H0, ad, he, hw⟩ := h
  have hw := le1 (fun xs => le1 (f := fun xs => lc2M cM g2 c2 f2 xs) (g := fun xs => Mn.wp (lc2M cM g2 c2 f2 xs)) (fun _ => Wp.Le.refl _)) _ hw
  generalize hvs : own.map (·.2) = vs at *
  refine ⟨sr, O, H0, ad, he, (Mn.wp wx).mono (fun xs q J H1 x1 wk D hD => ?_) hw⟩
  obtain ⟨xs', exs, q⟩ := Mn.lift_le _ _ q
  unfold sz4 at exs
  split at exs
  · rename_i hsz
    cases exs
    have e1 := he.ext' x1
    have nsr : sr ≠ some D := fun z => by obtain ⟨i, j, w⟩ := x1.srs D z; rw [hD] at w; cases w
    have ead : unads ad vs = ad := ownFree_ad he ho
    have eadj : ∀ l : List Nat, (∀ j ∈ l, j ∈ vs) → unads ad l = ad := fun l hl => funext fun j => by
      unfold unads
      split
      · rename_i hjj
        have := congrFun ead j
        unfold unads at this
        rw [if_pos (hl j hjj)] at this
        exact this
      · rfl
    let Inv0 : Nat → List γ → Hp → Prop := fun n ys H' => ∃ acc, H' D = some (.lst acc) ∧ acc.length ≤ n ∧ Reps X.K X.mg (fun a => OM M O ad a ∨ a = D) H' acc (ys.map G) ∧ Ext sr H1 H'
    let Post : List γ → Prop := fun zs => ∀ p vs H', H p = none → Ext sr H H' → H' p = some (.lst vs) → Reps X.K X.mg (fun a => OM M O ad a ∨ a = p) H' vs (zs.map G) → Q (.ref p) H'
    have inv_ext : ∀ {n ys Ha Hb}, Inv0 n ys Ha → Ext sr Ha Hb → Inv0 n ys Hb := fun {n ys Ha Hb} ⟨acc, a1, a2, a3, a4⟩ xx => ⟨acc, xx.1 D _ a1 nsr, a2, a3.ext xx (fun S hS => .inl (he.sOM M S hS)), a4.trans xx⟩
    have inv_ext1 : ∀ {n ys Ha}, Inv0 n ys Ha → Ext sr H1 Ha := fun {n ys Ha} ⟨acc, a1, a2, a3, a4⟩ => a4
    have inv_app : ∀ {n ys Ha v y}, Inv0 n ys Ha → Rep X.K X.mg (OM M (fun a => O a ∨ a = D) ad) Ha v (G y) → n < sizeLine → ∃ acc, Ha D = some (.lst acc) ∧ acc.length < sizeLine ∧ Inv0 (n + 1) (ys ++ [y]) (upd Ha D (.lst (acc ++ [v]))) := fun {n ys Ha v y} ⟨acc, a1, a2, a3, a4⟩ ry hn => by
      refine ⟨acc, a1, by omega, acc ++ [v], upd_same, by simp; omega, ?_, a4.updNew hD⟩
      rw [List.map_append]
      refine Reps.append (a3.upd (.inr rfl) a1 trivial) (.cons ?_ .nil)
      have ry : Rep X.K X.mg (fun a => OM M O ad a ∨ a = D) Ha v (G y) := ry.sub fun a z => by
        cases M with
        | true =>
          rcases z with (z | z) | z
          · exact .inl (.inl z)
          · exact .inr z
          · exact .inl (.inr z)
        | false => exact z
      exact ry.upd (.inr rfl) a1 trivial
    have more : ∀ {n ys Ha}, Inv0 n ys Ha → Env X.K X.mg sr (fun a => O a ∨ a = D) H0 Ha σ ρ ad := fun {n ys Ha} ⟨acc, a1, a2, a3, a4⟩ => e1.more hD a4 (by rw [a1]; trivial)
    refine walk_gen wk (fun i H' => ∃ ys, Inv0 (i * 4000) ys H' ∧ (Mn.wp (lc2M cM g2 c2 f2 (xs.drop i))).run fun zs => Post (ys ++ zs)) _
      ⟨[], ⟨[], upd_same, by simp, .nil, Ext.new x1.srs hD⟩, by rw [List.drop_zero]; exact q⟩ (fun i H' _ ⟨ys, hI, _⟩ => (inv_ext1 hI).keep fun S hS => OM.of _ (he.sO S hS)) ?_ ?_
    · rintro i v H2 H3 hi ⟨ys, hI, hr⟩ ⟨ha, x, hx, rx⟩
      rw [get_drop hx] at hr
      have hr := leM2 _ hr
      have hI3 := inv_ext hI (ha.ext (inv_ext1 hI).srs)
      have e3 := (more hI3).wipe vs
      rw [ead] at e3
      refine ⟨sr, _, H0, ad, _, x, e3, rx.sub (fun a z => ?_), fun σ' e4 off => ⟨wipe_off off hj, x, sr, _, H0, _, e4, (Mn.wp (cM x)).mono (fun b hb H4 x4 => ?_) hr⟩⟩
      · rcases z with (z | z) | z
        · exact .inl (.inl z)
        · rw [z]; exact .inr hD
        · exact .inl (.inr z)
      rw [eadj js hj] at e4
      have hI4 := inv_ext hI3 x4
      cases b with
      | true =>
        dsimp only
        rw [if_pos rfl]
        have hb : ((Mn.wp (g2 x)).bind _).run _ := hb
        refine ⟨x, sr, _, H0, ad, e4.ext' x4, (Mn.wp (g2 x)).mono (fun us hu J1 H5 x5 wk1 => ?_) hb⟩
        obtain ⟨us', eus, hu⟩ := Wp.ofO_run hu
        unfold sz4 at eus
        split at eus
        · rename_i hsz1
          cases eus
          have hI5 := inv_ext hI4 x5
          have e5 := (e4.ext' x4).ext' x5
          have hD5 : ∃ xs, H5 D = some (.lst xs) := let ⟨acc, a1, _⟩ := hI5; ⟨acc, a1⟩
          have h0D : H0 D = none := by
            cases z : H0 D with
            | none => rfl
            | some o => rw [e1.ext D o z nsr] at hD; cases hD
          refine walk_gen wk1 (fun j H' => ∃ zs, Inv0 (i * 4000 + j) (ys ++ zs) H' ∧ ExtD D sr H5 H' ∧ (Mn.wp (lcM (c2 x) (f2 x) (us.drop j))).run fun ts => (Mn.wp (lc2M cM g2 c2 f2 (xs.drop (i + 1)))).run fun ws => Post (ys ++ ((zs ++ ts) ++ ws))) _
            ⟨[], by rw [List.append_nil]; exact hI5, ⟨fun _ _ e _ _ => e, fun S hS => ⟨x5.srs S hS, x5.srs S hS⟩, hD5, hD5⟩, by rw [List.drop_zero]; exact hu⟩ (fun j H' _ ⟨zs, hJ, xj, _⟩ => xj.keep (OM.of _ (.inr rfl)) fun S hS => OM.of _ (.inl (he.sO S hS))) ?_ ?_
          · rintro j v1 H6 H7 hj' ⟨zs, hJ, xj, hr1⟩ ⟨ha1, y, hy, ry⟩
            rw [get_drop hy] at hr1
            have hr1 := leM _ hr1
            have sr6 : Srs sr H6 := fun S hS => (xj.s S hS).2
            have x57 := xj.ext (ha1.ext sr6) nsr
            have hJ7 := inv_ext hJ (ha1.ext sr6)
            have e7 := (e5.extD (.inr rfl) x57 h0D).wipe vs1
            rw [eadj vs1 hv1] at e7
            refine ⟨sr, _, H0, ad, _, y, e7, ry.sub (fun a z => ?_), fun σ3 e8 off1 => ⟨wipe_off off1 hj1, (x, y), sr, _, H0, _, e8, (Mn.wp (c2 x y)).mono (fun b1 hb1 H8 x8 => ?_) hr1⟩⟩
            · exact .inl z
            rw [eadj js1 (fun j h => hv1 j (hj1 j h))] at e8
            have hJ8 := inv_ext hJ7 x8
            cases b1 with
            | true =>
              dsimp only
              rw [if_pos rfl]
              have hb1 : ((Mn.wp (f2 x y)).bind _).run _ := hb1
              refine ⟨(x, y), sr, _, H0, ad, e8.ext' x8, (Mn.wp (f2 x y)).mono (fun z hz v9 H9 x9 rz => ?_) hb1⟩
              have hJ9 := inv_ext hJ8 x9
              obtain ⟨acc, a1, a2, a3⟩ := inv_app hJ9 rz (by have : sizeLine = 16777216 := rfl; omega)
              refine ⟨acc, a1, a2, zs ++ [z], by rw [← List.append_assoc]; exact a3, ?_, (Mn.wp _).mono (fun ts hts => ?_) hz⟩
              · exact ((x57.ext x8 nsr).ext x9 nsr).upd _ nsr
              · have hts : (Mn.wp (lc2M cM g2 c2 f2 (xs.drop (i + 1)))).run fun ws => Post (ys ++ ((zs ++ z :: ts) ++ ws)) := hts
                rw [List.append_assoc]
                exact hts
            | false =>
              dsimp only
              rw [if_neg Bool.false_ne_true]
              obtain ⟨acc, a1, a2, a3⟩ := hJ8
              exact ⟨zs, ⟨acc, a1, by omega, a3⟩, x57.ext x8 nsr, hb1⟩
          · rintro H6 ⟨zs, ⟨acc, a1, a2, a3⟩, xj, hr1⟩
            rw [List.drop_length] at hr1
            have hr1 := lep (m := m) _ hr1
            have hr1 : (Mn.wp (lc2M cM g2 c2 f2 (xs.drop (i + 1)))).run fun ws => Post (ys ++ ((zs ++ []) ++ ws)) := hr1
            rw [List.append_nil] at hr1
            refine ⟨ys ++ zs, ⟨acc, a1, by omega, a3⟩, (Mn.wp _).mono (fun ws h => ?_) hr1⟩
            rw [List.append_assoc]; exact h
        · cases eus
      | false =>
        dsimp only
        rw [if_neg Bool.false_ne_true]
        obtain ⟨acc, a1, a2, a3⟩ := hI4
        exact ⟨ys, ⟨acc, a1, by omega, a3⟩, hb⟩
    · rintro H' ⟨ys, ⟨acc, a1, a2, a3, a4⟩, hr⟩
      rw [List.drop_length] at hr
      have hr := lep (m := m) _ hr
      have hr : Post (ys ++ []) := hr
      rw [List.append_nil] at hr
      exact hr D acc H' (x1.back hD) (x1.trans a4) a1 a3
  · cases exs
theorem pi_ex {X : Cx} {tg e : Expr} {t : α → TI} (h : ∀ x, PI X tg e (t x)) : PI X tg e (fun σ H Q => ∃ x, t x σ H Q) := ⟨fun pins s σ H Q I ⟨x, hw⟩ => (h x).run pins s σ H Q I hw⟩
theorem JL.lc2 (hc : X.calm = true) (hN : X.N.Nodup) (hi : JI X M0 tg iter ρ E wx) (ok : BlkOk X.N X.env.scope scope own) (hj : ∀ j ∈ js, j ∈ own.map (·.2)) (ho : ownFree ρ (own.map (·.2)) = true) (hj1 : ∀ j ∈ js1, j ∈ vs1) (hv1 : ∀ j ∈ vs1, j ∈ own.map (·.2))
    (hg : ∀ s H C cl fp, JG (Blk X s H scope C cl fp) tg js E up) (ht : ∀ s H C cl fp x, JTs (Blk X s H scope C cl fp) ifs (up (wipeS ρ (own.map (·.2))) x) (cM x))
    (hi1 : ∀ s H C cl fp x, JI (Blk X s H scope C cl fp) M1 tg1 iter1 (up (wipeS ρ (own.map (·.2))) x) F2 (g2 x)) (hg1 : ∀ s H C cl fp, JG (Blk X s H scope C cl fp) tg1 js1 F2 up1)
    (ht1 : ∀ s H C cl fp x y, JTs (Blk X s H scope C cl fp) ifs1 (up1 (wipeS (up (wipeS ρ (own.map (·.2))) x) vs1) y) (c2 x y)) (he : ∀ s H C cl fp x y, JE (Blk X s H scope C cl fp) M elt (up1 (wipeS (up (wipeS ρ (own.map (·.2))) x) vs1) y) G (f2 x y))
    (hs : ∀ x, foldedSetIterable iter X.env x = pure x := by intro _; rfl) (hs1 : ∀ env x, foldedSetIterable iter1 env x = pure x := by intro _ _; rfl) :
    JL X M (.ListComp elt [⟨tg, iter, ifs, 0⟩, ⟨tg1, iter1, ifs1, 0⟩] scope pos) ρ G (bd wx fun xs => bd (lf (sz4 xs)) fun xs => lc2M cM g2 c2 f2 xs) :=
  ⟨⟨pe_weak (pe_lc2 hc hN hi.b ok hv1 (fun s H C cl fp => (hg s H C cl fp).pg) (fun s H C cl fp => pts_ex fun x => (ht s H C cl fp x).pt) (fun s H C cl fp => pi_ex fun x => (hi1 s H C cl fp x).b) (fun s H C cl fp => (hg1 s H C cl fp).pg)
    (fun s H C cl fp => pts_ex fun x : α × β => (ht1 s H C cl fp x.1 x.2).pt) (fun s H C cl fp => pe_ex fun x : α × β => (he s H C cl fp x.1 x.2).b.pe) hs hs1) fun σ H Q h => JL.lc2_core hi hj ho hj1 hv1 h⟩⟩
/-- .. no if -/
def flat2 (g : α → m (List β)) (f : α → β → m γ) : List α → m (List γ)
  | [] => rt []
  | x :: xs => bd (g x) fun ys => bd (lf (sz4 ys)) fun ys => bd (mapM' (f x) ys) fun zs => bd (flat2 g f xs) fun ws => rt (zs ++ ws)
theorem bd_le {a a' : m α} {f f' : α → m β} (h : Wp.Le (Mn.wp a) (Mn.wp a')) (k : ∀ x, Wp.Le (Mn.wp (f x)) (Mn.wp (f' x))) : Wp.Le (Mn.wp (bd a f)) (Mn.wp (bd a' f')) := fun P q =>
  Mn.bind_ge _ _ _ (h _ ((Mn.wp a).mono (fun x z => k x P z) (Mn.bind_le _ _ _ q)))
theorem flat2_le (g : α → m (List β)) (f : α → β → m γ) : ∀ xs, Wp.Le (Mn.wp (flat2 g f xs)) (Mn.wp (lc2M (fun _ => rt true) g (fun _ _ => rt true) f xs))
  | [] => Wp.Le.refl _
  | x :: xs => by
    intro P h
    refine Mn.bind_ge _ _ _ (Mn.pure_ge _ _ ?_)
    show (Mn.wp (ifM true _ _)).run P
    unfold ifM
    rw [if_pos rfl]
    exact bd_le (Wp.Le.refl _) (fun ys => bd_le (Wp.Le.refl _) fun ys => bd_le (mapM_le (f x) ys) fun zs => bd_le (flat2_le g f xs) fun ws => Wp.Le.refl _) P h
theorem JL.lc20 (hc : X.calm = true) (hN : X.N.Nodup) (hi : JI X M0 tg iter ρ E wx) (ok : BlkOk X.N X.env.scope scope own) (hj : ∀ j ∈ js, j ∈ own.map (·.2)) (ho : ownFree ρ (own.map (·.2)) = true) (hj1 : ∀ j ∈ js1, j ∈ vs1) (hv1 : ∀ j ∈ vs1, j ∈ own.map (·.2))
    (hg : ∀ s H C cl fp, JG (Blk X s H scope C cl fp) tg js E up)
    (hi1 : ∀ s H C cl fp x, JI (Blk X s H scope C cl fp) M1 tg1 iter1 (up (wipeS ρ (own.map (·.2))) x) F2 (g2 x)) (hg1 : ∀ s H C cl fp, JG (Blk X s H scope C cl fp) tg1 js1 F2 up1)
    (he : ∀ s H C cl fp x y, JE (Blk X s H scope C cl fp) M elt (up1 (wipeS (up (wipeS ρ (own.map (·.2))) x) vs1) y) G (f2 x y))
    (hs : ∀ x, foldedSetIterable iter X.env x = pure x := by intro _; rfl) (hs1 : ∀ env x, foldedSetIterable iter1 env x = pure x := by intro _ _; rfl) :
    JL X M (.ListComp elt [⟨tg, iter, [], 0⟩, ⟨tg1, iter1, [], 0⟩] scope pos) ρ G (bd wx fun xs => bd (lf (sz4 xs)) fun xs => flat2 g2 f2 xs) :=
  ⟨(JL.lc2 hc hN hi ok hj ho hj1 hv1 hg (fun s H C cl fp x => JTs.nil) hi1 hg1 (fun s H C cl fp x y => JTs.nil) he hs hs1).b.conv (bd_le (Wp.Le.refl _) fun xs => bd_le (Wp.Le.refl _) fun ys => flat2_le _ _ ys)⟩
end
end Wk

namespace Wk
open PySem PySem.Spec PyProof.Rows L2

/-! ### a def's promise -/
def FreshL (K : PySem.W.Frag) (mg : Str → Option Value) (O : Addr → Prop) (H H' : Hp) (v : V) : D → Prop
  | .l ds => ∃ p vs, v = .ref p ∧ H p = none ∧ H' p = some (.lst vs) ∧ Reps K mg (fun a => O a ∨ a = p) H' vs ds
  | _ => True
def RetOk (K : PySem.W.Frag) (mg : Str → Option Value) (O : Addr → Prop) (H H' : Hp) (v : V) (r : D) : Prop := Rep K mg O H' v r ∧ FreshL K mg O H H' v r
/-- arguments and the wish for the answer -/
def spF (K : PySem.W.Frag) (mg : Str → Option Value) (F : List D → (D → Prop) → Prop) : Sp := fun vs H Q _ => ∃ O ds, (∀ p, O p → Mut (H p)) ∧ Reps K mg O H vs ds ∧ F ds fun r => ∀ v H', All H H' → RetOk K mg O H H' v r → Q v H'
/-- no list -/
def NotL : D → Prop
  | .l _ => False
  | _ => True
def NL {α : Type} (E : α → D) : Prop := ∀ x, NotL (E x)
theorem nl_I : NL eI := fun _ => trivial
theorem nl_B : NL eB := fun _ => trivial
theorem nl_S : NL eS := fun _ => trivial
theorem nl_N : NL eN := fun _ => trivial
theorem nl_T {α : Type} {E : α → D} : NL (eT E) := fun _ => trivial
theorem nl_P {α β : Type} {E : α → D} {F : β → D} : NL (eP E F) := fun _ => trivial
theorem nl_O {α : Type} {E : α → D} (h : NL E) : NL (eO E) := fun x => by cases x; exact trivial; exact h _
theorem freshL_of {K : PySem.W.Frag} {mg : Str → Option Value} {O : Addr → Prop} {H H' : Hp} {v : V} {d : D} (h : NotL d) : FreshL K mg O H H' v d := by
  cases d <;> first | exact trivial | exact h.elim

/-! ### statements -/
inductive Fl (α τ β : Type) where
  | nx (t : α)
  | rt (b : β)
  | bk (t : τ)
  | ct (t : τ)
def Fin (sr : Option Addr) (H H' : Hp) : Prop := (∀ a o, H a = some o → sr ≠ some a → H' a = some o) ∧ Srs sr H'
section
variable {m : Type → Type} [Mn m] {α β γ δ κ τ ω : Type}
/-- what is wanted behind a block: ρx where it falls through (none: it doesn't), ρl at break and continue -/
def endOk (K : PySem.W.Frag) (mg : Str → Option Value) (sr : Option Addr) (O : Addr → Prop) (H0 : Hp) (E : β → D) (ρx : Option (α → List Slot)) (ρl : τ → List Slot) (Dd : Ends) : Fl α τ β → Prop
  | .nx t => match ρx with
    | none => False
    | some f => ∀ σ' H' ad', Env K mg sr O H0 H' σ' (f t) ad' → Dd.nx σ' H'
  | .bk t => ∀ σ' H' ad', Env K mg sr O H0 H' σ' (ρl t) ad' → Dd.bk σ' H'
  | .ct t => ∀ σ' H' ad', Env K mg sr O H0 H' σ' (ρl t) ad' → Dd.ct σ' H'
  | .rt b => ∀ v H', Fin sr H0 H' → RetOk K mg O H0 H' v (E b) → Dd.rt v H'
def tB (K : PySem.W.Frag) (mg : Str → Option Value) (ρ : List Slot) (E : β → D) (ρx : Option (α → List Slot)) (ρl : τ → List Slot) (w : Wp (Fl α τ β)) : TS := fun Dd σ H =>
  ∃ sr O H0 ad, Env K mg sr O H0 H σ ρ ad ∧ w.run (endOk K mg sr O H0 E ρx ρl Dd)
def notNx : Fl α τ β → Prop
  | .nx _ => False
  | _ => True
/-- it never falls through -/
def NN (w : Wp (Fl α τ β)) : Prop := ∀ P, w.run P → w.run fun fl => P fl ∧ notNx fl
/-- a block: e tells the ends by what a hands back -/
structure JS (X : Cx) (sts : List Stmt) (ρ : List Slot) (E : β → D) (ρx : Option (α → List Slot)) (ρl : τ → List Slot) (e : κ → Fl α τ β) (a : m κ) : Prop where
  ps : PSs X sts (tB X.K X.mg ρ E ρx ρl ((Mn.wp a).bind fun k => .pure (e k)))
  nn : ρx.isNone = true → NN ((Mn.wp a).bind fun k => .pure (e k))
variable {X : Cx} {M : Bool} {ρ : List Slot} {E : β → D} {ρx : Option (α → List Slot)} {ρl : τ → List Slot} {e : κ → Fl α τ β} {rest : List Stmt} {pos p2 p3 : Pos}
theorem pss_weak {X : Cx} {sts : List Stmt} {t t' : TS} (h : PSs X sts t) (k : ∀ Dd σ H, t' Dd σ H → t Dd σ H) : PSs X sts t' := ⟨fun pins s σ H Dd I hw => h.run pins s σ H Dd I (k Dd σ H hw)⟩
theorem ps_weak {X : Cx} {st : Stmt} {t t' : TS} (h : PS X st t) (k : ∀ Dd σ H, t' Dd σ H → t Dd σ H) : PS X st t' := ⟨fun pins s σ H Dd I hw => h.run pins s σ H Dd I (k Dd σ H hw)⟩
theorem pss_ex {X : Cx} {sts : List Stmt} {t : γ → TS} (h : ∀ x, PSs X sts (t x)) : PSs X sts (fun Dd σ H => ∃ x, t x Dd σ H) := ⟨fun pins s σ H Dd I ⟨x, hw⟩ => (h x).run pins s σ H Dd I hw⟩
theorem bdk {a : m γ} {f : γ → m κ} {P : Fl α τ β → Prop} (h : ((Mn.wp (bd a f)).bind fun k => .pure (e k)).run P) : (Mn.wp a).run fun x => ((Mn.wp (f x)).bind fun k => .pure (e k)).run P := Mn.bind_le a f _ h

theorem kdb {a : m γ} {f : γ → m κ} {P : Fl α τ β → Prop} (h : (Mn.wp a).run fun x => ((Mn.wp (f x)).bind fun k => .pure (e k)).run P) : ((Mn.wp (bd a f)).bind fun k => .pure (e k)).run P := Mn.bind_ge a f _ h
theorem rtk {k : κ} {P : Fl α τ β → Prop} (h : ((Mn.wp (rt (m := m) k)).bind fun k => .pure (e k)).run P) : P (e k) := Mn.pure_le (m := m) k _ h
theorem nn_bd {a : m γ} {f : γ → m κ} (h : ∀ x, NN ((Mn.wp (f x)).bind fun k => Wp.pure (e k))) : NN ((Mn.wp (bd a f)).bind fun k => Wp.pure (e k)) := fun P q => kdb ((Mn.wp a).mono (fun x z => h x P z) (bdk q))
theorem nn_rt {k : κ} (h : notNx (e k)) : NN ((Mn.wp (rt (m := m) k)).bind fun k => Wp.pure (e k)) := fun P q => Mn.pure_ge (m := m) k _ ⟨rtk q, h⟩
theorem nn_if {b : Bool} {u v : m κ} (h1 : NN ((Mn.wp u).bind fun k => Wp.pure (e k))) (h2 : NN ((Mn.wp v).bind fun k => Wp.pure (e k))) : NN ((Mn.wp (ifM b u v)).bind fun k => Wp.pure (e k)) := by
  cases b with
  | true => exact h1
  | false => exact h2

/-! ### the end of a block -/
/-- slots forgotten; lists of one's own that change no more -/
inductive Lw : List Slot → List Slot → Prop
  | nil : Lw [] []
  | same {s r r'} : Lw r r' → Lw (s :: r) (s :: r')
  | drop {s r r'} : Lw r r' → Lw (s :: r) (.u :: r')
  | frz {xs r r'} : Lw r r' → Lw (.l xs :: r) (.d (.l xs) :: r')
theorem Lw.refl : ∀ r, Lw r r
  | [] => .nil
  | _ :: r => .same (Lw.refl r)
theorem Lw.at_ : ∀ {r r' : List Slot}, Lw r r' → ∀ j : Nat, r'[j]? = r[j]? ∨ r'[j]? = some .u ∨ ∃ xs, r[j]? = some (.l xs) ∧ r'[j]? = some (.d (.l xs))
  | _, _, .nil, _ => .inl rfl
  | _, _, .same _, 0 => .inl rfl
  | _, _, .drop _, 0 => .inr (.inl rfl)
  | _, _, .frz _, 0 => .inr (.inr ⟨_, rfl, rfl⟩)
  | _, _, .same h, j + 1 => by simpa using h.at_ j
  | _, _, .drop h, j + 1 => by simpa using h.at_ j
  | _, _, .frz h, j + 1 => by simpa using h.at_ j
theorem Lw.len : ∀ {r r' : List Slot}, Lw r r' → r'.length = r.length
  | _, _, .nil => rfl
  | _, _, .same h => by simp [h.len]
  | _, _, .drop h => by simp [h.len]
  | _, _, .frz h => by simp [h.len]
def isOwn : Option Slot → Bool
  | some (.l _) => true
  | some (.ob _ _ _ _) => true
  | _ => false
theorem Env.lw {K : PySem.W.Frag} {mg : Str → Option Value} {sr : Option Addr} {O : Addr → Prop} {H0 H : Hp} {σ : L2.St} {ρ ρ' : List Slot} {ad : Nat → Option Addr} (he : Env K mg sr O H0 H σ ρ ad) (l : Lw ρ ρ') : ∃ ad', Env K mg sr O H0 H σ ρ' ad' ∧ ∀ j p, ad' j = some p → ad j = some p := by
  let ad' : Nat → Option Addr := fun j => if isOwn ρ'[j]? = true then ad j else none
  have some_ : ∀ {j p}, ad' j = some p → ad j = some p ∧ isOwn ρ'[j]? = true := fun {j p} h => by
    show _
    by_cases q : isOwn ρ'[j]? = true
    · simp only [ad', q, if_true] at h; exact ⟨h, q⟩
    · simp only [ad', q] at h; cases h
  have le : ∀ a, OO O ad' a → OO O ad a := fun a h => h.elim .inl fun ⟨j, z⟩ => .inr ⟨j, (some_ z).1⟩
  refine ⟨ad', ⟨by rw [he.len, l.len], fun j => ?_, fun j k p h1 h2 => he.inj j k p (some_ h1).1 (some_ h2).1, fun j p h => he.frs j p (some_ h).1, fun j p h => he.mu j p (some_ h).1, he.src, he.dom, fun j p h => he.dis j p (some_ h).1, he.ext⟩, fun j p h => (some_ h).1⟩
  have none_ : isOwn ρ'[j]? = false → ad' j = none := fun q => by simp only [ad', q]; rfl
  have own_ : isOwn ρ'[j]? = true → ad' j = ad j := fun q => by simp only [ad', q, if_true]
  have ej := he.at_ j
  rcases l.at_ j with q | q | ⟨xs, q1, q2⟩
  · cases hs : ρ[j]? with
    | none => rw [q, hs]; exact none_ (by rw [q, hs]; rfl)
    | some s =>
      rw [hs] at ej
      rw [q, hs]
      cases s with
      | u => exact none_ (by rw [q, hs]; rfl)
      | d x =>
        obtain ⟨_, w, h2, h3⟩ := ej
        exact ⟨none_ (by rw [q, hs]; rfl), w, h2, h3.sub le⟩
      | l xs =>
        obtain ⟨p, vs, h1, h2, h3, h4⟩ := ej
        exact ⟨p, vs, by rw [own_ (by rw [q, hs]; rfl)]; exact h1, h2, h3, h4.sub le⟩
      | ob p c ns ds =>
        obtain ⟨C, dx, fs, h1, h2, h3, h4, h5, h6⟩ := ej
        exact ⟨C, dx, fs, by rw [own_ (by rw [q, hs]; rfl)]; exact h1, h2, h3, h4, h5, h6.sub le⟩
      | src => exact ⟨none_ (by rw [q, hs]; rfl), ej.2⟩
  · rw [q]; exact none_ (by rw [q]; rfl)
  · rw [q1] at ej
    rw [q2]
    obtain ⟨p, vs, h1, h2, h3, h4⟩ := ej
    refine ⟨none_ (by rw [q2]; rfl), _, h2, .l h3 (fun z => ?_) (h4.sub le)⟩
    rcases z with z | ⟨k, z⟩
    · exact he.dis j p h1 z
    · obtain ⟨z1, z2⟩ := some_ z
      have := he.inj j k p h1 z1
      rw [← this, q2] at z2
      cases z2
theorem JS.nil {f : α → List Slot} (k : κ) {t : α} (hk : e k = .nx t) (l : Lw ρ (f t)) : JS X [] ρ E (some f) ρl e (rt (m := m) k) := ⟨pss_weak pss_nil fun Dd σ H ⟨sr, O, H0, ad, he, hw⟩ => (by
  have hw : endOk X.K X.mg sr O H0 E (some f) ρl Dd (e k) := rtk hw
  rw [hk] at hw
  obtain ⟨ad', he', _⟩ := he.lw l
  exact hw σ H ad' he'), fun z => by cases z⟩
/-- slots forgotten, lists given free -/
theorem JS.lw {sts : List Stmt} {ρ' : List Slot} {a : m κ} (l : Lw ρ ρ') (h : JS X sts ρ' E ρx ρl e a) : JS X sts ρ E ρx ρl e a := ⟨pss_weak h.ps fun Dd σ H ⟨sr, O, H0, ad, he, hw⟩ => by
  obtain ⟨ad', he', _⟩ := he.lw l
  exact ⟨sr, O, H0, ad', he', hw⟩, h.nn⟩
theorem JS.brk (k : κ) {t : τ} (hk : e k = .bk t) (l : Lw ρ (ρl t)) : JS X (.Break pos :: rest) ρ E ρx ρl e (rt (m := m) k) := ⟨pss_weak (pss_cons ps_break pss_never) fun Dd σ H ⟨sr, O, H0, ad, he, hw⟩ => (by
  have hw : endOk X.K X.mg sr O H0 E ρx ρl Dd (e k) := rtk hw
  rw [hk] at hw
  obtain ⟨ad', he', _⟩ := he.lw l
  exact hw σ H ad' he'), fun _ => nn_rt (by rw [hk]; trivial)⟩
theorem JS.cont (k : κ) {t : τ} (hk : e k = .ct t) (l : Lw ρ (ρl t)) : JS X (.Continue pos :: rest) ρ E ρx ρl e (rt (m := m) k) := ⟨pss_weak (pss_cons ps_continue pss_never) fun Dd σ H ⟨sr, O, H0, ad, he, hw⟩ => (by
  have hw : endOk X.K X.mg sr O H0 E ρx ρl Dd (e k) := rtk hw
  rw [hk] at hw
  obtain ⟨ad', he', _⟩ := he.lw l
  exact hw σ H ad' he'), fun _ => nn_rt (by rw [hk]; trivial)⟩
/-- never come to -/
theorem JS.never {sts : List Stmt} : JS X sts ρ E ρx ρl e (lf (m := m) none) := ⟨pss_weak pss_never fun Dd σ H ⟨sr, O, H0, ad, he, hw⟩ => (by
  obtain ⟨x, z, _⟩ := Mn.lift_le _ _ hw
  cases z), fun _ P q => (by
  obtain ⟨x, z, _⟩ := Mn.lift_le _ _ q
  cases z)⟩
theorem JS.pass {a : m κ} (h : JS X rest ρ E ρx ρl e a) : JS X (.Pass pos :: rest) ρ E ρx ρl e a := ⟨pss_weak (pss_cons ps_pass h.ps) fun Dd σ H hw => hw, h.nn⟩
theorem Env.fin {K : PySem.W.Frag} {mg : Str → Option Value} {sr : Option Addr} {O : Addr → Prop} {H0 H H' : Hp} {σ : L2.St} {ρ : List Slot} {ad : Nat → Option Addr} (he : Env K mg sr O H0 H σ ρ ad) (x : Ext sr H H') : Fin sr H0 H' := ⟨fun a o h n => x.1 a o (he.ext a o h n) n, x.srs⟩
theorem Env.fresh0 {K : PySem.W.Frag} {mg : Str → Option Value} {sr : Option Addr} {O : Addr → Prop} {H0 H : Hp} {σ : L2.St} {ρ : List Slot} {ad : Nat → Option Addr} (he : Env K mg sr O H0 H σ ρ ad) {p : Addr} (h : H p = none) : H0 p = none := by
  cases z : H0 p with
  | none => rfl
  | some o =>
    by_cases hs : sr = some p
    · obtain ⟨i, j, q⟩ := he.srs p hs
      rw [h] at q; cases q
    · rw [he.ext p o z hs] at h; cases h
/-- return e -/
theorem JS.ret {c : β → κ} {ex : Expr} {w : m β} (hc : ∀ b, e (c b) = .rt b) (nl : NL E) (h : JE X true ex ρ E w) : JS X (.Return (some ex) pos :: rest) ρ E ρx ρl e (bd w fun b => rt (c b)) := ⟨pss_weak (pss_cons (ps_ret h.b.pe) pss_never) fun Dd σ H ⟨sr, O, H0, ad, he, hw⟩ => (by
  refine ⟨sr, O, H0, ad, he, (Mn.wp w).mono (fun b q v H1 x1 r => ?_) (bdk hw)⟩
  have q : endOk X.K X.mg sr O H0 E ρx ρl Dd (e (c b)) := rtk q
  rw [hc b] at q
  exact q v H1 (he.fin x1) ⟨r.sub fun a z => .inl z, freshL_of (nl b)⟩), fun _ => nn_bd fun b => nn_rt (by rw [hc]; trivial)⟩
theorem JS.retL {E : β → D} {e : κ → Fl α τ (List β)} {c : List β → κ} {ex : Expr} {w : m (List β)} (hc : ∀ b, e (c b) = .rt b) (h : JL X true ex ρ E w) : JS X (.Return (some ex) pos :: rest) ρ (eL E) ρx ρl e (bd w fun b => rt (c b)) := ⟨pss_weak (pss_cons (ps_ret h.b.pe) pss_never) fun Dd σ H ⟨sr, O, H0, ad, he, hw⟩ => (by
  refine ⟨sr, O, H0, ad, he, (Mn.wp w).mono (fun b q p vs H1 hp x1 hp' r => ?_) (bdk hw)⟩
  have q : endOk X.K X.mg sr O H0 (eL E) ρx ρl Dd (e (c b)) := rtk q
  rw [hc b] at q
  refine q (.ref p) H1 (he.fin x1) ⟨.l hp' (fun z => he.fresh hp (.inl z)) (r.sub fun a z => .inl (.inl z)), p, vs, rfl, he.fresh0 hp, hp', r.sub fun a z => z.elim (fun z => .inl (.inl z)) .inr⟩), fun _ => nn_bd fun b => nn_rt (by rw [hc]; trivial)⟩
/-- return of one's own list -/
theorem JS.retV {E : β → D} {e : κ → Fl α τ (List β)} {c : List β → κ} (i : Nat) {n : Str} {xs : List β} (hc : ∀ b, e (c b) = .rt b) (h : ρ[i]? = some (.l (xs.map E))) (hN : X.N[i]? = some n := by rfl) (hv : Vis X.env.scope n := by first | exact Or.inl rfl | exact Or.inr (Or.inl rfl) | exact Or.inr (Or.inr rfl)) (hd : (n == ("__debug__" : Str)) = false := by decide) (hcd : (n == ("__classdict__" : Str)) = false := by decide) :
    JS X (.Return (some (.Name n p2)) pos :: rest) ρ (eL E) ρx ρl e (rt (m := m) (c xs)) := ⟨pss_weak (pss_cons (ps_ret (pv i hN hv hd hcd)) pss_never) fun Dd σ H ⟨sr, O, H0, ad, he, hw⟩ => (by
  have q : endOk X.K X.mg sr O H0 (eL E) ρx ρl Dd (e (c xs)) := rtk hw
  rw [hc] at q
  have hi := he.at_ i
  rw [h] at hi
  obtain ⟨p, vs, e1, e2, e3, rs⟩ := hi
  exact ⟨.ref p, e2, q _ H (he.fin (Ext.refl he.srs)) ⟨.l e3 (he.dis i p e1) (rs.sub fun a z => .inl z), p, vs, rfl, he.frs i p e1, e3, rs.sub fun a z => z.elim .inl fun z => .inr ⟨i, by rw [z]; exact e1⟩⟩⟩), fun _ => nn_rt (by rw [hc]; trivial)⟩
theorem JS.retN {E : Unit → D} (hE : E () = .n) {e : κ → Fl α τ Unit} {c : κ} (hc : e c = .rt ()) : JS X (.Return none pos :: rest) ρ E ρx ρl e (rt (m := m) c) := ⟨pss_weak (pss_cons ps_retN pss_never) fun Dd σ H ⟨sr, O, H0, ad, he, hw⟩ => (by
  have q : endOk X.K X.mg sr O H0 E ρx ρl Dd (e c) := rtk hw
  rw [hc] at q
  exact q .non H (he.fin (Ext.refl he.srs)) ⟨by rw [hE]; exact .n, by rw [hE]; trivial⟩), fun _ => nn_rt (by rw [hc]; trivial)⟩

/-! ### assignments -/
structure JAsE (X : Cx) (st : Stmt) (i : Nat) (ρ : List Slot) (F : γ → D) (w : m γ) : Prop where
  ps : PS X st (tAsg (tE X.K X.mg true ρ F (Mn.wp w)) (gName i))
structure JAsL (X : Cx) (st : Stmt) (i : Nat) (ρ : List Slot) (F : γ → D) (w : m (List γ)) : Prop where
  ps : PS X st (tAsg (tL X.K X.mg true ρ F (Mn.wp w)) (gName i))
variable {F : γ → D} {n : Str} {ex : Expr}
theorem JAsE.of {i : Nat} {w : m γ} (hN : X.N.Nodup) (hi : X.N[i]? = some n) (hx : Loc X.env.scope n) (hf : X.fn n = true ∨ X.env.scope.names.lookup n = some .local) (h : JE X true ex ρ F w) (hs : swapsWith ex (some (.Name n p2)) pos.line X.env = pure false := by rfl) : JAsE X (.Assign [.Name n p2] ex pos) i ρ F w := ⟨ps_set hN hi hx h.b.pe hs hf⟩
theorem JAsL.of {i : Nat} {w : m (List γ)} (hN : X.N.Nodup) (hi : X.N[i]? = some n) (hx : Loc X.env.scope n) (hf : X.fn n = true ∨ X.env.scope.names.lookup n = some .local) (h : JL X true ex ρ F w) (hs : swapsWith ex (some (.Name n p2)) pos.line X.env = pure false := by rfl) : JAsL X (.Assign [.Name n p2] ex pos) i ρ F w := ⟨ps_set hN hi hx h.b.pe hs hf⟩
theorem JAsL.ofL {st : Stmt} {i : Nat} {w : m (List γ)} (h : JAsL X st i ρ F w) : JAsE X st i ρ (eL F) w := ⟨ps_weak h.ps fun Dd σ H ⟨sr, O, H0, ad, he, hw⟩ =>
  ⟨sr, O, H0, ad, he, (Mn.wp w).mono (fun xs q p vs H' hp x1 hp' r => q (.ref p) H' x1 (.l hp' (he.freshM hp true) (r.sub fun a h => .inl h))) hw⟩⟩
theorem JS.asg {i : Nat} {st : Stmt} {w : m γ} {k : γ → m κ} (h : JAsE X st i ρ F w) (hr : ∀ x, JS X rest (ρ.set i (.d (F x))) E ρx ρl e (k x)) : JS X (st :: rest) ρ E ρx ρl e (bd w k) :=
  ⟨pss_weak (pss_cons h.ps (pss_ex fun x => (hr x).ps)) fun Dd σ H ⟨sr, O, H0, ad, he, hw⟩ => ⟨sr, O, H0, ad, he, (Mn.wp w).mono (fun x q v H1 x1 r => ⟨x, sr, O, H0, _, (he.ext' x1).put i v _ r, q⟩) (bdk hw)⟩, fun z => nn_bd fun x => (hr x).nn z⟩
/-- .. a list of one's own -/
theorem JS.asgL {i : Nat} {st : Stmt} {w : m (List γ)} {k : List γ → m κ} (h : JAsL X st i ρ F w) (hi : i < ρ.length) (hr : ∀ x, JS X rest (ρ.set i (.l (x.map F))) E ρx ρl e (k x)) : JS X (st :: rest) ρ E ρx ρl e (bd w k) :=
  ⟨pss_weak (pss_cons h.ps (pss_ex fun x => (hr x).ps)) fun Dd σ H ⟨sr, O, H0, ad, he, hw⟩ => ⟨sr, O, H0, ad, he, (Mn.wp w).mono (fun x q p vs H1 hp x1 hp' r => ⟨x, sr, O, H0, _, he.own x1 hi hp hp' (r.sub fun a z => .inl z) r, q⟩) (bdk hw)⟩, fun z => nn_bd fun x => (hr x).nn z⟩
/-- a target of any form -/
theorem JS.asgG {tg : Expr} {js : List Nat} {up : List Slot → γ → List Slot} {w : m γ} {k : γ → m κ} (h : JE X true ex ρ F w) (hg : JG X tg js F up) (hr : ∀ x, JS X rest (up ρ x) E ρx ρl e (k x))
    (hs : swapsWithSole [tg] ex pos.line X.env = pure false := by rfl) (hw : swappedStores [tg] ex X.env = pure none := by rfl) (h1 : (assignEach [tg] X.env).map (·.2) = [assign tg X.env] := by rfl) : JS X (.Assign [tg] ex pos :: rest) ρ E ρx ρl e (bd w k) :=
  ⟨pss_weak (pss_cons (ps_asg h.b.pe hg.pg hs hw h1) (pss_ex fun x => (hr x).ps)) fun Dd σ H ⟨sr, O, H0, ad, he, hw⟩ => ⟨sr, O, H0, ad, he, (Mn.wp w).mono (fun x q v H1 x1 r => ⟨sr, O, H0, ad, ρ, x, he.ext' x1, r, fun σ' e2 _ => ⟨x, sr, O, H0, _, e2, q⟩⟩) (bdk hw)⟩, fun z => nn_bd fun x => (hr x).nn z⟩

/-! ### if -/
theorem endOk_none {K : PySem.W.Frag} {mg : Str → Option Value} {sr : Option Addr} {O : Addr → Prop} {H0 : Hp} {nx : L2.St → Hp → Prop} {Dd : Ends} {fl : Fl α τ β} (h : endOk K mg sr O H0 E ρx ρl Dd fl ∧ notNx fl) : endOk K mg sr O H0 E (none : Option (α → List Slot)) ρl { Dd with nx := nx } fl := by
  cases fl with
  | nx t => exact h.2
  | rt b => exact h.1
  | bk t => exact h.1
  | ct t => exact h.1
theorem JS.ifT {c : Expr} {A : List Stmt} {wc : m Bool} {a b : m κ} (hc : JT X c ρ wc) (hA : JS X A ρ E (none : Option (α → List Slot)) ρl e a) (hr : JS X rest ρ E ρx ρl e b) : JS X (.If c A [] pos :: rest) ρ E ρx ρl e (bd wc fun x => ifM x a b) :=
  ⟨pss_weak (pss_cons (ps_if hc.b.pt hA.ps pss_nil) hr.ps) fun Dd σ H ⟨sr, O, H0, ad, he, hw⟩ => ⟨sr, O, H0, ad, he, (Mn.wp wc).mono (fun x q H1 x1 => by
    cases x with
    | true =>
      rw [if_pos rfl]
      exact ⟨sr, O, H0, ad, he.ext' x1, Wp.mono _ (fun fl z => endOk_none z) (hA.nn rfl _ q)⟩
    | false =>
      rw [if_neg Bool.false_ne_true]
      exact ⟨sr, O, H0, ad, he.ext' x1, q⟩) (bdk hw)⟩, fun z => nn_bd fun x => nn_if (hA.nn rfl) (hr.nn z)⟩
/-- both ends, nothing behind -/
theorem JS.ifE {c : Expr} {A B : List Stmt} {wc : m Bool} {a b : m κ} (hc : JT X c ρ wc) (hA : JS X A ρ E (none : Option (α → List Slot)) ρl e a) (hB : JS X B ρ E (none : Option (α → List Slot)) ρl e b) : JS X (.If c A B pos :: rest) ρ E ρx ρl e (bd wc fun x => ifM x a b) :=
  ⟨pss_weak (pss_cons (ps_if hc.b.pt hA.ps hB.ps) pss_never) fun Dd σ H ⟨sr, O, H0, ad, he, hw⟩ => ⟨sr, O, H0, ad, he, (Mn.wp wc).mono (fun x q H1 x1 => by
    cases x with
    | true =>
      rw [if_pos rfl]
      exact ⟨sr, O, H0, ad, he.ext' x1, Wp.mono _ (fun fl z => endOk_none z) (hA.nn rfl _ q)⟩
    | false =>
      rw [if_neg Bool.false_ne_true]
      exact ⟨sr, O, H0, ad, he.ext' x1, Wp.mono _ (fun fl z => endOk_none z) (hB.nn rfl _ q)⟩) (bdk hw)⟩, fun z => nn_bd fun x => nn_if (hA.nn rfl) (hB.nn rfl)⟩
/-- the state behind either way, both fall through -/
theorem JS.ifJ {c : Expr} {A B : List Stmt} {wc : m Bool} {f : ω → List Slot} {a b : m ω} {k : ω → m κ} (hc : JT X c ρ wc) (hA : JS X A ρ E (some f) ρl (Fl.nx (τ := τ) (β := β)) a) (hB : JS X B ρ E (some f) ρl (Fl.nx (τ := τ) (β := β)) b) (hr : ∀ t, JS X rest (f t) E ρx ρl e (k t)) :
    JS X (.If c A B pos :: rest) ρ E ρx ρl e (bd (bd wc fun x => ifM x a b) k) :=
  ⟨pss_weak (pss_cons (ps_if hc.b.pt hA.ps hB.ps) (pss_ex fun t => (hr t).ps)) fun Dd σ H ⟨sr, O, H0, ad, he, hw⟩ => ⟨sr, O, H0, ad, he, (Mn.wp wc).mono (fun x q H1 x1 => by
    cases x with
    | true =>
      rw [if_pos rfl]
      exact ⟨sr, O, H0, ad, he.ext' x1, (Mn.wp a).mono (fun t q σ' H' ad' he' => ⟨t, sr, O, H0, ad', he', q⟩) q⟩
    | false =>
      rw [if_neg Bool.false_ne_true]
      exact ⟨sr, O, H0, ad, he.ext' x1, (Mn.wp b).mono (fun t q σ' H' ad' he' => ⟨t, sr, O, H0, ad', he', q⟩) q⟩) (Mn.bind_le _ _ _ (bdk hw))⟩, fun z => nn_bd fun x => (hr x).nn z⟩
/-- .. some ways end -/
def seqF (e : κ → Fl α τ β) (c : Fl Empty τ β → κ) (k : ω → m κ) : Fl ω τ β → m κ
  | .nx t => k t
  | .rt b => rt (c (.rt b))
  | .bk t => rt (c (.bk t))
  | .ct t => rt (c (.ct t))
def upF : Fl Empty τ β → Fl α τ β
  | .nx t => t.elim
  | .rt b => .rt b
  | .bk t => .bk t
  | .ct t => .ct t
theorem seqF_run {c : Fl Empty τ β → κ} {k : ω → m κ} (hc : ∀ x, e (c x) = upF x) {K : PySem.W.Frag} {mg : Str → Option Value} {sr : Option Addr} {O : Addr → Prop} {H0 : Hp} {Dd : Ends} {f : ω → List Slot} {fl : Fl ω τ β} (q : ((Mn.wp (seqF e c k fl)).bind fun k => Wp.pure (e k)).run (endOk K mg sr O H0 E ρx ρl Dd)) :
    endOk K mg sr O H0 E (some f) ρl { Dd with nx := fun σ H => ∃ t, tB K mg (f t) E ρx ρl ((Mn.wp (k t)).bind fun k => .pure (e k)) Dd σ H } fl := by
  cases fl with
  | nx t => exact fun σ' H' ad' he' => ⟨t, sr, O, H0, ad', he', q⟩
  | rt b => have q := rtk q; rw [hc] at q; exact q
  | bk t => have q := rtk q; rw [hc] at q; exact q
  | ct t => have q := rtk q; rw [hc] at q; exact q
theorem nn_seqF {c : Fl Empty τ β → κ} {k : ω → m κ} (hc : ∀ x, e (c x) = upF x) (h : ∀ t, NN ((Mn.wp (k t)).bind fun k => Wp.pure (e k))) (fl : Fl ω τ β) : NN ((Mn.wp (seqF e c k fl)).bind fun k => Wp.pure (e k)) := by
  cases fl with
  | nx t => exact h t
  | rt b => exact nn_rt (by rw [hc]; trivial)
  | bk t => exact nn_rt (by rw [hc]; trivial)
  | ct t => exact nn_rt (by rw [hc]; trivial)
theorem JS.ifF {c : Expr} {A B : List Stmt} {wc : m Bool} {f : ω → List Slot} {a b : m (Fl ω τ β)} {k : ω → m κ} (c' : Fl Empty τ β → κ) (hc' : ∀ x, e (c' x) = upF x) (hc : JT X c ρ wc) (hA : JS X A ρ E (some f) ρl id a) (hB : JS X B ρ E (some f) ρl id b) (hr : ∀ t, JS X rest (f t) E ρx ρl e (k t)) :
    JS X (.If c A B pos :: rest) ρ E ρx ρl e (bd (bd wc fun x => ifM x a b) (seqF e c' k)) :=
  ⟨pss_weak (pss_cons (ps_if hc.b.pt hA.ps hB.ps) (pss_ex fun t => (hr t).ps)) fun Dd σ H ⟨sr, O, H0, ad, he, hw⟩ => ⟨sr, O, H0, ad, he, (Mn.wp wc).mono (fun x q H1 x1 => by
    cases x with
    | true =>
      rw [if_pos rfl]
      exact ⟨sr, O, H0, ad, he.ext' x1, (Mn.wp a).mono (fun t q => seqF_run hc' q) q⟩
    | false =>
      rw [if_neg Bool.false_ne_true]
      exact ⟨sr, O, H0, ad, he.ext' x1, (Mn.wp b).mono (fun t q => seqF_run hc' q) q⟩) (Mn.bind_le _ _ _ (bdk hw))⟩, fun z => nn_bd fun x => nn_seqF hc' (fun t => (hr t).nn z) x⟩
end
end Wk

namespace Wk
open PySem PySem.Spec PyProof.Rows L2

/-! ### loops -/
section
variable {m : Type → Type} [Mn m] {α β γ δ κ τ ω : Type}
def loopM (f : γ → τ → m (Fl τ τ β)) : List γ → τ → m (Sum τ β)
  | [], t => rt (.inl t)
  | x :: xs, t => bd (f x t) fun fl => match fl with
    | .nx t' => loopM f xs t'
    | .ct t' => loopM f xs t'
    | .bk t' => rt (.inl t')
    | .rt b => rt (.inr b)
def foldM' (f : γ → τ → m τ) : List γ → τ → m τ
  | [], t => rt t
  | x :: xs, t => bd (f x t) fun t' => foldM' f xs t'
def outM (c : β → κ) (k : τ → m κ) : Sum τ β → m κ
  | .inl t => k t
  | .inr b => rt (c b)
variable {X : Cx} {M : Bool} {ρ : List Slot} {E : β → D} {ρx : Option (α → List Slot)} {ρl : ω → List Slot} {e : κ → Fl α ω β} {rest : List Stmt} {pos p2 p3 : Pos}
section
variable {K : PySem.W.Frag} {mg : Str → Option Value} {sr : Option Addr} {O : Addr → Prop} {H0 H H' : Hp} {σ : L2.St} {ad : Nat → Option Addr}
open Classical in
/-- the heap at a loop's start, less one's own lists -/
noncomputable def less (H : Hp) (ad : Nat → Option Addr) : Hp := fun a => if ∃ j, ad j = some a then none else H a
theorem less_some {a : Addr} {o : HO} (h : less H ad a = some o) : H a = some o := by
  unfold less at h
  split at h
  · cases h
  · exact h
theorem less_of {a : Addr} {o : HO} (h : H a = some o) (n : ∀ j, ad j ≠ some a) : less H ad a = some o := by
  unfold less
  rw [if_neg (fun ⟨j, z⟩ => n j z)]; exact h
theorem less_own {j : Nat} {p : Addr} (h : ad j = some p) : less H ad p = none := by
  unfold less
  rw [if_pos ⟨j, h⟩]
theorem less_none {p : Addr} (h : less H ad p = none) : H p = none ∨ ∃ j, ad j = some p := by
  unfold less at h
  split at h
  · exact .inr (by assumption)
  · exact .inl h
theorem Env.base {ρ : List Slot} (he : Env K mg sr O H0 H σ ρ ad) : Env K mg sr O (less H ad) H σ ρ ad :=
  ⟨he.len, he.at_, he.inj, fun j p h => less_own h, he.mu, he.src, he.dom, he.dis, fun a o h _ => less_some h⟩
theorem Env.rebase {ρ ρ' : List Slot} {H1 : Hp} {σ' : L2.St} {ad' : Nat → Option Addr} (he : Env K mg sr O H0 H σ ρ ad) (hb : Env K mg sr O (less H ad) H1 σ' ρ' ad') : Env K mg sr O H0 H1 σ' ρ' ad' := by
  have up : ∀ a o, H0 a = some o → sr ≠ some a → less H ad a = some o := fun a o h n => less_of (he.ext a o h n) fun j z => by rw [he.frs j a z] at h; cases h
  refine ⟨hb.len, hb.at_, hb.inj, fun j p h => ?_, hb.mu, hb.src, hb.dom, hb.dis, fun a o h n => hb.ext a o (up a o h n) n⟩
  have h1 := hb.frs j p h
  cases z : H0 p with
  | none => rfl
  | some o =>
    by_cases hs : sr = some p
    · exact absurd (hb.sO p hs) (hb.dis j p h)
    · rw [up p o z hs] at h1; cases h1
theorem Fin.rebase {ρ : List Slot} {H1 : Hp} (he : Env K mg sr O H0 H σ ρ ad) (h : Fin sr (less H ad) H1) : Fin sr H0 H1 :=
  ⟨fun a o q n => h.1 a o (less_of (he.ext a o q n) fun j z => by rw [he.frs j a z] at q; cases q) n, h.2⟩
theorem less_fresh {ρ : List Slot} (he : Env K mg sr O H0 H σ ρ ad) {p : Addr} (h : less H ad p = none) : H0 p = none := by
  cases z : H0 p with
  | none => rfl
  | some o =>
    by_cases hs : sr = some p
    · obtain ⟨i, j, q⟩ := he.srs p hs
      rcases less_none h with h | ⟨j, h⟩
      · rw [h] at q; cases q
      · exact absurd (he.sO p hs) (he.dis j p h)
    · rw [less_of (he.ext p o z hs) fun j z' => by rw [he.frs j p z'] at z; cases z] at h; cases h
theorem RetOk.rebase {ρ : List Slot} {H1 : Hp} {v : V} {r : D} (he : Env K mg sr O H0 H σ ρ ad) (h : RetOk K mg O (less H ad) H1 v r) : RetOk K mg O H0 H1 v r := by
  refine ⟨h.1, ?_⟩
  have h2 := h.2
  cases r <;> first | exact trivial | skip
  obtain ⟨p, vs, h3, h4, h5, h6⟩ := h2
  exact ⟨p, vs, h3, less_fresh he h4, h5, h6⟩
end
theorem pureRun {x : γ} (P : γ → Prop) (h : (Mn.wp (rt (m := m) x)).run P) : P x := Mn.pure_le (m := m) x P h
theorem loop_run {f : γ → τ → m (Fl τ τ β)} {x : γ} {xs : List γ} {t : τ} {P : Sum τ β → Prop} (h : (Mn.wp (loopM f (x :: xs) t)).run P) : (Mn.wp (f x t)).run fun fl => match fl with
    | .nx t' => (Mn.wp (loopM f xs t')).run P
    | .ct t' => (Mn.wp (loopM f xs t')).run P
    | .bk t' => P (.inl t')
    | .rt b => P (.inr b) := by
  refine (Mn.wp (f x t)).mono (fun fl q => ?_) (Mn.bind_le _ _ _ h)
  cases fl with
  | nx t' => exact q
  | ct t' => exact q
  | bk t' => exact Mn.pure_le (m := m) _ _ q
  | rt b => exact Mn.pure_le (m := m) _ _ q
variable {Ei : γ → D} {tg iter : Expr} {body : List Stmt} {js : List Nat} {up : List Slot → γ → List Slot}
theorem JS.for {wx : m (List γ)} {f : γ → τ → m (Fl τ τ β)} {k : τ → m κ} (ρh : τ → List Slot) (t0 : τ) (c : β → κ) (hc : ∀ b, e (c b) = .rt b) (hp : PassesOwn (model X.prog X.w) X.A X.env X.xe) (hcalm : X.calm = true)
    (hi : JI X true tg iter ρ Ei wx) (hg : JG X tg js Ei up) (l : Lw ρ (ρh t0)) (hb : ∀ x t, JS X body (up (ρh t) x) E (some ρh) ρh (id : Fl τ τ β → Fl τ τ β) (f x t)) (hr : ∀ t, JS X rest (ρh t) E ρx ρl e (k t))
    (hs : ∀ x, foldedSetIterable iter X.env x = pure x := by intro _; rfl) : JS X (.For tg iter body [] pos :: rest) ρ E ρx ρl e (bd wx fun xs => bd (loopM f xs t0) (outM c k)) :=
  ⟨pss_weak (pss_cons (ps_for hp hcalm hi.b hg.pg (pss_ex fun q : γ × τ => (hb q.1 q.2).ps) hs) (pss_ex fun t => (hr t).ps)) fun Dd σ H ⟨sr, O, H0, ad, he, hw⟩ =>
    ⟨sr, O, H0, ad, he, (Mn.wp wx).mono (fun xs q J H1 x1 wk => by
      have e1 := he.ext' x1
      obtain ⟨adh, eh, sub⟩ := e1.lw l
      have eb := eh.base
      have q := bdk q
      let Post : Sum τ β → Prop := fun r => ((Mn.wp (outM c k r)).bind fun k => Wp.pure (e k)).run (endOk X.K X.mg sr O H0 E ρx ρl Dd)
      have keep : ∀ {H' σ' ρ' ad'}, Env X.K X.mg sr O (less H1 adh) H' σ' ρ' ad' → Keep X.K (OM true O ad) H1 H' := fun {H' σ' ρ' ad'} e' => by
        refine ⟨fun a o h n => e'.ext a o (less_of h fun j z => n (.inr ⟨j, sub j a z⟩)) fun z => n (.inl (he.sO a z)), fun a vs h => ?_⟩
        have mv : ∀ u, H1 a = some u → ¬ Mut (some u) → H' a = some u := fun u h n => e'.ext a u (less_of h fun j z => by
          have := eh.mu j a z; rw [h] at this; exact n this) fun z => by
          obtain ⟨i, j, w⟩ := e1.srs a z; rw [h] at w; cases w; exact n trivial
        rcases h with (h | ⟨o, h⟩) | h
        · exact .inl (.inl (mv _ h fun z => z))
        · exact .inl (.inr ⟨o, mv _ h fun z => z⟩)
        · exact .inr h
      have done : ∀ {t H' σ' ad'}, Env X.K X.mg sr O (less H1 adh) H' σ' (ρh t) ad' → Post (.inl t) → ∃ t, tB X.K X.mg (ρh t) E ρx ρl ((Mn.wp (k t)).bind fun k => .pure (e k)) Dd σ' H' := fun {t H' σ' ad'} e' h => ⟨t, sr, O, H0, ad', eh.rebase e', h⟩
      refine for_it wk (g := tG X.K X.mg js Ei up) (tb := fun Dd σ H => ∃ q : γ × τ, tB X.K X.mg (up (ρh q.2) q.1) E (some ρh) ρh ((Mn.wp (f q.1 q.2)).bind fun k => .pure ((id : Fl τ τ β → Fl τ τ β) k)) Dd σ H) (D := { Dd with nx := fun σ H => ∃ t, tB X.K X.mg (ρh t) E ρx ρl ((Mn.wp (k t)).bind fun k => .pure (e k)) Dd σ H }) (fun i σ' H' => ∃ t ad', Env X.K X.mg sr O (less H1 adh) H' σ' (ρh t) ad' ∧ (Mn.wp (loopM f (xs.drop i) t)).run Post)
        ⟨t0, adh, eb, by rw [List.drop_zero]; exact q⟩ (fun i σ' H' _ ⟨t, ad', e', _⟩ => keep e') ?_ ?_
      · rintro i v σ' H2 H3 hi' ⟨t, ad', e', hl⟩ ⟨ha, x, hx, rx⟩
        rw [get_drop hx] at hl
        have e3 := e'.ext' (ha.ext e'.srs)
        refine ⟨sr, O, less H1 adh, ad', _, x, e3, rx.sub (fun a z => ?_), fun σ2 e4 _ => ⟨(x, t), sr, O, less H1 adh, _, e4, ?_⟩⟩
        · rcases z with z | ⟨j, z⟩
          · exact .inl (.inl z)
          · rcases less_none (e'.frs j a z) with h | ⟨j', h⟩
            · exact .inr h
            · exact .inl (.inr ⟨j', sub j' a h⟩)
        · refine (Mn.wp (f x t)).mono (fun fl z => ?_) (loop_run hl)
          show endOk X.K X.mg sr O (less H1 adh) E (some ρh) ρh _ (id fl)
          cases fl with
          | nx t' => exact fun σ' H' ad' e' => ⟨t', ad', e', z⟩
          | ct t' => exact fun σ' H' ad' e' => ⟨t', ad', e', z⟩
          | bk t' => exact fun σ' H' ad' e' => done e' z
          | rt b =>
            intro v H' hf hr'
            have z : Post (.inr b) := z
            have z := rtk z
            rw [hc] at z
            exact z v H' (hf.rebase eh) (hr'.rebase eh)
      · rintro σ' H' ⟨t, ad', e', hl⟩
        rw [List.drop_length] at hl
        have hl : Post (.inl t) := pureRun Post hl
        exact done e' hl) (bdk hw)⟩, fun z => nn_bd fun xs => nn_bd fun r => by
    cases r with
    | inl t => exact (hr t).nn z
    | inr b => exact nn_rt (by rw [hc]; trivial)⟩
theorem fold_run {f : γ → τ → m τ} {x : γ} {xs : List γ} {t : τ} {P : τ → Prop} (h : (Mn.wp (foldM' f (x :: xs) t)).run P) : (Mn.wp (f x t)).run fun t' => (Mn.wp (foldM' f xs t')).run P := Mn.bind_le _ _ _ h
/-- .. that neither breaks nor returns -/
theorem JS.forS {wx : m (List γ)} {f : γ → τ → m τ} {k : τ → m κ} (ρh : τ → List Slot) (t0 : τ) (hp : PassesOwn (model X.prog X.w) X.A X.env X.xe) (hcalm : X.calm = true)
    (hi : JI X true tg iter ρ Ei wx) (hg : JG X tg js Ei up) (l : Lw ρ (ρh t0)) (hb : ∀ x t, JS X body (up (ρh t) x) E (some ρh) ρh (Fl.nx : τ → Fl τ τ β) (f x t)) (hr : ∀ t, JS X rest (ρh t) E ρx ρl e (k t))
    (hs : ∀ x, foldedSetIterable iter X.env x = pure x := by intro _; rfl) : JS X (.For tg iter body [] pos :: rest) ρ E ρx ρl e (bd wx fun xs => bd (foldM' f xs t0) k) :=
  ⟨pss_weak (pss_cons (ps_for hp hcalm hi.b hg.pg (pss_ex fun q : γ × τ => (hb q.1 q.2).ps) hs) (pss_ex fun t => (hr t).ps)) fun Dd σ H ⟨sr, O, H0, ad, he, hw⟩ =>
    ⟨sr, O, H0, ad, he, (Mn.wp wx).mono (fun xs q J H1 x1 wk => by
      have e1 := he.ext' x1
      obtain ⟨adh, eh, sub⟩ := e1.lw l
      have eb := eh.base
      have q := bdk q
      let Post : τ → Prop := fun r => ((Mn.wp (k r)).bind fun k => Wp.pure (e k)).run (endOk X.K X.mg sr O H0 E ρx ρl Dd)
      have keep : ∀ {H' σ' ρ' ad'}, Env X.K X.mg sr O (less H1 adh) H' σ' ρ' ad' → Keep X.K (OM true O ad) H1 H' := fun {H' σ' ρ' ad'} e' => by
        refine ⟨fun a o h n => e'.ext a o (less_of h fun j z => n (.inr ⟨j, sub j a z⟩)) fun z => n (.inl (he.sO a z)), fun a vs h => ?_⟩
        have mv : ∀ u, H1 a = some u → ¬ Mut (some u) → H' a = some u := fun u h n => e'.ext a u (less_of h fun j z => by
          have := eh.mu j a z; rw [h] at this; exact n this) fun z => by
          obtain ⟨i, j, w⟩ := e1.srs a z; rw [h] at w; cases w; exact n trivial
        rcases h with (h | ⟨o, h⟩) | h
        · exact .inl (.inl (mv _ h fun z => z))
        · exact .inl (.inr ⟨o, mv _ h fun z => z⟩)
        · exact .inr h
      refine for_it wk (g := tG X.K X.mg js Ei up) (tb := fun Dd σ H => ∃ q : γ × τ, tB X.K X.mg (up (ρh q.2) q.1) E (some ρh) ρh ((Mn.wp (f q.1 q.2)).bind fun k => .pure ((Fl.nx : τ → Fl τ τ β) k)) Dd σ H) (D := { Dd with nx := fun σ H => ∃ t, tB X.K X.mg (ρh t) E ρx ρl ((Mn.wp (k t)).bind fun k => .pure (e k)) Dd σ H }) (fun i σ' H' => ∃ t ad', Env X.K X.mg sr O (less H1 adh) H' σ' (ρh t) ad' ∧ (Mn.wp (foldM' f (xs.drop i) t)).run Post)
        ⟨t0, adh, eb, by rw [List.drop_zero]; exact q⟩ (fun i σ' H' _ ⟨t, ad', e', _⟩ => keep e') ?_ ?_
      · rintro i v σ' H2 H3 hi' ⟨t, ad', e', hl⟩ ⟨ha, x, hx, rx⟩
        rw [get_drop hx] at hl
        have e3 := e'.ext' (ha.ext e'.srs)
        refine ⟨sr, O, less H1 adh, ad', _, x, e3, rx.sub (fun a z => ?_), fun σ2 e4 _ => ⟨(x, t), sr, O, less H1 adh, _, e4, ?_⟩⟩
        · rcases z with z | ⟨j, z⟩
          · exact .inl (.inl z)
          · rcases less_none (e'.frs j a z) with h | ⟨j', h⟩
            · exact .inr h
            · exact .inl (.inr ⟨j', sub j' a h⟩)
        · exact (Mn.wp (f x t)).mono (fun t' z σ' H' ad' e' => ⟨t', ad', e', z⟩) (fold_run hl)
      · rintro σ' H' ⟨t, ad', e', hl⟩
        rw [List.drop_length] at hl
        have hl : Post t := pureRun Post hl
        exact ⟨t, sr, O, H0, ad', eh.rebase e', hl⟩) (bdk hw)⟩, fun z => nn_bd fun xs => nn_bd fun r => (hr r).nn z⟩

/-! ### while, with a bound for its turns -/
def whileM (c : τ → m Bool) (f : τ → m (Fl τ τ β)) : Nat → τ → m (Sum τ β)
  | 0, _ => lf none
  | n + 1, t => bd (c t) fun b => ifM b (bd (f t) fun fl => match fl with
    | .nx t' => whileM c f n t'
    | .ct t' => whileM c f n t'
    | .bk t' => rt (.inl t')
    | .rt b => rt (.inr b)) (rt (.inl t))
def whileS (c : τ → m Bool) (f : τ → m τ) : Nat → τ → m τ
  | 0, _ => lf none
  | n + 1, t => bd (c t) fun b => ifM b (bd (f t) fun t' => whileS c f n t') (rt t)
theorem pt_ex {X : Cx} {e : Expr} {t : γ → TT} (h : ∀ x, PT X e (t x)) : PT X e (fun σ H Q => ∃ x, t x σ H Q) := ⟨fun pins s σ H Q I ⟨x, hw⟩ => (h x).run pins s σ H Q I hw⟩
theorem ifM_run {b : Bool} {u v : m κ} {P : κ → Prop} (h : (Mn.wp (ifM b u v)).run P) : if b = true then (Mn.wp u).run P else (Mn.wp v).run P := by
  cases b with
  | true => exact h
  | false => exact h
theorem JS.whileS {c : Expr} {cM : τ → m Bool} {f : τ → m τ} {k : τ → m κ} (ρh : τ → List Slot) (t0 : τ) (N : Nat) (hp : PassesOwn (model X.prog X.w) X.A X.env X.xe)
    (l : Lw ρ (ρh t0)) (hc : ∀ t, JT X c (ρh t) (cM t)) (hb : ∀ t, JS X body (ρh t) E (some ρh) ρh (Fl.nx : τ → Fl τ τ β) (f t)) (hr : ∀ t, JS X rest (ρh t) E ρx ρl e (k t)) :
    JS X (.While c body [] pos :: rest) ρ E ρx ρl e (bd (Wk.whileS cM f N t0) k) :=
  ⟨pss_weak (pss_cons (ps_while hp (pt_ex fun t => (hc t).b.pt) (pss_ex fun t => (hb t).ps)) (pss_ex fun t => (hr t).ps)) fun Dd σ H ⟨sr, O, H0, ad, he, hw⟩ => (by
    obtain ⟨adh, eh, sub⟩ := he.lw l
    let Post : τ → Prop := fun r => ((Mn.wp (k r)).bind fun k => Wp.pure (e k)).run (endOk X.K X.mg sr O H0 E ρx ρl Dd)
    refine ⟨fun n σ' H' => ∃ t ad', Env X.K X.mg sr O H0 H' σ' (ρh t) ad' ∧ (Mn.wp (Wk.whileS cM f n t)).run Post, ⟨N, t0, adh, eh, bdk hw⟩, fun n σ' H' ⟨t, ad', e', hl⟩ => ?_⟩
    cases n with
    | zero =>
      obtain ⟨x, z, _⟩ := Mn.lift_le _ _ hl
      cases z
    | succ n =>
      refine ⟨t, sr, O, H0, ad', e', (Mn.wp (cM t)).mono (fun b q H1 x1 => ?_) (Mn.bind_le _ _ _ hl)⟩
      have q := ifM_run q
      cases b with
      | true =>
        rw [if_pos rfl] at q
        dsimp only
        rw [if_pos rfl]
        exact ⟨fun σ' H' => ∃ t ad', Env X.K X.mg sr O H0 H' σ' (ρh t) ad' ∧ (Mn.wp (Wk.whileS cM f n t)).run Post, fun σ2 H2 h => ⟨n, Nat.lt_succ_self n, h⟩, t, sr, O, H0, ad', e'.ext' x1, (Mn.wp (f t)).mono (fun t' z σ' H' ad' e' => ⟨t', ad', e', z⟩) (Mn.bind_le _ _ _ q)⟩
      | false =>
        rw [if_neg Bool.false_ne_true] at q
        dsimp only
        rw [if_neg Bool.false_ne_true]
        exact ⟨t, sr, O, H0, ad', e'.ext' x1, pureRun Post q⟩), fun z => nn_bd fun r => (hr r).nn z⟩
theorem JS.while {c : Expr} {cM : τ → m Bool} {f : τ → m (Fl τ τ β)} {k : τ → m κ} (ρh : τ → List Slot) (t0 : τ) (N : Nat) (c' : β → κ) (hc' : ∀ b, e (c' b) = .rt b) (hp : PassesOwn (model X.prog X.w) X.A X.env X.xe)
    (l : Lw ρ (ρh t0)) (hc : ∀ t, JT X c (ρh t) (cM t)) (hb : ∀ t, JS X body (ρh t) E (some ρh) ρh (id : Fl τ τ β → Fl τ τ β) (f t)) (hr : ∀ t, JS X rest (ρh t) E ρx ρl e (k t)) :
    JS X (.While c body [] pos :: rest) ρ E ρx ρl e (bd (whileM cM f N t0) (outM c' k)) :=
  ⟨pss_weak (pss_cons (ps_while hp (pt_ex fun t => (hc t).b.pt) (pss_ex fun t => (hb t).ps)) (pss_ex fun t => (hr t).ps)) fun Dd σ H ⟨sr, O, H0, ad, he, hw⟩ => (by
    obtain ⟨adh, eh, sub⟩ := he.lw l
    let Post : Sum τ β → Prop := fun r => ((Mn.wp (outM c' k r)).bind fun k => Wp.pure (e k)).run (endOk X.K X.mg sr O H0 E ρx ρl Dd)
    refine ⟨fun n σ' H' => ∃ t ad', Env X.K X.mg sr O H0 H' σ' (ρh t) ad' ∧ (Mn.wp (whileM cM f n t)).run Post, ⟨N, t0, adh, eh, bdk hw⟩, fun n σ' H' ⟨t, ad', e', hl⟩ => ?_⟩
    cases n with
    | zero =>
      obtain ⟨x, z, _⟩ := Mn.lift_le _ _ hl
      cases z
    | succ n =>
      refine ⟨t, sr, O, H0, ad', e', (Mn.wp (cM t)).mono (fun b q H1 x1 => ?_) (Mn.bind_le _ _ _ hl)⟩
      have q := ifM_run q
      cases b with
      | true =>
        rw [if_pos rfl] at q
        dsimp only
        rw [if_pos rfl]
        refine ⟨fun σ' H' => ∃ t ad', Env X.K X.mg sr O H0 H' σ' (ρh t) ad' ∧ (Mn.wp (whileM cM f n t)).run Post, fun σ2 H2 h => ⟨n, Nat.lt_succ_self n, h⟩, t, sr, O, H0, ad', e'.ext' x1, (Mn.wp (f t)).mono (fun fl z => ?_) (Mn.bind_le _ _ _ q)⟩
        show endOk X.K X.mg sr O H0 E (some ρh) ρh _ (id fl)
        cases fl with
        | nx t' => exact fun σ' H' ad' e' => ⟨t', ad', e', z⟩
        | ct t' => exact fun σ' H' ad' e' => ⟨t', ad', e', z⟩
        | bk t' =>
          have z : Post (.inl t') := pureRun Post z
          exact fun σ' H' ad' e' => ⟨t', sr, O, H0, ad', e', z⟩
        | rt b =>
          have z : Post (.inr b) := pureRun Post z
          have z := rtk z
          rw [hc'] at z
          exact z
      | false =>
        rw [if_neg Bool.false_ne_true] at q
        dsimp only
        rw [if_neg Bool.false_ne_true]
        exact ⟨t, sr, O, H0, ad', e'.ext' x1, pureRun Post q⟩), fun z => nn_bd fun r => by
    cases r with
    | inl t => exact (hr t).nn z
    | inr b => exact nn_rt (by rw [hc']; trivial)⟩

/-! ### one's own lists, changed -/
theorem own_at {K : PySem.W.Frag} {mg : Str → Option Value} {sr : Option Addr} {O : Addr → Prop} {H0 H : Hp} {σ : L2.St} {ad : Nat → Option Addr} {ρ : List Slot} (he : Env K mg sr O H0 H σ ρ ad) {i : Nat} {xs : List D} (h : ρ[i]? = some (.l xs)) : ∃ p vs, ad i = some p ∧ σ[i]? = some (some (.ref p)) ∧ H p = some (.lst vs) ∧ Reps K mg (OO O ad) H vs xs := by
  have := he.at_ i
  rw [h] at this
  exact this
def appO (xs : List γ) (y : γ) : Option (List γ) := if xs.length < 16777216 then some (xs ++ [y]) else none
variable {F : γ → D} {n : Str} {apos cpos : Pos} {ex : Expr}
/-- xs.append(e) -/
theorem JS.append (i : Nat) {xs : List γ} {w : m γ} {k : List γ → m κ} (h : ρ[i]? = some (.l (xs.map F))) (ha : JE X true ex ρ F w) (hr : ∀ ys, JS X rest (ρ.set i (.l (ys.map F))) E ρx ρl e (k ys)) (hN : X.N[i]? = some n := by rfl) (hv : Vis X.env.scope n := by first | exact Or.inl rfl | exact Or.inr (Or.inl rfl) | exact Or.inr (Or.inr rfl)) (hd : (n == ("__debug__" : Str)) = false := by decide) (hcd : (n == ("__classdict__" : Str)) = false := by decide)
    (hbase : attributeBase (.Name n p2) "append" X.env (eval (.Name n p2) X.env) = eval (.Name n p2) X.env := by rfl)
    (hfew : ((backTo cpos (starEach [ex] X.env)).all (fun x => !x.1) && (backToKw cpos (keywordEach [] X.env)).all (fun x => x.1.isSome) && decide ([ex].length + ([] : List Keyword).length + (if ([] : List Keyword).isEmpty then 0 else 1) < 30)) = true := by rfl)
    (hline : (apos.endLine == cpos.line) = true := by rfl) (hs : starEach [ex] X.env = (false, eval ex X.env) :: starEach [] X.env := by rfl) (hsw : swapsWith (.Call (.Attribute (.Name n p2) "append" apos) [ex] [] cpos) none pos.line X.env = pure false := by rfl) :
    JS X (.Expr (.Call (.Attribute (.Name n p2) "append" apos) [ex] [] cpos) pos :: rest) ρ E ρx ρl e (bd w fun y => bd (lf (appO xs y)) k) :=
  ⟨pss_weak (pss_cons (ps_expr (pe_bm PySem.F.plainAttrs_list PySem.F.slot_list_append PySem.F.type_list_append mt_append (pv i hN hv hd hcd) (pa_cons ha.b.pe pa_nil hs) hbase hfew hline hs rfl) hsw) (pss_ex fun x => (hr x).ps)) fun Dd σ H ⟨sr, O, H0, ad, he, hw⟩ => (by
    obtain ⟨p, vs, e1, e2, e3, rs⟩ := own_at he h
    refine ⟨.ref p, e2, .inl ⟨rfl, vs, .inl (.inl e3)⟩, sr, O, H0, ad, he, (Mn.wp w).mono (fun y q v H1 x1 r => ?_) (bdk hw)⟩
    obtain ⟨ys, hy, q⟩ := Mn.lift_le _ _ (bdk q)
    have he1 := he.ext' x1
    obtain ⟨p', vs', e1', e2', e3', rs'⟩ := own_at he1 h
    have : p' = p := Option.some.inj (e1'.symm.trans e1)
    subst this
    unfold appO at hy
    split at hy
    · rename_i hz
      cases hy
      refine ⟨p', vs', v, rfl, rfl, e3', by rw [rs'.length, List.length_map]; exact hz, xs ++ [y], sr, O, H0, ad, ?_, q⟩
      refine he1.write (vs := vs') h e1 ?_
      rw [List.map_append]
      exact rs'.append (.cons r .nil)
    · cases hy), fun z => nn_bd fun x => nn_bd fun y => (hr y).nn z⟩
def setO (xs : List γ) (i : Int) (y : γ) : Option (List γ) := (ixN xs.length i).map fun j => xs.set j y
/-- xs[i] = e -/
theorem JS.seti (i : Nat) {b : Expr} {p1 : Pos} {xs : List γ} {w : m γ} {wb : m Int} {k : List γ → m κ} (h : ρ[i]? = some (.l (xs.map F))) (ha : JE X true ex ρ F w) (hb : JE X false b ρ eI wb) (hr : ∀ ys, JS X rest (ρ.set i (.l (ys.map F))) E ρx ρl e (k ys)) (hN : X.N[i]? = some n := by rfl) (hv : Vis X.env.scope n := by first | exact Or.inl rfl | exact Or.inr (Or.inl rfl) | exact Or.inr (Or.inr rfl)) (hd : (n == ("__debug__" : Str)) = false := by decide) (hcd : (n == ("__classdict__" : Str)) = false := by decide)
    (hsub : ∀ v, assign (.Subscript (.Name n p2) b p1) X.env v = (do
      let ov ← holding [v] (eval (.Name n p2) X.env)
      let iv ← holding [v, ov] (eval b X.env)
      standAt p1
      holding [v, ov, iv] (setItem ov iv v)
      release [v, ov, iv] []) := by intro _; rfl)
    (hs : swapsWithSole [.Subscript (.Name n p2) b p1] ex pos.line X.env = pure false := by rfl) (hw : swappedStores [.Subscript (.Name n p2) b p1] ex X.env = pure none := by rfl) (h1 : (assignEach [.Subscript (.Name n p2) b p1] X.env).map (·.2) = [assign (.Subscript (.Name n p2) b p1) X.env] := by rfl) :
    JS X (.Assign [.Subscript (.Name n p2) b p1] ex pos :: rest) ρ E ρx ρl e (bd w fun y => bd wb fun j => bd (lf (setO xs j y)) k) :=
  ⟨pss_weak (pss_cons (ps_asg ha.b.pe (pg_sub (pv i hN hv hd hcd) hb.b.pe set_list hsub) hs hw h1) (pss_ex fun x => (hr x).ps)) fun Dd σ H ⟨sr, O, H0, ad, he, hw⟩ => (by
    refine ⟨sr, O, H0, ad, he, (Mn.wp w).mono (fun y q v H1 x1 r => ?_) (bdk hw)⟩
    have he1 := he.ext' x1
    obtain ⟨p, vs, e1, e2, e3, rs⟩ := own_at he1 h
    refine ⟨.ref p, e2, sr, O, H0, ad, he1, (Mn.wp wb).mono (fun j q v2 H2 x2 r2 => ?_) (bdk q)⟩
    cases r2
    obtain ⟨ys, hy, q⟩ := Mn.lift_le _ _ (bdk q)
    have he2 := he1.ext' x2
    obtain ⟨p', vs', e1', e2', e3', rs'⟩ := own_at he2 h
    have : p' = p := Option.some.inj (e1'.symm.trans e1)
    subst this
    obtain ⟨jj, hj, rfl⟩ := Option.map_eq_some_iff.mp hy
    have hl : vs'.length = xs.length := by rw [rs'.length, List.length_map]
    refine ⟨p', vs', j, jj, rfl, rfl, e3', by rw [hl]; exact hj, xs.set jj y, sr, O, H0, ad, he2.write (vs := vs') h e1 ?_, q⟩
    rw [List.map_set]
    exact rs'.set (r.ext x2 (he.sOM true)) jj), fun z => nn_bd fun x => nn_bd fun y => nn_bd fun z' => (hr z').nn z⟩
end
end Wk

namespace Wk
open PySem PySem.Spec PyProof.Rows L2

/-! ### calls of the text's defs -/
/-- the def by the name n may be called here -/
def CallOk (X : Cx) (n : Str) (F : List D → (D → Prop) → Prop) : Prop := ∃ (k : Nat) (fa : Addr) (fd : FuncData) (ps : List Str),
  FnOk X.prog X.w X.K X.mg X.base CX0 k fa fd ps (spF X.K X.mg F) ∧ Room k X.A ∧ X.mg n = some (.ref fa) ∧ PySem.W.keepIn X.K (.ref fa) = true ∧ Binds X.K fd ps []
/-- the method of the class c -/
def MethOk (X : Cx) (c n : Str) (F : List D → (D → Prop) → Prop) : Prop := ∃ (k : Nat) (C fa : Addr) (fd : FuncData) (ps : List Str),
  FnOk X.prog X.w X.K X.mg X.base CX0 k fa fd ps (spF X.K X.mg F) ∧ Room k X.A ∧ X.mg c = some (.ref C) ∧ Cls X.K C ∧ Meth X.K C n fa ∧ Binds X.K fd ps []
/-- __init__: the object's attributes behind it -/
def spI (K : PySem.W.Frag) (mg : Str → Option Value) (c : Str) (ns : List Str) (F : List D → (List D → Prop) → Prop) : Sp := fun vs H Q _ => ∃ (x C dx : Addr) (rest : List V) (O : Addr → Prop) (ds : List D),
  vs = .ref x :: rest ∧ H x = some (.ins C dx []) ∧ mg c = some (.ref C) ∧ (∀ p, O p → Mut (H p)) ∧ O x ∧ Reps K mg O H rest ds ∧
  F ds fun fds => ∀ H' dx' fs', (∀ a o, H a = some o → a ≠ x → H' a = some o) → H' x = some (.ins C dx' fs') → fs'.map (·.1) = ns → Reps K mg O H' (fs'.map (·.2)) fds → Q .non H'
def MakeOk (X : Cx) (c : Str) (ns : List Str) (F : List D → (List D → Prop) → Prop) : Prop := ∃ (k : Nat) (C fa : Addr) (fd : FuncData) (ps : List Str),
  FnOk X.prog X.w X.K X.mg X.base CX0 k fa fd ps (spI X.K X.mg c ns F) ∧ Room (k + 1) X.A ∧ X.mg c = some (.ref C) ∧ Mk X.K C fa ∧ Binds X.K fd ps []
theorem lookup_none : ∀ {fs : List (Str × V)} {m : Str}, (fs.map (·.1)).contains m = false → fs.lookup m = none
  | [], _, _ => rfl
  | (k, v) :: r, m, h => by
    rw [List.map_cons, List.contains_cons, Bool.or_eq_false_iff] at h
    rw [List.lookup_cons, h.1]
    exact lookup_none h.2
theorem lookup_at : ∀ {fs : List (Str × V)} {f : Str} {i : Nat}, (fs.map (·.1)).findIdx? (fun x => f == x) = some i → ∃ v, fs.lookup f = some v ∧ (fs.map (·.2))[i]? = some v
  | [], _, _, h => by simp at h
  | (k, v) :: r, f, i, h => by
    rw [List.map_cons, List.findIdx?_cons] at h
    rw [List.lookup_cons]
    cases hb : f == k with
    | true =>
      rw [hb] at h
      simp at h
      subst h
      exact ⟨v, rfl, rfl⟩
    | false =>
      rw [hb] at h
      simp at h
      obtain ⟨j, hj, rfl⟩ := h
      obtain ⟨w, h1, h2⟩ := lookup_at (fs := r) (f := f) (i := j) (by rw [List.findIdx?_map]; exact hj)
      exact ⟨w, h1, by rw [List.map_cons, List.getElem?_cons_succ]; exact h2⟩
section
variable {m : Type → Type} [Mn m] {α β γ δ κ τ ω : Type}
variable {X : Cx} {M : Bool} {ρ : List Slot} {pos p apos : Pos} {n c : Str} {ns : List Str}
theorem Env.domM {K : PySem.W.Frag} {mg : Str → Option Value} {sr : Option Addr} {O : Addr → Prop} {H0 H : Hp} {σ : L2.St} {ad : Nat → Option Addr} (he : Env K mg sr O H0 H σ ρ ad) (M : Bool) : ∀ p, OM M O ad p → Mut (H p) := fun p h => by
  rcases OM.le _ h with h | ⟨j, h⟩
  · exact he.dom p h
  · exact he.mu j p h
/-- o.f -/
theorem JE.fld {E : α → D} {F : β → D} {a : Expr} {f : Str} {wa : m α} (g : α → β) (i : Nat) (hi : ns.findIdx? (fun x => f == x) = some i) (hx : ∀ x, ∃ ds, E x = .o c ns ds ∧ ds[i]? = some (F (g x))) (hc : ∀ C, X.mg c = some (.ref C) → Cls X.K C ∧ NoAttr X.K C f) (ha : JE X M a ρ E wa)
    (hb : attributeBase a f X.env (eval a X.env) = eval a X.env := by rfl) : JE X M (.Attribute a f pos) ρ F (bd wa fun x => rt (g x)) :=
  ⟨⟨pe_weak (pe_fld ha.b.pe hb) fun σ H Q ⟨sr, O, H0, ad, he, hw⟩ => ⟨sr, O, H0, ad, he, by
      have hw := le1 (f := fun x => rt (m := m) (g x)) (g := fun x => Wp.pure (g x)) (fun _ => lep) _ hw
      refine (Mn.wp wa).mono (fun x q v H1 x1 r => ?_) hw
      obtain ⟨ds, e1, e2⟩ := hx x
      rw [e1] at r
      cases r with
      | o h1 h2 h3 h4 h5 =>
        rw [← h4] at hi
        obtain ⟨u, l1, l2⟩ := lookup_at hi
        obtain ⟨d, d1, d2⟩ := h5.get' l2
        rw [e2] at d1
        cases d1
        exact ⟨_, _, _, _, u, rfl, h1, (hc _ h3).1, (hc _ h3).2, l1, q u H1 x1 d2⟩⟩⟩⟩

theorem le3 {β1 : Type} {β2 : Type} {β3 : Type} {a1 : m β1} {a2 : β1 → m β2} {a3 : β1 → β2 → m β3} {f : β1 → β2 → β3 → m γ} {g : β1 → β2 → β3 → Wp γ} (h : ∀ x1 x2 x3, Wp.Le (Mn.wp (f x1 x2 x3)) (g x1 x2 x3)) : Wp.Le (Mn.wp (bd a1 fun x1 => (bd (a2 x1) fun x2 => (bd (a3 x1 x2) fun x3 => f x1 x2 x3)))) ((Mn.wp a1).bind fun x1 => ((Mn.wp (a2 x1)).bind fun x2 => ((Mn.wp (a3 x1 x2)).bind fun x3 => g x1 x2 x3))) :=
  le1 fun x1 => le1 fun x2 => le1 fun x3 => h x1 x2 x3

theorem le4 {β1 : Type} {β2 : Type} {β3 : Type} {β4 : Type} {a1 : m β1} {a2 : β1 → m β2} {a3 : β1 → β2 → m β3} {a4 : β1 → β2 → β3 → m β4} {f : β1 → β2 → β3 → β4 → m γ} {g : β1 → β2 → β3 → β4 → Wp γ} (h : ∀ x1 x2 x3 x4, Wp.Le (Mn.wp (f x1 x2 x3 x4)) (g x1 x2 x3 x4)) : Wp.Le (Mn.wp (bd a1 fun x1 => (bd (a2 x1) fun x2 => (bd (a3 x1 x2) fun x3 => (bd (a4 x1 x2 x3) fun x4 => f x1 x2 x3 x4))))) ((Mn.wp a1).bind fun x1 => ((Mn.wp (a2 x1)).bind fun x2 => ((Mn.wp (a3 x1 x2)).bind fun x3 => ((Mn.wp (a4 x1 x2 x3)).bind fun x4 => g x1 x2 x3 x4)))) :=
  le1 fun x1 => le1 fun x2 => le1 fun x3 => le1 fun x4 => h x1 x2 x3 x4

theorem le5 {β1 : Type} {β2 : Type} {β3 : Type} {β4 : Type} {β5 : Type} {a1 : m β1} {a2 : β1 → m β2} {a3 : β1 → β2 → m β3} {a4 : β1 → β2 → β3 → m β4} {a5 : β1 → β2 → β3 → β4 → m β5} {f : β1 → β2 → β3 → β4 → β5 → m γ} {g : β1 → β2 → β3 → β4 → β5 → Wp γ} (h : ∀ x1 x2 x3 x4 x5, Wp.Le (Mn.wp (f x1 x2 x3 x4 x5)) (g x1 x2 x3 x4 x5)) : Wp.Le (Mn.wp (bd a1 fun x1 => (bd (a2 x1) fun x2 => (bd (a3 x1 x2) fun x3 => (bd (a4 x1 x2 x3) fun x4 => (bd (a5 x1 x2 x3 x4) fun x5 => f x1 x2 x3 x4 x5)))))) ((Mn.wp a1).bind fun x1 => ((Mn.wp (a2 x1)).bind fun x2 => ((Mn.wp (a3 x1 x2)).bind fun x3 => ((Mn.wp (a4 x1 x2 x3)).bind fun x4 => ((Mn.wp (a5 x1 x2 x3 x4)).bind fun x5 => g x1 x2 x3 x4 x5))))) :=
  le1 fun x1 => le1 fun x2 => le1 fun x3 => le1 fun x4 => le1 fun x5 => h x1 x2 x3 x4 x5

theorem le6 {β1 : Type} {β2 : Type} {β3 : Type} {β4 : Type} {β5 : Type} {β6 : Type} {a1 : m β1} {a2 : β1 → m β2} {a3 : β1 → β2 → m β3} {a4 : β1 → β2 → β3 → m β4} {a5 : β1 → β2 → β3 → β4 → m β5} {a6 : β1 → β2 → β3 → β4 → β5 → m β6} {f : β1 → β2 → β3 → β4 → β5 → β6 → m γ} {g : β1 → β2 → β3 → β4 → β5 → β6 → Wp γ} (h : ∀ x1 x2 x3 x4 x5 x6, Wp.Le (Mn.wp (f x1 x2 x3 x4 x5 x6)) (g x1 x2 x3 x4 x5 x6)) : Wp.Le (Mn.wp (bd a1 fun x1 => (bd (a2 x1) fun x2 => (bd (a3 x1 x2) fun x3 => (bd (a4 x1 x2 x3) fun x4 => (bd (a5 x1 x2 x3 x4) fun x5 => (bd (a6 x1 x2 x3 x4 x5) fun x6 => f x1 x2 x3 x4 x5 x6))))))) ((Mn.wp a1).bind fun x1 => ((Mn.wp (a2 x1)).bind fun x2 => ((Mn.wp (a3 x1 x2)).bind fun x3 => ((Mn.wp (a4 x1 x2 x3)).bind fun x4 => ((Mn.wp (a5 x1 x2 x3 x4)).bind fun x5 => ((Mn.wp (a6 x1 x2 x3 x4 x5)).bind fun x6 => g x1 x2 x3 x4 x5 x6)))))) :=
  le1 fun x1 => le1 fun x2 => le1 fun x3 => le1 fun x4 => le1 fun x5 => le1 fun x6 => h x1 x2 x3 x4 x5 x6

theorem le7 {β1 : Type} {β2 : Type} {β3 : Type} {β4 : Type} {β5 : Type} {β6 : Type} {β7 : Type} {a1 : m β1} {a2 : β1 → m β2} {a3 : β1 → β2 → m β3} {a4 : β1 → β2 → β3 → m β4} {a5 : β1 → β2 → β3 → β4 → m β5} {a6 : β1 → β2 → β3 → β4 → β5 → m β6} {a7 : β1 → β2 → β3 → β4 → β5 → β6 → m β7} {f : β1 → β2 → β3 → β4 → β5 → β6 → β7 → m γ} {g : β1 → β2 → β3 → β4 → β5 → β6 → β7 → Wp γ} (h : ∀ x1 x2 x3 x4 x5 x6 x7, Wp.Le (Mn.wp (f x1 x2 x3 x4 x5 x6 x7)) (g x1 x2 x3 x4 x5 x6 x7)) : Wp.Le (Mn.wp (bd a1 fun x1 => (bd (a2 x1) fun x2 => (bd (a3 x1 x2) fun x3 => (bd (a4 x1 x2 x3) fun x4 => (bd (a5 x1 x2 x3 x4) fun x5 => (bd (a6 x1 x2 x3 x4 x5) fun x6 => (bd (a7 x1 x2 x3 x4 x5 x6) fun x7 => f x1 x2 x3 x4 x5 x6 x7)))))))) ((Mn.wp a1).bind fun x1 => ((Mn.wp (a2 x1)).bind fun x2 => ((Mn.wp (a3 x1 x2)).bind fun x3 => ((Mn.wp (a4 x1 x2 x3)).bind fun x4 => ((Mn.wp (a5 x1 x2 x3 x4)).bind fun x5 => ((Mn.wp (a6 x1 x2 x3 x4 x5)).bind fun x6 => ((Mn.wp (a7 x1 x2 x3 x4 x5 x6)).bind fun x7 => g x1 x2 x3 x4 x5 x6 x7))))))) :=
  le1 fun x1 => le1 fun x2 => le1 fun x3 => le1 fun x4 => le1 fun x5 => le1 fun x6 => le1 fun x7 => h x1 x2 x3 x4 x5 x6 x7

theorem JE.call0     {f : Option (δ)} {G : δ → D} {Fs : List D → (D → Prop) → Prop} (hF : ∀  r P, f  = some r → P (G r) → Fs [] P) (C : CallOk X n Fs)  (hg : Gl X n := by rfl) (hdb : (n == ("__debug__" : Str)) = false := by decide)   :
    JE X M (.Call (.Name n p) [] [] pos) ρ G (lf (m := m) f) := by
  obtain ⟨k, fa, fd, ps, F, hr, hm, hk, hb⟩ := C
  refine ⟨⟨pe_weak (pe_call0 F hr hg hm hk hb .nil pass0 hdb) fun σ H Q ⟨sr, O, H0, ad, he, hw⟩ => ?_⟩⟩
  have hw := Mn.lift_le _ _ hw
  obtain ⟨z, hz, q⟩ := hw
  exact ⟨OM M O ad, [], he.domM M, .nil, hF  z _ hz fun v' H' al rk => q v' H' (al.ext he.srs) rk.1⟩

theorem JL.call0     {f : Option (List δ)} {G : δ → D} {Fs : List D → (D → Prop) → Prop} (hF : ∀  r P, f  = some r → P ((eL G) r) → Fs [] P) (C : CallOk X n Fs)  (hg : Gl X n := by rfl) (hdb : (n == ("__debug__" : Str)) = false := by decide)   :
    JL X M (.Call (.Name n p) [] [] pos) ρ G (lf (m := m) f) := by
  obtain ⟨k, fa, fd, ps, F, hr, hm, hk, hb⟩ := C
  refine ⟨⟨pe_weak (pe_call0 F hr hg hm hk hb .nil pass0 hdb) fun σ H Q ⟨sr, O, H0, ad, he, hw⟩ => ?_⟩⟩
  have hw := Mn.lift_le _ _ hw
  obtain ⟨z, hz, q⟩ := hw
  exact ⟨OM M O ad, [], he.domM M, .nil, hF  z _ hz fun v' H' al rk => (by
    obtain ⟨rk1, p, vs, rfl, hp, hp', rs⟩ := rk
    exact q p vs H' (hp) (al.ext he.srs) hp' rs)⟩

theorem JE.call1 {α1 : Type} {E1 : α1 → D} {w1 : m α1} {e1 : Expr} {f : α1 → Option (δ)} {G : δ → D} {Fs : List D → (D → Prop) → Prop} (hF : ∀ x1 r P, f x1 = some r → P (G r) → Fs [E1 x1] P) (C : CallOk X n Fs) (ha1 : JE X M e1 ρ E1 w1) (hg : Gl X n := by rfl) (hdb : (n == ("__debug__" : Str)) = false := by decide) (hs1 : starEach [e1] X.env = (false, eval e1 X.env) :: starEach [] X.env := by rfl) (hpl : (backTo pos (starEach [] X.env)).any (·.1) = false := by rfl) :
    JE X M (.Call (.Name n p) [e1] [] pos) ρ G (bd w1 fun x1 => lf (f x1)) := by
  obtain ⟨k, fa, fd, ps, F, hr, hm, hk, hb⟩ := C
  refine ⟨⟨pe_weak (pe_call F hr hg hm hk hb .nil pass0 (pa_cons ha1.b.pe pa_nil hs1) hdb hs1 hpl) fun σ H Q ⟨sr, O, H0, ad, he, hw⟩ => ?_⟩⟩
  have hw := le1 (f := fun x1 => lf (m := m) (f x1)) (g := fun x1 => Wp.ofO (f x1)) (fun _ => Mn.lift_le _) _ hw
  refine ⟨sr, O, H0, ad, he, (Mn.wp w1).mono (fun x1 q1 v_1 H_1 x_1 r_1 => ?_) hw⟩
  obtain ⟨z, hz, q⟩ := q1
  exact ⟨OM M O ad, [E1 x1], (he.ext' x_1).domM M, (.cons r_1 .nil), hF x1 z _ hz fun v' H' al rk => q v' H' (x_1.trans (al.ext x_1.srs)) rk.1⟩

theorem JL.call1 {α1 : Type} {E1 : α1 → D} {w1 : m α1} {e1 : Expr} {f : α1 → Option (List δ)} {G : δ → D} {Fs : List D → (D → Prop) → Prop} (hF : ∀ x1 r P, f x1 = some r → P ((eL G) r) → Fs [E1 x1] P) (C : CallOk X n Fs) (ha1 : JE X M e1 ρ E1 w1) (hg : Gl X n := by rfl) (hdb : (n == ("__debug__" : Str)) = false := by decide) (hs1 : starEach [e1] X.env = (false, eval e1 X.env) :: starEach [] X.env := by rfl) (hpl : (backTo pos (starEach [] X.env)).any (·.1) = false := by rfl) :
    JL X M (.Call (.Name n p) [e1] [] pos) ρ G (bd w1 fun x1 => lf (f x1)) := by
  obtain ⟨k, fa, fd, ps, F, hr, hm, hk, hb⟩ := C
  refine ⟨⟨pe_weak (pe_call F hr hg hm hk hb .nil pass0 (pa_cons ha1.b.pe pa_nil hs1) hdb hs1 hpl) fun σ H Q ⟨sr, O, H0, ad, he, hw⟩ => ?_⟩⟩
  have hw := le1 (f := fun x1 => lf (m := m) (f x1)) (g := fun x1 => Wp.ofO (f x1)) (fun _ => Mn.lift_le _) _ hw
  refine ⟨sr, O, H0, ad, he, (Mn.wp w1).mono (fun x1 q1 v_1 H_1 x_1 r_1 => ?_) hw⟩
  obtain ⟨z, hz, q⟩ := q1
  exact ⟨OM M O ad, [E1 x1], (he.ext' x_1).domM M, (.cons r_1 .nil), hF x1 z _ hz fun v' H' al rk => (by
    obtain ⟨rk1, p, vs, rfl, hp, hp', rs⟩ := rk
    exact q p vs H' (x_1.back hp) (x_1.trans (al.ext x_1.srs)) hp' rs)⟩

theorem JE.call2 {α1 : Type} {α2 : Type} {E1 : α1 → D} {E2 : α2 → D} {w1 : m α1} {w2 : m α2} {e1 e2 : Expr} {f : α1 → α2 → Option (δ)} {G : δ → D} {Fs : List D → (D → Prop) → Prop} (hF : ∀ x1 x2 r P, f x1 x2 = some r → P (G r) → Fs [E1 x1, E2 x2] P) (C : CallOk X n Fs) (ha1 : JE X M e1 ρ E1 w1) (ha2 : JE X M e2 ρ E2 w2) (hg : Gl X n := by rfl) (hdb : (n == ("__debug__" : Str)) = false := by decide) (hs1 : starEach [e1, e2] X.env = (false, eval e1 X.env) :: starEach [e2] X.env := by rfl) (hs2 : starEach [e2] X.env = (false, eval e2 X.env) :: starEach [] X.env := by rfl) (hpl : (backTo pos (starEach [e2] X.env)).any (·.1) = false := by rfl) :
    JE X M (.Call (.Name n p) [e1, e2] [] pos) ρ G (bd w1 fun x1 => (bd w2 fun x2 => lf (f x1 x2))) := by
  obtain ⟨k, fa, fd, ps, F, hr, hm, hk, hb⟩ := C
  refine ⟨⟨pe_weak (pe_call F hr hg hm hk hb .nil pass0 (pa_cons ha1.b.pe (pa_cons ha2.b.pe pa_nil hs2) hs1) hdb hs1 hpl) fun σ H Q ⟨sr, O, H0, ad, he, hw⟩ => ?_⟩⟩
  have hw := le2 (f := fun x1 x2 => lf (m := m) (f x1 x2)) (g := fun x1 x2 => Wp.ofO (f x1 x2)) (fun _ _ => Mn.lift_le _) _ hw
  refine ⟨sr, O, H0, ad, he, (Mn.wp w1).mono (fun x1 q1 v_1 H_1 x_1 r_1 => ?_) hw⟩
  refine ⟨sr, O, H0, ad, (he.ext' x_1), (Mn.wp w2).mono (fun x2 q2 v_2 H_2 x_2 r_2 => ?_) q1⟩
  obtain ⟨z, hz, q⟩ := q2
  exact ⟨OM M O ad, [E1 x1, E2 x2], (he.ext' (x_1.trans x_2)).domM M, (.cons (r_1.ext x_2 (he.sOM M)) (.cons r_2 .nil)), hF x1 x2 z _ hz fun v' H' al rk => q v' H' ((x_1.trans x_2).trans (al.ext x_2.srs)) rk.1⟩

theorem JL.call2 {α1 : Type} {α2 : Type} {E1 : α1 → D} {E2 : α2 → D} {w1 : m α1} {w2 : m α2} {e1 e2 : Expr} {f : α1 → α2 → Option (List δ)} {G : δ → D} {Fs : List D → (D → Prop) → Prop} (hF : ∀ x1 x2 r P, f x1 x2 = some r → P ((eL G) r) → Fs [E1 x1, E2 x2] P) (C : CallOk X n Fs) (ha1 : JE X M e1 ρ E1 w1) (ha2 : JE X M e2 ρ E2 w2) (hg : Gl X n := by rfl) (hdb : (n == ("__debug__" : Str)) = false := by decide) (hs1 : starEach [e1, e2] X.env = (false, eval e1 X.env) :: starEach [e2] X.env := by rfl) (hs2 : starEach [e2] X.env = (false, eval e2 X.env) :: starEach [] X.env := by rfl) (hpl : (backTo pos (starEach [e2] X.env)).any (·.1) = false := by rfl) :
    JL X M (.Call (.Name n p) [e1, e2] [] pos) ρ G (bd w1 fun x1 => (bd w2 fun x2 => lf (f x1 x2))) := by
  obtain ⟨k, fa, fd, ps, F, hr, hm, hk, hb⟩ := C
  refine ⟨⟨pe_weak (pe_call F hr hg hm hk hb .nil pass0 (pa_cons ha1.b.pe (pa_cons ha2.b.pe pa_nil hs2) hs1) hdb hs1 hpl) fun σ H Q ⟨sr, O, H0, ad, he, hw⟩ => ?_⟩⟩
  have hw := le2 (f := fun x1 x2 => lf (m := m) (f x1 x2)) (g := fun x1 x2 => Wp.ofO (f x1 x2)) (fun _ _ => Mn.lift_le _) _ hw
  refine ⟨sr, O, H0, ad, he, (Mn.wp w1).mono (fun x1 q1 v_1 H_1 x_1 r_1 => ?_) hw⟩
  refine ⟨sr, O, H0, ad, (he.ext' x_1), (Mn.wp w2).mono (fun x2 q2 v_2 H_2 x_2 r_2 => ?_) q1⟩
  obtain ⟨z, hz, q⟩ := q2
  exact ⟨OM M O ad, [E1 x1, E2 x2], (he.ext' (x_1.trans x_2)).domM M, (.cons (r_1.ext x_2 (he.sOM M)) (.cons r_2 .nil)), hF x1 x2 z _ hz fun v' H' al rk => (by
    obtain ⟨rk1, p, vs, rfl, hp, hp', rs⟩ := rk
    exact q p vs H' ((x_1.trans x_2).back hp) ((x_1.trans x_2).trans (al.ext x_2.srs)) hp' rs)⟩

theorem JE.call3 {α1 : Type} {α2 : Type} {α3 : Type} {E1 : α1 → D} {E2 : α2 → D} {E3 : α3 → D} {w1 : m α1} {w2 : m α2} {w3 : m α3} {e1 e2 e3 : Expr} {f : α1 → α2 → α3 → Option (δ)} {G : δ → D} {Fs : List D → (D → Prop) → Prop} (hF : ∀ x1 x2 x3 r P, f x1 x2 x3 = some r → P (G r) → Fs [E1 x1, E2 x2, E3 x3] P) (C : CallOk X n Fs) (ha1 : JE X M e1 ρ E1 w1) (ha2 : JE X M e2 ρ E2 w2) (ha3 : JE X M e3 ρ E3 w3) (hg : Gl X n := by rfl) (hdb : (n == ("__debug__" : Str)) = false := by decide) (hs1 : starEach [e1, e2, e3] X.env = (false, eval e1 X.env) :: starEach [e2, e3] X.env := by rfl) (hs2 : starEach [e2, e3] X.env = (false, eval e2 X.env) :: starEach [e3] X.env := by rfl) (hs3 : starEach [e3] X.env = (false, eval e3 X.env) :: starEach [] X.env := by rfl) (hpl : (backTo pos (starEach [e2, e3] X.env)).any (·.1) = false := by rfl) :
    JE X M (.Call (.Name n p) [e1, e2, e3] [] pos) ρ G (bd w1 fun x1 => (bd w2 fun x2 => (bd w3 fun x3 => lf (f x1 x2 x3)))) := by
  obtain ⟨k, fa, fd, ps, F, hr, hm, hk, hb⟩ := C
  refine ⟨⟨pe_weak (pe_call F hr hg hm hk hb .nil pass0 (pa_cons ha1.b.pe (pa_cons ha2.b.pe (pa_cons ha3.b.pe pa_nil hs3) hs2) hs1) hdb hs1 hpl) fun σ H Q ⟨sr, O, H0, ad, he, hw⟩ => ?_⟩⟩
  have hw := le3 (f := fun x1 x2 x3 => lf (m := m) (f x1 x2 x3)) (g := fun x1 x2 x3 => Wp.ofO (f x1 x2 x3)) (fun _ _ _ => Mn.lift_le _) _ hw
  refine ⟨sr, O, H0, ad, he, (Mn.wp w1).mono (fun x1 q1 v_1 H_1 x_1 r_1 => ?_) hw⟩
  refine ⟨sr, O, H0, ad, (he.ext' x_1), (Mn.wp w2).mono (fun x2 q2 v_2 H_2 x_2 r_2 => ?_) q1⟩
  refine ⟨sr, O, H0, ad, (he.ext' (x_1.trans x_2)), (Mn.wp w3).mono (fun x3 q3 v_3 H_3 x_3 r_3 => ?_) q2⟩
  obtain ⟨z, hz, q⟩ := q3
  exact ⟨OM M O ad, [E1 x1, E2 x2, E3 x3], (he.ext' ((x_1.trans x_2).trans x_3)).domM M, (.cons ((r_1.ext x_2 (he.sOM M)).ext x_3 (he.sOM M)) (.cons (r_2.ext x_3 (he.sOM M)) (.cons r_3 .nil))), hF x1 x2 x3 z _ hz fun v' H' al rk => q v' H' (((x_1.trans x_2).trans x_3).trans (al.ext x_3.srs)) rk.1⟩

theorem JL.call3 {α1 : Type} {α2 : Type} {α3 : Type} {E1 : α1 → D} {E2 : α2 → D} {E3 : α3 → D} {w1 : m α1} {w2 : m α2} {w3 : m α3} {e1 e2 e3 : Expr} {f : α1 → α2 → α3 → Option (List δ)} {G : δ → D} {Fs : List D → (D → Prop) → Prop} (hF : ∀ x1 x2 x3 r P, f x1 x2 x3 = some r → P ((eL G) r) → Fs [E1 x1, E2 x2, E3 x3] P) (C : CallOk X n Fs) (ha1 : JE X M e1 ρ E1 w1) (ha2 : JE X M e2 ρ E2 w2) (ha3 : JE X M e3 ρ E3 w3) (hg : Gl X n := by rfl) (hdb : (n == ("__debug__" : Str)) = false := by decide) (hs1 : starEach [e1, e2, e3] X.env = (false, eval e1 X.env) :: starEach [e2, e3] X.env := by rfl) (hs2 : starEach [e2, e3] X.env = (false, eval e2 X.env) :: starEach [e3] X.env := by rfl) (hs3 : starEach [e3] X.env = (false, eval e3 X.env) :: starEach [] X.env := by rfl) (hpl : (backTo pos (starEach [e2, e3] X.env)).any (·.1) = false := by rfl) :
    JL X M (.Call (.Name n p) [e1, e2, e3] [] pos) ρ G (bd w1 fun x1 => (bd w2 fun x2 => (bd w3 fun x3 => lf (f x1 x2 x3)))) := by
  obtain ⟨k, fa, fd, ps, F, hr, hm, hk, hb⟩ := C
  refine ⟨⟨pe_weak (pe_call F hr hg hm hk hb .nil pass0 (pa_cons ha1.b.pe (pa_cons ha2.b.pe (pa_cons ha3.b.pe pa_nil hs3) hs2) hs1) hdb hs1 hpl) fun σ H Q ⟨sr, O, H0, ad, he, hw⟩ => ?_⟩⟩
  have hw := le3 (f := fun x1 x2 x3 => lf (m := m) (f x1 x2 x3)) (g := fun x1 x2 x3 => Wp.ofO (f x1 x2 x3)) (fun _ _ _ => Mn.lift_le _) _ hw
  refine ⟨sr, O, H0, ad, he, (Mn.wp w1).mono (fun x1 q1 v_1 H_1 x_1 r_1 => ?_) hw⟩
  refine ⟨sr, O, H0, ad, (he.ext' x_1), (Mn.wp w2).mono (fun x2 q2 v_2 H_2 x_2 r_2 => ?_) q1⟩
  refine ⟨sr, O, H0, ad, (he.ext' (x_1.trans x_2)), (Mn.wp w3).mono (fun x3 q3 v_3 H_3 x_3 r_3 => ?_) q2⟩
  obtain ⟨z, hz, q⟩ := q3
  exact ⟨OM M O ad, [E1 x1, E2 x2, E3 x3], (he.ext' ((x_1.trans x_2).trans x_3)).domM M, (.cons ((r_1.ext x_2 (he.sOM M)).ext x_3 (he.sOM M)) (.cons (r_2.ext x_3 (he.sOM M)) (.cons r_3 .nil))), hF x1 x2 x3 z _ hz fun v' H' al rk => (by
    obtain ⟨rk1, p, vs, rfl, hp, hp', rs⟩ := rk
    exact q p vs H' (((x_1.trans x_2).trans x_3).back hp) (((x_1.trans x_2).trans x_3).trans (al.ext x_3.srs)) hp' rs)⟩

theorem JE.call4 {α1 : Type} {α2 : Type} {α3 : Type} {α4 : Type} {E1 : α1 → D} {E2 : α2 → D} {E3 : α3 → D} {E4 : α4 → D} {w1 : m α1} {w2 : m α2} {w3 : m α3} {w4 : m α4} {e1 e2 e3 e4 : Expr} {f : α1 → α2 → α3 → α4 → Option (δ)} {G : δ → D} {Fs : List D → (D → Prop) → Prop} (hF : ∀ x1 x2 x3 x4 r P, f x1 x2 x3 x4 = some r → P (G r) → Fs [E1 x1, E2 x2, E3 x3, E4 x4] P) (C : CallOk X n Fs) (ha1 : JE X M e1 ρ E1 w1) (ha2 : JE X M e2 ρ E2 w2) (ha3 : JE X M e3 ρ E3 w3) (ha4 : JE X M e4 ρ E4 w4) (hg : Gl X n := by rfl) (hdb : (n == ("__debug__" : Str)) = false := by decide) (hs1 : starEach [e1, e2, e3, e4] X.env = (false, eval e1 X.env) :: starEach [e2, e3, e4] X.env := by rfl) (hs2 : starEach [e2, e3, e4] X.env = (false, eval e2 X.env) :: starEach [e3, e4] X.env := by rfl) (hs3 : starEach [e3, e4] X.env = (false, eval e3 X.env) :: starEach [e4] X.env := by rfl) (hs4 : starEach [e4] X.env = (false, eval e4 X.env) :: starEach [] X.env := by rfl) (hpl : (backTo pos (starEach [e2, e3, e4] X.env)).any (·.1) = false := by rfl) :
    JE X M (.Call (.Name n p) [e1, e2, e3, e4] [] pos) ρ G (bd w1 fun x1 => (bd w2 fun x2 => (bd w3 fun x3 => (bd w4 fun x4 => lf (f x1 x2 x3 x4))))) := by
  obtain ⟨k, fa, fd, ps, F, hr, hm, hk, hb⟩ := C
  refine ⟨⟨pe_weak (pe_call F hr hg hm hk hb .nil pass0 (pa_cons ha1.b.pe (pa_cons ha2.b.pe (pa_cons ha3.b.pe (pa_cons ha4.b.pe pa_nil hs4) hs3) hs2) hs1) hdb hs1 hpl) fun σ H Q ⟨sr, O, H0, ad, he, hw⟩ => ?_⟩⟩
  have hw := le4 (f := fun x1 x2 x3 x4 => lf (m := m) (f x1 x2 x3 x4)) (g := fun x1 x2 x3 x4 => Wp.ofO (f x1 x2 x3 x4)) (fun _ _ _ _ => Mn.lift_le _) _ hw
  refine ⟨sr, O, H0, ad, he, (Mn.wp w1).mono (fun x1 q1 v_1 H_1 x_1 r_1 => ?_) hw⟩
  refine ⟨sr, O, H0, ad, (he.ext' x_1), (Mn.wp w2).mono (fun x2 q2 v_2 H_2 x_2 r_2 => ?_) q1⟩
  refine ⟨sr, O, H0, ad, (he.ext' (x_1.trans x_2)), (Mn.wp w3).mono (fun x3 q3 v_3 H_3 x_3 r_3 => ?_) q2⟩
  refine ⟨sr, O, H0, ad, (he.ext' ((x_1.trans x_2).trans x_3)), (Mn.wp w4).mono (fun x4 q4 v_4 H_4 x_4 r_4 => ?_) q3⟩
  obtain ⟨z, hz, q⟩ := q4
  exact ⟨OM M O ad, [E1 x1, E2 x2, E3 x3, E4 x4], (he.ext' (((x_1.trans x_2).trans x_3).trans x_4)).domM M, (.cons (((r_1.ext x_2 (he.sOM M)).ext x_3 (he.sOM M)).ext x_4 (he.sOM M)) (.cons ((r_2.ext x_3 (he.sOM M)).ext x_4 (he.sOM M)) (.cons (r_3.ext x_4 (he.sOM M)) (.cons r_4 .nil)))), hF x1 x2 x3 x4 z _ hz fun v' H' al rk => q v' H' ((((x_1.trans x_2).trans x_3).trans x_4).trans (al.ext x_4.srs)) rk.1⟩

theorem JL.call4 {α1 : Type} {α2 : Type} {α3 : Type} {α4 : Type} {E1 : α1 → D} {E2 : α2 → D} {E3 : α3 → D} {E4 : α4 → D} {w1 : m α1} {w2 : m α2} {w3 : m α3} {w4 : m α4} {e1 e2 e3 e4 : Expr} {f : α1 → α2 → α3 → α4 → Option (List δ)} {G : δ → D} {Fs : List D → (D → Prop) → Prop} (hF : ∀ x1 x2 x3 x4 r P, f x1 x2 x3 x4 = some r → P ((eL G) r) → Fs [E1 x1, E2 x2, E3 x3, E4 x4] P) (C : CallOk X n Fs) (ha1 : JE X M e1 ρ E1 w1) (ha2 : JE X M e2 ρ E2 w2) (ha3 : JE X M e3 ρ E3 w3) (ha4 : JE X M e4 ρ E4 w4) (hg : Gl X n := by rfl) (hdb : (n == ("__debug__" : Str)) = false := by decide) (hs1 : starEach [e1, e2, e3, e4] X.env = (false, eval e1 X.env) :: starEach [e2, e3, e4] X.env := by rfl) (hs2 : starEach [e2, e3, e4] X.env = (false, eval e2 X.env) :: starEach [e3, e4] X.env := by rfl) (hs3 : starEach [e3, e4] X.env = (false, eval e3 X.env) :: starEach [e4] X.env := by rfl) (hs4 : starEach [e4] X.env = (false, eval e4 X.env) :: starEach [] X.env := by rfl) (hpl : (backTo pos (starEach [e2, e3, e4] X.env)).any (·.1) = false := by rfl) :
    JL X M (.Call (.Name n p) [e1, e2, e3, e4] [] pos) ρ G (bd w1 fun x1 => (bd w2 fun x2 => (bd w3 fun x3 => (bd w4 fun x4 => lf (f x1 x2 x3 x4))))) := by
  obtain ⟨k, fa, fd, ps, F, hr, hm, hk, hb⟩ := C
  refine ⟨⟨pe_weak (pe_call F hr hg hm hk hb .nil pass0 (pa_cons ha1.b.pe (pa_cons ha2.b.pe (pa_cons ha3.b.pe (pa_cons ha4.b.pe pa_nil hs4) hs3) hs2) hs1) hdb hs1 hpl) fun σ H Q ⟨sr, O, H0, ad, he, hw⟩ => ?_⟩⟩
  have hw := le4 (f := fun x1 x2 x3 x4 => lf (m := m) (f x1 x2 x3 x4)) (g := fun x1 x2 x3 x4 => Wp.ofO (f x1 x2 x3 x4)) (fun _ _ _ _ => Mn.lift_le _) _ hw
  refine ⟨sr, O, H0, ad, he, (Mn.wp w1).mono (fun x1 q1 v_1 H_1 x_1 r_1 => ?_) hw⟩
  refine ⟨sr, O, H0, ad, (he.ext' x_1), (Mn.wp w2).mono (fun x2 q2 v_2 H_2 x_2 r_2 => ?_) q1⟩
  refine ⟨sr, O, H0, ad, (he.ext' (x_1.trans x_2)), (Mn.wp w3).mono (fun x3 q3 v_3 H_3 x_3 r_3 => ?_) q2⟩
  refine ⟨sr, O, H0, ad, (he.ext' ((x_1.trans x_2).trans x_3)), (Mn.wp w4).mono (fun x4 q4 v_4 H_4 x_4 r_4 => ?_) q3⟩
  obtain ⟨z, hz, q⟩ := q4
  exact ⟨OM M O ad, [E1 x1, E2 x2, E3 x3, E4 x4], (he.ext' (((x_1.trans x_2).trans x_3).trans x_4)).domM M, (.cons (((r_1.ext x_2 (he.sOM M)).ext x_3 (he.sOM M)).ext x_4 (he.sOM M)) (.cons ((r_2.ext x_3 (he.sOM M)).ext x_4 (he.sOM M)) (.cons (r_3.ext x_4 (he.sOM M)) (.cons r_4 .nil)))), hF x1 x2 x3 x4 z _ hz fun v' H' al rk => (by
    obtain ⟨rk1, p, vs, rfl, hp, hp', rs⟩ := rk
    exact q p vs H' ((((x_1.trans x_2).trans x_3).trans x_4).back hp) ((((x_1.trans x_2).trans x_3).trans x_4).trans (al.ext x_4.srs)) hp' rs)⟩

theorem JE.call5 {α1 : Type} {α2 : Type} {α3 : Type} {α4 : Type} {α5 : Type} {E1 : α1 → D} {E2 : α2 → D} {E3 : α3 → D} {E4 : α4 → D} {E5 : α5 → D} {w1 : m α1} {w2 : m α2} {w3 : m α3} {w4 : m α4} {w5 : m α5} {e1 e2 e3 e4 e5 : Expr} {f : α1 → α2 → α3 → α4 → α5 → Option (δ)} {G : δ → D} {Fs : List D → (D → Prop) → Prop} (hF : ∀ x1 x2 x3 x4 x5 r P, f x1 x2 x3 x4 x5 = some r → P (G r) → Fs [E1 x1, E2 x2, E3 x3, E4 x4, E5 x5] P) (C : CallOk X n Fs) (ha1 : JE X M e1 ρ E1 w1) (ha2 : JE X M e2 ρ E2 w2) (ha3 : JE X M e3 ρ E3 w3) (ha4 : JE X M e4 ρ E4 w4) (ha5 : JE X M e5 ρ E5 w5) (hg : Gl X n := by rfl) (hdb : (n == ("__debug__" : Str)) = false := by decide) (hs1 : starEach [e1, e2, e3, e4, e5] X.env = (false, eval e1 X.env) :: starEach [e2, e3, e4, e5] X.env := by rfl) (hs2 : starEach [e2, e3, e4, e5] X.env = (false, eval e2 X.env) :: starEach [e3, e4, e5] X.env := by rfl) (hs3 : starEach [e3, e4, e5] X.env = (false, eval e3 X.env) :: starEach [e4, e5] X.env := by rfl) (hs4 : starEach [e4, e5] X.env = (false, eval e4 X.env) :: starEach [e5] X.env := by rfl) (hs5 : starEach [e5] X.env = (false, eval e5 X.env) :: starEach [] X.env := by rfl) (hpl : (backTo pos (starEach [e2, e3, e4, e5] X.env)).any (·.1) = false := by rfl) :
    JE X M (.Call (.Name n p) [e1, e2, e3, e4, e5] [] pos) ρ G (bd w1 fun x1 => (bd w2 fun x2 => (bd w3 fun x3 => (bd w4 fun x4 => (bd w5 fun x5 => lf (f x1 x2 x3 x4 x5)))))) := by
  obtain ⟨k, fa, fd, ps, F, hr, hm, hk, hb⟩ := C
  refine ⟨⟨pe_weak (pe_call F hr hg hm hk hb .nil pass0 (pa_cons ha1.b.pe (pa_cons ha2.b.pe (pa_cons ha3.b.pe (pa_cons ha4.b.pe (pa_cons ha5.b.pe pa_nil hs5) hs4) hs3) hs2) hs1) hdb hs1 hpl) fun σ H Q ⟨sr, O, H0, ad, he, hw⟩ => ?_⟩⟩
  have hw := le5 (f := fun x1 x2 x3 x4 x5 => lf (m := m) (f x1 x2 x3 x4 x5)) (g := fun x1 x2 x3 x4 x5 => Wp.ofO (f x1 x2 x3 x4 x5)) (fun _ _ _ _ _ => Mn.lift_le _) _ hw
  refine ⟨sr, O, H0, ad, he, (Mn.wp w1).mono (fun x1 q1 v_1 H_1 x_1 r_1 => ?_) hw⟩
  refine ⟨sr, O, H0, ad, (he.ext' x_1), (Mn.wp w2).mono (fun x2 q2 v_2 H_2 x_2 r_2 => ?_) q1⟩
  refine ⟨sr, O, H0, ad, (he.ext' (x_1.trans x_2)), (Mn.wp w3).mono (fun x3 q3 v_3 H_3 x_3 r_3 => ?_) q2⟩
  refine ⟨sr, O, H0, ad, (he.ext' ((x_1.trans x_2).trans x_3)), (Mn.wp w4).mono (fun x4 q4 v_4 H_4 x_4 r_4 => ?_) q3⟩
  refine ⟨sr, O, H0, ad, (he.ext' (((x_1.trans x_2).trans x_3).trans x_4)), (Mn.wp w5).mono (fun x5 q5 v_5 H_5 x_5 r_5 => ?_) q4⟩
  obtain ⟨z, hz, q⟩ := q5
  exact ⟨OM M O ad, [E1 x1, E2 x2, E3 x3, E4 x4, E5 x5], (he.ext' ((((x_1.trans x_2).trans x_3).trans x_4).trans x_5)).domM M, (.cons ((((r_1.ext x_2 (he.sOM M)).ext x_3 (he.sOM M)).ext x_4 (he.sOM M)).ext x_5 (he.sOM M)) (.cons (((r_2.ext x_3 (he.sOM M)).ext x_4 (he.sOM M)).ext x_5 (he.sOM M)) (.cons ((r_3.ext x_4 (he.sOM M)).ext x_5 (he.sOM M)) (.cons (r_4.ext x_5 (he.sOM M)) (.cons r_5 .nil))))), hF x1 x2 x3 x4 x5 z _ hz fun v' H' al rk => q v' H' (((((x_1.trans x_2).trans x_3).trans x_4).trans x_5).trans (al.ext x_5.srs)) rk.1⟩

theorem JL.call5 {α1 : Type} {α2 : Type} {α3 : Type} {α4 : Type} {α5 : Type} {E1 : α1 → D} {E2 : α2 → D} {E3 : α3 → D} {E4 : α4 → D} {E5 : α5 → D} {w1 : m α1} {w2 : m α2} {w3 : m α3} {w4 : m α4} {w5 : m α5} {e1 e2 e3 e4 e5 : Expr} {f : α1 → α2 → α3 → α4 → α5 → Option (List δ)} {G : δ → D} {Fs : List D → (D → Prop) → Prop} (hF : ∀ x1 x2 x3 x4 x5 r P, f x1 x2 x3 x4 x5 = some r → P ((eL G) r) → Fs [E1 x1, E2 x2, E3 x3, E4 x4, E5 x5] P) (C : CallOk X n Fs) (ha1 : JE X M e1 ρ E1 w1) (ha2 : JE X M e2 ρ E2 w2) (ha3 : JE X M e3 ρ E3 w3) (ha4 : JE X M e4 ρ E4 w4) (ha5 : JE X M e5 ρ E5 w5) (hg : Gl X n := by rfl) (hdb : (n == ("__debug__" : Str)) = false := by decide) (hs1 : starEach [e1, e2, e3, e4, e5] X.env = (false, eval e1 X.env) :: starEach [e2, e3, e4, e5] X.env := by rfl) (hs2 : starEach [e2, e3, e4, e5] X.env = (false, eval e2 X.env) :: starEach [e3, e4, e5] X.env := by rfl) (hs3 : starEach [e3, e4, e5] X.env = (false, eval e3 X.env) :: starEach [e4, e5] X.env := by rfl) (hs4 : starEach [e4, e5] X.env = (false, eval e4 X.env) :: starEach [e5] X.env := by rfl) (hs5 : starEach [e5] X.env = (false, eval e5 X.env) :: starEach [] X.env := by rfl) (hpl : (backTo pos (starEach [e2, e3, e4, e5] X.env)).any (·.1) = false := by rfl) :
    JL X M (.Call (.Name n p) [e1, e2, e3, e4, e5] [] pos) ρ G (bd w1 fun x1 => (bd w2 fun x2 => (bd w3 fun x3 => (bd w4 fun x4 => (bd w5 fun x5 => lf (f x1 x2 x3 x4 x5)))))) := by
  obtain ⟨k, fa, fd, ps, F, hr, hm, hk, hb⟩ := C
  refine ⟨⟨pe_weak (pe_call F hr hg hm hk hb .nil pass0 (pa_cons ha1.b.pe (pa_cons ha2.b.pe (pa_cons ha3.b.pe (pa_cons ha4.b.pe (pa_cons ha5.b.pe pa_nil hs5) hs4) hs3) hs2) hs1) hdb hs1 hpl) fun σ H Q ⟨sr, O, H0, ad, he, hw⟩ => ?_⟩⟩
  have hw := le5 (f := fun x1 x2 x3 x4 x5 => lf (m := m) (f x1 x2 x3 x4 x5)) (g := fun x1 x2 x3 x4 x5 => Wp.ofO (f x1 x2 x3 x4 x5)) (fun _ _ _ _ _ => Mn.lift_le _) _ hw
  refine ⟨sr, O, H0, ad, he, (Mn.wp w1).mono (fun x1 q1 v_1 H_1 x_1 r_1 => ?_) hw⟩
  refine ⟨sr, O, H0, ad, (he.ext' x_1), (Mn.wp w2).mono (fun x2 q2 v_2 H_2 x_2 r_2 => ?_) q1⟩
  refine ⟨sr, O, H0, ad, (he.ext' (x_1.trans x_2)), (Mn.wp w3).mono (fun x3 q3 v_3 H_3 x_3 r_3 => ?_) q2⟩
  refine ⟨sr, O, H0, ad, (he.ext' ((x_1.trans x_2).trans x_3)), (Mn.wp w4).mono (fun x4 q4 v_4 H_4 x_4 r_4 => ?_) q3⟩
  refine ⟨sr, O, H0, ad, (he.ext' (((x_1.trans x_2).trans x_3).trans x_4)), (Mn.wp w5).mono (fun x5 q5 v_5 H_5 x_5 r_5 => ?_) q4⟩
  obtain ⟨z, hz, q⟩ := q5
  exact ⟨OM M O ad, [E1 x1, E2 x2, E3 x3, E4 x4, E5 x5], (he.ext' ((((x_1.trans x_2).trans x_3).trans x_4).trans x_5)).domM M, (.cons ((((r_1.ext x_2 (he.sOM M)).ext x_3 (he.sOM M)).ext x_4 (he.sOM M)).ext x_5 (he.sOM M)) (.cons (((r_2.ext x_3 (he.sOM M)).ext x_4 (he.sOM M)).ext x_5 (he.sOM M)) (.cons ((r_3.ext x_4 (he.sOM M)).ext x_5 (he.sOM M)) (.cons (r_4.ext x_5 (he.sOM M)) (.cons r_5 .nil))))), hF x1 x2 x3 x4 x5 z _ hz fun v' H' al rk => (by
    obtain ⟨rk1, p, vs, rfl, hp, hp', rs⟩ := rk
    exact q p vs H' (((((x_1.trans x_2).trans x_3).trans x_4).trans x_5).back hp) (((((x_1.trans x_2).trans x_3).trans x_4).trans x_5).trans (al.ext x_5.srs)) hp' rs)⟩

theorem JE.call6 {α1 : Type} {α2 : Type} {α3 : Type} {α4 : Type} {α5 : Type} {α6 : Type} {E1 : α1 → D} {E2 : α2 → D} {E3 : α3 → D} {E4 : α4 → D} {E5 : α5 → D} {E6 : α6 → D} {w1 : m α1} {w2 : m α2} {w3 : m α3} {w4 : m α4} {w5 : m α5} {w6 : m α6} {e1 e2 e3 e4 e5 e6 : Expr} {f : α1 → α2 → α3 → α4 → α5 → α6 → Option (δ)} {G : δ → D} {Fs : List D → (D → Prop) → Prop} (hF : ∀ x1 x2 x3 x4 x5 x6 r P, f x1 x2 x3 x4 x5 x6 = some r → P (G r) → Fs [E1 x1, E2 x2, E3 x3, E4 x4, E5 x5, E6 x6] P) (C : CallOk X n Fs) (ha1 : JE X M e1 ρ E1 w1) (ha2 : JE X M e2 ρ E2 w2) (ha3 : JE X M e3 ρ E3 w3) (ha4 : JE X M e4 ρ E4 w4) (ha5 : JE X M e5 ρ E5 w5) (ha6 : JE X M e6 ρ E6 w6) (hg : Gl X n := by rfl) (hdb : (n == ("__debug__" : Str)) = false := by decide) (hs1 : starEach [e1, e2, e3, e4, e5, e6] X.env = (false, eval e1 X.env) :: starEach [e2, e3, e4, e5, e6] X.env := by rfl) (hs2 : starEach [e2, e3, e4, e5, e6] X.env = (false, eval e2 X.env) :: starEach [e3, e4, e5, e6] X.env := by rfl) (hs3 : starEach [e3, e4, e5, e6] X.env = (false, eval e3 X.env) :: starEach [e4, e5, e6] X.env := by rfl) (hs4 : starEach [e4, e5, e6] X.env = (false, eval e4 X.env) :: starEach [e5, e6] X.env := by rfl) (hs5 : starEach [e5, e6] X.env = (false, eval e5 X.env) :: starEach [e6] X.env := by rfl) (hs6 : starEach [e6] X.env = (false, eval e6 X.env) :: starEach [] X.env := by rfl) (hpl : (backTo pos (starEach [e2, e3, e4, e5, e6] X.env)).any (·.1) = false := by rfl) :
    JE X M (.Call (.Name n p) [e1, e2, e3, e4, e5, e6] [] pos) ρ G (bd w1 fun x1 => (bd w2 fun x2 => (bd w3 fun x3 => (bd w4 fun x4 => (bd w5 fun x5 => (bd w6 fun x6 => lf (f x1 x2 x3 x4 x5 x6))))))) := by
  obtain ⟨k, fa, fd, ps, F, hr, hm, hk, hb⟩ := C
  refine ⟨⟨pe_weak (pe_call F hr hg hm hk hb .nil pass0 (pa_cons ha1.b.pe (pa_cons ha2.b.pe (pa_cons ha3.b.pe (pa_cons ha4.b.pe (pa_cons ha5.b.pe (pa_cons ha6.b.pe pa_nil hs6) hs5) hs4) hs3) hs2) hs1) hdb hs1 hpl) fun σ H Q ⟨sr, O, H0, ad, he, hw⟩ => ?_⟩⟩
  have hw := le6 (f := fun x1 x2 x3 x4 x5 x6 => lf (m := m) (f x1 x2 x3 x4 x5 x6)) (g := fun x1 x2 x3 x4 x5 x6 => Wp.ofO (f x1 x2 x3 x4 x5 x6)) (fun _ _ _ _ _ _ => Mn.lift_le _) _ hw
  refine ⟨sr, O, H0, ad, he, (Mn.wp w1).mono (fun x1 q1 v_1 H_1 x_1 r_1 => ?_) hw⟩
  refine ⟨sr, O, H0, ad, (he.ext' x_1), (Mn.wp w2).mono (fun x2 q2 v_2 H_2 x_2 r_2 => ?_) q1⟩
  refine ⟨sr, O, H0, ad, (he.ext' (x_1.trans x_2)), (Mn.wp w3).mono (fun x3 q3 v_3 H_3 x_3 r_3 => ?_) q2⟩
  refine ⟨sr, O, H0, ad, (he.ext' ((x_1.trans x_2).trans x_3)), (Mn.wp w4).mono (fun x4 q4 v_4 H_4 x_4 r_4 => ?_) q3⟩
  refine ⟨sr, O, H0, ad, (he.ext' (((x_1.trans x_2).trans x_3).trans x_4)), (Mn.wp w5).mono (fun x5 q5 v_5 H_5 x_5 r_5 => ?_) q4⟩
  refine ⟨sr, O, H0, ad, (he.ext' ((((x_1.trans x_2).trans x_3).trans x_4).trans x_5)), (Mn.wp w6).mono (fun x6 q6 v_6 H_6 x_6 r_6 => ?_) q5⟩
  obtain ⟨z, hz, q⟩ := q6
  exact ⟨OM M O ad, [E1 x1, E2 x2, E3 x3, E4 x4, E5 x5, E6 x6], (he.ext' (((((x_1.trans x_2).trans x_3).trans x_4).trans x_5).trans x_6)).domM M, (.cons (((((r_1.ext x_2 (he.sOM M)).ext x_3 (he.sOM M)).ext x_4 (he.sOM M)).ext x_5 (he.sOM M)).ext x_6 (he.sOM M)) (.cons ((((r_2.ext x_3 (he.sOM M)).ext x_4 (he.sOM M)).ext x_5 (he.sOM M)).ext x_6 (he.sOM M)) (.cons (((r_3.ext x_4 (he.sOM M)).ext x_5 (he.sOM M)).ext x_6 (he.sOM M)) (.cons ((r_4.ext x_5 (he.sOM M)).ext x_6 (he.sOM M)) (.cons (r_5.ext x_6 (he.sOM M)) (.cons r_6 .nil)))))), hF x1 x2 x3 x4 x5 x6 z _ hz fun v' H' al rk => q v' H' ((((((x_1.trans x_2).trans x_3).trans x_4).trans x_5).trans x_6).trans (al.ext x_6.srs)) rk.1⟩

theorem JL.call6 {α1 : Type} {α2 : Type} {α3 : Type} {α4 : Type} {α5 : Type} {α6 : Type} {E1 : α1 → D} {E2 : α2 → D} {E3 : α3 → D} {E4 : α4 → D} {E5 : α5 → D} {E6 : α6 → D} {w1 : m α1} {w2 : m α2} {w3 : m α3} {w4 : m α4} {w5 : m α5} {w6 : m α6} {e1 e2 e3 e4 e5 e6 : Expr} {f : α1 → α2 → α3 → α4 → α5 → α6 → Option (List δ)} {G : δ → D} {Fs : List D → (D → Prop) → Prop} (hF : ∀ x1 x2 x3 x4 x5 x6 r P, f x1 x2 x3 x4 x5 x6 = some r → P ((eL G) r) → Fs [E1 x1, E2 x2, E3 x3, E4 x4, E5 x5, E6 x6] P) (C : CallOk X n Fs) (ha1 : JE X M e1 ρ E1 w1) (ha2 : JE X M e2 ρ E2 w2) (ha3 : JE X M e3 ρ E3 w3) (ha4 : JE X M e4 ρ E4 w4) (ha5 : JE X M e5 ρ E5 w5) (ha6 : JE X M e6 ρ E6 w6) (hg : Gl X n := by rfl) (hdb : (n == ("__debug__" : Str)) = false := by decide) (hs1 : starEach [e1, e2, e3, e4, e5, e6] X.env = (false, eval e1 X.env) :: starEach [e2, e3, e4, e5, e6] X.env := by rfl) (hs2 : starEach [e2, e3, e4, e5, e6] X.env = (false, eval e2 X.env) :: starEach [e3, e4, e5, e6] X.env := by rfl) (hs3 : starEach [e3, e4, e5, e6] X.env = (false, eval e3 X.env) :: starEach [e4, e5, e6] X.env := by rfl) (hs4 : starEach [e4, e5, e6] X.env = (false, eval e4 X.env) :: starEach [e5, e6] X.env := by rfl) (hs5 : starEach [e5, e6] X.env = (false, eval e5 X.env) :: starEach [e6] X.env := by rfl) (hs6 : starEach [e6] X.env = (false, eval e6 X.env) :: starEach [] X.env := by rfl) (hpl : (backTo pos (starEach [e2, e3, e4, e5, e6] X.env)).any (·.1) = false := by rfl) :
    JL X M (.Call (.Name n p) [e1, e2, e3, e4, e5, e6] [] pos) ρ G (bd w1 fun x1 => (bd w2 fun x2 => (bd w3 fun x3 => (bd w4 fun x4 => (bd w5 fun x5 => (bd w6 fun x6 => lf (f x1 x2 x3 x4 x5 x6))))))) := by
  obtain ⟨k, fa, fd, ps, F, hr, hm, hk, hb⟩ := C
  refine ⟨⟨pe_weak (pe_call F hr hg hm hk hb .nil pass0 (pa_cons ha1.b.pe (pa_cons ha2.b.pe (pa_cons ha3.b.pe (pa_cons ha4.b.pe (pa_cons ha5.b.pe (pa_cons ha6.b.pe pa_nil hs6) hs5) hs4) hs3) hs2) hs1) hdb hs1 hpl) fun σ H Q ⟨sr, O, H0, ad, he, hw⟩ => ?_⟩⟩
  have hw := le6 (f := fun x1 x2 x3 x4 x5 x6 => lf (m := m) (f x1 x2 x3 x4 x5 x6)) (g := fun x1 x2 x3 x4 x5 x6 => Wp.ofO (f x1 x2 x3 x4 x5 x6)) (fun _ _ _ _ _ _ => Mn.lift_le _) _ hw
  refine ⟨sr, O, H0, ad, he, (Mn.wp w1).mono (fun x1 q1 v_1 H_1 x_1 r_1 => ?_) hw⟩
  refine ⟨sr, O, H0, ad, (he.ext' x_1), (Mn.wp w2).mono (fun x2 q2 v_2 H_2 x_2 r_2 => ?_) q1⟩
  refine ⟨sr, O, H0, ad, (he.ext' (x_1.trans x_2)), (Mn.wp w3).mono (fun x3 q3 v_3 H_3 x_3 r_3 => ?_) q2⟩
  refine ⟨sr, O, H0, ad, (he.ext' ((x_1.trans x_2).trans x_3)), (Mn.wp w4).mono (fun x4 q4 v_4 H_4 x_4 r_4 => ?_) q3⟩
  refine ⟨sr, O, H0, ad, (he.ext' (((x_1.trans x_2).trans x_3).trans x_4)), (Mn.wp w5).mono (fun x5 q5 v_5 H_5 x_5 r_5 => ?_) q4⟩
  refine ⟨sr, O, H0, ad, (he.ext' ((((x_1.trans x_2).trans x_3).trans x_4).trans x_5)), (Mn.wp w6).mono (fun x6 q6 v_6 H_6 x_6 r_6 => ?_) q5⟩
  obtain ⟨z, hz, q⟩ := q6
  exact ⟨OM M O ad, [E1 x1, E2 x2, E3 x3, E4 x4, E5 x5, E6 x6], (he.ext' (((((x_1.trans x_2).trans x_3).trans x_4).trans x_5).trans x_6)).domM M, (.cons (((((r_1.ext x_2 (he.sOM M)).ext x_3 (he.sOM M)).ext x_4 (he.sOM M)).ext x_5 (he.sOM M)).ext x_6 (he.sOM M)) (.cons ((((r_2.ext x_3 (he.sOM M)).ext x_4 (he.sOM M)).ext x_5 (he.sOM M)).ext x_6 (he.sOM M)) (.cons (((r_3.ext x_4 (he.sOM M)).ext x_5 (he.sOM M)).ext x_6 (he.sOM M)) (.cons ((r_4.ext x_5 (he.sOM M)).ext x_6 (he.sOM M)) (.cons (r_5.ext x_6 (he.sOM M)) (.cons r_6 .nil)))))), hF x1 x2 x3 x4 x5 x6 z _ hz fun v' H' al rk => (by
    obtain ⟨rk1, p, vs, rfl, hp, hp', rs⟩ := rk
    exact q p vs H' ((((((x_1.trans x_2).trans x_3).trans x_4).trans x_5).trans x_6).back hp) ((((((x_1.trans x_2).trans x_3).trans x_4).trans x_5).trans x_6).trans (al.ext x_6.srs)) hp' rs)⟩

theorem JE.meth0 {α0 : Type} {E0 : α0 → D} {w0 : m α0} {e0 : Expr} {pl : Sem Bool} {f : α0 → Option (δ)} {G : δ → D} {Fs : List D → (D → Prop) → Prop} (hE : ∀ x, ∃ ds, E0 x = .o c ns ds) (hn : ns.contains n = false) (hF : ∀ x0 r P, f x0 = some r → P (G r) → Fs [E0 x0] P) (C : MethOk X c n Fs) (ha0 : JE X M e0 ρ E0 w0)  
    (ht : eval (.Call (.Attribute e0 n apos) [] [] pos) X.env = (do
      let ov ← eval e0 X.env
      standAt apos.atName
      let (f, first) ← holding [ov] (getMethod ov n pl)
      callWith pos f first (backTo pos (starEach [] X.env)) (backToKw pos (keywordEach [] X.env))) := by rfl) :
    JE X M (.Call (.Attribute e0 n apos) [] [] pos) ρ G (bd w0 fun x0 => lf (f x0)) := by
  obtain ⟨k, C, fa, fd, ps, F, hr, hm, cl, me, hb⟩ := C
  refine ⟨⟨pe_weak (pe_meth0 ha0.b.pe cl me F hr hb .nil pass0 ht) fun σ H Q ⟨sr, O, H0, ad, he, hw⟩ => ?_⟩⟩
  have hw := le1 (f := fun x0 => lf (m := m) (f x0)) (g := fun x0 => Wp.ofO (f x0)) (fun _ => Mn.lift_le _) _ hw
  refine ⟨sr, O, H0, ad, he, (Mn.wp w0).mono (fun x0 q0 v_1 H_1 x_1 r_1 => ?_) hw⟩
  have robj := r_1
  obtain ⟨ods, oe⟩ := hE x0
  rw [oe] at robj
  cases robj with
  | o h1 h2 h3 h4 h5 =>
    have eC := h3.symm.trans hm
    cases eC
    refine ⟨_, _, _, rfl, h1, lookup_none (by rw [h4]; exact hn), ?_⟩
    obtain ⟨z, hz, q⟩ := q0
    exact ⟨OM M O ad, [E0 x0], (he.ext' x_1).domM M, (.cons r_1 .nil), hF x0 z _ hz fun v' H' al rk => q v' H' (x_1.trans (al.ext x_1.srs)) rk.1⟩

theorem JL.meth0 {α0 : Type} {E0 : α0 → D} {w0 : m α0} {e0 : Expr} {pl : Sem Bool} {f : α0 → Option (List δ)} {G : δ → D} {Fs : List D → (D → Prop) → Prop} (hE : ∀ x, ∃ ds, E0 x = .o c ns ds) (hn : ns.contains n = false) (hF : ∀ x0 r P, f x0 = some r → P ((eL G) r) → Fs [E0 x0] P) (C : MethOk X c n Fs) (ha0 : JE X M e0 ρ E0 w0)  
    (ht : eval (.Call (.Attribute e0 n apos) [] [] pos) X.env = (do
      let ov ← eval e0 X.env
      standAt apos.atName
      let (f, first) ← holding [ov] (getMethod ov n pl)
      callWith pos f first (backTo pos (starEach [] X.env)) (backToKw pos (keywordEach [] X.env))) := by rfl) :
    JL X M (.Call (.Attribute e0 n apos) [] [] pos) ρ G (bd w0 fun x0 => lf (f x0)) := by
  obtain ⟨k, C, fa, fd, ps, F, hr, hm, cl, me, hb⟩ := C
  refine ⟨⟨pe_weak (pe_meth0 ha0.b.pe cl me F hr hb .nil pass0 ht) fun σ H Q ⟨sr, O, H0, ad, he, hw⟩ => ?_⟩⟩
  have hw := le1 (f := fun x0 => lf (m := m) (f x0)) (g := fun x0 => Wp.ofO (f x0)) (fun _ => Mn.lift_le _) _ hw
  refine ⟨sr, O, H0, ad, he, (Mn.wp w0).mono (fun x0 q0 v_1 H_1 x_1 r_1 => ?_) hw⟩
  have robj := r_1
  obtain ⟨ods, oe⟩ := hE x0
  rw [oe] at robj
  cases robj with
  | o h1 h2 h3 h4 h5 =>
    have eC := h3.symm.trans hm
    cases eC
    refine ⟨_, _, _, rfl, h1, lookup_none (by rw [h4]; exact hn), ?_⟩
    obtain ⟨z, hz, q⟩ := q0
    exact ⟨OM M O ad, [E0 x0], (he.ext' x_1).domM M, (.cons r_1 .nil), hF x0 z _ hz fun v' H' al rk => (by
      obtain ⟨rk1, p, vs, rfl, hp, hp', rs⟩ := rk
      exact q p vs H' (x_1.back hp) (x_1.trans (al.ext x_1.srs)) hp' rs)⟩

theorem JE.meth1 {α0 : Type} {α1 : Type} {E0 : α0 → D} {E1 : α1 → D} {w0 : m α0} {w1 : m α1} {e0 e1 : Expr} {pl : Sem Bool} {f : α0 → α1 → Option (δ)} {G : δ → D} {Fs : List D → (D → Prop) → Prop} (hE : ∀ x, ∃ ds, E0 x = .o c ns ds) (hn : ns.contains n = false) (hF : ∀ x0 x1 r P, f x0 x1 = some r → P (G r) → Fs [E0 x0, E1 x1] P) (C : MethOk X c n Fs) (ha0 : JE X M e0 ρ E0 w0) (ha1 : JE X M e1 ρ E1 w1) (hs1 : starEach [e1] X.env = (false, eval e1 X.env) :: starEach [] X.env := by rfl) (hpl : (backTo pos (starEach [] X.env)).any (·.1) = false := by rfl)
    (ht : eval (.Call (.Attribute e0 n apos) [e1] [] pos) X.env = (do
      let ov ← eval e0 X.env
      standAt apos.atName
      let (f, first) ← holding [ov] (getMethod ov n pl)
      callWith pos f first (backTo pos (starEach [e1] X.env)) (backToKw pos (keywordEach [] X.env))) := by rfl) :
    JE X M (.Call (.Attribute e0 n apos) [e1] [] pos) ρ G (bd w0 fun x0 => (bd w1 fun x1 => lf (f x0 x1))) := by
  obtain ⟨k, C, fa, fd, ps, F, hr, hm, cl, me, hb⟩ := C
  refine ⟨⟨pe_weak (pe_meth ha0.b.pe cl me F hr hb .nil pass0 (pa_cons ha1.b.pe pa_nil hs1) hs1 hpl ht) fun σ H Q ⟨sr, O, H0, ad, he, hw⟩ => ?_⟩⟩
  have hw := le2 (f := fun x0 x1 => lf (m := m) (f x0 x1)) (g := fun x0 x1 => Wp.ofO (f x0 x1)) (fun _ _ => Mn.lift_le _) _ hw
  refine ⟨sr, O, H0, ad, he, (Mn.wp w0).mono (fun x0 q0 v_1 H_1 x_1 r_1 => ?_) hw⟩
  have robj := r_1
  obtain ⟨ods, oe⟩ := hE x0
  rw [oe] at robj
  cases robj with
  | o h1 h2 h3 h4 h5 =>
    have eC := h3.symm.trans hm
    cases eC
    refine ⟨_, _, _, rfl, h1, lookup_none (by rw [h4]; exact hn), ?_⟩
    refine ⟨sr, O, H0, ad, (he.ext' x_1), (Mn.wp w1).mono (fun x1 q1 v_2 H_2 x_2 r_2 => ?_) q0⟩
    obtain ⟨z, hz, q⟩ := q1
    exact ⟨OM M O ad, [E0 x0, E1 x1], (he.ext' (x_1.trans x_2)).domM M, (.cons (r_1.ext x_2 (he.sOM M)) (.cons r_2 .nil)), hF x0 x1 z _ hz fun v' H' al rk => q v' H' ((x_1.trans x_2).trans (al.ext x_2.srs)) rk.1⟩

theorem JL.meth1 {α0 : Type} {α1 : Type} {E0 : α0 → D} {E1 : α1 → D} {w0 : m α0} {w1 : m α1} {e0 e1 : Expr} {pl : Sem Bool} {f : α0 → α1 → Option (List δ)} {G : δ → D} {Fs : List D → (D → Prop) → Prop} (hE : ∀ x, ∃ ds, E0 x = .o c ns ds) (hn : ns.contains n = false) (hF : ∀ x0 x1 r P, f x0 x1 = some r → P ((eL G) r) → Fs [E0 x0, E1 x1] P) (C : MethOk X c n Fs) (ha0 : JE X M e0 ρ E0 w0) (ha1 : JE X M e1 ρ E1 w1) (hs1 : starEach [e1] X.env = (false, eval e1 X.env) :: starEach [] X.env := by rfl) (hpl : (backTo pos (starEach [] X.env)).any (·.1) = false := by rfl)
    (ht : eval (.Call (.Attribute e0 n apos) [e1] [] pos) X.env = (do
      let ov ← eval e0 X.env
      standAt apos.atName
      let (f, first) ← holding [ov] (getMethod ov n pl)
      callWith pos f first (backTo pos (starEach [e1] X.env)) (backToKw pos (keywordEach [] X.env))) := by rfl) :
    JL X M (.Call (.Attribute e0 n apos) [e1] [] pos) ρ G (bd w0 fun x0 => (bd w1 fun x1 => lf (f x0 x1))) := by
  obtain ⟨k, C, fa, fd, ps, F, hr, hm, cl, me, hb⟩ := C
  refine ⟨⟨pe_weak (pe_meth ha0.b.pe cl me F hr hb .nil pass0 (pa_cons ha1.b.pe pa_nil hs1) hs1 hpl ht) fun σ H Q ⟨sr, O, H0, ad, he, hw⟩ => ?_⟩⟩
  have hw := le2 (f := fun x0 x1 => lf (m := m) (f x0 x1)) (g := fun x0 x1 => Wp.ofO (f x0 x1)) (fun _ _ => Mn.lift_le _) _ hw
  refine ⟨sr, O, H0, ad, he, (Mn.wp w0).mono (fun x0 q0 v_1 H_1 x_1 r_1 => ?_) hw⟩
  have robj := r_1
  obtain ⟨ods, oe⟩ := hE x0
  rw [oe] at robj
  cases robj with
  | o h1 h2 h3 h4 h5 =>
    have eC := h3.symm.trans hm
    cases eC
    refine ⟨_, _, _, rfl, h1, lookup_none (by rw [h4]; exact hn), ?_⟩
    refine ⟨sr, O, H0, ad, (he.ext' x_1), (Mn.wp w1).mono (fun x1 q1 v_2 H_2 x_2 r_2 => ?_) q0⟩
    obtain ⟨z, hz, q⟩ := q1
    exact ⟨OM M O ad, [E0 x0, E1 x1], (he.ext' (x_1.trans x_2)).domM M, (.cons (r_1.ext x_2 (he.sOM M)) (.cons r_2 .nil)), hF x0 x1 z _ hz fun v' H' al rk => (by
      obtain ⟨rk1, p, vs, rfl, hp, hp', rs⟩ := rk
      exact q p vs H' ((x_1.trans x_2).back hp) ((x_1.trans x_2).trans (al.ext x_2.srs)) hp' rs)⟩

theorem JE.meth2 {α0 : Type} {α1 : Type} {α2 : Type} {E0 : α0 → D} {E1 : α1 → D} {E2 : α2 → D} {w0 : m α0} {w1 : m α1} {w2 : m α2} {e0 e1 e2 : Expr} {pl : Sem Bool} {f : α0 → α1 → α2 → Option (δ)} {G : δ → D} {Fs : List D → (D → Prop) → Prop} (hE : ∀ x, ∃ ds, E0 x = .o c ns ds) (hn : ns.contains n = false) (hF : ∀ x0 x1 x2 r P, f x0 x1 x2 = some r → P (G r) → Fs [E0 x0, E1 x1, E2 x2] P) (C : MethOk X c n Fs) (ha0 : JE X M e0 ρ E0 w0) (ha1 : JE X M e1 ρ E1 w1) (ha2 : JE X M e2 ρ E2 w2) (hs1 : starEach [e1, e2] X.env = (false, eval e1 X.env) :: starEach [e2] X.env := by rfl) (hs2 : starEach [e2] X.env = (false, eval e2 X.env) :: starEach [] X.env := by rfl) (hpl : (backTo pos (starEach [e2] X.env)).any (·.1) = false := by rfl)
    (ht : eval (.Call (.Attribute e0 n apos) [e1, e2] [] pos) X.env = (do
      let ov ← eval e0 X.env
      standAt apos.atName
      let (f, first) ← holding [ov] (getMethod ov n pl)
      callWith pos f first (backTo pos (starEach [e1, e2] X.env)) (backToKw pos (keywordEach [] X.env))) := by rfl) :
    JE X M (.Call (.Attribute e0 n apos) [e1, e2] [] pos) ρ G (bd w0 fun x0 => (bd w1 fun x1 => (bd w2 fun x2 => lf (f x0 x1 x2)))) := by
  obtain ⟨k, C, fa, fd, ps, F, hr, hm, cl, me, hb⟩ := C
  refine ⟨⟨pe_weak (pe_meth ha0.b.pe cl me F hr hb .nil pass0 (pa_cons ha1.b.pe (pa_cons ha2.b.pe pa_nil hs2) hs1) hs1 hpl ht) fun σ H Q ⟨sr, O, H0, ad, he, hw⟩ => ?_⟩⟩
  have hw := le3 (f := fun x0 x1 x2 => lf (m := m) (f x0 x1 x2)) (g := fun x0 x1 x2 => Wp.ofO (f x0 x1 x2)) (fun _ _ _ => Mn.lift_le _) _ hw
  refine ⟨sr, O, H0, ad, he, (Mn.wp w0).mono (fun x0 q0 v_1 H_1 x_1 r_1 => ?_) hw⟩
  have robj := r_1
  obtain ⟨ods, oe⟩ := hE x0
  rw [oe] at robj
  cases robj with
  | o h1 h2 h3 h4 h5 =>
    have eC := h3.symm.trans hm
    cases eC
    refine ⟨_, _, _, rfl, h1, lookup_none (by rw [h4]; exact hn), ?_⟩
    refine ⟨sr, O, H0, ad, (he.ext' x_1), (Mn.wp w1).mono (fun x1 q1 v_2 H_2 x_2 r_2 => ?_) q0⟩
    refine ⟨sr, O, H0, ad, (he.ext' (x_1.trans x_2)), (Mn.wp w2).mono (fun x2 q2 v_3 H_3 x_3 r_3 => ?_) q1⟩
    obtain ⟨z, hz, q⟩ := q2
    exact ⟨OM M O ad, [E0 x0, E1 x1, E2 x2], (he.ext' ((x_1.trans x_2).trans x_3)).domM M, (.cons ((r_1.ext x_2 (he.sOM M)).ext x_3 (he.sOM M)) (.cons (r_2.ext x_3 (he.sOM M)) (.cons r_3 .nil))), hF x0 x1 x2 z _ hz fun v' H' al rk => q v' H' (((x_1.trans x_2).trans x_3).trans (al.ext x_3.srs)) rk.1⟩

theorem JL.meth2 {α0 : Type} {α1 : Type} {α2 : Type} {E0 : α0 → D} {E1 : α1 → D} {E2 : α2 → D} {w0 : m α0} {w1 : m α1} {w2 : m α2} {e0 e1 e2 : Expr} {pl : Sem Bool} {f : α0 → α1 → α2 → Option (List δ)} {G : δ → D} {Fs : List D → (D → Prop) → Prop} (hE : ∀ x, ∃ ds, E0 x = .o c ns ds) (hn : ns.contains n = false) (hF : ∀ x0 x1 x2 r P, f x0 x1 x2 = some r → P ((eL G) r) → Fs [E0 x0, E1 x1, E2 x2] P) (C : MethOk X c n Fs) (ha0 : JE X M e0 ρ E0 w0) (ha1 : JE X M e1 ρ E1 w1) (ha2 : JE X M e2 ρ E2 w2) (hs1 : starEach [e1, e2] X.env = (false, eval e1 X.env) :: starEach [e2] X.env := by rfl) (hs2 : starEach [e2] X.env = (false, eval e2 X.env) :: starEach [] X.env := by rfl) (hpl : (backTo pos (starEach [e2] X.env)).any (·.1) = false := by rfl)
    (ht : eval (.Call (.Attribute e0 n apos) [e1, e2] [] pos) X.env = (do
      let ov ← eval e0 X.env
      standAt apos.atName
      let (f, first) ← holding [ov] (getMethod ov n pl)
      callWith pos f first (backTo pos (starEach [e1, e2] X.env)) (backToKw pos (keywordEach [] X.env))) := by rfl) :
    JL X M (.Call (.Attribute e0 n apos) [e1, e2] [] pos) ρ G (bd w0 fun x0 => (bd w1 fun x1 => (bd w2 fun x2 => lf (f x0 x1 x2)))) := by
  obtain ⟨k, C, fa, fd, ps, F, hr, hm, cl, me, hb⟩ := C
  refine ⟨⟨pe_weak (pe_meth ha0.b.pe cl me F hr hb .nil pass0 (pa_cons ha1.b.pe (pa_cons ha2.b.pe pa_nil hs2) hs1) hs1 hpl ht) fun σ H Q ⟨sr, O, H0, ad, he, hw⟩ => ?_⟩⟩
  have hw := le3 (f := fun x0 x1 x2 => lf (m := m) (f x0 x1 x2)) (g := fun x0 x1 x2 => Wp.ofO (f x0 x1 x2)) (fun _ _ _ => Mn.lift_le _) _ hw
  refine ⟨sr, O, H0, ad, he, (Mn.wp w0).mono (fun x0 q0 v_1 H_1 x_1 r_1 => ?_) hw⟩
  have robj := r_1
  obtain ⟨ods, oe⟩ := hE x0
  rw [oe] at robj
  cases robj with
  | o h1 h2 h3 h4 h5 =>
    have eC := h3.symm.trans hm
    cases eC
    refine ⟨_, _, _, rfl, h1, lookup_none (by rw [h4]; exact hn), ?_⟩
    refine ⟨sr, O, H0, ad, (he.ext' x_1), (Mn.wp w1).mono (fun x1 q1 v_2 H_2 x_2 r_2 => ?_) q0⟩
    refine ⟨sr, O, H0, ad, (he.ext' (x_1.trans x_2)), (Mn.wp w2).mono (fun x2 q2 v_3 H_3 x_3 r_3 => ?_) q1⟩
    obtain ⟨z, hz, q⟩ := q2
    exact ⟨OM M O ad, [E0 x0, E1 x1, E2 x2], (he.ext' ((x_1.trans x_2).trans x_3)).domM M, (.cons ((r_1.ext x_2 (he.sOM M)).ext x_3 (he.sOM M)) (.cons (r_2.ext x_3 (he.sOM M)) (.cons r_3 .nil))), hF x0 x1 x2 z _ hz fun v' H' al rk => (by
      obtain ⟨rk1, p, vs, rfl, hp, hp', rs⟩ := rk
      exact q p vs H' (((x_1.trans x_2).trans x_3).back hp) (((x_1.trans x_2).trans x_3).trans (al.ext x_3.srs)) hp' rs)⟩

theorem JE.meth3 {α0 : Type} {α1 : Type} {α2 : Type} {α3 : Type} {E0 : α0 → D} {E1 : α1 → D} {E2 : α2 → D} {E3 : α3 → D} {w0 : m α0} {w1 : m α1} {w2 : m α2} {w3 : m α3} {e0 e1 e2 e3 : Expr} {pl : Sem Bool} {f : α0 → α1 → α2 → α3 → Option (δ)} {G : δ → D} {Fs : List D → (D → Prop) → Prop} (hE : ∀ x, ∃ ds, E0 x = .o c ns ds) (hn : ns.contains n = false) (hF : ∀ x0 x1 x2 x3 r P, f x0 x1 x2 x3 = some r → P (G r) → Fs [E0 x0, E1 x1, E2 x2, E3 x3] P) (C : MethOk X c n Fs) (ha0 : JE X M e0 ρ E0 w0) (ha1 : JE X M e1 ρ E1 w1) (ha2 : JE X M e2 ρ E2 w2) (ha3 : JE X M e3 ρ E3 w3) (hs1 : starEach [e1, e2, e3] X.env = (false, eval e1 X.env) :: starEach [e2, e3] X.env := by rfl) (hs2 : starEach [e2, e3] X.env = (false, eval e2 X.env) :: starEach [e3] X.env := by rfl) (hs3 : starEach [e3] X.env = (false, eval e3 X.env) :: starEach [] X.env := by rfl) (hpl : (backTo pos (starEach [e2, e3] X.env)).any (·.1) = false := by rfl)
    (ht : eval (.Call (.Attribute e0 n apos) [e1, e2, e3] [] pos) X.env = (do
      let ov ← eval e0 X.env
      standAt apos.atName
      let (f, first) ← holding [ov] (getMethod ov n pl)
      callWith pos f first (backTo pos (starEach [e1, e2, e3] X.env)) (backToKw pos (keywordEach [] X.env))) := by rfl) :
    JE X M (.Call (.Attribute e0 n apos) [e1, e2, e3] [] pos) ρ G (bd w0 fun x0 => (bd w1 fun x1 => (bd w2 fun x2 => (bd w3 fun x3 => lf (f x0 x1 x2 x3))))) := by
  obtain ⟨k, C, fa, fd, ps, F, hr, hm, cl, me, hb⟩ := C
  refine ⟨⟨pe_weak (pe_meth ha0.b.pe cl me F hr hb .nil pass0 (pa_cons ha1.b.pe (pa_cons ha2.b.pe (pa_cons ha3.b.pe pa_nil hs3) hs2) hs1) hs1 hpl ht) fun σ H Q ⟨sr, O, H0, ad, he, hw⟩ => ?_⟩⟩
  have hw := le4 (f := fun x0 x1 x2 x3 => lf (m := m) (f x0 x1 x2 x3)) (g := fun x0 x1 x2 x3 => Wp.ofO (f x0 x1 x2 x3)) (fun _ _ _ _ => Mn.lift_le _) _ hw
  refine ⟨sr, O, H0, ad, he, (Mn.wp w0).mono (fun x0 q0 v_1 H_1 x_1 r_1 => ?_) hw⟩
  have robj := r_1
  obtain ⟨ods, oe⟩ := hE x0
  rw [oe] at robj
  cases robj with
  | o h1 h2 h3 h4 h5 =>
    have eC := h3.symm.trans hm
    cases eC
    refine ⟨_, _, _, rfl, h1, lookup_none (by rw [h4]; exact hn), ?_⟩
    refine ⟨sr, O, H0, ad, (he.ext' x_1), (Mn.wp w1).mono (fun x1 q1 v_2 H_2 x_2 r_2 => ?_) q0⟩
    refine ⟨sr, O, H0, ad, (he.ext' (x_1.trans x_2)), (Mn.wp w2).mono (fun x2 q2 v_3 H_3 x_3 r_3 => ?_) q1⟩
    refine ⟨sr, O, H0, ad, (he.ext' ((x_1.trans x_2).trans x_3)), (Mn.wp w3).mono (fun x3 q3 v_4 H_4 x_4 r_4 => ?_) q2⟩
    obtain ⟨z, hz, q⟩ := q3
    exact ⟨OM M O ad, [E0 x0, E1 x1, E2 x2, E3 x3], (he.ext' (((x_1.trans x_2).trans x_3).trans x_4)).domM M, (.cons (((r_1.ext x_2 (he.sOM M)).ext x_3 (he.sOM M)).ext x_4 (he.sOM M)) (.cons ((r_2.ext x_3 (he.sOM M)).ext x_4 (he.sOM M)) (.cons (r_3.ext x_4 (he.sOM M)) (.cons r_4 .nil)))), hF x0 x1 x2 x3 z _ hz fun v' H' al rk => q v' H' ((((x_1.trans x_2).trans x_3).trans x_4).trans (al.ext x_4.srs)) rk.1⟩

theorem JL.meth3 {α0 : Type} {α1 : Type} {α2 : Type} {α3 : Type} {E0 : α0 → D} {E1 : α1 → D} {E2 : α2 → D} {E3 : α3 → D} {w0 : m α0} {w1 : m α1} {w2 : m α2} {w3 : m α3} {e0 e1 e2 e3 : Expr} {pl : Sem Bool} {f : α0 → α1 → α2 → α3 → Option (List δ)} {G : δ → D} {Fs : List D → (D → Prop) → Prop} (hE : ∀ x, ∃ ds, E0 x = .o c ns ds) (hn : ns.contains n = false) (hF : ∀ x0 x1 x2 x3 r P, f x0 x1 x2 x3 = some r → P ((eL G) r) → Fs [E0 x0, E1 x1, E2 x2, E3 x3] P) (C : MethOk X c n Fs) (ha0 : JE X M e0 ρ E0 w0) (ha1 : JE X M e1 ρ E1 w1) (ha2 : JE X M e2 ρ E2 w2) (ha3 : JE X M e3 ρ E3 w3) (hs1 : starEach [e1, e2, e3] X.env = (false, eval e1 X.env) :: starEach [e2, e3] X.env := by rfl) (hs2 : starEach [e2, e3] X.env = (false, eval e2 X.env) :: starEach [e3] X.env := by rfl) (hs3 : starEach [e3] X.env = (false, eval e3 X.env) :: starEach [] X.env := by rfl) (hpl : (backTo pos (starEach [e2, e3] X.env)).any (·.1) = false := by rfl)
    (ht : eval (.Call (.Attribute e0 n apos) [e1, e2, e3] [] pos) X.env = (do
      let ov ← eval e0 X.env
      standAt apos.atName
      let (f, first) ← holding [ov] (getMethod ov n pl)
      callWith pos f first (backTo pos (starEach [e1, e2, e3] X.env)) (backToKw pos (keywordEach [] X.env))) := by rfl) :
    JL X M (.Call (.Attribute e0 n apos) [e1, e2, e3] [] pos) ρ G (bd w0 fun x0 => (bd w1 fun x1 => (bd w2 fun x2 => (bd w3 fun x3 => lf (f x0 x1 x2 x3))))) := by
  obtain ⟨k, C, fa, fd, ps, F, hr, hm, cl, me, hb⟩ := C
  refine ⟨⟨pe_weak (pe_meth ha0.b.pe cl me F hr hb .nil pass0 (pa_cons ha1.b.pe (pa_cons ha2.b.pe (pa_cons ha3.b.pe pa_nil hs3) hs2) hs1) hs1 hpl ht) fun σ H Q ⟨sr, O, H0, ad, he, hw⟩ => ?_⟩⟩
  have hw := le4 (f := fun x0 x1 x2 x3 => lf (m := m) (f x0 x1 x2 x3)) (g := fun x0 x1 x2 x3 => Wp.ofO (f x0 x1 x2 x3)) (fun _ _ _ _ => Mn.lift_le _) _ hw
  refine ⟨sr, O, H0, ad, he, (Mn.wp w0).mono (fun x0 q0 v_1 H_1 x_1 r_1 => ?_) hw⟩
  have robj := r_1
  obtain ⟨ods, oe⟩ := hE x0
  rw [oe] at robj
  cases robj with
  | o h1 h2 h3 h4 h5 =>
    have eC := h3.symm.trans hm
    cases eC
    refine ⟨_, _, _, rfl, h1, lookup_none (by rw [h4]; exact hn), ?_⟩
    refine ⟨sr, O, H0, ad, (he.ext' x_1), (Mn.wp w1).mono (fun x1 q1 v_2 H_2 x_2 r_2 => ?_) q0⟩
    refine ⟨sr, O, H0, ad, (he.ext' (x_1.trans x_2)), (Mn.wp w2).mono (fun x2 q2 v_3 H_3 x_3 r_3 => ?_) q1⟩
    refine ⟨sr, O, H0, ad, (he.ext' ((x_1.trans x_2).trans x_3)), (Mn.wp w3).mono (fun x3 q3 v_4 H_4 x_4 r_4 => ?_) q2⟩
    obtain ⟨z, hz, q⟩ := q3
    exact ⟨OM M O ad, [E0 x0, E1 x1, E2 x2, E3 x3], (he.ext' (((x_1.trans x_2).trans x_3).trans x_4)).domM M, (.cons (((r_1.ext x_2 (he.sOM M)).ext x_3 (he.sOM M)).ext x_4 (he.sOM M)) (.cons ((r_2.ext x_3 (he.sOM M)).ext x_4 (he.sOM M)) (.cons (r_3.ext x_4 (he.sOM M)) (.cons r_4 .nil)))), hF x0 x1 x2 x3 z _ hz fun v' H' al rk => (by
      obtain ⟨rk1, p, vs, rfl, hp, hp', rs⟩ := rk
      exact q p vs H' ((((x_1.trans x_2).trans x_3).trans x_4).back hp) ((((x_1.trans x_2).trans x_3).trans x_4).trans (al.ext x_4.srs)) hp' rs)⟩

theorem JE.meth4 {α0 : Type} {α1 : Type} {α2 : Type} {α3 : Type} {α4 : Type} {E0 : α0 → D} {E1 : α1 → D} {E2 : α2 → D} {E3 : α3 → D} {E4 : α4 → D} {w0 : m α0} {w1 : m α1} {w2 : m α2} {w3 : m α3} {w4 : m α4} {e0 e1 e2 e3 e4 : Expr} {pl : Sem Bool} {f : α0 → α1 → α2 → α3 → α4 → Option (δ)} {G : δ → D} {Fs : List D → (D → Prop) → Prop} (hE : ∀ x, ∃ ds, E0 x = .o c ns ds) (hn : ns.contains n = false) (hF : ∀ x0 x1 x2 x3 x4 r P, f x0 x1 x2 x3 x4 = some r → P (G r) → Fs [E0 x0, E1 x1, E2 x2, E3 x3, E4 x4] P) (C : MethOk X c n Fs) (ha0 : JE X M e0 ρ E0 w0) (ha1 : JE X M e1 ρ E1 w1) (ha2 : JE X M e2 ρ E2 w2) (ha3 : JE X M e3 ρ E3 w3) (ha4 : JE X M e4 ρ E4 w4) (hs1 : starEach [e1, e2, e3, e4] X.env = (false, eval e1 X.env) :: starEach [e2, e3, e4] X.env := by rfl) (hs2 : starEach [e2, e3, e4] X.env = (false, eval e2 X.env) :: starEach [e3, e4] X.env := by rfl) (hs3 : starEach [e3, e4] X.env = (false, eval e3 X.env) :: starEach [e4] X.env := by rfl) (hs4 : starEach [e4] X.env = (false, eval e4 X.env) :: starEach [] X.env := by rfl) (hpl : (backTo pos (starEach [e2, e3, e4] X.env)).any (·.1) = false := by rfl)
    (ht : eval (.Call (.Attribute e0 n apos) [e1, e2, e3, e4] [] pos) X.env = (do
      let ov ← eval e0 X.env
      standAt apos.atName
      let (f, first) ← holding [ov] (getMethod ov n pl)
      callWith pos f first (backTo pos (starEach [e1, e2, e3, e4] X.env)) (backToKw pos (keywordEach [] X.env))) := by rfl) :
    JE X M (.Call (.Attribute e0 n apos) [e1, e2, e3, e4] [] pos) ρ G (bd w0 fun x0 => (bd w1 fun x1 => (bd w2 fun x2 => (bd w3 fun x3 => (bd w4 fun x4 => lf (f x0 x1 x2 x3 x4)))))) := by
  obtain ⟨k, C, fa, fd, ps, F, hr, hm, cl, me, hb⟩ := C
  refine ⟨⟨pe_weak (pe_meth ha0.b.pe cl me F hr hb .nil pass0 (pa_cons ha1.b.pe (pa_cons ha2.b.pe (pa_cons ha3.b.pe (pa_cons ha4.b.pe pa_nil hs4) hs3) hs2) hs1) hs1 hpl ht) fun σ H Q ⟨sr, O, H0, ad, he, hw⟩ => ?_⟩⟩
  have hw := le5 (f := fun x0 x1 x2 x3 x4 => lf (m := m) (f x0 x1 x2 x3 x4)) (g := fun x0 x1 x2 x3 x4 => Wp.ofO (f x0 x1 x2 x3 x4)) (fun _ _ _ _ _ => Mn.lift_le _) _ hw
  refine ⟨sr, O, H0, ad, he, (Mn.wp w0).mono (fun x0 q0 v_1 H_1 x_1 r_1 => ?_) hw⟩
  have robj := r_1
  obtain ⟨ods, oe⟩ := hE x0
  rw [oe] at robj
  cases robj with
  | o h1 h2 h3 h4 h5 =>
    have eC := h3.symm.trans hm
    cases eC
    refine ⟨_, _, _, rfl, h1, lookup_none (by rw [h4]; exact hn), ?_⟩
    refine ⟨sr, O, H0, ad, (he.ext' x_1), (Mn.wp w1).mono (fun x1 q1 v_2 H_2 x_2 r_2 => ?_) q0⟩
    refine ⟨sr, O, H0, ad, (he.ext' (x_1.trans x_2)), (Mn.wp w2).mono (fun x2 q2 v_3 H_3 x_3 r_3 => ?_) q1⟩
    refine ⟨sr, O, H0, ad, (he.ext' ((x_1.trans x_2).trans x_3)), (Mn.wp w3).mono (fun x3 q3 v_4 H_4 x_4 r_4 => ?_) q2⟩
    refine ⟨sr, O, H0, ad, (he.ext' (((x_1.trans x_2).trans x_3).trans x_4)), (Mn.wp w4).mono (fun x4 q4 v_5 H_5 x_5 r_5 => ?_) q3⟩
    obtain ⟨z, hz, q⟩ := q4
    exact ⟨OM M O ad, [E0 x0, E1 x1, E2 x2, E3 x3, E4 x4], (he.ext' ((((x_1.trans x_2).trans x_3).trans x_4).trans x_5)).domM M, (.cons ((((r_1.ext x_2 (he.sOM M)).ext x_3 (he.sOM M)).ext x_4 (he.sOM M)).ext x_5 (he.sOM M)) (.cons (((r_2.ext x_3 (he.sOM M)).ext x_4 (he.sOM M)).ext x_5 (he.sOM M)) (.cons ((r_3.ext x_4 (he.sOM M)).ext x_5 (he.sOM M)) (.cons (r_4.ext x_5 (he.sOM M)) (.cons r_5 .nil))))), hF x0 x1 x2 x3 x4 z _ hz fun v' H' al rk => q v' H' (((((x_1.trans x_2).trans x_3).trans x_4).trans x_5).trans (al.ext x_5.srs)) rk.1⟩

theorem JL.meth4 {α0 : Type} {α1 : Type} {α2 : Type} {α3 : Type} {α4 : Type} {E0 : α0 → D} {E1 : α1 → D} {E2 : α2 → D} {E3 : α3 → D} {E4 : α4 → D} {w0 : m α0} {w1 : m α1} {w2 : m α2} {w3 : m α3} {w4 : m α4} {e0 e1 e2 e3 e4 : Expr} {pl : Sem Bool} {f : α0 → α1 → α2 → α3 → α4 → Option (List δ)} {G : δ → D} {Fs : List D → (D → Prop) → Prop} (hE : ∀ x, ∃ ds, E0 x = .o c ns ds) (hn : ns.contains n = false) (hF : ∀ x0 x1 x2 x3 x4 r P, f x0 x1 x2 x3 x4 = some r → P ((eL G) r) → Fs [E0 x0, E1 x1, E2 x2, E3 x3, E4 x4] P) (C : MethOk X c n Fs) (ha0 : JE X M e0 ρ E0 w0) (ha1 : JE X M e1 ρ E1 w1) (ha2 : JE X M e2 ρ E2 w2) (ha3 : JE X M e3 ρ E3 w3) (ha4 : JE X M e4 ρ E4 w4) (hs1 : starEach [e1, e2, e3, e4] X.env = (false, eval e1 X.env) :: starEach [e2, e3, e4] X.env := by rfl) (hs2 : starEach [e2, e3, e4] X.env = (false, eval e2 X.env) :: starEach [e3, e4] X.env := by rfl) (hs3 : starEach [e3, e4] X.env = (false, eval e3 X.env) :: starEach [e4] X.env := by rfl) (hs4 : starEach [e4] X.env = (false, eval e4 X.env) :: starEach [] X.env := by rfl) (hpl : (backTo pos (starEach [e2, e3, e4] X.env)).any (·.1) = false := by rfl)
    (ht : eval (.Call (.Attribute e0 n apos) [e1, e2, e3, e4] [] pos) X.env = (do
      let ov ← eval e0 X.env
      standAt apos.atName
      let (f, first) ← holding [ov] (getMethod ov n pl)
      callWith pos f first (backTo pos (starEach [e1, e2, e3, e4] X.env)) (backToKw pos (keywordEach [] X.env))) := by rfl) :
    JL X M (.Call (.Attribute e0 n apos) [e1, e2, e3, e4] [] pos) ρ G (bd w0 fun x0 => (bd w1 fun x1 => (bd w2 fun x2 => (bd w3 fun x3 => (bd w4 fun x4 => lf (f x0 x1 x2 x3 x4)))))) := by
  obtain ⟨k, C, fa, fd, ps, F, hr, hm, cl, me, hb⟩ := C
  refine ⟨⟨pe_weak (pe_meth ha0.b.pe cl me F hr hb .nil pass0 (pa_cons ha1.b.pe (pa_cons ha2.b.pe (pa_cons ha3.b.pe (pa_cons ha4.b.pe pa_nil hs4) hs3) hs2) hs1) hs1 hpl ht) fun σ H Q ⟨sr, O, H0, ad, he, hw⟩ => ?_⟩⟩
  have hw := le5 (f := fun x0 x1 x2 x3 x4 => lf (m := m) (f x0 x1 x2 x3 x4)) (g := fun x0 x1 x2 x3 x4 => Wp.ofO (f x0 x1 x2 x3 x4)) (fun _ _ _ _ _ => Mn.lift_le _) _ hw
  refine ⟨sr, O, H0, ad, he, (Mn.wp w0).mono (fun x0 q0 v_1 H_1 x_1 r_1 => ?_) hw⟩
  have robj := r_1
  obtain ⟨ods, oe⟩ := hE x0
  rw [oe] at robj
  cases robj with
  | o h1 h2 h3 h4 h5 =>
    have eC := h3.symm.trans hm
    cases eC
    refine ⟨_, _, _, rfl, h1, lookup_none (by rw [h4]; exact hn), ?_⟩
    refine ⟨sr, O, H0, ad, (he.ext' x_1), (Mn.wp w1).mono (fun x1 q1 v_2 H_2 x_2 r_2 => ?_) q0⟩
    refine ⟨sr, O, H0, ad, (he.ext' (x_1.trans x_2)), (Mn.wp w2).mono (fun x2 q2 v_3 H_3 x_3 r_3 => ?_) q1⟩
    refine ⟨sr, O, H0, ad, (he.ext' ((x_1.trans x_2).trans x_3)), (Mn.wp w3).mono (fun x3 q3 v_4 H_4 x_4 r_4 => ?_) q2⟩
    refine ⟨sr, O, H0, ad, (he.ext' (((x_1.trans x_2).trans x_3).trans x_4)), (Mn.wp w4).mono (fun x4 q4 v_5 H_5 x_5 r_5 => ?_) q3⟩
    obtain ⟨z, hz, q⟩ := q4
    exact ⟨OM M O ad, [E0 x0, E1 x1, E2 x2, E3 x3, E4 x4], (he.ext' ((((x_1.trans x_2).trans x_3).trans x_4).trans x_5)).domM M, (.cons ((((r_1.ext x_2 (he.sOM M)).ext x_3 (he.sOM M)).ext x_4 (he.sOM M)).ext x_5 (he.sOM M)) (.cons (((r_2.ext x_3 (he.sOM M)).ext x_4 (he.sOM M)).ext x_5 (he.sOM M)) (.cons ((r_3.ext x_4 (he.sOM M)).ext x_5 (he.sOM M)) (.cons (r_4.ext x_5 (he.sOM M)) (.cons r_5 .nil))))), hF x0 x1 x2 x3 x4 z _ hz fun v' H' al rk => (by
      obtain ⟨rk1, p, vs, rfl, hp, hp', rs⟩ := rk
      exact q p vs H' (((((x_1.trans x_2).trans x_3).trans x_4).trans x_5).back hp) (((((x_1.trans x_2).trans x_3).trans x_4).trans x_5).trans (al.ext x_5.srs)) hp' rs)⟩


/-! ### a def's body -/
/-- the slots at the entry -/
def rho0 (ds : List D) (n : Nat) : List Slot := ds.map Slot.d ++ List.replicate (n - ds.length) .u
abbrev Tail (X : Cx) (sts : List Stmt) (ρ : List Slot) (G : δ → D) (a : m δ) : Prop := JS X sts ρ G (none : Option (Empty → List Slot)) (fun _ : Empty => []) (Fl.rt : δ → Fl Empty Empty δ) a
theorem env_start {K : PySem.W.Frag} {mg : Str → Option Value} {O : Addr → Prop} {H : Hp} {N : List Str} {vs : List V} {ds : List D} (hl : ds.length ≤ N.length) (hO : ∀ p, O p → Mut (H p)) (r : Reps K mg O H vs ds) : Env K mg none O H H (L2.start N vs) (rho0 ds N.length) (fun _ => none) := by
  have hlen := r.length
  refine ⟨by simp [L2.start, rho0]; omega, fun j => ?_, fun j k p h => (by cases h), fun j p h => (by cases h), fun j p h => (by cases h), fun S h => (by cases h), hO, fun j p h => (by cases h), fun a o h _ => h⟩
  unfold L2.start rho0
  by_cases hj : j < ds.length
  · rw [List.getElem?_append_left (by simp; omega), List.getElem?_append_left (by simp; omega), List.getElem?_map, List.getElem?_map]
    obtain ⟨d, hd⟩ : ∃ d, ds[j]? = some d := ⟨ds[j], List.getElem?_eq_getElem hj⟩
    obtain ⟨v, hv, rv⟩ := r.get hd
    rw [hd, hv]
    exact ⟨rfl, v, rfl, rv.sub fun a z => z.elim id fun ⟨_, z⟩ => by cases z⟩
  · rw [List.getElem?_append_right (l₁ := ds.map Slot.d) (by simp; omega)]
    by_cases h2 : j - (ds.map Slot.d).length < N.length - ds.length
    · rw [List.getElem?_replicate_of_lt h2]; exact rfl
    · have e : (List.replicate (N.length - ds.length) Slot.u)[j - (ds.map Slot.d).length]? = none := List.getElem?_eq_none (by simp at h2 ⊢; omega)
      rw [e]; exact rfl
abbrev Cxf (P : Program) (w : World) (K : PySem.W.Frag) (mg : Str → Option Value) (base : Heap) (N : List Str) (qual : Str) (st : Stmt) (f : Addr) (cdv : Value) (A : Around) (outer : List PySem.Env) (s : Shared) (H : Hp) (E : XK) : Cx := (L2.cxOf CX0 P w K mg base N qual (defScope st) f cdv A outer s H E).nox
theorem fn_ok {P : Program} {w : World} {K : PySem.W.Frag} {mg : Str → Option Value} {base : Heap} {x qual : Str} {st : Stmt} {f : Addr} {fd : FuncData} {N ps : List Str} {k : Nat} (Fu : Fun K x qual st f fd) (sc : FnScope N ps (defScope st)) (F : List D → (D → Prop) → Prop) (hlen : ∀ ds Q, F ds Q → ds.length = ps.length) (hN : ps.length ≤ N.length)
    (h : ∀ cdv A outer s H E, Room k (Cxf P w K mg base N qual st f cdv A outer s H E).A → ∀ ds Q, F ds Q → ∃ (δ : Type) (G : δ → D) (a : Option δ), Tail (Cxf P w K mg base N qual st f cdv A outer s H E) (defBody st) (rho0 ds N.length) G a ∧ ∃ r, a = some r ∧ Q (G r)) :
    FnOk P w K mg base CX0 (k + 1) f fd ps (spF K mg F) := by
  refine Fu.ok sc (fun vs H Q E hs => ?_) (fun cdv A outer s H vs Q E hr hs => ?_)
  · obtain ⟨O, ds, hO, r, hF⟩ := hs
    rw [r.length, hlen _ _ hF]
  · obtain ⟨O, ds, hO, r, hF⟩ := hs
    have hl := hlen _ _ hF
    obtain ⟨δ, G, a, hT, z, hz, hq⟩ := h cdv A outer s H E hr ds _ hF
    refine ⟨_, hT.ps, none, O, H, _, env_start (by omega) hO r, z, hz, fun v H' hf hr' => hq v H' (fun a o e => hf.1 a o e fun q => by cases q) hr'⟩
theorem JL.up {w : m (List α)} {e : Expr} {E : α → D} (h : JL X false e ρ E w) (hp : PureE E) : JL X M e ρ E w := ⟨⟨pe_weak h.b.pe fun σ H Q ⟨sr, O, H0, ad, he, hw⟩ =>
  ⟨sr, O, H0, ad, he, (Mn.wp w).mono (fun xs q p vs H' h1 h2 h3 r => q p vs H' h1 h2 h3 (r.pureE hp)) hw⟩⟩⟩
theorem JE.globI {i : Int} (hm : ∃ t, X.mg n = some (.int i t)) (hg : Gl X n := by rfl) (hd : (n == ("__debug__" : Str)) = false := by decide) : JE X M (.Name n pos) ρ eI (rt (m := m) i) := by
  obtain ⟨t, hm⟩ := hm
  exact ⟨⟨pe_weak (pe_glob (v := .int i) hg hm ⟨t, rfl⟩ hd) fun σ H Q ⟨sr, O, H0, ad, he, hw⟩ => (lep _ hw) _ H (Ext.refl he.srs) (.i i)⟩⟩
/-! ### without effects -/
section
theorem pgo {x : α} {f : α → m β} {P : β → Prop} (h : (Mn.wp (f x)).run P) : (Mn.wp (bd (rt x) f)).run P := Mn.bind_ge _ _ _ (Mn.pure_ge _ _ h)
variable {E : α → D} {F : β → D} {a b e : Expr} {rest : List Expr} {x y z : Bool}
theorem JE.andP (ha : JE X false a ρ eB (rt (m := m) x)) (hb : JE X false (.BoolOp .And (b :: rest) pos) ρ eB (rt (m := m) y)) : JE X M (.BoolOp .And (a :: b :: rest) pos) ρ eB (rt (m := m) (x && y)) :=
  ⟨(JE.and ha hb).b.conv fun P h => pgo (by cases x <;> exact h)⟩
theorem JE.orP (ha : JE X false a ρ eB (rt (m := m) x)) (hb : JE X false (.BoolOp .Or (b :: rest) pos) ρ eB (rt (m := m) y)) : JE X M (.BoolOp .Or (a :: b :: rest) pos) ρ eB (rt (m := m) (x || y)) :=
  ⟨(JE.or ha hb).b.conv fun P h => pgo (by cases x <;> exact h)⟩
theorem JW.andP (ha : JT X a ρ (rt (m := m) x)) (hb : JW X (.BoolOp .And (b :: rest) pos) ρ (rt (m := m) y)) : JW X (.BoolOp .And (a :: b :: rest) pos) ρ (rt (m := m) (x && y)) :=
  ⟨(JW.and ha hb).b.conv fun P h => pgo (by cases x <;> exact h)⟩
theorem JW.orP (ha : JT X a ρ (rt (m := m) x)) (hb : JW X (.BoolOp .Or (b :: rest) pos) ρ (rt (m := m) y)) : JW X (.BoolOp .Or (a :: b :: rest) pos) ρ (rt (m := m) (x || y)) :=
  ⟨(JW.or ha hb).b.conv fun P h => pgo (by cases x <;> exact h)⟩
theorem JE.ifP {c : Expr} {u v : α} (hc : JT X c ρ (rt (m := m) x)) (h1 : JE X M a ρ E (rt (m := m) u)) (h2 : JE X M b ρ E (rt (m := m) v)) : JE X M (.IfExp c a b pos) ρ E (rt (m := m) (if x = true then u else v)) :=
  ⟨(JE.ifExp hc h1 h2).b.conv fun P h => pgo (by cases x <;> exact h)⟩
theorem JE.chainP {op op' : CmpOp} {g g' : Int → Int → Bool} {c : Expr} {i j k : Int} (ho : OpR X (compareOp op) (rI0 fun i j => .bl (g i j))) (ho' : OpR X (compareOp op') (rI0 fun i j => .bl (g' i j))) (hm : lastMarks [op, op'] [b, c] = false) (ha : JE X false a ρ eI (rt (m := m) i)) (hb : JE X false b ρ eI (rt (m := m) j)) (hc : JE X false c ρ eI (rt (m := m) k)) :
    JE X M (.Compare a [op, op'] [b, c] pos) ρ eB (rt (m := m) (g i j && g' j k)) :=
  ⟨(JE.chain ho ho' hm ha hb hc).b.conv fun P h => pgo (pgo (by
    cases hg : g i j with
    | true => rw [hg] at h; exact pgo h
    | false => rw [hg] at h; exact h))⟩
theorem JT.chainP {op op' : CmpOp} {g g' : Int → Int → Bool} {c : Expr} {i j k : Int} (ho : OpR X (compareOp op) (rI0 fun i j => .bl (g i j))) (ho' : OpR X (compareOp op') (rI0 fun i j => .bl (g' i j))) (hm : lastMarks [op, op'] [b, c] = false) (ha : JE X false a ρ eI (rt (m := m) i)) (hb : JE X false b ρ eI (rt (m := m) j)) (hc : JE X false c ρ eI (rt (m := m) k)) :
    JT X (.Compare a [op, op'] [b, c] pos) ρ (rt (m := m) (g i j && g' j k)) :=
  ⟨(JT.chain ho ho' hm ha hb hc).b.conv fun P h => pgo (pgo (by
    cases hg : g i j with
    | true => rw [hg] at h; exact pgo h
    | false => rw [hg] at h; exact h))⟩
theorem lcM_pure {c : α → Bool} {g : α → β} : ∀ xs : List α, Wp.Le (Mn.wp (rt (m := m) ((xs.filter c).map g))) (Mn.wp (lcM (fun x => rt (m := m) (c x)) (fun x => rt (g x)) xs))
  | [] => Wp.Le.refl _
  | x :: xs => by
    intro P h
    have h := Mn.pure_le _ _ h
    refine pgo ?_
    cases hc : c x with
    | true =>
      rw [List.filter_cons, if_pos hc] at h
      exact pgo (Mn.bind_ge _ _ _ (lcM_pure xs _ (Mn.pure_ge _ _ (Mn.pure_ge _ _ h))))
    | false =>
      rw [List.filter_cons, if_neg (by rw [hc]; decide)] at h
      exact lcM_pure xs _ (Mn.pure_ge _ _ h)
theorem JL.filP {wx : m (List α)} {c : α → Bool} {g : α → β} (h : JL X M e ρ F (bd wx fun xs => bd (lf (szO xs)) fun xs => lcM (fun x => rt (c x)) (fun x => rt (g x)) xs)) : JL X M e ρ F (bd wx fun xs => bd (lf (szO xs)) fun xs => rt ((xs.filter c).map g)) :=
  ⟨h.b.conv (bd_le (Wp.Le.refl _) fun xs => bd_le (Wp.Le.refl _) fun xs => lcM_pure xs)⟩
theorem mapM_pure {g : α → β} : ∀ xs : List α, Wp.Le (Mn.wp (rt (m := m) (xs.map g))) (Mn.wp (mapM' (fun x => rt (m := m) (g x)) xs))
  | [] => Wp.Le.refl _
  | x :: xs => by
    intro P h
    have h := Mn.pure_le _ _ h
    exact pgo (Mn.bind_ge _ _ _ (mapM_pure xs _ (Mn.pure_ge _ _ (Mn.pure_ge _ _ h))))
theorem JL.mapP {wx : m (List α)} {g : α → β} (h : JL X M e ρ F (bd wx fun xs => bd (lf (szO xs)) fun xs => mapM' (fun x => rt (g x)) xs)) : JL X M e ρ F (bd wx fun xs => bd (lf (szO xs)) fun xs => rt (xs.map g)) :=
  ⟨h.b.conv (bd_le (Wp.Le.refl _) fun xs => bd_le (Wp.Le.refl _) fun xs => mapM_pure xs)⟩
end
end
end Wk

namespace Wk
open PySem PySem.Spec PyProof.Rows L2
section
variable {m : Type → Type} [Mn m] {α β γ δ κ τ ω : Type}
variable {X : Cx} {M M0 : Bool} {ρ : List Slot} {pos p p2 apos : Pos} {n c : Str} {a b e ex : Expr} {E : α → D} {F : β → D}

/-! ### the mirror said in other words -/
theorem JE.cl {w w' : m α} (h : JE X M e ρ E w) (k : w = w') : JE X M e ρ E w' := k ▸ h
theorem JL.cl {w w' : m (List α)} (h : JL X M e ρ E w) (k : w = w') : JL X M e ρ E w' := k ▸ h
theorem JT.cl {w w' : m Bool} (h : JT X e ρ w) (k : w = w') : JT X e ρ w' := k ▸ h
theorem JW.cl {w w' : m Bool} (h : JW X e ρ w) (k : w = w') : JW X e ρ w' := k ▸ h
theorem JI.cl {tg : Expr} {w w' : m (List α)} (h : JI X M tg e ρ E w) (k : w = w') : JI X M tg e ρ E w' := k ▸ h
theorem JS.cl {sts : List Stmt} {E : β → D} {ρx : Option (α → List Slot)} {ρl : τ → List Slot} {e : κ → Fl α τ β} {w w' : m κ} (h : JS X sts ρ E ρx ρl e w) (k : w = w') : JS X sts ρ E ρx ρl e w' := k ▸ h
theorem JAsL.conv {st : Stmt} {i : Nat} {w w' : m (List α)} (h : JAsL X st i ρ E w) (k : Wp.Le (Mn.wp w') (Mn.wp w)) : JAsL X st i ρ E w' :=
  ⟨ps_weak h.ps fun Dd σ H ⟨sr, O, H0, ad, he, hw⟩ => ⟨sr, O, H0, ad, he, k _ hw⟩⟩
theorem JAsL.cl {st : Stmt} {i : Nat} {w w' : m (List α)} (h : JAsL X st i ρ E w) (k : w = w') : JAsL X st i ρ E w' := k ▸ h

/-! ### statements with plain values -/
section
variable {sts A B rest body : List Stmt} {Eb : β → D} {ρx : Option (α → List Slot)} {ρl : τ → List Slot} {e : κ → Fl α τ β}
theorem gop {x : γ} {f : γ → m κ} {P : κ → Prop} (h : (Mn.wp (bd (rt x) f)).run P) : (Mn.wp (f x)).run P := Mn.pure_le (m := m) x _ (Mn.bind_le _ _ _ h)
theorem JS.conv {w w' : m κ} (h : JS X sts ρ Eb ρx ρl e w) (k1 : Wp.Le (Mn.wp w') (Mn.wp w)) (k2 : Wp.Le (Mn.wp w) (Mn.wp w')) : JS X sts ρ Eb ρx ρl e w' :=
  ⟨pss_weak h.ps fun Dd σ H ⟨sr, O, H0, ad, he, hw⟩ => ⟨sr, O, H0, ad, he, k1 _ hw⟩, fun z P q => k2 _ (h.nn z P (k1 _ q))⟩
theorem JS.pg {x : γ} {f : γ → m κ} (h : JS X sts ρ Eb ρx ρl e (bd (rt x) f)) : JS X sts ρ Eb ρx ρl e (f x) := h.conv (fun P q => pgo q) (fun P q => gop q)
theorem JS.pg2 {x : γ} {f : γ → m δ} {k : δ → m κ} (h : JS X sts ρ Eb ρx ρl e (bd (bd (rt x) f) k)) : JS X sts ρ Eb ρx ρl e (bd (f x) k) :=
  h.conv (bd_le (fun P q => pgo q) fun _ => Wp.Le.refl _) (bd_le (fun P q => gop q) fun _ => Wp.Le.refl _)
theorem JS.retP {c : β → κ} {b : β} (hc : ∀ b, e (c b) = .rt b) (nl : NL Eb) (h : JE X true ex ρ Eb (rt (m := m) b)) : JS X (.Return (some ex) pos :: rest) ρ Eb ρx ρl e (rt (m := m) (c b)) := JS.pg (f := fun b => rt (c b)) (JS.ret hc nl h)
theorem JS.retLP {E : β → D} {e : κ → Fl α τ (List β)} {c : List β → κ} {b : List β} (hc : ∀ b, e (c b) = .rt b) (h : JL X true ex ρ E (rt (m := m) b)) : JS X (.Return (some ex) pos :: rest) ρ (eL E) ρx ρl e (rt (m := m) (c b)) := JS.pg (f := fun b => rt (c b)) (JS.retL hc h)
theorem JS.ifTP {c : Expr} {x : Bool} {a b : m κ} (hc : JT X c ρ (rt (m := m) x)) (hA : JS X A ρ Eb (none : Option (α → List Slot)) ρl e a) (hr : JS X rest ρ Eb ρx ρl e b) : JS X (.If c A [] pos :: rest) ρ Eb ρx ρl e (ifM x a b) := JS.pg (f := fun x => ifM x a b) (JS.ifT hc hA hr)
theorem JS.ifEP {c : Expr} {x : Bool} {a b : m κ} (hc : JT X c ρ (rt (m := m) x)) (hA : JS X A ρ Eb (none : Option (α → List Slot)) ρl e a) (hB : JS X B ρ Eb (none : Option (α → List Slot)) ρl e b) : JS X (.If c A B pos :: rest) ρ Eb ρx ρl e (ifM x a b) := JS.pg (f := fun x => ifM x a b) (JS.ifE hc hA hB)
theorem JS.ifJP {c : Expr} {x : Bool} {f : ω → List Slot} {a b : m ω} {k : ω → m κ} (hc : JT X c ρ (rt (m := m) x)) (hA : JS X A ρ Eb (some f) ρl (Fl.nx (τ := τ) (β := β)) a) (hB : JS X B ρ Eb (some f) ρl (Fl.nx (τ := τ) (β := β)) b) (hr : ∀ t, JS X rest (f t) Eb ρx ρl e (k t)) :
    JS X (.If c A B pos :: rest) ρ Eb ρx ρl e (bd (ifM x a b) k) := JS.pg2 (f := fun x => ifM x a b) (JS.ifJ hc hA hB hr)
theorem JS.ifFP {c : Expr} {x : Bool} {f : ω → List Slot} {a b : m (Fl ω τ β)} {k : ω → m κ} (c' : Fl Empty τ β → κ) (hc' : ∀ x, e (c' x) = upF x) (hc : JT X c ρ (rt (m := m) x)) (hA : JS X A ρ Eb (some f) ρl id a) (hB : JS X B ρ Eb (some f) ρl id b) (hr : ∀ t, JS X rest (f t) Eb ρx ρl e (k t)) :
    JS X (.If c A B pos :: rest) ρ Eb ρx ρl e (bd (ifM x a b) (seqF e c' k)) := JS.pg2 (f := fun x => ifM x a b) (JS.ifF c' hc' hc hA hB hr)
/-- a value that is told: the block behind speaks of it -/
theorem JS.asgV {i : Nat} {st : Stmt} {F : γ → D} {v : γ} {a : m κ} (h : JAsE X st i ρ F (rt (m := m) v)) (hr : JS X rest (ρ.set i (.d (F v))) Eb ρx ρl e a) : JS X (st :: rest) ρ Eb ρx ρl e a :=
  ⟨pss_weak (pss_cons h.ps hr.ps) fun Dd σ H ⟨sr, O, H0, ad, he, hw⟩ => ⟨sr, O, H0, ad, he, Mn.pure_ge _ _ (fun v H1 x1 r => ⟨sr, O, H0, _, (he.ext' x1).put i v _ r, hw⟩)⟩, hr.nn⟩
theorem JS.asgLV {i : Nat} {st : Stmt} {F : γ → D} {v : List γ} {a : m κ} (h : JAsL X st i ρ F (rt (m := m) v)) (hi : i < ρ.length) (hr : JS X rest (ρ.set i (.l (v.map F))) Eb ρx ρl e a) : JS X (st :: rest) ρ Eb ρx ρl e a :=
  ⟨pss_weak (pss_cons h.ps hr.ps) fun Dd σ H ⟨sr, O, H0, ad, he, hw⟩ => ⟨sr, O, H0, ad, he, Mn.pure_ge _ _ (fun p vs H1 hp x1 hp' r => ⟨sr, O, H0, _, he.own x1 hi hp hp' (r.sub fun a z => .inl z) r, hw⟩)⟩, hr.nn⟩
theorem JS.asgGV {tg : Expr} {js : List Nat} {up : List Slot → γ → List Slot} {F : γ → D} {v : γ} {a : m κ} (h : JE X true ex ρ F (rt (m := m) v)) (hg : JG X tg js F up) (hr : JS X rest (up ρ v) Eb ρx ρl e a)
    (hs : swapsWithSole [tg] ex pos.line X.env = pure false := by rfl) (hw : swappedStores [tg] ex X.env = pure none := by rfl) (h1 : (assignEach [tg] X.env).map (·.2) = [assign tg X.env] := by rfl) : JS X (.Assign [tg] ex pos :: rest) ρ Eb ρx ρl e a :=
  ⟨pss_weak (pss_cons (ps_asg h.b.pe hg.pg hs hw h1) hr.ps) fun Dd σ H ⟨sr, O, H0, ad, he, hw⟩ => ⟨sr, O, H0, ad, he, Mn.pure_ge _ _ (fun u H1 x1 r => ⟨sr, O, H0, ad, ρ, v, he.ext' x1, r, fun σ' e2 _ => ⟨sr, O, H0, _, e2, hw⟩⟩)⟩, hr.nn⟩
theorem JS.appendP {F : γ → D} {cpos : Pos} (i : Nat) {xs : List γ} {y : γ} {k : List γ → m κ} (h : ρ[i]? = some (.l (xs.map F))) (ha : JE X true ex ρ F (rt (m := m) y)) (hr : ∀ ys, JS X rest (ρ.set i (.l (ys.map F))) Eb ρx ρl e (k ys)) (hN : X.N[i]? = some n := by rfl) (hv : Vis X.env.scope n := by first | exact Or.inl rfl | exact Or.inr (Or.inl rfl) | exact Or.inr (Or.inr rfl)) (hd : (n == ("__debug__" : Str)) = false := by decide) (hcd : (n == ("__classdict__" : Str)) = false := by decide)
    (hbase : attributeBase (.Name n p2) "append" X.env (eval (.Name n p2) X.env) = eval (.Name n p2) X.env := by rfl)
    (hfew : ((backTo cpos (starEach [ex] X.env)).all (fun x => !x.1) && (backToKw cpos (keywordEach [] X.env)).all (fun x => x.1.isSome) && decide ([ex].length + ([] : List Keyword).length + (if ([] : List Keyword).isEmpty then 0 else 1) < 30)) = true := by rfl)
    (hline : (apos.endLine == cpos.line) = true := by rfl) (hs : starEach [ex] X.env = (false, eval ex X.env) :: starEach [] X.env := by rfl) (hsw : swapsWith (.Call (.Attribute (.Name n p2) "append" apos) [ex] [] cpos) none pos.line X.env = pure false := by rfl) :
    JS X (.Expr (.Call (.Attribute (.Name n p2) "append" apos) [ex] [] cpos) pos :: rest) ρ Eb ρx ρl e (bd (lf (appO xs y)) k) := JS.pg (f := fun y => bd (lf (appO xs y)) k) (JS.append i h ha hr hN hv hd hcd hbase hfew hline hs hsw)
/-- a, b = x, y -/
theorem JS.par {F1 : γ → D} {F2 : δ → D} {a b : Expr} {x y : Str} {w1 : m γ} {w2 : m δ} {k : γ → δ → m κ} {px py pt : Pos} {kt k2 pt2} (i j : Nat) (hc : X.calm = true) (hN : X.N.Nodup) (hi : X.N[i]? = some x) (hj : X.N[j]? = some y) (hij : i ≠ j)
    (hx : X.env.scope.names.lookup x = some .local) (hy : X.env.scope.names.lookup y = some .local) (ha : JE X true a ρ F1 w1) (hb : JE X true b ρ F2 w2) (hr : ∀ u v, JS X rest ((ρ.set i (.d (F1 u))).set j (.d (F2 v))) Eb ρx ρl e (k u v))
    (hw : swappedStores [.Tuple [.Name x px, .Name y py] kt pt] (.Tuple [a, b] k2 pt2) X.env = pure (some [x, y]) := by rfl)
    (hs : swapsWithSole [.Tuple [.Name x px, .Name y py] kt pt] (.Tuple [a, b] k2 pt2) pos.line X.env = pure false := by rfl) (hs1 : starEach [a, b] X.env = (false, eval a X.env) :: starEach [b] X.env := by rfl) (hs2 : starEach [b] X.env = (false, eval b X.env) :: starEach [] X.env := by rfl) :
    JS X (.Assign [.Tuple [.Name x px, .Name y py] kt pt] (.Tuple [a, b] k2 pt2) pos :: rest) ρ Eb ρx ρl e (bd w1 fun u => bd w2 fun v => k u v) :=
  ⟨pss_weak (pss_cons (ps_par hc hN hi hj hij hx hy (pa_cons ha.b.pe (pa_cons hb.b.pe pa_nil hs2) hs1) hw hs) (pss_ex fun q : γ × δ => (hr q.1 q.2).ps)) fun Dd σ H ⟨sr, O, H0, ad, he, hw⟩ => (by
    refine ⟨sr, O, H0, ad, he, (Mn.wp w1).mono (fun u q v H1 x1 r => ⟨sr, O, H0, ad, he.ext' x1, (Mn.wp w2).mono (fun z q2 v2 H2 x2 r2 => ?_) (bdk q)⟩) (bdk hw)⟩
    have e2 := (he.ext' x1).ext' x2
    have e3 := e2.put i v _ (r.ext x2 (he.sOM true))
    refine ⟨v, v2, rfl, (u, z), sr, O, H0, _, e3.put j v2 _ (r2.sub (fun a h => ?_)), q2⟩
    exact h.elim .inl fun ⟨q, hq⟩ => .inr ⟨q, by
      unfold unad at hq
      split at hq
      · cases hq
      · exact hq⟩), fun z => nn_bd fun x => nn_bd fun y => (hr x y).nn z⟩
end

/-! ### None -/
theorem JE.isN {w : m (Option α)} {b1 : Expr} (hE : ∀ x, E x ≠ .n) (ha : JE X false a ρ (eO E) w) {j} {p3 : Pos} : JE X M (.Compare a [.Is] [.Constant .none j p3] pos) ρ eB (bd w fun x => rt x.isNone) :=
  ⟨⟨pe_weak (pe_cmpR op_isN ha.b.pe (pe_non) (nomark _)) fun σ H Q ⟨sr, O, H0, ad, he, hw⟩ => ⟨sr, O, H0, ad, he, by
      have hw := le1 (f := fun x : Option α => rt (m := m) x.isNone) (g := fun x => Wp.pure x.isNone) (fun _ => lep) _ hw
      refine (Mn.wp w).mono (fun x q v H1 x1 r => ⟨rfl, ?_⟩) hw
      have : decide (v = .non) = x.isNone := by
        cases x with
        | none => cases r; rfl
        | some x =>
          have r : Rep X.K X.mg O H1 v (E x) := r
          cases hv : E x <;> rw [hv] at r <;> cases r <;> first | rfl | exact absurd hv (hE x)
      rw [this]
      exact q _ H1 x1 (.b _)⟩⟩⟩
end
end Wk

namespace Wk
open PySem PySem.Spec PyProof.Rows L2
section
variable {m : Type → Type} [Mn m] {α β γ δ κ τ ω : Type}
variable {X : Cx} {M M0 : Bool} {ρ : List Slot} {pos p p2 p3 apos : Pos} {n c : Str} {a b e ex : Expr} {E : α → D} {F : β → D}
theorem non_dec {K : PySem.W.Frag} {mg : Str → Option Value} {O : Addr → Prop} {H : Hp} {v : V} {x : Option α} (hE : ∀ x, E x ≠ .n) (r : Rep K mg O H v (eO E x)) : decide (v = .non) = x.isNone := by
  cases x with
  | none => cases r; rfl
  | some x =>
    have r : Rep K mg O H v (E x) := r
    cases hv : E x <;> rw [hv] at r <;> cases r <;> first | rfl | exact absurd hv (hE x)
theorem isSome_not {x : Option α} : (!x.isNone) = x.isSome := by cases x <;> rfl
theorem JE.notN {w : m (Option α)} (hE : ∀ x, E x ≠ .n) (ha : JE X false a ρ (eO E) w) {j} : JE X M (.Compare a [.IsNot] [.Constant .none j p3] pos) ρ eB (bd w fun x => rt x.isSome) :=
  ⟨⟨pe_weak (pe_cmpR op_notN ha.b.pe (pe_non) (nomark _)) fun σ H Q ⟨sr, O, H0, ad, he, hw⟩ => ⟨sr, O, H0, ad, he, by
      have hw := le1 (f := fun x : Option α => rt (m := m) x.isSome) (g := fun x => Wp.pure x.isSome) (fun _ => lep) _ hw
      refine (Mn.wp w).mono (fun x q v H1 x1 r => ⟨rfl, ?_⟩) hw
      rw [non_dec hE r, isSome_not]
      exact q _ H1 x1 (.b _)⟩⟩⟩
theorem JT.isN {w : m (Option α)} (hE : ∀ x, E x ≠ .n) (ha : JE X false a ρ (eO E) w) {j} : JT X (.Compare a [.Is] [.Constant .none j p3] pos) ρ (bd w fun x => rt x.isNone) :=
  ⟨⟨pt_weak (pt_cmpR op_isN ha.b.pe (pe_non) (nomark _)) fun σ H Q ⟨sr, O, H0, ad, he, hw⟩ => ⟨sr, O, H0, ad, he, by
      have hw := le1 (f := fun x : Option α => rt (m := m) x.isNone) (g := fun x => Wp.pure x.isNone) (fun _ => lep) _ hw
      refine (Mn.wp w).mono (fun x q v H1 x1 r => ⟨rfl, ?_⟩) hw
      rw [non_dec hE r]
      exact ⟨_, rfl, q H1 x1⟩⟩⟩⟩
theorem JT.notN {w : m (Option α)} (hE : ∀ x, E x ≠ .n) (ha : JE X false a ρ (eO E) w) {j} : JT X (.Compare a [.IsNot] [.Constant .none j p3] pos) ρ (bd w fun x => rt x.isSome) :=
  ⟨⟨pt_weak (pt_cmpR op_notN ha.b.pe (pe_non) (nomark _)) fun σ H Q ⟨sr, O, H0, ad, he, hw⟩ => ⟨sr, O, H0, ad, he, by
      have hw := le1 (f := fun x : Option α => rt (m := m) x.isSome) (g := fun x => Wp.pure x.isSome) (fun _ => lep) _ hw
      refine (Mn.wp w).mono (fun x q v H1 x1 r => ⟨rfl, ?_⟩) hw
      rw [non_dec hE r, isSome_not]
      exact ⟨_, rfl, q H1 x1⟩⟩⟩⟩
/-- what is not None -/
theorem JE.get {w : m (Option α)} (ha : JE X M a ρ (eO E) w) : JE X M a ρ E (bd w fun x => lf x) :=
  ⟨⟨pe_weak ha.b.pe fun σ H Q ⟨sr, O, H0, ad, he, hw⟩ => ⟨sr, O, H0, ad, he, by
      have hw := le1 (f := fun x : Option α => lf (m := m) x) (g := fun x => Wp.ofO x) (fun _ => Mn.lift_le _) _ hw
      refine (Mn.wp w).mono (fun x q v H1 x1 r => ?_) hw
      obtain ⟨y, rfl, q⟩ := q
      exact q v H1 x1 r⟩⟩⟩
/-! ### in -/
theorem inV_ints (i : Int) : ∀ xs : List Int, inV (.int i) (xs.map V.int) = xs.contains i
  | [] => rfl
  | x :: xs => by
    have ih := inV_ints i xs
    unfold inV at ih ⊢
    rw [List.map_cons, List.any_cons, ih, List.contains_cons]
    congr 1
    show (x == i) = (i == x)
    rw [Bool.eq_iff_iff, beq_iff_eq, beq_iff_eq]
    exact eq_comm
theorem flat_ints : ∀ xs : List Int, (xs.map V.int).all flatV = true
  | [] => rfl
  | x :: xs => by rw [List.map_cons, List.all_cons, flat_ints xs]; rfl
section
variable {wa : m Int} {wb : m (List Int)} {k : Kd}
theorem Rep.seqI {K : PySem.W.Frag} {mg : Str → Option Value} {O : Addr → Prop} {H : Hp} {v : V} {xs : List Int} (h : Rep K mg O H v (eQ k eI xs)) :
    ∃ a, v = .ref a ∧ (SqL K H a (xs.map V.int) ∨ SqT K H a (xs.map V.int)) := by
  obtain ⟨a, vs, rfl, hs, rs⟩ := h.seq
  have rs : Reps K mg O H vs (xs.map D.i) := rs
  rw [rs.ints] at hs
  exact ⟨a, rfl, hs⟩
theorem JE.inI (ha : JE X false a ρ eI wa) (hb : JE X false b ρ (eQ k eI) wb) (hm : behindInMarks .In b = false := by rfl) : JE X M (.Compare a [.In] [b] pos) ρ eB (bd wa fun x => bd wb fun y => rt (y.contains x)) :=
  ⟨⟨pe_weak (pe_cmpR op_in_seq ha.b.pe hb.b.pe hm) fun σ H Q ⟨sr, O, H0, ad, he, hw⟩ => ⟨sr, O, H0, ad, he, by
      have hw := le2 (f := fun x y => rt (m := m) (List.contains y x)) (g := fun x y => Wp.pure (List.contains y x)) (fun _ _ => lep) _ hw
      refine (Mn.wp wa).mono (fun x q v H1 x1 r => ⟨sr, O, H0, ad, he.ext' x1, (Mn.wp wb).mono (fun y q2 v2 H2 x2 r2 => ?_) q⟩) hw
      cases r
      obtain ⟨p, rfl, hs⟩ := r2.seqI
      refine ⟨p, _, rfl, hs, rfl, flat_ints _, ?_⟩
      rw [if_neg (by decide), inV_ints]
      exact q2 _ H2 (x1.trans x2) (.b _)⟩⟩⟩
theorem JE.ninI (ha : JE X false a ρ eI wa) (hb : JE X false b ρ (eQ k eI) wb) (hm : behindInMarks .NotIn b = false := by rfl) : JE X M (.Compare a [.NotIn] [b] pos) ρ eB (bd wa fun x => bd wb fun y => rt (!(y.contains x))) :=
  ⟨⟨pe_weak (pe_cmpR op_notIn_seq ha.b.pe hb.b.pe hm) fun σ H Q ⟨sr, O, H0, ad, he, hw⟩ => ⟨sr, O, H0, ad, he, by
      have hw := le2 (f := fun x y => rt (m := m) (!(List.contains y x))) (g := fun x y => Wp.pure (!(List.contains y x))) (fun _ _ => lep) _ hw
      refine (Mn.wp wa).mono (fun x q v H1 x1 r => ⟨sr, O, H0, ad, he.ext' x1, (Mn.wp wb).mono (fun y q2 v2 H2 x2 r2 => ?_) q⟩) hw
      cases r
      obtain ⟨p, rfl, hs⟩ := r2.seqI
      refine ⟨p, _, rfl, hs, rfl, flat_ints _, ?_⟩
      rw [if_pos rfl, inV_ints]
      exact q2 _ H2 (x1.trans x2) (.b _)⟩⟩⟩
theorem JT.inI (ha : JE X false a ρ eI wa) (hb : JE X false b ρ (eQ k eI) wb) (hm : behindInMarks .In b = false := by rfl) : JT X (.Compare a [.In] [b] pos) ρ (bd wa fun x => bd wb fun y => rt (y.contains x)) :=
  ⟨⟨pt_weak (pt_cmpR op_in_seq ha.b.pe hb.b.pe hm) fun σ H Q ⟨sr, O, H0, ad, he, hw⟩ => ⟨sr, O, H0, ad, he, by
      have hw := le2 (f := fun x y => rt (m := m) (List.contains y x)) (g := fun x y => Wp.pure (List.contains y x)) (fun _ _ => lep) _ hw
      refine (Mn.wp wa).mono (fun x q v H1 x1 r => ⟨sr, O, H0, ad, he.ext' x1, (Mn.wp wb).mono (fun y q2 v2 H2 x2 r2 => ?_) q⟩) hw
      cases r
      obtain ⟨p, rfl, hs⟩ := r2.seqI
      refine ⟨p, _, rfl, hs, rfl, flat_ints _, ?_⟩
      rw [if_neg (by decide), inV_ints]
      exact ⟨_, rfl, q2 H2 (x1.trans x2)⟩⟩⟩⟩
theorem JT.ninI (ha : JE X false a ρ eI wa) (hb : JE X false b ρ (eQ k eI) wb) (hm : behindInMarks .NotIn b = false := by rfl) : JT X (.Compare a [.NotIn] [b] pos) ρ (bd wa fun x => bd wb fun y => rt (!(y.contains x))) :=
  ⟨⟨pt_weak (pt_cmpR op_notIn_seq ha.b.pe hb.b.pe hm) fun σ H Q ⟨sr, O, H0, ad, he, hw⟩ => ⟨sr, O, H0, ad, he, by
      have hw := le2 (f := fun x y => rt (m := m) (!(List.contains y x))) (g := fun x y => Wp.pure (!(List.contains y x))) (fun _ _ => lep) _ hw
      refine (Mn.wp wa).mono (fun x q v H1 x1 r => ⟨sr, O, H0, ad, he.ext' x1, (Mn.wp wb).mono (fun y q2 v2 H2 x2 r2 => ?_) q⟩) hw
      cases r
      obtain ⟨p, rfl, hs⟩ := r2.seqI
      refine ⟨p, _, rfl, hs, rfl, flat_ints _, ?_⟩
      rw [if_pos rfl, inV_ints]
      exact ⟨_, rfl, q2 H2 (x1.trans x2)⟩⟩⟩⟩
end
/-! ### a part of a pair -/
theorem JE.fst {w : m (α × β)} {k p4} (hp : PlainIx (.Constant (.int 0) k p4)) (ha : JE X M a ρ (eP E F) w) : JE X M (.Subscript a (.Constant (.int 0) k p4) pos) ρ E (bd w fun x => rt x.1) :=
  ⟨⟨pe_weak (pe_ix ix_seq ha.b.pe pe_int hp) fun σ H Q ⟨sr, O, H0, ad, he, hw⟩ => ⟨sr, O, H0, ad, he, by
      have hw := le1 (f := fun x : α × β => rt (m := m) x.1) (g := fun x => Wp.pure x.1) (fun _ => lep) _ hw
      refine (Mn.wp w).mono (fun x q v H1 x1 r => ?_) hw
      cases r with
      | t h1 h2 =>
        cases h2 with
        | cons r1 h2 => cases h2 with
          | cons r2 h3 =>
            cases h3
            exact .inr (.inl ⟨_, _, 0, _, rfl, rfl, h1, rfl, q _ H1 x1 r1⟩)⟩⟩⟩
theorem JE.snd {w : m (α × β)} {k p4} (hp : PlainIx (.Constant (.int 1) k p4)) (ha : JE X M a ρ (eP E F) w) : JE X M (.Subscript a (.Constant (.int 1) k p4) pos) ρ F (bd w fun x => rt x.2) :=
  ⟨⟨pe_weak (pe_ix ix_seq ha.b.pe pe_int hp) fun σ H Q ⟨sr, O, H0, ad, he, hw⟩ => ⟨sr, O, H0, ad, he, by
      have hw := le1 (f := fun x : α × β => rt (m := m) x.2) (g := fun x => Wp.pure x.2) (fun _ => lep) _ hw
      refine (Mn.wp w).mono (fun x q v H1 x1 r => ?_) hw
      cases r with
      | t h1 h2 =>
        cases h2 with
        | cons r1 h2 => cases h2 with
          | cons r2 h3 =>
            cases h3
            exact .inr (.inl ⟨_, _, 1, _, rfl, rfl, h1, rfl, q _ H1 x1 r2⟩)⟩⟩⟩
/-! ### y = [..] on one line -/
section
variable {tg iter elt tg1 iter1 : Expr} {ifs : List Expr} {js : List Nat} {up : List Slot → α → List Slot} {wx : m (List α)} {scope : Scope} {own : List (Str × Nat)} {cM : α → m Bool} {f : α → m β} {spos : Pos} {y : Str} {i : Nat}
  {G : γ → D} {F2 : β → D} {vs1 js1 : List Nat} {up1 : List Slot → β → List Slot} {M1 : Bool} {g2 : α → m (List β)} {f2 : α → β → m γ}
theorem JAsL.lc (hc : X.calm = true) (hN : X.N.Nodup) (hy : X.N[i]? = some y) (hyl : X.env.scope.names.lookup y = some .local)
    (hsw : swapsWith (.ListComp elt [⟨tg, iter, ifs, 0⟩] scope pos) (some (.Name y p2)) spos.line X.env = pure true) (hi : JI X M0 tg iter ρ E wx) (ok : BlkOk X.N X.env.scope scope own) (hj : ∀ j ∈ js, j ∈ own.map (·.2)) (ho : ownFree ρ (own.map (·.2)) = true)
    (hg : ∀ s H C cl fp, JG (Blk X s H scope C cl fp) tg js E up) (ht : ∀ s H C cl fp x, JTs (Blk X s H scope C cl fp) ifs (up (wipeS ρ (own.map (·.2))) x) (cM x)) (he : ∀ s H C cl fp x, JE (Blk X s H scope C cl fp) true elt (up (wipeS ρ (own.map (·.2))) x) F (f x)) (hs : ∀ x, foldedSetIterable iter X.env x = pure x := by intro _; rfl) :
    JAsL X (.Assign [.Name y p2] (.ListComp elt [⟨tg, iter, ifs, 0⟩] scope pos) spos) i ρ F (bd wx fun xs => bd (lf (szO xs)) fun xs => lcM cM f xs) :=
  ⟨ps_weak (ps_setLc hc hN hy hyl hsw hi.b ok (fun s H C cl fp => (hg s H C cl fp).pg) (fun s H C cl fp => pts_ex fun x => (ht s H C cl fp x).pt) (fun s H C cl fp => pe_ex fun x => (he s H C cl fp x).b.pe) hs) fun Dd σ H h => JL.lc_core hi hj ho h⟩
theorem JAsL.lc0 (hc : X.calm = true) (hN : X.N.Nodup) (hy : X.N[i]? = some y) (hyl : X.env.scope.names.lookup y = some .local)
    (hsw : swapsWith (.ListComp elt [⟨tg, iter, [], 0⟩] scope pos) (some (.Name y p2)) spos.line X.env = pure true) (hi : JI X M0 tg iter ρ E wx) (ok : BlkOk X.N X.env.scope scope own) (hj : ∀ j ∈ js, j ∈ own.map (·.2)) (ho : ownFree ρ (own.map (·.2)) = true)
    (hg : ∀ s H C cl fp, JG (Blk X s H scope C cl fp) tg js E up) (he : ∀ s H C cl fp x, JE (Blk X s H scope C cl fp) true elt (up (wipeS ρ (own.map (·.2))) x) F (f x)) (hs : ∀ x, foldedSetIterable iter X.env x = pure x := by intro _; rfl) :
    JAsL X (.Assign [.Name y p2] (.ListComp elt [⟨tg, iter, [], 0⟩] scope pos) spos) i ρ F (bd wx fun xs => bd (lf (szO xs)) fun xs => mapM' f xs) :=
  (JAsL.lc hc hN hy hyl hsw hi ok hj ho hg (fun s H C cl fp x => JTs.nil) he hs).conv (bd_le (Wp.Le.refl _) fun xs => bd_le (Wp.Le.refl _) fun ys => mapM_le _ ys)
theorem JAsL.lc20 (hc : X.calm = true) (hN : X.N.Nodup) (hy : X.N[i]? = some y) (hyl : X.env.scope.names.lookup y = some .local)
    (hsw : swapsWith (.ListComp elt [⟨tg, iter, [], 0⟩, ⟨tg1, iter1, [], 0⟩] scope pos) (some (.Name y p2)) spos.line X.env = pure true) (hi : JI X M0 tg iter ρ E wx) (ok : BlkOk X.N X.env.scope scope own) (hj : ∀ j ∈ js, j ∈ own.map (·.2)) (ho : ownFree ρ (own.map (·.2)) = true) (hj1 : ∀ j ∈ js1, j ∈ vs1) (hv1 : ∀ j ∈ vs1, j ∈ own.map (·.2))
    (hg : ∀ s H C cl fp, JG (Blk X s H scope C cl fp) tg js E up)
    (hi1 : ∀ s H C cl fp x, JI (Blk X s H scope C cl fp) M1 tg1 iter1 (up (wipeS ρ (own.map (·.2))) x) F2 (g2 x)) (hg1 : ∀ s H C cl fp, JG (Blk X s H scope C cl fp) tg1 js1 F2 up1)
    (he : ∀ s H C cl fp x y, JE (Blk X s H scope C cl fp) true elt (up1 (wipeS (up (wipeS ρ (own.map (·.2))) x) vs1) y) G (f2 x y))
    (hs : ∀ x, foldedSetIterable iter X.env x = pure x := by intro _; rfl) (hs1 : ∀ env x, foldedSetIterable iter1 env x = pure x := by intro _ _; rfl) :
    JAsL X (.Assign [.Name y p2] (.ListComp elt [⟨tg, iter, [], 0⟩, ⟨tg1, iter1, [], 0⟩] scope pos) spos) i ρ G (bd wx fun xs => bd (lf (sz4 xs)) fun xs => flat2 g2 f2 xs) :=
  JAsL.conv (w := bd wx fun xs => bd (lf (sz4 xs)) fun xs => lc2M (fun _ => rt true) g2 (fun _ _ => rt true) f2 xs) ⟨ps_weak (ps_setLc2 hc hN hy hyl hsw hi.b ok hv1 (fun s H C cl fp => (hg s H C cl fp).pg) (fun s H C cl fp => pts_ex fun x => (JTs.nil (X := Blk X s H scope C cl fp) (ρ := up (wipeS ρ (own.map (·.2))) x)).pt) (fun s H C cl fp => pi_ex fun x => (hi1 s H C cl fp x).b) (fun s H C cl fp => (hg1 s H C cl fp).pg)
    (fun s H C cl fp => pts_ex fun x : α × β => (JTs.nil (X := Blk X s H scope C cl fp) (ρ := up1 (wipeS (up (wipeS ρ (own.map (·.2))) x.1) vs1) x.2)).pt) (fun s H C cl fp => pe_ex fun x : α × β => (he s H C cl fp x.1 x.2).b.pe) hs hs1) fun Dd σ H h => JL.lc2_core hi hj ho hj1 hv1 h⟩ (bd_le (Wp.Le.refl _) fun xs => bd_le (Wp.Le.refl _) fun ys => flat2_le _ _ ys)
theorem JAsL.filP {st : Stmt} {c : α → Bool} {g : α → β} (h : JAsL X st i ρ F (bd wx fun xs => bd (lf (szO xs)) fun xs => lcM (fun x => rt (c x)) (fun x => rt (g x)) xs)) : JAsL X st i ρ F (bd wx fun xs => bd (lf (szO xs)) fun xs => rt ((xs.filter c).map g)) :=
  h.conv (bd_le (Wp.Le.refl _) fun xs => bd_le (Wp.Le.refl _) fun xs => lcM_pure xs)
theorem JAsL.mapP {st : Stmt} {g : α → β} (h : JAsL X st i ρ F (bd wx fun xs => bd (lf (szO xs)) fun xs => mapM' (fun x => rt (g x)) xs)) : JAsL X st i ρ F (bd wx fun xs => bd (lf (szO xs)) fun xs => rt (xs.map g)) :=
  h.conv (bd_le (Wp.Le.refl _) fun xs => bd_le (Wp.Le.refl _) fun xs => mapM_pure xs)
end
end
end Wk

namespace Wk
open PySem PySem.Spec PyProof.Rows L2
section
variable {m : Type → Type} [Mn m] {α β γ δ κ τ ω : Type}
variable {X : Cx} {M M0 : Bool} {ρ : List Slot} {pos p p2 p3 apos : Pos} {n c : Str} {a b ex : Expr} {E : β → D} {F : γ → D}
variable {sts A B rest body : List Stmt} {ρx : Option (α → List Slot)} {ρl : ω → List Slot} {e : κ → Fl α ω β}
def tailF : Fl Empty Empty β → β
  | .nx t => t.elim
  | .rt b => b
  | .bk t => t.elim
  | .ct t => t.elim
theorem tailF_up : ∀ x : Fl Empty Empty β, (Fl.rt (tailF x) : Fl Empty Empty β) = upF x
  | .nx t => t.elim
  | .rt b => rfl
  | .bk t => t.elim
  | .ct t => t.elim
section
variable {tg iter : Expr} {js : List Nat} {Ei : γ → D} {up : List Slot → γ → List Slot}
theorem JS.forP {xs : List γ} {f : γ → τ → m (Fl τ τ β)} {k : τ → m κ} (ρh : τ → List Slot) (t0 : τ) (c : β → κ) (hc : ∀ b, e (c b) = .rt b) (hp : PassesOwn (model X.prog X.w) X.A X.env X.xe) (hcalm : X.calm = true)
    (hi : JI X true tg iter ρ Ei (rt (m := m) xs)) (hg : JG X tg js Ei up) (l : Lw ρ (ρh t0)) (hb : ∀ x t, JS X body (up (ρh t) x) E (some ρh) ρh (id : Fl τ τ β → Fl τ τ β) (f x t)) (hr : ∀ t, JS X rest (ρh t) E ρx ρl e (k t))
    (hs : ∀ x, foldedSetIterable iter X.env x = pure x := by intro _; rfl) : JS X (.For tg iter body [] pos :: rest) ρ E ρx ρl e (bd (loopM f xs t0) (outM c k)) :=
  JS.pg (f := fun xs => bd (loopM f xs t0) (outM c k)) (JS.for ρh t0 c hc hp hcalm hi hg l hb hr hs)
theorem JS.forSP {xs : List γ} {f : γ → τ → m τ} {k : τ → m κ} (ρh : τ → List Slot) (t0 : τ) (hp : PassesOwn (model X.prog X.w) X.A X.env X.xe) (hcalm : X.calm = true)
    (hi : JI X true tg iter ρ Ei (rt (m := m) xs)) (hg : JG X tg js Ei up) (l : Lw ρ (ρh t0)) (hb : ∀ x t, JS X body (up (ρh t) x) E (some ρh) ρh (Fl.nx : τ → Fl τ τ β) (f x t)) (hr : ∀ t, JS X rest (ρh t) E ρx ρl e (k t))
    (hs : ∀ x, foldedSetIterable iter X.env x = pure x := by intro _; rfl) : JS X (.For tg iter body [] pos :: rest) ρ E ρx ρl e (bd (foldM' f xs t0) k) :=
  JS.pg (f := fun xs => bd (foldM' f xs t0) k) (JS.forS ρh t0 hp hcalm hi hg l hb hr hs)
end
/-- an expression for its effects -/
theorem JS.exS {w : m γ} {k : γ → m κ} (h : JE X true ex ρ F w) (hr : ∀ x, JS X rest ρ E ρx ρl e (k x)) (hs : swapsWith ex none pos.line X.env = pure false := by rfl) : JS X (.Expr ex pos :: rest) ρ E ρx ρl e (bd w k) :=
  ⟨pss_weak (pss_cons (ps_expr h.b.pe hs) (pss_ex fun x => (hr x).ps)) fun Dd σ H ⟨sr, O, H0, ad, he, hw⟩ => ⟨sr, O, H0, ad, he, (Mn.wp w).mono (fun x q v H1 x1 r => ⟨x, sr, O, H0, ad, he.ext' x1, q⟩) (bdk hw)⟩, fun z => nn_bd fun x => (hr x).nn z⟩
/-- x += e, x -= e of ints -/
theorem JS.augI' {op : Operator} {g : Int → Int → Int} (ho : PIp X op (ipI g)) {w : m Int} {x : Int} {k : Int → m κ} (hN : X.N.Nodup) (i : Nat) (hi : X.N[i]? = some n) (hx : ρ[i]? = some (.d (eI x))) (hf : X.fn n = true ∨ X.env.scope.names.lookup n = some .local) (h : JE X false ex ρ eI w) (hr : ∀ z, JS X rest (ρ.set i (.d (eI z))) E ρx ρl e (k z)) (hl : Loc X.env.scope n) : JS X (.AugAssign (.Name n p2) op ex pos :: rest) ρ E ρx ρl e (bd w fun y => bd (rt (g x y)) k) :=
  ⟨pss_weak (pss_cons (ps_aug hN hi hl h.b.pe ho hf) (pss_ex fun x => (hr x).ps)) fun Dd σ H ⟨sr, O, H0, ad, he, hw⟩ => (by
    have hi := he.at_ i
    rw [hx] at hi
    obtain ⟨_, v, e1, r⟩ := hi
    cases r
    refine ⟨_, e1, sr, O, H0, ad, he, (Mn.wp w).mono (fun y q v H1 x1 r => ?_) (bdk hw)⟩
    cases r
    exact ⟨x, y, rfl, rfl, g x y, sr, O, H0, _, (he.ext' x1).put i _ (.i (g x y)) (.i _), gop q⟩), fun z => nn_bd fun x => nn_bd fun y => (hr y).nn z⟩
theorem JS.augA {w : m Int} {x : Int} {k : Int → m κ} (hN : X.N.Nodup) (i : Nat) (hi : X.N[i]? = some n) (hx : ρ[i]? = some (.d (eI x))) (hf : X.fn n = true ∨ X.env.scope.names.lookup n = some .local) (h : JE X false ex ρ eI w) (hr : ∀ z, JS X rest (ρ.set i (.d (eI z))) E ρx ρl e (k z)) (hl : Loc X.env.scope n := by exact Or.inl rfl) : JS X (.AugAssign (.Name n p2) .Add ex pos :: rest) ρ E ρx ρl e (bd w fun y => bd (rt (x + y)) k) := JS.augI' ip_add hN i hi hx hf h hr hl
theorem JS.augS {w : m Int} {x : Int} {k : Int → m κ} (hN : X.N.Nodup) (i : Nat) (hi : X.N[i]? = some n) (hx : ρ[i]? = some (.d (eI x))) (hf : X.fn n = true ∨ X.env.scope.names.lookup n = some .local) (h : JE X false ex ρ eI w) (hr : ∀ z, JS X rest (ρ.set i (.d (eI z))) E ρx ρl e (k z)) (hl : Loc X.env.scope n := by exact Or.inl rfl) : JS X (.AugAssign (.Name n p2) .Sub ex pos :: rest) ρ E ρx ρl e (bd w fun y => bd (rt (x - y)) k) := JS.augI' ip_sub hN i hi hx hf h hr hl

/-! ### a def that may fall off its end -/
abbrev TailN (X : Cx) (sts : List Stmt) (ρ : List Slot) (N : Nat) (a : m (Fl Unit Empty Unit)) : Prop := JS X sts ρ eN (some (fun _ : Unit => List.replicate N Slot.u)) (fun _ : Empty => []) id a
theorem fn_okN {P : Program} {w : World} {K : PySem.W.Frag} {mg : Str → Option Value} {base : Heap} {x qual : Str} {st : Stmt} {f : Addr} {fd : FuncData} {N ps : List Str} {k : Nat} (Fu : Fun K x qual st f fd) (sc : FnScope N ps (defScope st)) (F : List D → (D → Prop) → Prop) (hlen : ∀ ds Q, F ds Q → ds.length = ps.length) (hN : ps.length ≤ N.length)
    (h : ∀ cdv A outer s H E, Room k (Cxf P w K mg base N qual st f cdv A outer s H E).A → ∀ ds Q, F ds Q → ∃ (a : Option (Fl Unit Empty Unit)), TailN (Cxf P w K mg base N qual st f cdv A outer s H E) (defBody st) (rho0 ds N.length) N.length a ∧ ∃ r, a = some r ∧ Q .n) :
    FnOk P w K mg base CX0 (k + 1) f fd ps (spF K mg F) := by
  refine Fu.ok sc (fun vs H Q E hs => ?_) (fun cdv A outer s H vs Q E hr hs => ?_)
  · obtain ⟨O, ds, hO, r, hF⟩ := hs
    rw [r.length, hlen _ _ hF]
  · obtain ⟨O, ds, hO, r, hF⟩ := hs
    have hl := hlen _ _ hF
    obtain ⟨a, hT, z, hz, hq⟩ := h cdv A outer s H E hr ds _ hF
    refine ⟨_, hT.ps, none, O, H, _, env_start (by omega) hO r, z, hz, ?_⟩
    refine (show endOk (α := Unit) (τ := Empty) (β := Unit) K mg none O H eN (some fun _ : Unit => List.replicate N.length Slot.u) (fun _ : Empty => []) { nx := fun _ H' => Q V.non H', rt := Q } z from ?_)
    cases z with
    | nx t => exact fun σ' H' ad' he' => hq .non H' (fun a o e => (he'.ext a o e) (fun q => by cases q)) ⟨.n, trivial⟩
    | bk t => exact t.elim
    | ct t => exact t.elim
    | rt b => exact fun v H' hf hr' => hq v H' (fun a o e => hf.1 a o e fun q => by cases q) hr'
end
end Wk

namespace Wk
open PySem PySem.Spec PyProof.Rows L2

/-! ### defs that take the source -/
/-- first the source, behind it data; the wish for the answer -/
def spG (K : PySem.W.Frag) (mg : Str → Option Value) (F : List D → (D → Prop) → Prop) : Sp := fun vs H Q _ => ∃ (S : Addr) (O : Addr → Prop) (rest : List V) (ds : List D), vs = .ref S :: rest ∧ O S ∧ SrcAt H S ∧ (∀ p, O p → Mut (H p)) ∧ Reps K mg O H rest ds ∧
  F ds fun r => ∀ v H', Fin (some S) H H' → RetOk K mg O H H' v r → Q v H'
def GCallOk (X : Cx) (n : Str) (F : List D → (D → Prop) → Prop) : Prop := ∃ (k : Nat) (fa : Addr) (fd : FuncData) (ps : List Str),
  FnOk X.prog X.w X.K X.mg X.base CX0 k fa fd ps (spG X.K X.mg F) ∧ Room k X.A ∧ X.mg n = some (.ref fa) ∧ PySem.W.keepIn X.K (.ref fa) = true ∧ Binds X.K fd ps []
theorem env_startG {K : PySem.W.Frag} {mg : Str → Option Value} {O : Addr → Prop} {H : Hp} {N : List Str} {S : Addr} {vs : List V} {ds : List D} (hl : ds.length + 1 ≤ N.length) (hS : O S) (hA : SrcAt H S) (hO : ∀ p, O p → Mut (H p)) (r : Reps K mg O H vs ds) : Env K mg (some S) O H H (L2.start N (.ref S :: vs)) (.src :: rho0 ds (N.length - 1)) (fun _ => none) := by
  have hlen := r.length
  refine ⟨by simp [L2.start, rho0]; omega, fun j => ?_, fun j k p h => (by cases h), fun j p h => (by cases h), fun j p h => (by cases h), fun S' h => (by cases h; exact ⟨hS, hA⟩), hO, fun j p h => (by cases h), fun a o h _ => h⟩
  unfold L2.start rho0
  cases j with
  | zero => exact ⟨rfl, S, rfl, rfl⟩
  | succ j =>
    rw [List.map_cons, List.cons_append, List.getElem?_cons_succ, List.getElem?_cons_succ]
    by_cases hj : j < ds.length
    · rw [List.getElem?_append_left (by simp; omega), List.getElem?_append_left (by simp; omega), List.getElem?_map, List.getElem?_map]
      obtain ⟨d, hd⟩ : ∃ d, ds[j]? = some d := ⟨ds[j], List.getElem?_eq_getElem hj⟩
      obtain ⟨v, hv, rv⟩ := r.get hd
      rw [hd, hv]
      exact ⟨rfl, v, rfl, rv.sub fun a z => z.elim id fun ⟨_, z⟩ => by cases z⟩
    · rw [List.getElem?_append_right (l₁ := ds.map Slot.d) (by simp; omega)]
      by_cases h2 : j - (ds.map Slot.d).length < N.length - 1 - ds.length
      · rw [List.getElem?_replicate_of_lt h2]; exact rfl
      · have e : (List.replicate (N.length - 1 - ds.length) Slot.u)[j - (ds.map Slot.d).length]? = none := List.getElem?_eq_none (by simp at h2 ⊢; omega)
        rw [e]; exact rfl
section
variable {α β γ δ κ τ ω : Type}
theorem fn_okG {P : Program} {w : World} {K : PySem.W.Frag} {mg : Str → Option Value} {base : Heap} {x qual : Str} {st : Stmt} {f : Addr} {fd : FuncData} {N ps : List Str} {k : Nat} (Fu : Fun K x qual st f fd) (sc : FnScope N ps (defScope st)) (F : List D → (D → Prop) → Prop) (hlen : ∀ ds Q, F ds Q → ds.length + 1 = ps.length) (hN : ps.length ≤ N.length)
    (h : ∀ cdv A outer s H E, Room k (Cxf P w K mg base N qual st f cdv A outer s H E).A → ∀ ds Q, F ds Q → ∃ (δ : Type) (G' : δ → D) (a : G δ), Tail (Cxf P w K mg base N qual st f cdv A outer s H E) (defBody st) (.src :: rho0 ds (N.length - 1)) G' a ∧ a.wp fun r => Q (G' r)) :
    FnOk P w K mg base CX0 (k + 1) f fd ps (spG K mg F) := by
  refine Fu.ok sc (fun vs H Q E hs => ?_) (fun cdv A outer s H vs Q E hr hs => ?_)
  · obtain ⟨S, O, rest, ds, rfl, hS, hA, hO, r, hF⟩ := hs
    rw [List.length_cons, r.length, hlen _ _ hF]
  · obtain ⟨S, O, rest, ds, rfl, hS, hA, hO, r, hF⟩ := hs
    have hl := hlen _ _ hF
    obtain ⟨δ, G', a, hT, hq⟩ := h cdv A outer s H E hr ds _ hF
    exact ⟨_, hT.ps, some S, O, H, _, env_startG (by omega) hS hA hO r, G.wp_mono (fun r z v H' hf hr' => z v H' hf hr') a hq⟩
theorem bdO {α β : Type} (a : Option α) (f : α → Option β) : bd a f = a.bind f := rfl
theorem rtO {α : Type} (x : α) : rt (m := Option) x = some x := rfl
theorem lfO {α : Type} (x : Option α) : lf (m := Option) x = x := rfl
theorem bdG {α β : Type} (a : G α) (f : α → G β) : bd a f = a.bind f := rfl
theorem rtG {α : Type} (x : α) : rt (m := G) x = G.ret x := rfl
theorem lfG {α : Type} (x : Option α) : lf (m := G) x = G.ofO x := rfl
def pickM (n : Int) : G Int := if 0 < n ∧ n < 1073741824 then G.pick n else G.fail
section
variable {X : Cx} {M : Bool} {ρ : List Slot} {pos p p2 : Pos} {n src : Str}

theorem JE.gcall0     {f : G (δ)} {G' : δ → D} {Fs : List D → (D → Prop) → Prop} (i : Nat) (hi : ρ[i]? = some .src) (hF : ∀ P, G.wp f (fun r => P (G' r)) → Fs [] P) (C : GCallOk X n Fs)  (hN : X.N[i]? = some src := by rfl) (hv : Vis X.env.scope src := by first | exact Or.inl rfl | exact Or.inr (Or.inl rfl) | exact Or.inr (Or.inr rfl)) (hd : (src == ("__debug__" : Str)) = false := by decide) (hcd : (src == ("__classdict__" : Str)) = false := by decide) (hg : Gl X n := by rfl) (hdb : (n == ("__debug__" : Str)) = false := by decide) (hs0 : starEach [(.Name src p2)] X.env = (false, eval (.Name src p2) X.env) :: starEach [] X.env := by rfl) (hpl : (backTo pos (starEach [] X.env)).any (·.1) = false := by rfl) :
    JE X M (.Call (.Name n p) [(.Name src p2)] [] pos) ρ G' f := by
  obtain ⟨k, fa, fd, ps, F, hr, hm, hk, hb⟩ := C
  refine ⟨⟨pe_weak (pe_call F hr hg hm hk hb .nil pass0 (pa_cons (pv i hN hv hd hcd) pa_nil hs0) hdb hs0 hpl) fun σ H Q ⟨sr, O, H0, ad, he, hw⟩ => ?_⟩⟩
  have es := he.at_ i
  rw [hi] at es
  obtain ⟨_, S, hS, hv0⟩ := es
  subst hS
  refine ⟨_, hv0, ?_⟩
  have hw : G.wp f _ := hw
  have e2 := he
  have q : G.wp (f) _ := hw
  refine ⟨S, OM M O ad, _, [], rfl, e2.sOM M S rfl, e2.srs S rfl, e2.domM M, .nil, hF  _ (G.wp_mono (fun z q v' H' fi rk => ?_) _ q)⟩
  have x9 : Ext (some S) _ H' := ⟨fi.1, fun S' e => ⟨e2.srs S' e, fi.2 S' e⟩⟩
  exact q v' H' x9 rk.1

theorem JL.gcall0     {f : G (List δ)} {G' : δ → D} {Fs : List D → (D → Prop) → Prop} (i : Nat) (hi : ρ[i]? = some .src) (hF : ∀ P, G.wp f (fun r => P ((eL G') r)) → Fs [] P) (C : GCallOk X n Fs)  (hN : X.N[i]? = some src := by rfl) (hv : Vis X.env.scope src := by first | exact Or.inl rfl | exact Or.inr (Or.inl rfl) | exact Or.inr (Or.inr rfl)) (hd : (src == ("__debug__" : Str)) = false := by decide) (hcd : (src == ("__classdict__" : Str)) = false := by decide) (hg : Gl X n := by rfl) (hdb : (n == ("__debug__" : Str)) = false := by decide) (hs0 : starEach [(.Name src p2)] X.env = (false, eval (.Name src p2) X.env) :: starEach [] X.env := by rfl) (hpl : (backTo pos (starEach [] X.env)).any (·.1) = false := by rfl) :
    JL X M (.Call (.Name n p) [(.Name src p2)] [] pos) ρ G' f := by
  obtain ⟨k, fa, fd, ps, F, hr, hm, hk, hb⟩ := C
  refine ⟨⟨pe_weak (pe_call F hr hg hm hk hb .nil pass0 (pa_cons (pv i hN hv hd hcd) pa_nil hs0) hdb hs0 hpl) fun σ H Q ⟨sr, O, H0, ad, he, hw⟩ => ?_⟩⟩
  have es := he.at_ i
  rw [hi] at es
  obtain ⟨_, S, hS, hv0⟩ := es
  subst hS
  refine ⟨_, hv0, ?_⟩
  have hw : G.wp f _ := hw
  have e2 := he
  have q : G.wp (f) _ := hw
  refine ⟨S, OM M O ad, _, [], rfl, e2.sOM M S rfl, e2.srs S rfl, e2.domM M, .nil, hF  _ (G.wp_mono (fun z q v' H' fi rk => ?_) _ q)⟩
  have x9 : Ext (some S) _ H' := ⟨fi.1, fun S' e => ⟨e2.srs S' e, fi.2 S' e⟩⟩
  obtain ⟨rk1, p, vs, rfl, hp, hp', rs⟩ := rk
  exact q p vs H' hp x9 hp' rs

theorem JE.gcall1 {α1 : Type} {E1 : α1 → D} {w1 : G α1} {e1 : Expr} {f : α1 → G (δ)} {G' : δ → D} {Fs : List D → (D → Prop) → Prop} (i : Nat) (hi : ρ[i]? = some .src) (hF : ∀ x1 P, (f x1).wp (fun r => P (G' r)) → Fs [E1 x1] P) (C : GCallOk X n Fs) (ha1 : JE X M e1 ρ E1 w1) (hN : X.N[i]? = some src := by rfl) (hv : Vis X.env.scope src := by first | exact Or.inl rfl | exact Or.inr (Or.inl rfl) | exact Or.inr (Or.inr rfl)) (hd : (src == ("__debug__" : Str)) = false := by decide) (hcd : (src == ("__classdict__" : Str)) = false := by decide) (hg : Gl X n := by rfl) (hdb : (n == ("__debug__" : Str)) = false := by decide) (hs0 : starEach [(.Name src p2), e1] X.env = (false, eval (.Name src p2) X.env) :: starEach [e1] X.env := by rfl) (hs1 : starEach [e1] X.env = (false, eval e1 X.env) :: starEach [] X.env := by rfl) (hpl : (backTo pos (starEach [e1] X.env)).any (·.1) = false := by rfl) :
    JE X M (.Call (.Name n p) [(.Name src p2), e1] [] pos) ρ G' (bd w1 fun x1 => f x1) := by
  obtain ⟨k, fa, fd, ps, F, hr, hm, hk, hb⟩ := C
  refine ⟨⟨pe_weak (pe_call F hr hg hm hk hb .nil pass0 (pa_cons (pv i hN hv hd hcd) (pa_cons ha1.b.pe pa_nil hs1) hs0) hdb hs0 hpl) fun σ H Q ⟨sr, O, H0, ad, he, hw⟩ => ?_⟩⟩
  have es := he.at_ i
  rw [hi] at es
  obtain ⟨_, S, hS, hv0⟩ := es
  subst hS
  refine ⟨_, hv0, ?_⟩
  have hw := le1 (m := G) (f := fun x1 => f x1) (g := fun x1 => Wp.ofG (f x1)) (fun _ => Wp.Le.refl _) _ hw
  refine ⟨some S, O, H0, ad, he, (Mn.wp w1).mono (fun x1 q1 v_1 H_1 x_1 r_1 => ?_) hw⟩
  have e2 := (he.ext' x_1)
  have q : G.wp (f x1) _ := q1
  refine ⟨S, OM M O ad, _, [E1 x1], rfl, e2.sOM M S rfl, e2.srs S rfl, e2.domM M, (.cons r_1 .nil), hF x1 _ (G.wp_mono (fun z q v' H' fi rk => ?_) _ q)⟩
  have x9 : Ext (some S) _ H' := ⟨fi.1, fun S' e => ⟨e2.srs S' e, fi.2 S' e⟩⟩
  exact q v' H' (x_1.trans x9) rk.1

theorem JL.gcall1 {α1 : Type} {E1 : α1 → D} {w1 : G α1} {e1 : Expr} {f : α1 → G (List δ)} {G' : δ → D} {Fs : List D → (D → Prop) → Prop} (i : Nat) (hi : ρ[i]? = some .src) (hF : ∀ x1 P, (f x1).wp (fun r => P ((eL G') r)) → Fs [E1 x1] P) (C : GCallOk X n Fs) (ha1 : JE X M e1 ρ E1 w1) (hN : X.N[i]? = some src := by rfl) (hv : Vis X.env.scope src := by first | exact Or.inl rfl | exact Or.inr (Or.inl rfl) | exact Or.inr (Or.inr rfl)) (hd : (src == ("__debug__" : Str)) = false := by decide) (hcd : (src == ("__classdict__" : Str)) = false := by decide) (hg : Gl X n := by rfl) (hdb : (n == ("__debug__" : Str)) = false := by decide) (hs0 : starEach [(.Name src p2), e1] X.env = (false, eval (.Name src p2) X.env) :: starEach [e1] X.env := by rfl) (hs1 : starEach [e1] X.env = (false, eval e1 X.env) :: starEach [] X.env := by rfl) (hpl : (backTo pos (starEach [e1] X.env)).any (·.1) = false := by rfl) :
    JL X M (.Call (.Name n p) [(.Name src p2), e1] [] pos) ρ G' (bd w1 fun x1 => f x1) := by
  obtain ⟨k, fa, fd, ps, F, hr, hm, hk, hb⟩ := C
  refine ⟨⟨pe_weak (pe_call F hr hg hm hk hb .nil pass0 (pa_cons (pv i hN hv hd hcd) (pa_cons ha1.b.pe pa_nil hs1) hs0) hdb hs0 hpl) fun σ H Q ⟨sr, O, H0, ad, he, hw⟩ => ?_⟩⟩
  have es := he.at_ i
  rw [hi] at es
  obtain ⟨_, S, hS, hv0⟩ := es
  subst hS
  refine ⟨_, hv0, ?_⟩
  have hw := le1 (m := G) (f := fun x1 => f x1) (g := fun x1 => Wp.ofG (f x1)) (fun _ => Wp.Le.refl _) _ hw
  refine ⟨some S, O, H0, ad, he, (Mn.wp w1).mono (fun x1 q1 v_1 H_1 x_1 r_1 => ?_) hw⟩
  have e2 := (he.ext' x_1)
  have q : G.wp (f x1) _ := q1
  refine ⟨S, OM M O ad, _, [E1 x1], rfl, e2.sOM M S rfl, e2.srs S rfl, e2.domM M, (.cons r_1 .nil), hF x1 _ (G.wp_mono (fun z q v' H' fi rk => ?_) _ q)⟩
  have x9 : Ext (some S) _ H' := ⟨fi.1, fun S' e => ⟨e2.srs S' e, fi.2 S' e⟩⟩
  obtain ⟨rk1, p, vs, rfl, hp, hp', rs⟩ := rk
  exact q p vs H' (x_1.back hp) (x_1.trans x9) hp' rs

theorem JE.gcall2 {α1 : Type} {α2 : Type} {E1 : α1 → D} {E2 : α2 → D} {w1 : G α1} {w2 : G α2} {e1 e2 : Expr} {f : α1 → α2 → G (δ)} {G' : δ → D} {Fs : List D → (D → Prop) → Prop} (i : Nat) (hi : ρ[i]? = some .src) (hF : ∀ x1 x2 P, (f x1 x2).wp (fun r => P (G' r)) → Fs [E1 x1, E2 x2] P) (C : GCallOk X n Fs) (ha1 : JE X M e1 ρ E1 w1) (ha2 : JE X M e2 ρ E2 w2) (hN : X.N[i]? = some src := by rfl) (hv : Vis X.env.scope src := by first | exact Or.inl rfl | exact Or.inr (Or.inl rfl) | exact Or.inr (Or.inr rfl)) (hd : (src == ("__debug__" : Str)) = false := by decide) (hcd : (src == ("__classdict__" : Str)) = false := by decide) (hg : Gl X n := by rfl) (hdb : (n == ("__debug__" : Str)) = false := by decide) (hs0 : starEach [(.Name src p2), e1, e2] X.env = (false, eval (.Name src p2) X.env) :: starEach [e1, e2] X.env := by rfl) (hs1 : starEach [e1, e2] X.env = (false, eval e1 X.env) :: starEach [e2] X.env := by rfl) (hs2 : starEach [e2] X.env = (false, eval e2 X.env) :: starEach [] X.env := by rfl) (hpl : (backTo pos (starEach [e1, e2] X.env)).any (·.1) = false := by rfl) :
    JE X M (.Call (.Name n p) [(.Name src p2), e1, e2] [] pos) ρ G' (bd w1 fun x1 => (bd w2 fun x2 => f x1 x2)) := by
  obtain ⟨k, fa, fd, ps, F, hr, hm, hk, hb⟩ := C
  refine ⟨⟨pe_weak (pe_call F hr hg hm hk hb .nil pass0 (pa_cons (pv i hN hv hd hcd) (pa_cons ha1.b.pe (pa_cons ha2.b.pe pa_nil hs2) hs1) hs0) hdb hs0 hpl) fun σ H Q ⟨sr, O, H0, ad, he, hw⟩ => ?_⟩⟩
  have es := he.at_ i
  rw [hi] at es
  obtain ⟨_, S, hS, hv0⟩ := es
  subst hS
  refine ⟨_, hv0, ?_⟩
  have hw := le2 (m := G) (f := fun x1 x2 => f x1 x2) (g := fun x1 x2 => Wp.ofG (f x1 x2)) (fun _ _ => Wp.Le.refl _) _ hw
  refine ⟨some S, O, H0, ad, he, (Mn.wp w1).mono (fun x1 q1 v_1 H_1 x_1 r_1 => ?_) hw⟩
  refine ⟨some S, O, H0, ad, (he.ext' x_1), (Mn.wp w2).mono (fun x2 q2 v_2 H_2 x_2 r_2 => ?_) q1⟩
  have e2 := (he.ext' (x_1.trans x_2))
  have q : G.wp (f x1 x2) _ := q2
  refine ⟨S, OM M O ad, _, [E1 x1, E2 x2], rfl, e2.sOM M S rfl, e2.srs S rfl, e2.domM M, (.cons (r_1.ext x_2 (he.sOM M)) (.cons r_2 .nil)), hF x1 x2 _ (G.wp_mono (fun z q v' H' fi rk => ?_) _ q)⟩
  have x9 : Ext (some S) _ H' := ⟨fi.1, fun S' e => ⟨e2.srs S' e, fi.2 S' e⟩⟩
  exact q v' H' ((x_1.trans x_2).trans x9) rk.1

theorem JL.gcall2 {α1 : Type} {α2 : Type} {E1 : α1 → D} {E2 : α2 → D} {w1 : G α1} {w2 : G α2} {e1 e2 : Expr} {f : α1 → α2 → G (List δ)} {G' : δ → D} {Fs : List D → (D → Prop) → Prop} (i : Nat) (hi : ρ[i]? = some .src) (hF : ∀ x1 x2 P, (f x1 x2).wp (fun r => P ((eL G') r)) → Fs [E1 x1, E2 x2] P) (C : GCallOk X n Fs) (ha1 : JE X M e1 ρ E1 w1) (ha2 : JE X M e2 ρ E2 w2) (hN : X.N[i]? = some src := by rfl) (hv : Vis X.env.scope src := by first | exact Or.inl rfl | exact Or.inr (Or.inl rfl) | exact Or.inr (Or.inr rfl)) (hd : (src == ("__debug__" : Str)) = false := by decide) (hcd : (src == ("__classdict__" : Str)) = false := by decide) (hg : Gl X n := by rfl) (hdb : (n == ("__debug__" : Str)) = false := by decide) (hs0 : starEach [(.Name src p2), e1, e2] X.env = (false, eval (.Name src p2) X.env) :: starEach [e1, e2] X.env := by rfl) (hs1 : starEach [e1, e2] X.env = (false, eval e1 X.env) :: starEach [e2] X.env := by rfl) (hs2 : starEach [e2] X.env = (false, eval e2 X.env) :: starEach [] X.env := by rfl) (hpl : (backTo pos (starEach [e1, e2] X.env)).any (·.1) = false := by rfl) :
    JL X M (.Call (.Name n p) [(.Name src p2), e1, e2] [] pos) ρ G' (bd w1 fun x1 => (bd w2 fun x2 => f x1 x2)) := by
  obtain ⟨k, fa, fd, ps, F, hr, hm, hk, hb⟩ := C
  refine ⟨⟨pe_weak (pe_call F hr hg hm hk hb .nil pass0 (pa_cons (pv i hN hv hd hcd) (pa_cons ha1.b.pe (pa_cons ha2.b.pe pa_nil hs2) hs1) hs0) hdb hs0 hpl) fun σ H Q ⟨sr, O, H0, ad, he, hw⟩ => ?_⟩⟩
  have es := he.at_ i
  rw [hi] at es
  obtain ⟨_, S, hS, hv0⟩ := es
  subst hS
  refine ⟨_, hv0, ?_⟩
  have hw := le2 (m := G) (f := fun x1 x2 => f x1 x2) (g := fun x1 x2 => Wp.ofG (f x1 x2)) (fun _ _ => Wp.Le.refl _) _ hw
  refine ⟨some S, O, H0, ad, he, (Mn.wp w1).mono (fun x1 q1 v_1 H_1 x_1 r_1 => ?_) hw⟩
  refine ⟨some S, O, H0, ad, (he.ext' x_1), (Mn.wp w2).mono (fun x2 q2 v_2 H_2 x_2 r_2 => ?_) q1⟩
  have e2 := (he.ext' (x_1.trans x_2))
  have q : G.wp (f x1 x2) _ := q2
  refine ⟨S, OM M O ad, _, [E1 x1, E2 x2], rfl, e2.sOM M S rfl, e2.srs S rfl, e2.domM M, (.cons (r_1.ext x_2 (he.sOM M)) (.cons r_2 .nil)), hF x1 x2 _ (G.wp_mono (fun z q v' H' fi rk => ?_) _ q)⟩
  have x9 : Ext (some S) _ H' := ⟨fi.1, fun S' e => ⟨e2.srs S' e, fi.2 S' e⟩⟩
  obtain ⟨rk1, p, vs, rfl, hp, hp', rs⟩ := rk
  exact q p vs H' ((x_1.trans x_2).back hp) ((x_1.trans x_2).trans x9) hp' rs

theorem JE.gcall3 {α1 : Type} {α2 : Type} {α3 : Type} {E1 : α1 → D} {E2 : α2 → D} {E3 : α3 → D} {w1 : G α1} {w2 : G α2} {w3 : G α3} {e1 e2 e3 : Expr} {f : α1 → α2 → α3 → G (δ)} {G' : δ → D} {Fs : List D → (D → Prop) → Prop} (i : Nat) (hi : ρ[i]? = some .src) (hF : ∀ x1 x2 x3 P, (f x1 x2 x3).wp (fun r => P (G' r)) → Fs [E1 x1, E2 x2, E3 x3] P) (C : GCallOk X n Fs) (ha1 : JE X M e1 ρ E1 w1) (ha2 : JE X M e2 ρ E2 w2) (ha3 : JE X M e3 ρ E3 w3) (hN : X.N[i]? = some src := by rfl) (hv : Vis X.env.scope src := by first | exact Or.inl rfl | exact Or.inr (Or.inl rfl) | exact Or.inr (Or.inr rfl)) (hd : (src == ("__debug__" : Str)) = false := by decide) (hcd : (src == ("__classdict__" : Str)) = false := by decide) (hg : Gl X n := by rfl) (hdb : (n == ("__debug__" : Str)) = false := by decide) (hs0 : starEach [(.Name src p2), e1, e2, e3] X.env = (false, eval (.Name src p2) X.env) :: starEach [e1, e2, e3] X.env := by rfl) (hs1 : starEach [e1, e2, e3] X.env = (false, eval e1 X.env) :: starEach [e2, e3] X.env := by rfl) (hs2 : starEach [e2, e3] X.env = (false, eval e2 X.env) :: starEach [e3] X.env := by rfl) (hs3 : starEach [e3] X.env = (false, eval e3 X.env) :: starEach [] X.env := by rfl) (hpl : (backTo pos (starEach [e1, e2, e3] X.env)).any (·.1) = false := by rfl) :
    JE X M (.Call (.Name n p) [(.Name src p2), e1, e2, e3] [] pos) ρ G' (bd w1 fun x1 => (bd w2 fun x2 => (bd w3 fun x3 => f x1 x2 x3))) := by
  obtain ⟨k, fa, fd, ps, F, hr, hm, hk, hb⟩ := C
  refine ⟨⟨pe_weak (pe_call F hr hg hm hk hb .nil pass0 (pa_cons (pv i hN hv hd hcd) (pa_cons ha1.b.pe (pa_cons ha2.b.pe (pa_cons ha3.b.pe pa_nil hs3) hs2) hs1) hs0) hdb hs0 hpl) fun σ H Q ⟨sr, O, H0, ad, he, hw⟩ => ?_⟩⟩
  have es := he.at_ i
  rw [hi] at es
  obtain ⟨_, S, hS, hv0⟩ := es
  subst hS
  refine ⟨_, hv0, ?_⟩
  have hw := le3 (m := G) (f := fun x1 x2 x3 => f x1 x2 x3) (g := fun x1 x2 x3 => Wp.ofG (f x1 x2 x3)) (fun _ _ _ => Wp.Le.refl _) _ hw
  refine ⟨some S, O, H0, ad, he, (Mn.wp w1).mono (fun x1 q1 v_1 H_1 x_1 r_1 => ?_) hw⟩
  refine ⟨some S, O, H0, ad, (he.ext' x_1), (Mn.wp w2).mono (fun x2 q2 v_2 H_2 x_2 r_2 => ?_) q1⟩
  refine ⟨some S, O, H0, ad, (he.ext' (x_1.trans x_2)), (Mn.wp w3).mono (fun x3 q3 v_3 H_3 x_3 r_3 => ?_) q2⟩
  have e2 := (he.ext' ((x_1.trans x_2).trans x_3))
  have q : G.wp (f x1 x2 x3) _ := q3
  refine ⟨S, OM M O ad, _, [E1 x1, E2 x2, E3 x3], rfl, e2.sOM M S rfl, e2.srs S rfl, e2.domM M, (.cons ((r_1.ext x_2 (he.sOM M)).ext x_3 (he.sOM M)) (.cons (r_2.ext x_3 (he.sOM M)) (.cons r_3 .nil))), hF x1 x2 x3 _ (G.wp_mono (fun z q v' H' fi rk => ?_) _ q)⟩
  have x9 : Ext (some S) _ H' := ⟨fi.1, fun S' e => ⟨e2.srs S' e, fi.2 S' e⟩⟩
  exact q v' H' (((x_1.trans x_2).trans x_3).trans x9) rk.1

theorem JL.gcall3 {α1 : Type} {α2 : Type} {α3 : Type} {E1 : α1 → D} {E2 : α2 → D} {E3 : α3 → D} {w1 : G α1} {w2 : G α2} {w3 : G α3} {e1 e2 e3 : Expr} {f : α1 → α2 → α3 → G (List δ)} {G' : δ → D} {Fs : List D → (D → Prop) → Prop} (i : Nat) (hi : ρ[i]? = some .src) (hF : ∀ x1 x2 x3 P, (f x1 x2 x3).wp (fun r => P ((eL G') r)) → Fs [E1 x1, E2 x2, E3 x3] P) (C : GCallOk X n Fs) (ha1 : JE X M e1 ρ E1 w1) (ha2 : JE X M e2 ρ E2 w2) (ha3 : JE X M e3 ρ E3 w3) (hN : X.N[i]? = some src := by rfl) (hv : Vis X.env.scope src := by first | exact Or.inl rfl | exact Or.inr (Or.inl rfl) | exact Or.inr (Or.inr rfl)) (hd : (src == ("__debug__" : Str)) = false := by decide) (hcd : (src == ("__classdict__" : Str)) = false := by decide) (hg : Gl X n := by rfl) (hdb : (n == ("__debug__" : Str)) = false := by decide) (hs0 : starEach [(.Name src p2), e1, e2, e3] X.env = (false, eval (.Name src p2) X.env) :: starEach [e1, e2, e3] X.env := by rfl) (hs1 : starEach [e1, e2, e3] X.env = (false, eval e1 X.env) :: starEach [e2, e3] X.env := by rfl) (hs2 : starEach [e2, e3] X.env = (false, eval e2 X.env) :: starEach [e3] X.env := by rfl) (hs3 : starEach [e3] X.env = (false, eval e3 X.env) :: starEach [] X.env := by rfl) (hpl : (backTo pos (starEach [e1, e2, e3] X.env)).any (·.1) = false := by rfl) :
    JL X M (.Call (.Name n p) [(.Name src p2), e1, e2, e3] [] pos) ρ G' (bd w1 fun x1 => (bd w2 fun x2 => (bd w3 fun x3 => f x1 x2 x3))) := by
  obtain ⟨k, fa, fd, ps, F, hr, hm, hk, hb⟩ := C
  refine ⟨⟨pe_weak (pe_call F hr hg hm hk hb .nil pass0 (pa_cons (pv i hN hv hd hcd) (pa_cons ha1.b.pe (pa_cons ha2.b.pe (pa_cons ha3.b.pe pa_nil hs3) hs2) hs1) hs0) hdb hs0 hpl) fun σ H Q ⟨sr, O, H0, ad, he, hw⟩ => ?_⟩⟩
  have es := he.at_ i
  rw [hi] at es
  obtain ⟨_, S, hS, hv0⟩ := es
  subst hS
  refine ⟨_, hv0, ?_⟩
  have hw := le3 (m := G) (f := fun x1 x2 x3 => f x1 x2 x3) (g := fun x1 x2 x3 => Wp.ofG (f x1 x2 x3)) (fun _ _ _ => Wp.Le.refl _) _ hw
  refine ⟨some S, O, H0, ad, he, (Mn.wp w1).mono (fun x1 q1 v_1 H_1 x_1 r_1 => ?_) hw⟩
  refine ⟨some S, O, H0, ad, (he.ext' x_1), (Mn.wp w2).mono (fun x2 q2 v_2 H_2 x_2 r_2 => ?_) q1⟩
  refine ⟨some S, O, H0, ad, (he.ext' (x_1.trans x_2)), (Mn.wp w3).mono (fun x3 q3 v_3 H_3 x_3 r_3 => ?_) q2⟩
  have e2 := (he.ext' ((x_1.trans x_2).trans x_3))
  have q : G.wp (f x1 x2 x3) _ := q3
  refine ⟨S, OM M O ad, _, [E1 x1, E2 x2, E3 x3], rfl, e2.sOM M S rfl, e2.srs S rfl, e2.domM M, (.cons ((r_1.ext x_2 (he.sOM M)).ext x_3 (he.sOM M)) (.cons (r_2.ext x_3 (he.sOM M)) (.cons r_3 .nil))), hF x1 x2 x3 _ (G.wp_mono (fun z q v' H' fi rk => ?_) _ q)⟩
  have x9 : Ext (some S) _ H' := ⟨fi.1, fun S' e => ⟨e2.srs S' e, fi.2 S' e⟩⟩
  obtain ⟨rk1, p, vs, rfl, hp, hp', rs⟩ := rk
  exact q p vs H' (((x_1.trans x_2).trans x_3).back hp) (((x_1.trans x_2).trans x_3).trans x9) hp' rs

theorem JE.gcall4 {α1 : Type} {α2 : Type} {α3 : Type} {α4 : Type} {E1 : α1 → D} {E2 : α2 → D} {E3 : α3 → D} {E4 : α4 → D} {w1 : G α1} {w2 : G α2} {w3 : G α3} {w4 : G α4} {e1 e2 e3 e4 : Expr} {f : α1 → α2 → α3 → α4 → G (δ)} {G' : δ → D} {Fs : List D → (D → Prop) → Prop} (i : Nat) (hi : ρ[i]? = some .src) (hF : ∀ x1 x2 x3 x4 P, (f x1 x2 x3 x4).wp (fun r => P (G' r)) → Fs [E1 x1, E2 x2, E3 x3, E4 x4] P) (C : GCallOk X n Fs) (ha1 : JE X M e1 ρ E1 w1) (ha2 : JE X M e2 ρ E2 w2) (ha3 : JE X M e3 ρ E3 w3) (ha4 : JE X M e4 ρ E4 w4) (hN : X.N[i]? = some src := by rfl) (hv : Vis X.env.scope src := by first | exact Or.inl rfl | exact Or.inr (Or.inl rfl) | exact Or.inr (Or.inr rfl)) (hd : (src == ("__debug__" : Str)) = false := by decide) (hcd : (src == ("__classdict__" : Str)) = false := by decide) (hg : Gl X n := by rfl) (hdb : (n == ("__debug__" : Str)) = false := by decide) (hs0 : starEach [(.Name src p2), e1, e2, e3, e4] X.env = (false, eval (.Name src p2) X.env) :: starEach [e1, e2, e3, e4] X.env := by rfl) (hs1 : starEach [e1, e2, e3, e4] X.env = (false, eval e1 X.env) :: starEach [e2, e3, e4] X.env := by rfl) (hs2 : starEach [e2, e3, e4] X.env = (false, eval e2 X.env) :: starEach [e3, e4] X.env := by rfl) (hs3 : starEach [e3, e4] X.env = (false, eval e3 X.env) :: starEach [e4] X.env := by rfl) (hs4 : starEach [e4] X.env = (false, eval e4 X.env) :: starEach [] X.env := by rfl) (hpl : (backTo pos (starEach [e1, e2, e3, e4] X.env)).any (·.1) = false := by rfl) :
    JE X M (.Call (.Name n p) [(.Name src p2), e1, e2, e3, e4] [] pos) ρ G' (bd w1 fun x1 => (bd w2 fun x2 => (bd w3 fun x3 => (bd w4 fun x4 => f x1 x2 x3 x4)))) := by
  obtain ⟨k, fa, fd, ps, F, hr, hm, hk, hb⟩ := C
  refine ⟨⟨pe_weak (pe_call F hr hg hm hk hb .nil pass0 (pa_cons (pv i hN hv hd hcd) (pa_cons ha1.b.pe (pa_cons ha2.b.pe (pa_cons ha3.b.pe (pa_cons ha4.b.pe pa_nil hs4) hs3) hs2) hs1) hs0) hdb hs0 hpl) fun σ H Q ⟨sr, O, H0, ad, he, hw⟩ => ?_⟩⟩
  have es := he.at_ i
  rw [hi] at es
  obtain ⟨_, S, hS, hv0⟩ := es
  subst hS
  refine ⟨_, hv0, ?_⟩
  have hw := le4 (m := G) (f := fun x1 x2 x3 x4 => f x1 x2 x3 x4) (g := fun x1 x2 x3 x4 => Wp.ofG (f x1 x2 x3 x4)) (fun _ _ _ _ => Wp.Le.refl _) _ hw
  refine ⟨some S, O, H0, ad, he, (Mn.wp w1).mono (fun x1 q1 v_1 H_1 x_1 r_1 => ?_) hw⟩
  refine ⟨some S, O, H0, ad, (he.ext' x_1), (Mn.wp w2).mono (fun x2 q2 v_2 H_2 x_2 r_2 => ?_) q1⟩
  refine ⟨some S, O, H0, ad, (he.ext' (x_1.trans x_2)), (Mn.wp w3).mono (fun x3 q3 v_3 H_3 x_3 r_3 => ?_) q2⟩
  refine ⟨some S, O, H0, ad, (he.ext' ((x_1.trans x_2).trans x_3)), (Mn.wp w4).mono (fun x4 q4 v_4 H_4 x_4 r_4 => ?_) q3⟩
  have e2 := (he.ext' (((x_1.trans x_2).trans x_3).trans x_4))
  have q : G.wp (f x1 x2 x3 x4) _ := q4
  refine ⟨S, OM M O ad, _, [E1 x1, E2 x2, E3 x3, E4 x4], rfl, e2.sOM M S rfl, e2.srs S rfl, e2.domM M, (.cons (((r_1.ext x_2 (he.sOM M)).ext x_3 (he.sOM M)).ext x_4 (he.sOM M)) (.cons ((r_2.ext x_3 (he.sOM M)).ext x_4 (he.sOM M)) (.cons (r_3.ext x_4 (he.sOM M)) (.cons r_4 .nil)))), hF x1 x2 x3 x4 _ (G.wp_mono (fun z q v' H' fi rk => ?_) _ q)⟩
  have x9 : Ext (some S) _ H' := ⟨fi.1, fun S' e => ⟨e2.srs S' e, fi.2 S' e⟩⟩
  exact q v' H' ((((x_1.trans x_2).trans x_3).trans x_4).trans x9) rk.1

theorem JL.gcall4 {α1 : Type} {α2 : Type} {α3 : Type} {α4 : Type} {E1 : α1 → D} {E2 : α2 → D} {E3 : α3 → D} {E4 : α4 → D} {w1 : G α1} {w2 : G α2} {w3 : G α3} {w4 : G α4} {e1 e2 e3 e4 : Expr} {f : α1 → α2 → α3 → α4 → G (List δ)} {G' : δ → D} {Fs : List D → (D → Prop) → Prop} (i : Nat) (hi : ρ[i]? = some .src) (hF : ∀ x1 x2 x3 x4 P, (f x1 x2 x3 x4).wp (fun r => P ((eL G') r)) → Fs [E1 x1, E2 x2, E3 x3, E4 x4] P) (C : GCallOk X n Fs) (ha1 : JE X M e1 ρ E1 w1) (ha2 : JE X M e2 ρ E2 w2) (ha3 : JE X M e3 ρ E3 w3) (ha4 : JE X M e4 ρ E4 w4) (hN : X.N[i]? = some src := by rfl) (hv : Vis X.env.scope src := by first | exact Or.inl rfl | exact Or.inr (Or.inl rfl) | exact Or.inr (Or.inr rfl)) (hd : (src == ("__debug__" : Str)) = false := by decide) (hcd : (src == ("__classdict__" : Str)) = false := by decide) (hg : Gl X n := by rfl) (hdb : (n == ("__debug__" : Str)) = false := by decide) (hs0 : starEach [(.Name src p2), e1, e2, e3, e4] X.env = (false, eval (.Name src p2) X.env) :: starEach [e1, e2, e3, e4] X.env := by rfl) (hs1 : starEach [e1, e2, e3, e4] X.env = (false, eval e1 X.env) :: starEach [e2, e3, e4] X.env := by rfl) (hs2 : starEach [e2, e3, e4] X.env = (false, eval e2 X.env) :: starEach [e3, e4] X.env := by rfl) (hs3 : starEach [e3, e4] X.env = (false, eval e3 X.env) :: starEach [e4] X.env := by rfl) (hs4 : starEach [e4] X.env = (false, eval e4 X.env) :: starEach [] X.env := by rfl) (hpl : (backTo pos (starEach [e1, e2, e3, e4] X.env)).any (·.1) = false := by rfl) :
    JL X M (.Call (.Name n p) [(.Name src p2), e1, e2, e3, e4] [] pos) ρ G' (bd w1 fun x1 => (bd w2 fun x2 => (bd w3 fun x3 => (bd w4 fun x4 => f x1 x2 x3 x4)))) := by
  obtain ⟨k, fa, fd, ps, F, hr, hm, hk, hb⟩ := C
  refine ⟨⟨pe_weak (pe_call F hr hg hm hk hb .nil pass0 (pa_cons (pv i hN hv hd hcd) (pa_cons ha1.b.pe (pa_cons ha2.b.pe (pa_cons ha3.b.pe (pa_cons ha4.b.pe pa_nil hs4) hs3) hs2) hs1) hs0) hdb hs0 hpl) fun σ H Q ⟨sr, O, H0, ad, he, hw⟩ => ?_⟩⟩
  have es := he.at_ i
  rw [hi] at es
  obtain ⟨_, S, hS, hv0⟩ := es
  subst hS
  refine ⟨_, hv0, ?_⟩
  have hw := le4 (m := G) (f := fun x1 x2 x3 x4 => f x1 x2 x3 x4) (g := fun x1 x2 x3 x4 => Wp.ofG (f x1 x2 x3 x4)) (fun _ _ _ _ => Wp.Le.refl _) _ hw
  refine ⟨some S, O, H0, ad, he, (Mn.wp w1).mono (fun x1 q1 v_1 H_1 x_1 r_1 => ?_) hw⟩
  refine ⟨some S, O, H0, ad, (he.ext' x_1), (Mn.wp w2).mono (fun x2 q2 v_2 H_2 x_2 r_2 => ?_) q1⟩
  refine ⟨some S, O, H0, ad, (he.ext' (x_1.trans x_2)), (Mn.wp w3).mono (fun x3 q3 v_3 H_3 x_3 r_3 => ?_) q2⟩
  refine ⟨some S, O, H0, ad, (he.ext' ((x_1.trans x_2).trans x_3)), (Mn.wp w4).mono (fun x4 q4 v_4 H_4 x_4 r_4 => ?_) q3⟩
  have e2 := (he.ext' (((x_1.trans x_2).trans x_3).trans x_4))
  have q : G.wp (f x1 x2 x3 x4) _ := q4
  refine ⟨S, OM M O ad, _, [E1 x1, E2 x2, E3 x3, E4 x4], rfl, e2.sOM M S rfl, e2.srs S rfl, e2.domM M, (.cons (((r_1.ext x_2 (he.sOM M)).ext x_3 (he.sOM M)).ext x_4 (he.sOM M)) (.cons ((r_2.ext x_3 (he.sOM M)).ext x_4 (he.sOM M)) (.cons (r_3.ext x_4 (he.sOM M)) (.cons r_4 .nil)))), hF x1 x2 x3 x4 _ (G.wp_mono (fun z q v' H' fi rk => ?_) _ q)⟩
  have x9 : Ext (some S) _ H' := ⟨fi.1, fun S' e => ⟨e2.srs S' e, fi.2 S' e⟩⟩
  obtain ⟨rk1, p, vs, rfl, hp, hp', rs⟩ := rk
  exact q p vs H' ((((x_1.trans x_2).trans x_3).trans x_4).back hp) ((((x_1.trans x_2).trans x_3).trans x_4).trans x9) hp' rs


/-- _law_pick(source, n) -/
def F_pick : List D → (D → Prop) → Prop := fun ds P => ∃ n : Int, ds = [eI n] ∧ (pickM n).wp fun r => P (eI r)
theorem JE.pick {w1 : G Int} {e1 : Expr} (i : Nat) (hi : ρ[i]? = some .src) (C : GCallOk X "_law_pick" F_pick) (ha1 : JE X M e1 ρ eI w1) (hN : X.N[i]? = some src := by rfl) (hv : Vis X.env.scope src := by first | exact Or.inl rfl | exact Or.inr (Or.inl rfl) | exact Or.inr (Or.inr rfl)) (hd : (src == ("__debug__" : Str)) = false := by decide) (hcd : (src == ("__classdict__" : Str)) = false := by decide) (hg : Gl X "_law_pick" := by rfl)
    (hs0 : starEach [(.Name src p2), e1] X.env = (false, eval (.Name src p2) X.env) :: starEach [e1] X.env := by rfl) (hs1 : starEach [e1] X.env = (false, eval e1 X.env) :: starEach [] X.env := by rfl) (hpl : (backTo pos (starEach [e1] X.env)).any (·.1) = false := by rfl) :
    JE X M (.Call (.Name "_law_pick" p) [(.Name src p2), e1] [] pos) ρ eI (bd w1 fun x => pickM x) :=
  JE.gcall1 (E1 := eI) (f := pickM) (G' := eI) i hi (fun x P h => ⟨x, rfl, h⟩) C ha1 hN hv hd hcd hg (by decide) hs0 hs1 hpl
end
end
end Wk

namespace Wk
open PySem PySem.Spec PyProof.Rows L2

/-! ### o.f as a target -/
def gFld (K : PySem.W.Frag) (to : TE) (f : Str) : TG := fun v σ H Q => to σ H fun x H1 => ∃ a C dx fs, x = .ref a ∧ H1 a = some (.ins C dx fs) ∧ Cls K C ∧ NoAttr K C f ∧ fs.length < 1000 ∧ Q σ (upd H1 a (.ins C dx (putF f v fs)))
theorem pg_fld {X : Cx} {o : Expr} {f : Str} {pos : Pos} {to : TE} (ho : PE X o to)
    (ha : ∀ v, assign (.Attribute o f pos) X.env v = (do
      let ov ← holding [v] (eval o X.env)
      standAt pos.atName
      holding [v, ov] (setAttr ov f v)
      release [v, ov] []) := by intro _; rfl) : PG X (.Attribute o f pos) (gFld X.K to f) := by
  refine ⟨fun pins s σ H v u Q I r h => ?_⟩
  rw [ha]
  refine wpAny_bind (wpAny_holding (thn (ho.run pins s σ H _ I h) fun ov s1 ⟨x, H1, I1, r1, a, C, dx, fs, ex, ea, c, n, l, q2⟩ => ?_))
  subst ex
  obtain rfl : ov = Value.ref a := r1
  refine wpAny_bind (wpAny_standAt (wpAny_bind (wpAny_holding (setattr_ok I1 ea c n l r fun s3 I3 => ?_))))
  exact wpAny_release ⟨σ, _, I3, q2⟩
/-! ### fields put -/
def putN (f : Str) : List Str → List Str
  | [] => [f]
  | g :: r => if g = f then g :: r else g :: putN f r
def putDs (f : Str) (d : D) : List Str → List D → List D
  | [], _ => [d]
  | g :: r, x :: ds => if g = f then d :: ds else x :: putDs f d r ds
  | _ :: _, [] => []
theorem putF_names (f : Str) (v : V) : ∀ fs : List (Str × V), (putF f v fs).map (·.1) = putN f (fs.map (·.1))
  | [] => rfl
  | (g, x) :: r => by
    show (if g = f then (g, v) :: r else (g, x) :: putF f v r).map (·.1) = (if g = f then g :: r.map (·.1) else g :: putN f (r.map (·.1)))
    split
    · rfl
    · rw [List.map_cons, putF_names f v r]
theorem putF_reps {K : PySem.W.Frag} {mg : Str → Option Value} {O : Addr → Prop} {H : Hp} {f : Str} {v : V} {d : D} (rv : Rep K mg O H v d) : ∀ (fs : List (Str × V)) (ds : List D), Reps K mg O H (fs.map (·.2)) ds → Reps K mg O H ((putF f v fs).map (·.2)) (putDs f d (fs.map (·.1)) ds)
  | [], ds, h => .cons rv .nil
  | (g, x) :: r, ds, h => by
    rw [List.map_cons] at h
    cases h with
    | cons h1 h2 =>
      rename_i d0 ds0
      show Reps K mg O H ((if g = f then (g, v) :: r else (g, x) :: putF f v r).map (·.2)) (if g = f then d :: ds0 else d0 :: putDs f d (r.map (·.1)) ds0)
      split
      · exact .cons rv h2
      · exact .cons h1 (putF_reps rv r _ h2)
theorem putN_new {f : Str} : ∀ {ns : List Str}, ns.contains f = false → putN f ns = ns ++ [f]
  | [], _ => rfl
  | g :: r, h => by
    rw [List.contains_cons, Bool.or_eq_false_iff] at h
    show (if g = f then _ else _) = _
    rw [if_neg (fun z => by rw [z] at h; simp at h), putN_new h.2]
    rfl
theorem putDs_new {f : Str} {d : D} : ∀ {ns : List Str} {ds : List D}, ns.contains f = false → ns.length = ds.length → putDs f d ns ds = ds ++ [d]
  | [], [], _, _ => rfl
  | g :: r, x :: ds, h, hl => by
    rw [List.contains_cons, Bool.or_eq_false_iff] at h
    show (if g = f then _ else _) = _
    rw [if_neg (fun z => by rw [z] at h; simp at h), putDs_new h.2 (by simpa using hl)]
    rfl
theorem putN_set {f : Str} : ∀ {ns : List Str} {i : Nat}, ns.findIdx? (fun x => f == x) = some i → putN f ns = ns
  | [], _, h => by simp at h
  | g :: r, i, h => by
    show (if g = f then _ else _) = _
    rw [List.findIdx?_cons] at h
    split
    · rfl
    · rename_i hg
      rw [if_neg (fun z => hg (by simpa using (beq_iff_eq.mp z).symm))] at h
      obtain ⟨j, hj, _⟩ := Option.map_eq_some_iff.mp h
      rw [putN_set hj]
theorem putDs_set {f : Str} {d : D} : ∀ {ns : List Str} {ds : List D} {i : Nat}, ns.findIdx? (fun x => f == x) = some i → ns.length = ds.length → putDs f d ns ds = ds.set i d
  | [], _, _, h, _ => by simp at h
  | g :: r, [], _, _, hl => by simp at hl
  | g :: r, x :: ds, i, h, hl => by
    show (if g = f then _ else _) = _
    rw [List.findIdx?_cons] at h
    split
    · rename_i hg
      rw [if_pos (by rw [hg]; simp)] at h
      cases h
      rfl
    · rename_i hg
      rw [if_neg (fun z => hg (by simpa using (beq_iff_eq.mp z).symm))] at h
      obtain ⟨j, hj, rfl⟩ := Option.map_eq_some_iff.mp h
      rw [putDs_set hj (by simpa using hl)]
      rfl
/-! ### an object of one's own -/
theorem ob_at {K : PySem.W.Frag} {mg : Str → Option Value} {sr : Option Addr} {O : Addr → Prop} {H0 H : Hp} {σ : L2.St} {ad : Nat → Option Addr} {ρ : List Slot} (he : Env K mg sr O H0 H σ ρ ad) {i : Nat} {p : Addr} {c : Str} {ns : List Str} {ds : List D} (h : ρ[i]? = some (.ob p c ns ds)) :
    ∃ C dx fs, ad i = some p ∧ σ[i]? = some (some (.ref p)) ∧ H p = some (.ins C dx fs) ∧ mg c = some (.ref C) ∧ fs.map (·.1) = ns ∧ Reps K mg (OO O ad) H (fs.map (·.2)) ds := by
  have := he.at_ i
  rw [h] at this
  exact this
theorem Env.writeOb {K : PySem.W.Frag} {mg : Str → Option Value} {sr : Option Addr} {O : Addr → Prop} {H0 H : Hp} {σ : L2.St} {ρ : List Slot} {ad : Nat → Option Addr} (e : Env K mg sr O H0 H σ ρ ad) {i : Nat} {p : Addr} {c : Str} {ns : List Str} {ds : List D} (hi : ρ[i]? = some (.ob p c ns ds)) {C dx : Addr} {fs : List (Str × V)} {ns' : List Str} {ds' : List D} (hC : mg c = some (.ref C)) (hn : fs.map (·.1) = ns') (r : Reps K mg (OO O ad) H (fs.map (·.2)) ds') : Env K mg sr O H0 (L2.upd H p (.ins C dx fs)) σ (ρ.set i (.ob p c ns' ds')) ad := by
  obtain ⟨C0, dx0, fs0, e1, e2, e3, e4, e5, e6⟩ := ob_at e hi
  have op : OO O ad p := .inr ⟨i, e1⟩
  have mu : Mut (some (HO.ins C0 dx0 fs0)) := trivial
  have nsr : sr ≠ some p := fun z => e.dis i p e1 (e.sO p z)
  have il : i < ρ.length := (List.getElem?_eq_some_iff.mp hi).1
  have hmu : ∀ q, Mut (H q) → Mut (L2.upd H p (.ins C dx fs) q) := fun q h => by
    by_cases hq : q = p
    · rw [hq, upd_same]; trivial
    · rw [upd_ne hq]; exact h
  refine ⟨by rw [List.length_set]; exact e.len, fun j => ?_, e.inj, e.frs, fun j q h => hmu q (e.mu j q h), fun S h => ⟨e.sO S h, ?_⟩, fun q h => hmu q (e.dom q h), e.dis, fun a o h n => ?_⟩
  · by_cases hj : j = i
    · subst hj
      rw [List.getElem?_set_self (by exact il)]
      exact ⟨C, dx, fs, e1, e2, upd_same, hC, hn, r.upd op e3 mu⟩
    · rw [List.getElem?_set_ne (fun z => hj z.symm)]
      have ej := e.at_ j
      cases hs : ρ[j]? with
      | none => rw [hs] at ej; exact ej
      | some s =>
        rw [hs] at ej
        cases s with
        | u => exact ej
        | d x =>
          obtain ⟨h1, w, h2, h3⟩ := ej
          exact ⟨h1, w, h2, h3.upd op e3 mu⟩
        | l xs =>
          obtain ⟨q, vs, h1, h2, h3, h4⟩ := ej
          have : q ≠ p := fun z => hj (e.inj j i p (z ▸ h1) e1)
          exact ⟨q, vs, h1, h2, by rw [upd_ne this]; exact h3, h4.upd op e3 mu⟩
        | ob q c' ns2 ds2 =>
          obtain ⟨C2, dx2, fs2, h1, h2, h3, h4, h5, h6⟩ := ej
          have : q ≠ p := fun z => hj (e.inj j i p (z ▸ h1) e1)
          exact ⟨C2, dx2, fs2, h1, h2, by rw [upd_ne this]; exact h3, h4, h5, h6.upd op e3 mu⟩
        | src => exact ej
  · obtain ⟨a, b, z⟩ := e.srs S h
    exact ⟨a, b, by rw [upd_ne (fun q => nsr (by rw [h, q]))]; exact z⟩
  · have := e.ext a o h n
    rw [upd_ne (fun z => by rw [z] at h; rw [e.frs i p e1] at h; cases h)]
    exact this
section
variable {m : Type → Type} [Mn m] {α β γ δ κ τ ω : Type}
variable {X : Cx} {M : Bool} {ρ : List Slot} {pos p2 p3 apos cpos : Pos} {n c f : Str} {ns : List Str} {ds : List D} {ex : Expr} {F : γ → D} {x : Addr}
theorem JE.varOb (i : Nat) {E : α → D} {y : α} (h : ρ[i]? = some (.ob x c ns ds)) (hy : E y = .o c ns ds) (hN : X.N[i]? = some n := by rfl) (hv : Vis X.env.scope n := by first | exact Or.inl rfl | exact Or.inr (Or.inl rfl) | exact Or.inr (Or.inr rfl)) (hd : (n == ("__debug__" : Str)) = false := by decide) (hcd : (n == ("__classdict__" : Str)) = false := by decide) :
    JE X false (.Name n p2) ρ E (rt (m := m) y) := ⟨⟨pe_weak (pv i hN hv hd hcd) fun σ H Q ⟨sr, O, H0, ad, he, hw⟩ => by
  obtain ⟨C, dx, fs, e1, e2, e3, e4, e5, e6⟩ := ob_at he h
  refine ⟨_, e2, lep _ hw (.ref x) H (Ext.refl he.srs) ?_⟩
  rw [hy]
  exact .o e3 (he.dis i x e1) e4 e5 (e6.sub fun a h => .inl h)⟩⟩
theorem JE.fldOb (i j : Nat) {y : γ} (h : ρ[i]? = some (.ob x c ns ds)) (hj : ns.findIdx? (fun z => f == z) = some j) (hy : ds[j]? = some (F y)) (hc : ∀ C, X.mg c = some (.ref C) → Cls X.K C ∧ NoAttr X.K C f) (hN : X.N[i]? = some n := by rfl) (hv : Vis X.env.scope n := by first | exact Or.inl rfl | exact Or.inr (Or.inl rfl) | exact Or.inr (Or.inr rfl)) (hd : (n == ("__debug__" : Str)) = false := by decide) (hcd : (n == ("__classdict__" : Str)) = false := by decide)
    (hb : attributeBase (.Name n p2) f X.env (eval (.Name n p2) X.env) = eval (.Name n p2) X.env := by rfl) : JE X M (.Attribute (.Name n p2) f pos) ρ F (rt (m := m) y) := ⟨⟨pe_weak (pe_fld (pv i hN hv hd hcd) hb) fun σ H Q ⟨sr, O, H0, ad, he, hw⟩ => by
  obtain ⟨C, dx, fs, e1, e2, e3, e4, e5, e6⟩ := ob_at he h
  rw [← e5] at hj
  obtain ⟨u, l1, l2⟩ := lookup_at hj
  obtain ⟨d, d1, d2⟩ := e6.get' l2
  rw [hy] at d1
  cases d1
  exact ⟨_, e2, x, C, dx, fs, u, rfl, e3, (hc _ e4).1, (hc _ e4).2, l1, lep _ hw u H (Ext.refl he.srs) (d2.sub OM.le)⟩⟩⟩
section
variable {rest : List Stmt} {Eb : β → D} {ρx : Option (α → List Slot)} {ρl : ω → List Slot} {e : κ → Fl α ω β}
theorem JS.fldG (i : Nat) {w : m γ} {k : γ → m κ} (h : ρ[i]? = some (.ob x c ns ds)) (hc : ∀ C, X.mg c = some (.ref C) → Cls X.K C ∧ NoAttr X.K C f) (hl : ns.length < 1000) (ha : JE X true ex ρ F w) (hr : ∀ y, JS X rest (ρ.set i (.ob x c (putN f ns) (putDs f (F y) ns ds))) Eb ρx ρl e (k y)) (hN : X.N[i]? = some n := by rfl) (hv : Vis X.env.scope n := by first | exact Or.inl rfl | exact Or.inr (Or.inl rfl) | exact Or.inr (Or.inr rfl)) (hd : (n == ("__debug__" : Str)) = false := by decide) (hcd : (n == ("__classdict__" : Str)) = false := by decide)
    (hs : swapsWith ex (some (.Attribute (.Name n p2) f p3)) pos.line X.env = pure false := by rfl) : JS X (.Assign [.Attribute (.Name n p2) f p3] ex pos :: rest) ρ Eb ρx ρl e (bd w k) :=
  ⟨pss_weak (pss_cons (ps_fld (pv i hN hv hd hcd) ha.b.pe hs) (pss_ex fun y => (hr y).ps)) fun Dd σ H ⟨sr, O, H0, ad, he, hw⟩ => (by
    refine ⟨sr, O, H0, ad, he, (Mn.wp w).mono (fun y q v H1 x1 r => ?_) (bdk hw)⟩
    have he1 := he.ext' x1
    obtain ⟨C, dx, fs, e1, e2, e3, e4, e5, e6⟩ := ob_at he1 h
    refine ⟨.ref x, e2, x, C, dx, fs, rfl, e3, (hc _ e4).1, (hc _ e4).2, ?_, y, sr, O, H0, ad, he1.writeOb h e4 ?_ ?_, q⟩
    · have : fs.length = ns.length := by rw [← e5, List.length_map]
      rw [this]; exact hl
    · rw [putF_names, e5]
    · rw [← e5]; exact putF_reps r fs ds e6), fun z => nn_bd fun y => (hr y).nn z⟩
/-- self.f = e, a new attribute -/
theorem JS.fldN (i : Nat) {w : m γ} {k : γ → m κ} (h : ρ[i]? = some (.ob x c ns ds)) (hf : (ns.contains f = false ∧ ns.length = ds.length) ∧ ns.length < 1000) (hc : ∀ C, X.mg c = some (.ref C) → Cls X.K C ∧ NoAttr X.K C f) (ha : JE X true ex ρ F w) (hr : ∀ y, JS X rest (ρ.set i (.ob x c (ns ++ [f]) (ds ++ [F y]))) Eb ρx ρl e (k y)) (hN : X.N[i]? = some n := by rfl) (hv : Vis X.env.scope n := by first | exact Or.inl rfl | exact Or.inr (Or.inl rfl) | exact Or.inr (Or.inr rfl)) (hd : (n == ("__debug__" : Str)) = false := by decide) (hcd : (n == ("__classdict__" : Str)) = false := by decide)
    (hs : swapsWith ex (some (.Attribute (.Name n p2) f p3)) pos.line X.env = pure false := by rfl) : JS X (.Assign [.Attribute (.Name n p2) f p3] ex pos :: rest) ρ Eb ρx ρl e (bd w k) :=
  JS.fldG i h hc hf.2 ha (fun y => by rw [putN_new hf.1.1, putDs_new hf.1.1 hf.1.2]; exact hr y) hN hv hd hcd hs
/-- .. one that is there -/
theorem JS.fldS (i j : Nat) {w : m γ} {k : γ → m κ} (h : ρ[i]? = some (.ob x c ns ds)) (hf : (ns.findIdx? (fun z => f == z) = some j ∧ ns.length = ds.length) ∧ ns.length < 1000) (hc : ∀ C, X.mg c = some (.ref C) → Cls X.K C ∧ NoAttr X.K C f) (ha : JE X true ex ρ F w) (hr : ∀ y, JS X rest (ρ.set i (.ob x c ns (ds.set j (F y)))) Eb ρx ρl e (k y)) (hN : X.N[i]? = some n := by rfl) (hv : Vis X.env.scope n := by first | exact Or.inl rfl | exact Or.inr (Or.inl rfl) | exact Or.inr (Or.inr rfl)) (hd : (n == ("__debug__" : Str)) = false := by decide) (hcd : (n == ("__classdict__" : Str)) = false := by decide)
    (hs : swapsWith ex (some (.Attribute (.Name n p2) f p3)) pos.line X.env = pure false := by rfl) : JS X (.Assign [.Attribute (.Name n p2) f p3] ex pos :: rest) ρ Eb ρx ρl e (bd w k) :=
  JS.fldG i h hc hf.2 ha (fun y => by rw [putN_set hf.1.1, putDs_set hf.1.1 hf.1.2]; exact hr y) hN hv hd hcd hs
end
end

/-! ### dicts of ints -/
def eM {α : Type} (E : α → D) : List (Int × α) → D := fun xs => .d (xs.map fun p => Sum.inl p.1) (xs.map fun p => E p.2)
def getM {α : Type} (xs : List (Int × α)) (k : Int) : Option α := xs.lookup k
def putM {α : Type} (xs : List (Int × α)) (k : Int) (v : α) : List (Int × α) := if (xs.any fun p => decide (p.1 = k)) = true then xs.map (fun p => if p.1 = k then (p.1, v) else p) else xs ++ [(k, v)]
def mergeM {α : Type} (xs : List (Int × α)) : List (Int × α) := xs.foldl (fun acc p => putM acc p.1 p.2) []
section
variable {α : Type} {E : α → D} {K : PySem.W.Frag} {mg : Str → Option Value} {O : Addr → Prop} {H : Hp}
/-- the items -/
inductive RepsM (K : PySem.W.Frag) (mg : Str → Option Value) (O : Addr → Prop) (H : Hp) (E : α → D) : List (Key × V) → List (Int × α) → Prop
  | nil : RepsM K mg O H E [] []
  | cons {v : V} {kvs : List (Key × V)} {k : Int} {x : α} {xs : List (Int × α)} : Rep K mg O H v (E x) → RepsM K mg O H E kvs xs → RepsM K mg O H E ((Sum.inl k, v) :: kvs) ((k, x) :: xs)
theorem RepsM.of : ∀ {xs : List (Int × α)} {kvs : List (Key × V)}, kvs.map (·.1) = xs.map (fun p => (Sum.inl p.1 : Key)) → Reps K mg O H (kvs.map (·.2)) (xs.map fun p => E p.2) → RepsM K mg O H E kvs xs
  | [], [], _, _ => .nil
  | [], _ :: _, h, _ => by cases h
  | _ :: _, [], h, _ => by cases h
  | (k, x) :: xs, (k', v) :: kvs, h, r => by
    rw [List.map_cons, List.map_cons] at h r
    injection h with h1 h2
    cases r with
    | cons r1 r2 =>
      have h1 : k' = Sum.inl k := h1
      subst h1
      exact .cons r1 (RepsM.of h2 r2)
theorem RepsM.keys : ∀ {xs : List (Int × α)} {kvs : List (Key × V)}, RepsM K mg O H E kvs xs → kvs.map (·.1) = xs.map fun p => (Sum.inl p.1 : Key)
  | _, _, .nil => rfl
  | _, _, .cons _ t => by rw [List.map_cons, List.map_cons, t.keys]
theorem RepsM.vals : ∀ {xs : List (Int × α)} {kvs : List (Key × V)}, RepsM K mg O H E kvs xs → Reps K mg O H (kvs.map (·.2)) (xs.map fun p => E p.2)
  | _, _, .nil => .nil
  | _, _, .cons r t => .cons r t.vals
theorem RepsM.get {k : Int} {y : α} : ∀ {xs : List (Int × α)} {kvs : List (Key × V)}, RepsM K mg O H E kvs xs → xs.lookup k = some y → ∃ v, valV kvs (Sum.inl k) = some v ∧ Rep K mg O H v (E y)
  | _, _, .nil, h => by cases h
  | _, _, .cons (k := k') (v := v) (x := x) r t, h => by
    rw [List.lookup_cons] at h
    by_cases hk : k = k'
    · subst hk
      rw [beq_self_eq_true] at h
      cases h
      exact ⟨v, valV_pos rfl, r⟩
    · rw [beq_false_of_ne hk] at h
      obtain ⟨u, h1, h2⟩ := t.get h
      exact ⟨u, by rw [valV_neg (fun z => hk (Sum.inl.inj z).symm)]; exact h1, h2⟩
theorem RepsM.any {k : Int} : ∀ {xs : List (Int × α)} {kvs : List (Key × V)}, RepsM K mg O H E kvs xs → (kvs.any fun kv => decide (kv.1 = Sum.inl k)) = xs.any fun p => decide (p.1 = k)
  | _, _, .nil => rfl
  | _, _, .cons (k := k') r t => by
    rw [List.any_cons, List.any_cons, t.any]
    congr 1
    by_cases h : k' = k
    · rw [decide_eq_true h, decide_eq_true (by rw [h])]
    · rw [decide_eq_false h, decide_eq_false (fun z => h (Sum.inl.inj z))]
theorem RepsM.mapSet {k : Int} {u : V} {y : α} (ru : Rep K mg O H u (E y)) : ∀ {xs : List (Int × α)} {kvs : List (Key × V)}, RepsM K mg O H E kvs xs → RepsM K mg O H E (kvs.map fun kv => if kv.1 = Sum.inl k then (kv.1, u) else kv) (xs.map fun p => if p.1 = k then (p.1, y) else p)
  | _, _, .nil => .nil
  | _, _, .cons (k := k') r t => by
    rw [List.map_cons, List.map_cons]
    by_cases h : k' = k
    · rw [if_pos h, if_pos (by rw [h])]
      exact .cons ru (t.mapSet ru)
    · rw [if_neg h, if_neg (fun z => h (Sum.inl.inj z))]
      exact .cons r (t.mapSet ru)
theorem RepsM.app {k : Int} {u : V} {y : α} (ru : Rep K mg O H u (E y)) : ∀ {xs : List (Int × α)} {kvs : List (Key × V)}, RepsM K mg O H E kvs xs → RepsM K mg O H E (kvs ++ [(Sum.inl k, u)]) (xs ++ [(k, y)])
  | _, _, .nil => .cons ru .nil
  | _, _, .cons r t => .cons r (t.app ru)
theorem RepsM.put {k : Int} {u : V} {y : α} (ru : Rep K mg O H u (E y)) {xs : List (Int × α)} {kvs : List (Key × V)} (h : RepsM K mg O H E kvs xs) : RepsM K mg O H E (putK kvs (Sum.inl k) u) (putM xs k y) := by
  unfold putK putM
  rw [h.any]
  split
  · exact h.mapSet ru
  · exact h.app ru
theorem RepsM.merge : ∀ {more : List (Int × α)} {rs : List (Key × V)} {xs : List (Int × α)} {kvs : List (Key × V)}, RepsM K mg O H E rs more → RepsM K mg O H E kvs xs → RepsM K mg O H E (mergeK kvs rs) (more.foldl (fun acc p => putM acc p.1 p.2) xs)
  | _, _, _, _, .nil, h => h
  | _, _, _, _, .cons (k := k') r t, h => by
    have := RepsM.merge t (RepsM.put (k := k') r h)
    exact this
theorem Rep.dict {v : V} {xs : List (Int × α)} (h : Rep K mg O H v (eM E xs)) : ∃ a kvs, v = .ref a ∧ H a = some (.dK kvs) ∧ ¬ O a ∧ RepsM K mg O H E kvs xs := by
  cases h with
  | d h1 h2 h3 h4 => exact ⟨_, _, rfl, h1, h2, RepsM.of h3 h4⟩
end
section
variable {m : Type → Type} [Mn m] {α β : Type}
variable {X : Cx} {M : Bool} {ρ : List Slot} {pos p : Pos} {a b : Expr} {E : α → D}
/-- d[k] -/
theorem JE.getM {wa : m (List (Int × α))} {wb : m Int} (hu : X.A.units + 1 < cLine) (ha : JE X M a ρ (eM E) wa) (hb : JE X false b ρ eI wb) (hs : NoSl b := by exact fun _ _ => rfl) : JE X M (.Subscript a b pos) ρ E (bd wa fun xs => bd wb fun k => lf (Wk.getM xs k)) :=
  ⟨⟨pe_weak (pe_dget hu ha.b.pe hb.b.pe hs) fun σ H Q ⟨sr, O, H0, ad, he, hw⟩ => ⟨sr, O, H0, ad, he, by
      have hw := le2 (f := fun xs k => lf (m := m) (Wk.getM xs k)) (g := fun xs k => Wp.ofO (Wk.getM xs k)) (fun _ _ => Mn.lift_le _) _ hw
      refine (Mn.wp wa).mono (fun xs q v H1 x1 r => ⟨sr, O, H0, ad, he.ext' x1, (Mn.wp wb).mono (fun k q2 v2 H2 x2 r2 => ?_) q⟩) hw
      obtain ⟨y, hy, q2⟩ := q2
      cases r2
      obtain ⟨p, kvs, rfl, hp, _, rs⟩ := (r.ext x2 (he.sOM M)).dict
      obtain ⟨u, hu, ru⟩ := rs.get hy
      refine ⟨p, u, rfl, ?_, q2 u H2 (x1.trans x2) ru⟩
      rw [← hu]
      exact DGet.k (k := Sum.inl k) hp⟩⟩⟩
/-- {} -/
theorem JE.dnew : JE X M (.Dict [] [] pos) ρ (eM E) (rt (m := m) []) := ⟨⟨pe_weak pe_dnewK fun σ H Q ⟨sr, O, H0, ad, he, hw⟩ p hp => lep _ hw _ _ (Ext.new he.srs hp) (.d upd_same (he.freshM hp M) rfl .nil)⟩⟩
theorem pairs_of {K : PySem.W.Frag} {mg : Str → Option Value} {O : Addr → Prop} {H : Hp} : ∀ {xs : List (Int × α)} {vs : List V}, Reps K mg O H vs (xs.map (eP eI E)) → ∃ (ps : List Addr) (kvs : List (Key × V)), vs = ps.map V.ref ∧ Paired (fun p kv => SqT K H p [kV kv.1, kv.2]) ps kvs ∧ RepsM K mg O H E kvs xs
  | [], _, h => by cases h; exact ⟨[], [], rfl, .nil, .nil⟩
  | (k, x) :: xs, _, h => by
    rw [List.map_cons] at h
    cases h with
    | cons h1 h2 =>
      obtain ⟨ps, kvs, e, hp, hr⟩ := pairs_of h2
      cases h1 with
      | t g1 g2 =>
        cases g2 with
        | cons r1 g3 => cases g3 with
          | cons r2 g4 =>
            cases g4
            cases r1
            exact ⟨_ :: ps, (Sum.inl k, _) :: kvs, by rw [e]; rfl, .cons g1 hp, .cons r2 hr⟩
/-- dict([(k, v), ..]) -/
theorem JE.dictP {wa : m (List (Int × α))} (hc : X.calm = true) (hg : Gl X "dict") (hm : X.mg "dict" = none) (ha : JE X M a ρ (eL (eP eI E)) wa) (hs : St1 X a := by rfl) : JE X M (.Call (.Name "dict" p) [a] [] pos) ρ (eM E) (bd wa fun xs => rt (mergeM xs)) :=
  ⟨⟨pe_weak (pe_callTy (call_dictP hc) hg hm (by decide +kernel) (pa_cons ha.b.pe pa_nil hs) (by decide) (by decide) hs rfl) fun σ H Q ⟨sr, O, H0, ad, he, hw⟩ => ⟨sr, O, H0, ad, he, by
      have hw := le1 (f := fun x => rt (m := m) (mergeM x)) (g := fun x => Wp.pure (mergeM x)) (fun _ => lep) _ hw
      refine (Mn.wp wa).mono (fun xs q v H1 x1 r => ?_) hw
      obtain ⟨pp, vs, rfl, hsq, _, rs⟩ := r.seqL
      obtain ⟨ps, kvs, rfl, hp, rm⟩ := pairs_of rs
      refine ⟨pp, ps, kvs, rfl, .inl (.inl hsq), hp, fun d hd => q _ _ (x1.trans (Ext.new x1.srs hd)) ?_⟩
      have rm2 := RepsM.merge rm .nil
      exact .d upd_same (fun z => he.freshM (x1.back hd) M z) rm2.keys (Reps.ext rm2.vals (Ext.new x1.srs hd) (he.sOM M))⟩⟩⟩
end
end Wk

namespace Wk
open PySem PySem.Spec PyProof.Rows L2
/-! ### objects made -/
section
variable {m : Type → Type} [Mn m] {α β γ δ κ τ ω : Type}
variable {X : Cx} {M : Bool} {ρ : List Slot} {pos p apos : Pos} {n c : Str} {ns : List Str}

theorem le2x : True := trivial

theorem JE.make1 {α1 : Type} {E1 : α1 → D} {w1 : m α1} {e1 : Expr} {f : α1 → Option δ} {E : δ → D} {fl : δ → List D} {Fs : List D → (List D → Prop) → Prop} (hF : ∀ x1 r P, f x1 = some r → P (fl r) → Fs [E1 x1] P) (hE : ∀ r, E r = .o c ns (fl r)) (C : MakeOk X c ns Fs) (ha1 : JE X M e1 ρ E1 w1) (hg : Gl X c := by rfl) (hdb : (c == ("__debug__" : Str)) = false := by decide) (hs1 : starEach [e1] X.env = (false, eval e1 X.env) :: starEach [] X.env := by rfl) (hpl : (backTo pos (starEach [] X.env)).any (·.1) = false := by rfl) :
    JE X M (.Call (.Name c p) [e1] [] pos) ρ E (bd w1 fun x1 => lf (f x1)) := by
  obtain ⟨k, C, fa, fd, ps, F, hr, hm, mk, hb⟩ := C
  refine ⟨⟨pe_weak (pe_make mk F hr hg hm hb .nil pass0 (pa_cons ha1.b.pe pa_nil hs1) hdb hs1 hpl) fun σ H Q ⟨sr, O, H0, ad, he, hw⟩ => ?_⟩⟩
  have hw := le1 (f := fun x1 => lf (m := m) (f x1)) (g := fun x1 => Wp.ofO (f x1)) (fun _ => Mn.lift_le _) _ hw
  refine ⟨sr, O, H0, ad, he, (Mn.wp w1).mono (fun x1 q1 v_1 H_1 x_1 r_1 => ?_) hw⟩
  have e2 := he.ext' x_1
  obtain ⟨z, hz, q⟩ := q1
  intro x dx hx hdx hne
  have rs : Reps X.K X.mg (OM M O ad) H_1 [v_1] [E1 x1] := (.cons r_1 .nil)
  have y1 : Ext sr H_1 (upd H_1 dx (.own x)) := Ext.new e2.srs hdx
  have hx2 : (upd H_1 dx (.own x)) x = none := by rw [upd_ne (fun z => hne z.symm)]; exact hx
  have y2 : Ext sr (upd H_1 dx (.own x)) (upd (upd H_1 dx (.own x)) x (.ins C dx [])) := Ext.new y1.srs hx2
  have keepMu : ∀ q, Mut (H_1 q) → Mut ((upd (upd H_1 dx (.own x)) x (.ins C dx [])) q) := fun q h => by
    rw [upd_ne (fun z => by rw [z, hx] at h; exact h), upd_ne (fun z => by rw [z, hdx] at h; exact h)]; exact h
  have rs2 := (((rs.ext y1 (he.sOM M)).fresh hx2).ext y2 (fun S hS => .inl (he.sOM M S hS)))
  refine ⟨x, C, dx, _, fun a => OM M O ad a ∨ a = x, [E1 x1], rfl, upd_same, hm, fun q hq => ?_, .inr rfl, rs2, hF x1 z _ hz fun H' dx' fs' kp h1 h2 h3 => ⟨rfl, ?_⟩⟩
  · rcases hq with hq | hq
    · exact keepMu q (e2.domM M q hq)
    · rw [hq, upd_same]; trivial
  · have ex : Ext sr H_1 H' := ⟨fun a o h n => kp a o (y2.1 a o (y1.1 a o h n) n) (fun z => by rw [z, hx] at h; cases h), fun S hS => ⟨e2.srs S hS, by
      obtain ⟨i, j, w⟩ := e2.srs S hS
      refine ⟨i, j, kp S _ ?_ (fun z => by rw [z, hx] at w; cases w)⟩
      rw [upd_ne (fun z => by rw [z, hx] at w; cases w), upd_ne (fun z => by rw [z, hdx] at w; cases w)]; exact w⟩⟩
    refine q (.ref x) H' (x_1.trans ex) ?_
    rw [hE]
    exact .o h1 (fun z => e2.freshM hx M z) hm h2 (h3.sub fun a z => .inl z)

theorem JE.make2 {α1 : Type} {α2 : Type} {E1 : α1 → D} {E2 : α2 → D} {w1 : m α1} {w2 : m α2} {e1 e2 : Expr} {f : α1 → α2 → Option δ} {E : δ → D} {fl : δ → List D} {Fs : List D → (List D → Prop) → Prop} (hF : ∀ x1 x2 r P, f x1 x2 = some r → P (fl r) → Fs [E1 x1, E2 x2] P) (hE : ∀ r, E r = .o c ns (fl r)) (C : MakeOk X c ns Fs) (ha1 : JE X M e1 ρ E1 w1) (ha2 : JE X M e2 ρ E2 w2) (hg : Gl X c := by rfl) (hdb : (c == ("__debug__" : Str)) = false := by decide) (hs1 : starEach [e1, e2] X.env = (false, eval e1 X.env) :: starEach [e2] X.env := by rfl) (hs2 : starEach [e2] X.env = (false, eval e2 X.env) :: starEach [] X.env := by rfl) (hpl : (backTo pos (starEach [e2] X.env)).any (·.1) = false := by rfl) :
    JE X M (.Call (.Name c p) [e1, e2] [] pos) ρ E (bd w1 fun x1 => (bd w2 fun x2 => lf (f x1 x2))) := by
  obtain ⟨k, C, fa, fd, ps, F, hr, hm, mk, hb⟩ := C
  refine ⟨⟨pe_weak (pe_make mk F hr hg hm hb .nil pass0 (pa_cons ha1.b.pe (pa_cons ha2.b.pe pa_nil hs2) hs1) hdb hs1 hpl) fun σ H Q ⟨sr, O, H0, ad, he, hw⟩ => ?_⟩⟩
  have hw := le2 (f := fun x1 x2 => lf (m := m) (f x1 x2)) (g := fun x1 x2 => Wp.ofO (f x1 x2)) (fun _ _ => Mn.lift_le _) _ hw
  refine ⟨sr, O, H0, ad, he, (Mn.wp w1).mono (fun x1 q1 v_1 H_1 x_1 r_1 => ?_) hw⟩
  refine ⟨sr, O, H0, ad, (he.ext' x_1), (Mn.wp w2).mono (fun x2 q2 v_2 H_2 x_2 r_2 => ?_) q1⟩
  have e2 := he.ext' (x_1.trans x_2)
  obtain ⟨z, hz, q⟩ := q2
  intro x dx hx hdx hne
  have rs : Reps X.K X.mg (OM M O ad) H_2 [v_1, v_2] [E1 x1, E2 x2] := (.cons (r_1.ext x_2 (he.sOM M)) (.cons r_2 .nil))
  have y1 : Ext sr H_2 (upd H_2 dx (.own x)) := Ext.new e2.srs hdx
  have hx2 : (upd H_2 dx (.own x)) x = none := by rw [upd_ne (fun z => hne z.symm)]; exact hx
  have y2 : Ext sr (upd H_2 dx (.own x)) (upd (upd H_2 dx (.own x)) x (.ins C dx [])) := Ext.new y1.srs hx2
  have keepMu : ∀ q, Mut (H_2 q) → Mut ((upd (upd H_2 dx (.own x)) x (.ins C dx [])) q) := fun q h => by
    rw [upd_ne (fun z => by rw [z, hx] at h; exact h), upd_ne (fun z => by rw [z, hdx] at h; exact h)]; exact h
  have rs2 := (((rs.ext y1 (he.sOM M)).fresh hx2).ext y2 (fun S hS => .inl (he.sOM M S hS)))
  refine ⟨x, C, dx, _, fun a => OM M O ad a ∨ a = x, [E1 x1, E2 x2], rfl, upd_same, hm, fun q hq => ?_, .inr rfl, rs2, hF x1 x2 z _ hz fun H' dx' fs' kp h1 h2 h3 => ⟨rfl, ?_⟩⟩
  · rcases hq with hq | hq
    · exact keepMu q (e2.domM M q hq)
    · rw [hq, upd_same]; trivial
  · have ex : Ext sr H_2 H' := ⟨fun a o h n => kp a o (y2.1 a o (y1.1 a o h n) n) (fun z => by rw [z, hx] at h; cases h), fun S hS => ⟨e2.srs S hS, by
      obtain ⟨i, j, w⟩ := e2.srs S hS
      refine ⟨i, j, kp S _ ?_ (fun z => by rw [z, hx] at w; cases w)⟩
      rw [upd_ne (fun z => by rw [z, hx] at w; cases w), upd_ne (fun z => by rw [z, hdx] at w; cases w)]; exact w⟩⟩
    refine q (.ref x) H' ((x_1.trans x_2).trans ex) ?_
    rw [hE]
    exact .o h1 (fun z => e2.freshM hx M z) hm h2 (h3.sub fun a z => .inl z)

theorem JE.make3 {α1 : Type} {α2 : Type} {α3 : Type} {E1 : α1 → D} {E2 : α2 → D} {E3 : α3 → D} {w1 : m α1} {w2 : m α2} {w3 : m α3} {e1 e2 e3 : Expr} {f : α1 → α2 → α3 → Option δ} {E : δ → D} {fl : δ → List D} {Fs : List D → (List D → Prop) → Prop} (hF : ∀ x1 x2 x3 r P, f x1 x2 x3 = some r → P (fl r) → Fs [E1 x1, E2 x2, E3 x3] P) (hE : ∀ r, E r = .o c ns (fl r)) (C : MakeOk X c ns Fs) (ha1 : JE X M e1 ρ E1 w1) (ha2 : JE X M e2 ρ E2 w2) (ha3 : JE X M e3 ρ E3 w3) (hg : Gl X c := by rfl) (hdb : (c == ("__debug__" : Str)) = false := by decide) (hs1 : starEach [e1, e2, e3] X.env = (false, eval e1 X.env) :: starEach [e2, e3] X.env := by rfl) (hs2 : starEach [e2, e3] X.env = (false, eval e2 X.env) :: starEach [e3] X.env := by rfl) (hs3 : starEach [e3] X.env = (false, eval e3 X.env) :: starEach [] X.env := by rfl) (hpl : (backTo pos (starEach [e2, e3] X.env)).any (·.1) = false := by rfl) :
    JE X M (.Call (.Name c p) [e1, e2, e3] [] pos) ρ E (bd w1 fun x1 => (bd w2 fun x2 => (bd w3 fun x3 => lf (f x1 x2 x3)))) := by
  obtain ⟨k, C, fa, fd, ps, F, hr, hm, mk, hb⟩ := C
  refine ⟨⟨pe_weak (pe_make mk F hr hg hm hb .nil pass0 (pa_cons ha1.b.pe (pa_cons ha2.b.pe (pa_cons ha3.b.pe pa_nil hs3) hs2) hs1) hdb hs1 hpl) fun σ H Q ⟨sr, O, H0, ad, he, hw⟩ => ?_⟩⟩
  have hw := le3 (f := fun x1 x2 x3 => lf (m := m) (f x1 x2 x3)) (g := fun x1 x2 x3 => Wp.ofO (f x1 x2 x3)) (fun _ _ _ => Mn.lift_le _) _ hw
  refine ⟨sr, O, H0, ad, he, (Mn.wp w1).mono (fun x1 q1 v_1 H_1 x_1 r_1 => ?_) hw⟩
  refine ⟨sr, O, H0, ad, (he.ext' x_1), (Mn.wp w2).mono (fun x2 q2 v_2 H_2 x_2 r_2 => ?_) q1⟩
  refine ⟨sr, O, H0, ad, (he.ext' (x_1.trans x_2)), (Mn.wp w3).mono (fun x3 q3 v_3 H_3 x_3 r_3 => ?_) q2⟩
  have e2 := he.ext' ((x_1.trans x_2).trans x_3)
  obtain ⟨z, hz, q⟩ := q3
  intro x dx hx hdx hne
  have rs : Reps X.K X.mg (OM M O ad) H_3 [v_1, v_2, v_3] [E1 x1, E2 x2, E3 x3] := (.cons ((r_1.ext x_2 (he.sOM M)).ext x_3 (he.sOM M)) (.cons (r_2.ext x_3 (he.sOM M)) (.cons r_3 .nil)))
  have y1 : Ext sr H_3 (upd H_3 dx (.own x)) := Ext.new e2.srs hdx
  have hx2 : (upd H_3 dx (.own x)) x = none := by rw [upd_ne (fun z => hne z.symm)]; exact hx
  have y2 : Ext sr (upd H_3 dx (.own x)) (upd (upd H_3 dx (.own x)) x (.ins C dx [])) := Ext.new y1.srs hx2
  have keepMu : ∀ q, Mut (H_3 q) → Mut ((upd (upd H_3 dx (.own x)) x (.ins C dx [])) q) := fun q h => by
    rw [upd_ne (fun z => by rw [z, hx] at h; exact h), upd_ne (fun z => by rw [z, hdx] at h; exact h)]; exact h
  have rs2 := (((rs.ext y1 (he.sOM M)).fresh hx2).ext y2 (fun S hS => .inl (he.sOM M S hS)))
  refine ⟨x, C, dx, _, fun a => OM M O ad a ∨ a = x, [E1 x1, E2 x2, E3 x3], rfl, upd_same, hm, fun q hq => ?_, .inr rfl, rs2, hF x1 x2 x3 z _ hz fun H' dx' fs' kp h1 h2 h3 => ⟨rfl, ?_⟩⟩
  · rcases hq with hq | hq
    · exact keepMu q (e2.domM M q hq)
    · rw [hq, upd_same]; trivial
  · have ex : Ext sr H_3 H' := ⟨fun a o h n => kp a o (y2.1 a o (y1.1 a o h n) n) (fun z => by rw [z, hx] at h; cases h), fun S hS => ⟨e2.srs S hS, by
      obtain ⟨i, j, w⟩ := e2.srs S hS
      refine ⟨i, j, kp S _ ?_ (fun z => by rw [z, hx] at w; cases w)⟩
      rw [upd_ne (fun z => by rw [z, hx] at w; cases w), upd_ne (fun z => by rw [z, hdx] at w; cases w)]; exact w⟩⟩
    refine q (.ref x) H' (((x_1.trans x_2).trans x_3).trans ex) ?_
    rw [hE]
    exact .o h1 (fun z => e2.freshM hx M z) hm h2 (h3.sub fun a z => .inl z)

theorem JE.make4 {α1 : Type} {α2 : Type} {α3 : Type} {α4 : Type} {E1 : α1 → D} {E2 : α2 → D} {E3 : α3 → D} {E4 : α4 → D} {w1 : m α1} {w2 : m α2} {w3 : m α3} {w4 : m α4} {e1 e2 e3 e4 : Expr} {f : α1 → α2 → α3 → α4 → Option δ} {E : δ → D} {fl : δ → List D} {Fs : List D → (List D → Prop) → Prop} (hF : ∀ x1 x2 x3 x4 r P, f x1 x2 x3 x4 = some r → P (fl r) → Fs [E1 x1, E2 x2, E3 x3, E4 x4] P) (hE : ∀ r, E r = .o c ns (fl r)) (C : MakeOk X c ns Fs) (ha1 : JE X M e1 ρ E1 w1) (ha2 : JE X M e2 ρ E2 w2) (ha3 : JE X M e3 ρ E3 w3) (ha4 : JE X M e4 ρ E4 w4) (hg : Gl X c := by rfl) (hdb : (c == ("__debug__" : Str)) = false := by decide) (hs1 : starEach [e1, e2, e3, e4] X.env = (false, eval e1 X.env) :: starEach [e2, e3, e4] X.env := by rfl) (hs2 : starEach [e2, e3, e4] X.env = (false, eval e2 X.env) :: starEach [e3, e4] X.env := by rfl) (hs3 : starEach [e3, e4] X.env = (false, eval e3 X.env) :: starEach [e4] X.env := by rfl) (hs4 : starEach [e4] X.env = (false, eval e4 X.env) :: starEach [] X.env := by rfl) (hpl : (backTo pos (starEach [e2, e3, e4] X.env)).any (·.1) = false := by rfl) :
    JE X M (.Call (.Name c p) [e1, e2, e3, e4] [] pos) ρ E (bd w1 fun x1 => (bd w2 fun x2 => (bd w3 fun x3 => (bd w4 fun x4 => lf (f x1 x2 x3 x4))))) := by
  obtain ⟨k, C, fa, fd, ps, F, hr, hm, mk, hb⟩ := C
  refine ⟨⟨pe_weak (pe_make mk F hr hg hm hb .nil pass0 (pa_cons ha1.b.pe (pa_cons ha2.b.pe (pa_cons ha3.b.pe (pa_cons ha4.b.pe pa_nil hs4) hs3) hs2) hs1) hdb hs1 hpl) fun σ H Q ⟨sr, O, H0, ad, he, hw⟩ => ?_⟩⟩
  have hw := le4 (f := fun x1 x2 x3 x4 => lf (m := m) (f x1 x2 x3 x4)) (g := fun x1 x2 x3 x4 => Wp.ofO (f x1 x2 x3 x4)) (fun _ _ _ _ => Mn.lift_le _) _ hw
  refine ⟨sr, O, H0, ad, he, (Mn.wp w1).mono (fun x1 q1 v_1 H_1 x_1 r_1 => ?_) hw⟩
  refine ⟨sr, O, H0, ad, (he.ext' x_1), (Mn.wp w2).mono (fun x2 q2 v_2 H_2 x_2 r_2 => ?_) q1⟩
  refine ⟨sr, O, H0, ad, (he.ext' (x_1.trans x_2)), (Mn.wp w3).mono (fun x3 q3 v_3 H_3 x_3 r_3 => ?_) q2⟩
  refine ⟨sr, O, H0, ad, (he.ext' ((x_1.trans x_2).trans x_3)), (Mn.wp w4).mono (fun x4 q4 v_4 H_4 x_4 r_4 => ?_) q3⟩
  have e2 := he.ext' (((x_1.trans x_2).trans x_3).trans x_4)
  obtain ⟨z, hz, q⟩ := q4
  intro x dx hx hdx hne
  have rs : Reps X.K X.mg (OM M O ad) H_4 [v_1, v_2, v_3, v_4] [E1 x1, E2 x2, E3 x3, E4 x4] := (.cons (((r_1.ext x_2 (he.sOM M)).ext x_3 (he.sOM M)).ext x_4 (he.sOM M)) (.cons ((r_2.ext x_3 (he.sOM M)).ext x_4 (he.sOM M)) (.cons (r_3.ext x_4 (he.sOM M)) (.cons r_4 .nil))))
  have y1 : Ext sr H_4 (upd H_4 dx (.own x)) := Ext.new e2.srs hdx
  have hx2 : (upd H_4 dx (.own x)) x = none := by rw [upd_ne (fun z => hne z.symm)]; exact hx
  have y2 : Ext sr (upd H_4 dx (.own x)) (upd (upd H_4 dx (.own x)) x (.ins C dx [])) := Ext.new y1.srs hx2
  have keepMu : ∀ q, Mut (H_4 q) → Mut ((upd (upd H_4 dx (.own x)) x (.ins C dx [])) q) := fun q h => by
    rw [upd_ne (fun z => by rw [z, hx] at h; exact h), upd_ne (fun z => by rw [z, hdx] at h; exact h)]; exact h
  have rs2 := (((rs.ext y1 (he.sOM M)).fresh hx2).ext y2 (fun S hS => .inl (he.sOM M S hS)))
  refine ⟨x, C, dx, _, fun a => OM M O ad a ∨ a = x, [E1 x1, E2 x2, E3 x3, E4 x4], rfl, upd_same, hm, fun q hq => ?_, .inr rfl, rs2, hF x1 x2 x3 x4 z _ hz fun H' dx' fs' kp h1 h2 h3 => ⟨rfl, ?_⟩⟩
  · rcases hq with hq | hq
    · exact keepMu q (e2.domM M q hq)
    · rw [hq, upd_same]; trivial
  · have ex : Ext sr H_4 H' := ⟨fun a o h n => kp a o (y2.1 a o (y1.1 a o h n) n) (fun z => by rw [z, hx] at h; cases h), fun S hS => ⟨e2.srs S hS, by
      obtain ⟨i, j, w⟩ := e2.srs S hS
      refine ⟨i, j, kp S _ ?_ (fun z => by rw [z, hx] at w; cases w)⟩
      rw [upd_ne (fun z => by rw [z, hx] at w; cases w), upd_ne (fun z => by rw [z, hdx] at w; cases w)]; exact w⟩⟩
    refine q (.ref x) H' ((((x_1.trans x_2).trans x_3).trans x_4).trans ex) ?_
    rw [hE]
    exact .o h1 (fun z => e2.freshM hx M z) hm h2 (h3.sub fun a z => .inl z)


end
/-! ### the def __init__ -/
theorem Env.obTo {K : PySem.W.Frag} {mg : Str → Option Value} {sr : Option Addr} {O : Addr → Prop} {H0 H H' : Hp} {σ : L2.St} {ρ : List Slot} {ad : Nat → Option Addr} (e : Env K mg sr O H0 H σ ρ ad) {i : Nat} {p : Addr} {c : Str} {ns : List Str} {ds : List D} (hi : ρ[i]? = some (.ob p c ns ds)) (kp : ∀ a o, H a = some o → a ≠ p → H' a = some o) {C dx : Addr} {fs : List (Str × V)} {ns' : List Str} {ds' : List D} (h' : H' p = some (.ins C dx fs)) (hC : mg c = some (.ref C)) (hn : fs.map (·.1) = ns') (r : Reps K mg (OO O ad) H' (fs.map (·.2)) ds') : Env K mg sr O H0 H' σ (ρ.set i (.ob p c ns' ds')) ad := by
  obtain ⟨C0, dx0, fs0, e1, e2, e3, e4, e5, e6⟩ := ob_at e hi
  have op : OO O ad p := .inr ⟨i, e1⟩
  have nsr : sr ≠ some p := fun z => e.dis i p e1 (e.sO p z)
  have il : i < ρ.length := (List.getElem?_eq_some_iff.mp hi).1
  have hmu : ∀ q, Mut (H q) → Mut (H' q) := fun q h => by
    by_cases hq : q = p
    · rw [hq, h']; trivial
    · obtain ⟨o, ho⟩ := mut_some h
      rw [kp q o ho hq, ← ho]; exact h
  have kt : ∀ a vs, SqT K H a vs → SqT K H' a vs := fun a vs h => by
    have mv : ∀ w, H a = some w → ¬ Mut (some w) → H' a = some w := fun w h1 h2 => kp a w h1 fun z => by
      rw [z, e3] at h1; cases h1; exact h2 trivial
    rcases h with (h | ⟨o, h⟩) | h
    · exact .inl (.inl (mv _ h fun z => z))
    · exact .inl (.inr ⟨o, mv _ h fun z => z⟩)
    · exact .inr h
  have kr : ∀ {d : D} {v : V}, Rep K mg (OO O ad) H v d → Rep K mg (OO O ad) H' v d := fun h => h.gen (fun a o q n => ⟨kp a o q fun z => n (by rw [z]; exact op), n⟩) kt
  have krs : ∀ {d : List D} {v : List V}, Reps K mg (OO O ad) H v d → Reps K mg (OO O ad) H' v d := fun h => Reps.gen (fun a o q n => ⟨kp a o q fun z => n (by rw [z]; exact op), n⟩) kt _ _ h
  refine ⟨by rw [List.length_set]; exact e.len, fun j => ?_, e.inj, e.frs, fun j q h => hmu q (e.mu j q h), fun S h => ⟨e.sO S h, ?_⟩, fun q h => hmu q (e.dom q h), e.dis, fun a o h n => ?_⟩
  · by_cases hj : j = i
    · subst hj
      rw [List.getElem?_set_self (by exact il)]
      exact ⟨C, dx, fs, e1, e2, h', hC, hn, r⟩
    · rw [List.getElem?_set_ne (fun z => hj z.symm)]
      have ej := e.at_ j
      cases hs : ρ[j]? with
      | none => rw [hs] at ej; exact ej
      | some s =>
        rw [hs] at ej
        cases s with
        | u => exact ej
        | d x =>
          obtain ⟨h1, w, h2, h3⟩ := ej
          exact ⟨h1, w, h2, kr h3⟩
        | l xs =>
          obtain ⟨q, vs, h1, h2, h3, h4⟩ := ej
          have : q ≠ p := fun z => hj (e.inj j i p (z ▸ h1) e1)
          exact ⟨q, vs, h1, h2, kp q _ h3 this, krs h4⟩
        | ob q c' ns2 ds2 =>
          obtain ⟨C2, dx2, fs2, h1, h2, h3, h4, h5, h6⟩ := ej
          have : q ≠ p := fun z => hj (e.inj j i p (z ▸ h1) e1)
          exact ⟨C2, dx2, fs2, h1, h2, kp q _ h3 this, h4, h5, krs h6⟩
        | src => exact ej
  · obtain ⟨a, b, z⟩ := e.srs S h
    exact ⟨a, b, kp S _ z (fun q => nsr (by rw [h, q]))⟩
  · exact kp a o (e.ext a o h n) (fun z => by rw [z] at h; rw [e.frs i p e1] at h; cases h)
/-- a method that changes the object it is called on -/
def spM (K : PySem.W.Frag) (mg : Str → Option Value) (c : Str) (ns : List Str) (F : List D → List D → (List D → Prop) → Prop) : Sp := fun vs H Q _ => ∃ (x C dx : Addr) (fs : List (Str × V)) (rest : List V) (O : Addr → Prop) (ds args : List D),
  vs = .ref x :: rest ∧ H x = some (.ins C dx fs) ∧ mg c = some (.ref C) ∧ fs.map (·.1) = ns ∧ (∀ p, O p → Mut (H p)) ∧ O x ∧ Reps K mg O H (fs.map (·.2)) ds ∧ Reps K mg O H rest args ∧
  F ds args fun ds' => ∀ H' dx' fs', (∀ a o, H a = some o → a ≠ x → H' a = some o) → H' x = some (.ins C dx' fs') → fs'.map (·.1) = ns → Reps K mg O H' (fs'.map (·.2)) ds' → Q .non H'
def ChgOk (X : Cx) (c n : Str) (ns : List Str) (F : List D → List D → (List D → Prop) → Prop) : Prop := ∃ (k : Nat) (C fa : Addr) (fd : FuncData) (ps : List Str),
  FnOk X.prog X.w X.K X.mg X.base CX0 k fa fd ps (spM X.K X.mg c ns F) ∧ Room k X.A ∧ X.mg c = some (.ref C) ∧ Cls X.K C ∧ Meth X.K C n fa ∧ Binds X.K fd ps []
section
variable {m : Type → Type} [Mn m] {α β γ δ κ τ ω : Type}
variable {X : Cx} {M : Bool} {ρ : List Slot} {pos p2 apos cpos : Pos} {n mn c : Str} {ns : List Str} {ds : List D} {x : Addr} {e1 : Expr}
variable {rest : List Stmt} {Eb : β → D} {ρx : Option (α → List Slot)} {ρl : ω → List Slot} {e : κ → Fl α ω β}
/-- self.m(e1) -/
theorem JS.chg1 (i : Nat) {E1 : γ → D} {w1 : m γ} {f : γ → Option δ} {fl : δ → List D} {k : δ → m κ} {Fs : List D → List D → (List D → Prop) → Prop} (h : ρ[i]? = some (.ob x c ns ds)) (hn : ns.contains mn = false) (hF : ∀ y r P, f y = some r → P (fl r) → Fs ds [E1 y] P) (C : ChgOk X c mn ns Fs) (ha : JE X true e1 ρ E1 w1) (hr : ∀ y, JS X rest (ρ.set i (.ob x c ns (fl y))) Eb ρx ρl e (k y)) (hN : X.N[i]? = some n := by rfl) (hv : Vis X.env.scope n := by first | exact Or.inl rfl | exact Or.inr (Or.inl rfl) | exact Or.inr (Or.inr rfl)) (hd : (n == ("__debug__" : Str)) = false := by decide) (hcd : (n == ("__classdict__" : Str)) = false := by decide)
    (hs1 : starEach [e1] X.env = (false, eval e1 X.env) :: starEach [] X.env := by rfl) (hpl : (backTo cpos (starEach [] X.env)).any (·.1) = false := by rfl) {pl : Sem Bool}
    (ht : eval (.Call (.Attribute (.Name n p2) mn apos) [e1] [] cpos) X.env = (do
      let ov ← eval (.Name n p2) X.env
      standAt apos.atName
      let (f, first) ← holding [ov] (getMethod ov mn pl)
      callWith cpos f first (backTo cpos (starEach [e1] X.env)) (backToKw cpos (keywordEach [] X.env))) := by rfl)
    (hsw : swapsWith (.Call (.Attribute (.Name n p2) mn apos) [e1] [] cpos) none pos.line X.env = pure false := by rfl) :
    JS X (.Expr (.Call (.Attribute (.Name n p2) mn apos) [e1] [] cpos) pos :: rest) ρ Eb ρx ρl e (bd w1 fun y => bd (lf (f y)) k) := by
  obtain ⟨kk, C, fa, fd, ps, F, hrm, hm, cl, me, hb⟩ := C
  refine ⟨pss_weak (pss_cons (ps_expr (pe_meth (pv i hN hv hd hcd) cl me F hrm hb .nil pass0 (pa_cons ha.b.pe pa_nil hs1) hs1 hpl ht) hsw) (pss_ex fun y => (hr y).ps)) fun Dd σ H ⟨sr, O, H0, ad, he, hw⟩ => ?_, fun z => nn_bd fun y => nn_bd fun y => (hr y).nn z⟩
  obtain ⟨C', dx, fs, g1, g2, g3, g4, g5, g6⟩ := ob_at he h
  have := hm.symm.trans g4
  cases this
  refine ⟨_, g2, x, dx, fs, rfl, g3, lookup_none (by rw [g5]; exact hn), sr, O, H0, ad, he, (Mn.wp w1).mono (fun y q v H1 x1 r => ?_) (bdk hw)⟩
  have he1 := he.ext' x1
  obtain ⟨C', dx', fs', g1', g2', g3', g4', g5', g6'⟩ := ob_at he1 h
  have := hm.symm.trans g4'
  cases this
  obtain ⟨z, hz, q⟩ := Mn.lift_le _ _ (bdk q)
  exact ⟨x, C, dx', fs', _, OO O ad, ds, [E1 y], rfl, g3', hm, g5', fun p hp => he1.domM true p hp, .inr ⟨i, g1'⟩, g6', .cons r .nil, hF y z _ hz fun H' dx2 fs2 kp h1 h2 h3 => ⟨z, sr, O, H0, ad, he1.obTo h kp h1 hm h2 h3, q⟩⟩
end
theorem fn_okI {P : Program} {w : World} {K : PySem.W.Frag} {mg : Str → Option Value} {base : Heap} {x c qual : Str} {st : Stmt} {f : Addr} {fd : FuncData} {N ps : List Str} {k : Nat} {ns : List Str} (Fu : Fun K x qual st f fd) (sc : FnScope N ps (defScope st)) (F : List D → (List D → Prop) → Prop) (hlen : ∀ ds Q, F ds Q → ds.length + 1 = ps.length) (hN : ps.length ≤ N.length)
    (h : ∀ cdv A outer s H E, Room k (Cxf P w K mg base N qual st f cdv A outer s H E).A → ∀ (p : Addr) ds Q, F ds Q → ∃ (τ : Type) (fl : τ → List D) (us : List Slot) (a : Option τ), JS (Cxf P w K mg base N qual st f cdv A outer s H E) (defBody st) (.ob p c [] [] :: rho0 ds (N.length - 1)) eN (some fun t : τ => .ob p c ns (fl t) :: us) (fun _ : Empty => []) (Fl.nx : τ → Fl τ Empty Unit) a ∧ ∃ r, a = some r ∧ Q (fl r)) :
    FnOk P w K mg base CX0 (k + 1) f fd ps (spI K mg c ns F) := by
  refine Fu.ok sc (fun vs H Q E hs => ?_) (fun cdv A outer s H vs Q E hr hs => ?_)
  · obtain ⟨p, C, dx, rest, O, ds, rfl, hx, hC, hO, hOx, r, hF⟩ := hs
    rw [List.length_cons, r.length, hlen _ _ hF]
  · obtain ⟨p, C, dx, rest, O, ds, rfl, hx, hC, hO, hOx, r, hF⟩ := hs
    have hl := hlen _ _ hF
    obtain ⟨τ, fl, us, a, hT, z, hz, hq⟩ := h cdv A outer s H E hr p ds _ hF
    let ad : Nat → Option Addr := fun j => if j = 0 then some p else none
    have ad0 : ∀ {j q}, ad j = some q → j = 0 ∧ q = p := fun {j q} h => by
      show _
      by_cases hj : j = 0
      · simp only [ad, hj, if_true] at h; exact ⟨hj, (Option.some.inj h).symm⟩
      · simp only [ad, hj] at h; cases h
    have sub : ∀ b, OO (fun b => O b ∧ b ≠ p) ad b → O b := fun b hb => by
      rcases hb with hb | ⟨j, hb⟩
      · exact hb.1
      · rw [(ad0 hb).2]; exact hOx
    have sup : ∀ {ad' : Nat → Option Addr}, ad' 0 = some p → ∀ b, O b → OO (fun b => O b ∧ b ≠ p) ad' b := fun h0 b hb => by
      by_cases hp : b = p
      · exact .inr ⟨0, by rw [hp]; exact h0⟩
      · exact .inl ⟨hb, hp⟩
    have he : Env K mg none (fun b => O b ∧ b ≠ p) (less H ad) H (L2.start N (.ref p :: rest)) (.ob p c [] [] :: rho0 ds (N.length - 1)) ad := by
      have e0 := env_startG (K := K) (mg := mg) (O := fun b => b = p ∨ O b) (H := fun b => if b = p then some (.lst [.int 0, .int 0]) else H b) (N := N) (S := p) (vs := rest) (ds := ds) (by omega) (.inl rfl) ⟨0, 0, by simp⟩ (fun q hq => by
        by_cases hqp : q = p
        · simp only [hqp, if_true]; trivial
        · simp only [hqp, if_false]; exact hO q (hq.resolve_left hqp)) (Reps.gen (O := O) (H := H) (fun b o e n => ⟨by
          have : b ≠ p := fun z => n (by rw [z]; exact hOx)
          simp only [this, if_false]; exact e, fun z => z.elim (fun z => n (by rw [z]; exact hOx)) n⟩) (fun b vs h => by
          have mv : ∀ w, H b = some w → ¬ Mut (some w) → (if b = p then some (HO.lst [.int 0, .int 0]) else H b) = some w := fun w h1 h2 => by
            have : b ≠ p := fun z => by rw [z, hx] at h1; cases h1; exact h2 trivial
            rw [if_neg this]; exact h1
          rcases h with (h | ⟨o, h⟩) | h
          · exact .inl (.inl (mv _ h fun z => z))
          · exact .inl (.inr ⟨o, mv _ h fun z => z⟩)
          · exact .inr h) _ _ r)
      refine ⟨e0.len, fun j => ?_, fun j k q h1 h2 => by rw [(ad0 h1).1, (ad0 h2).1], fun j q h => less_own h, fun j q h => (by rw [(ad0 h).2, hx]; trivial), fun S h => (by cases h), fun q h => hO q h.1, fun j q h z => z.2 (ad0 h).2, fun b o h _ => less_some h⟩
      cases j with
      | zero => exact ⟨C, dx, [], rfl, rfl, hx, hC, rfl, .nil⟩
      | succ j =>
        have ej := e0.at_ (j + 1)
        unfold L2.start rho0 at ej ⊢
        rw [List.map_cons, List.cons_append, List.getElem?_cons_succ, List.getElem?_cons_succ] at ej ⊢
        by_cases hj : j < ds.length
        · rw [List.getElem?_append_left (by simp; have := r.length; omega), List.getElem?_append_left (by simp; omega), List.getElem?_map, List.getElem?_map]
          obtain ⟨d, hd⟩ : ∃ d, ds[j]? = some d := ⟨ds[j], List.getElem?_eq_getElem hj⟩
          obtain ⟨v, hv, rv⟩ := r.get hd
          rw [hd, hv]
          exact ⟨rfl, v, rfl, rv.sub sub⟩
        · rw [List.getElem?_append_right (l₁ := ds.map Slot.d) (by simp; omega)]
          by_cases h2 : j - (ds.map Slot.d).length < N.length - 1 - ds.length
          · rw [List.getElem?_replicate_of_lt h2]; exact rfl
          · have e : (List.replicate (N.length - 1 - ds.length) Slot.u)[j - (ds.map Slot.d).length]? = none := List.getElem?_eq_none (by simp at h2 ⊢; omega)
            rw [e]; exact rfl
    refine ⟨_, hT.ps, none, (fun b => O b ∧ b ≠ p), less H ad, _, he, z, hz, ?_⟩
    refine (show endOk (α := τ) (τ := Empty) (β := Unit) K mg none (fun b => O b ∧ b ≠ p) (less H ad) eN (some fun t : τ => .ob p c ns (fl t) :: us) (fun _ : Empty => []) { nx := fun _ H' => Q V.non H', rt := Q } (.nx z) from ?_)
    intro σ' H' ad' he'
    obtain ⟨C', dx', fs', g1, g2, g3, g4, g5, g6⟩ := ob_at (i := 0) he' rfl
    have := hC.symm.trans g4
    cases this
    exact hq H' dx' fs' (fun b o hb hne => he'.ext b o (less_of hb fun j z => hne (ad0 z).2) (fun q => by cases q)) g3 g5 (g6.sub (sup g1))
end Wk

namespace Wk
open PySem PySem.Spec PyProof.Rows L2
section
variable {m : Type → Type} [Mn m] {α β γ δ κ τ ω : Type}
variable {X : Cx} {M : Bool} {ρ : List Slot} {pos p2 p3 p4 p5 p6 apos cpos : Pos} {n mn c f1 f2 : Str} {ns : List Str} {ds : List D} {x : Addr} {ex : Expr} {F1 : γ → D} {F2 : δ → D}
variable {rest : List Stmt} {Eb : β → D} {ρx : Option (α → List Slot)} {ρl : ω → List Slot} {e : κ → Fl α ω β}
/-- self.f1, self.f2 = e, both new -/
theorem JS.fldPair (i : Nat) {w : m (γ × δ)} {k : γ × δ → m κ} {kk : Nat} (hcalm : X.calm = true) (h : ρ[i]? = some (.ob x c ns ds)) (hf : ((ns.contains f1 = false ∧ (ns ++ [f1]).contains f2 = false) ∧ ns.length = ds.length) ∧ ns.length < 900) (hc1 : ∀ C, X.mg c = some (.ref C) → Cls X.K C ∧ NoAttr X.K C f1) (hc2 : ∀ C, X.mg c = some (.ref C) → Cls X.K C ∧ NoAttr X.K C f2) (ha : JE X true ex ρ (eP F1 F2) w) (hr : ∀ y, JS X rest (ρ.set i (.ob x c ((ns ++ [f1]) ++ [f2]) ((ds ++ [F1 y.1]) ++ [F2 y.2]))) Eb ρx ρl e (k y)) (hN : X.N[i]? = some n := by rfl) (hv : Vis X.env.scope n := by first | exact Or.inl rfl | exact Or.inr (Or.inl rfl) | exact Or.inr (Or.inr rfl)) (hd : (n == ("__debug__" : Str)) = false := by decide) (hcd : (n == ("__classdict__" : Str)) = false := by decide)
    (hs : swapsWithSole [.Tuple [.Attribute (.Name n p2) f1 p3, .Attribute (.Name n p4) f2 p5] kk p6] ex pos.line X.env = pure false := by rfl) (hw : swappedStores [.Tuple [.Attribute (.Name n p2) f1 p3, .Attribute (.Name n p4) f2 p5] kk p6] ex X.env = pure none := by rfl) (h1 : (assignEach [.Tuple [.Attribute (.Name n p2) f1 p3, .Attribute (.Name n p4) f2 p5] kk p6] X.env).map (·.2) = [assign (.Tuple [.Attribute (.Name n p2) f1 p3, .Attribute (.Name n p4) f2 p5] kk p6) X.env] := by rfl) :
    JS X (.Assign [.Tuple [.Attribute (.Name n p2) f1 p3, .Attribute (.Name n p4) f2 p5] kk p6] ex pos :: rest) ρ Eb ρx ρl e (bd w k) :=
  ⟨pss_weak (pss_cons (ps_asg ha.b.pe (pg_tup hcalm (pgs_cons (pg_fld (pv i hN hv hd hcd)) (pgs_cons (pg_fld (pv i hN hv hd hcd)) pgs_nil))) hs hw h1) (pss_ex fun y => (hr y).ps)) fun Dd σ H ⟨sr, O, H0, ad, he, hw⟩ => (by
    refine ⟨sr, O, H0, ad, he, (Mn.wp w).mono (fun y q v H1 x1 r => ?_) (bdk hw)⟩
    have he1 := he.ext' x1
    obtain ⟨C, dx, fs, e1, e2, e3, e4, e5, e6⟩ := ob_at he1 h
    cases r with
    | t r1 r2 =>
      cases r2 with
      | cons ra r2 => cases r2 with
        | cons rb r2 =>
          cases r2
          rename_i aT vA vB
          have hl : fs.length = ns.length := by rw [← e5, List.length_map]
          have he2 := he1.writeOb (fs := putF f1 vA fs) (ns' := ns ++ [f1]) (ds' := ds ++ [F1 y.1]) (dx := dx) h e4 (by rw [putF_names, e5, putN_new hf.1.1.1]) (by
            have := putF_reps (f := f1) ra fs ds e6
            rw [e5, putDs_new hf.1.1.1 hf.1.2] at this
            exact this)
          have il : i < ρ.length := (List.getElem?_eq_some_iff.mp h).1
          have h2 : (ρ.set i (.ob x c (ns ++ [f1]) (ds ++ [F1 y.1])))[i]? = some (.ob x c (ns ++ [f1]) (ds ++ [F1 y.1])) := by rw [List.getElem?_set_self il]
          obtain ⟨C2, dx2, fs2, g1, g2, g3, g4, g5, g6⟩ := ob_at he2 h2
          have rb2 := rb.upd (o := .ins C dx (putF f1 vA fs)) (.inr ⟨i, e1⟩) e3 trivial
          have e3b : (L2.upd H1 x (.ins C dx (putF f1 vA fs))) x = some (.ins C dx (putF f1 vA fs)) := upd_same
          rw [g3] at e3b
          cases e3b
          have he3 := he2.writeOb (fs := putF f2 vB (putF f1 vA fs)) (ns' := (ns ++ [f1]) ++ [f2]) (ds' := (ds ++ [F1 y.1]) ++ [F2 y.2]) (dx := dx) h2 e4 (by rw [putF_names, g5, putN_new hf.1.1.2]) (by
            have := putF_reps (f := f2) rb2 _ _ g6
            rw [g5, putDs_new hf.1.1.2 (by simp [hf.1.2])] at this
            exact this)
          rw [List.set_set] at he3
          refine ⟨_, _, rfl, r1, rfl, _, _, rfl, _, e2, x, C, dx, fs, rfl, e3, (hc1 _ e4).1, (hc1 _ e4).2, by omega, _, _, rfl, _, e2, x, C, dx, _, rfl, g3, (hc2 _ e4).1, (hc2 _ e4).2, ?_, rfl, y, sr, O, H0, ad, he3, q⟩
          have : (putF f1 vA fs).length = ns.length + 1 := by
            have := congrArg List.length g5
            rw [List.length_map, List.length_append] at this
            exact this
          omega), fun z => nn_bd fun y => (hr y).nn z⟩
end
end Wk

namespace Wk
open PySem PySem.Spec PyProof.Rows L2
section
variable {m : Type → Type} [Mn m] {α β γ : Type}
variable {X : Cx} {M : Bool} {ρ : List Slot} {pos apos cpos : Pos} {a b : Expr}
/-- xs.count(k), ints -/
theorem JE.count {wa : m (List Int)} {wb : m Int} (ha : JE X false a ρ (eL eI) wa) (hb : JE X false b ρ eI wb)
    (hbase : attributeBase a "count" X.env (eval a X.env) = eval a X.env := by rfl)
    (hfew : ((backTo cpos (starEach [b] X.env)).all (fun x => !x.1) && (backToKw cpos (keywordEach [] X.env)).all (fun x => x.1.isSome) && decide ([b].length + ([] : List Keyword).length + (if ([] : List Keyword).isEmpty then 0 else 1) < 30)) = true := by rfl)
    (hline : (apos.endLine == cpos.line) = true := by rfl) (hs : starEach [b] X.env = (false, eval b X.env) :: starEach [] X.env := by rfl) :
    JE X M (.Call (.Attribute a "count" apos) [b] [] cpos) ρ eI (bd wa fun xs => bd wb fun k => rt (xs.count k : Int)) :=
  ⟨⟨pe_weak (pe_bm PySem.F.plainAttrs_list PySem.F.slot_list_count PySem.F.type_list_count mt_lcount ha.b.pe (pa_cons hb.b.pe pa_nil hs) hbase hfew hline hs rfl) fun σ H Q ⟨sr, O, H0, ad, he, hw⟩ => ⟨sr, O, H0, ad, he, by
      have hw := le2 (f := fun xs k => rt (m := m) ((List.count k xs : Nat) : Int)) (g := fun xs k => Wp.pure ((List.count k xs : Nat) : Int)) (fun _ _ => lep) _ hw
      refine (Mn.wp wa).mono (fun xs q v H1 x1 r => ?_) hw
      obtain ⟨p, vs, rfl, hs1, _, rs⟩ := r.seqL
      have rs : Reps X.K X.mg O H1 vs (xs.map D.i) := rs
      rw [rs.ints] at hs1
      refine ⟨.inl ⟨rfl, _, .inl (.inl hs1)⟩, sr, O, H0, ad, he.ext' x1, (Mn.wp wb).mono (fun k q2 v2 H2 x2 r2 => ?_) q⟩
      cases r2
      obtain ⟨p', vs', e2, hs2, _, rs2⟩ := (r.ext x2 he.sO).seqL
      cases e2
      have rs2 : Reps X.K X.mg O H2 vs' (xs.map D.i) := rs2
      rw [rs2.ints] at hs2
      exact ⟨p, xs, k, rfl, rfl, .inl (.inl hs2), q2 _ H2 (x1.trans x2) (.i _)⟩⟩⟩⟩
end
end Wk

namespace Wk
open PySem PySem.Spec PyProof.Rows L2
section
variable {m : Type → Type} [Mn m] {α β γ δ κ τ ω : Type}
variable {X : Cx} {M : Bool} {ρ : List Slot} {pos p p2 p3 pos2 apos cpos : Pos} {a b : Expr}
/-! ### list(range(n)), tuple(range(n)) -/
def rgL (a b : Int) : List Int := (List.range (b - a).toNat).map fun i => a + (i : Nat)
def rgO (a b : Int) : Option (List Int) := if (bdd a && (bdd b && decide ((b - a).toNat ≤ 16777216))) = true then some (rgL a b) else none
theorem rgV_is (a b : Int) : rgV a b = (rgL a b).map V.int := by
  unfold rgV rgL
  rw [List.map_map]; rfl
theorem rgO_is {a b : Int} {xs : List Int} (h : rgO a b = some xs) : RgOk a b ∧ xs = rgL a b := by
  unfold rgO at h
  split at h
  · rename_i h1
    have h2 := Bool.and_eq_true_iff.mp h1
    have h3 := Bool.and_eq_true_iff.mp h2.2
    have b1 := bdd_is h2.1
    have b2 := bdd_is h3.1
    exact ⟨⟨b1.1, b1.2, b2.1, b2.2, by have := of_decide_eq_true h3.2; omega⟩, (Option.some.inj h).symm⟩
  · cases h
theorem JL.listRange {wa : m Int} (hc : X.calm = true) (hg : Gl X "list") (hm : X.mg "list" = none) (hg2 : Gl X "range") (hm2 : X.mg "range" = none) (ha : JE X false a ρ eI wa) (na : starEach [a] X.env = (false, eval a X.env) :: starEach [] X.env := by rfl) (na2 : starEach [.Call (.Name "range" p2) [a] [] pos2] X.env = (false, eval (.Call (.Name "range" p2) [a] [] pos2) X.env) :: starEach [] X.env := by rfl) :
    JL X M (.Call (.Name "list" p) [.Call (.Name "range" p2) [a] [] pos2] [] pos) ρ eI (bd wa fun x => lf (rgO 0 x)) :=
  ⟨⟨pe_weak (pe_listRg hc hg hm (prg_1 hg2 hm2 ha.b.pe na) na2) fun σ H Q ⟨sr, O, H0, ad, he, hw⟩ => ⟨sr, O, H0, ad, he, by
      have hw := le1 (f := fun x => lf (m := m) (rgO 0 x)) (g := fun x => Wp.ofO (rgO 0 x)) (fun _ => Mn.lift_le _) _ hw
      refine (Mn.wp wa).mono (fun x q v H1 x1 r => ?_) hw
      obtain ⟨xs, hx, q⟩ := q
      cases r
      obtain ⟨ok, rfl⟩ := rgO_is hx
      refine ⟨x, rfl, ok, fun d hd => q d _ _ (x1.back hd) (x1.trans (Ext.new x1.srs hd)) upd_same ?_⟩
      rw [rgV_is]
      exact Reps.of_ints _⟩⟩⟩
theorem JE.tupRange {wa : m Int} (hc : X.calm = true) (hg : Gl X "tuple") (hm : X.mg "tuple" = none) (hg2 : Gl X "range") (hm2 : X.mg "range" = none) (ha : JE X false a ρ eI wa) (na : starEach [a] X.env = (false, eval a X.env) :: starEach [] X.env := by rfl) (na2 : starEach [.Call (.Name "range" p2) [a] [] pos2] X.env = (false, eval (.Call (.Name "range" p2) [a] [] pos2) X.env) :: starEach [] X.env := by rfl) :
    JE X M (.Call (.Name "tuple" p) [.Call (.Name "range" p2) [a] [] pos2] [] pos) ρ (eT eI) (bd wa fun x => lf (rgO 0 x)) :=
  ⟨⟨pe_weak (pe_tupRg hc hg hm (prg_1 hg2 hm2 ha.b.pe na) na2) fun σ H Q ⟨sr, O, H0, ad, he, hw⟩ => ⟨sr, O, H0, ad, he, by
      have hw := le1 (f := fun x => lf (m := m) (rgO 0 x)) (g := fun x => Wp.ofO (rgO 0 x)) (fun _ => Mn.lift_le _) _ hw
      refine (Mn.wp wa).mono (fun x q v H1 x1 r => ?_) hw
      obtain ⟨xs, hx, q⟩ := q
      cases r
      obtain ⟨ok, rfl⟩ := rgO_is hx
      refine ⟨x, rfl, ok, fun d hd => q _ _ (x1.trans (Ext.new x1.srs hd)) (.t (.inl (.inl upd_same)) ?_)⟩
      rw [rgV_is]
      exact Reps.of_ints _⟩⟩⟩
/-! ### < of tuples of ints -/
theorem JE.ltT {wa wb : m (List Int)} (hu : X.A.units + 1 < cLine) (ha : JE X false a ρ (eT eI) wa) (hb : JE X false b ρ (eT eI) wb) : JE X M (.Compare a [.Lt] [b] pos) ρ eB (bd wa fun x => bd wb fun y => rt (HT.lexLt x y)) :=
  ⟨⟨pe_weak (pe_cmpR (op_ltT (by omega)) ha.b.pe hb.b.pe (nomark _)) fun σ H Q ⟨sr, O, H0, ad, he, hw⟩ => ⟨sr, O, H0, ad, he, by
      have hw := le2 (f := fun x y => rt (m := m) (HT.lexLt x y)) (g := fun x y => Wp.pure (HT.lexLt x y)) (fun _ _ => lep) _ hw
      refine (Mn.wp wa).mono (fun x q v H1 x1 r => ⟨sr, O, H0, ad, he.ext' x1, (Mn.wp wb).mono (fun y q2 v2 H2 x2 r2 => ?_) q⟩) hw
      obtain ⟨p1, vs1, rfl, h1, s1⟩ := (r.ext x2 he.sO).seqT
      obtain ⟨p2, vs2, rfl, h2, s2⟩ := r2.seqT
      have s1 : Reps X.K X.mg O H2 vs1 (x.map D.i) := s1
      have s2 : Reps X.K X.mg O H2 vs2 (y.map D.i) := s2
      rw [s1.ints] at h1
      rw [s2.ints] at h2
      exact ⟨p1, p2, x, y, rfl, rfl, h1, h2, q2 _ H2 (x1.trans x2) (.b _)⟩⟩⟩⟩
theorem JT.ltT {wa wb : m (List Int)} (hu : X.A.units + 1 < cLine) (ha : JE X false a ρ (eT eI) wa) (hb : JE X false b ρ (eT eI) wb) : JT X (.Compare a [.Lt] [b] pos) ρ (bd wa fun x => bd wb fun y => rt (HT.lexLt x y)) :=
  ⟨⟨pt_weak (pt_cmpR (op_ltT (by omega)) ha.b.pe hb.b.pe (nomark _)) fun σ H Q ⟨sr, O, H0, ad, he, hw⟩ => ⟨sr, O, H0, ad, he, by
      have hw := le2 (f := fun x y => rt (m := m) (HT.lexLt x y)) (g := fun x y => Wp.pure (HT.lexLt x y)) (fun _ _ => lep) _ hw
      refine (Mn.wp wa).mono (fun x q v H1 x1 r => ⟨sr, O, H0, ad, he.ext' x1, (Mn.wp wb).mono (fun y q2 v2 H2 x2 r2 => ?_) q⟩) hw
      obtain ⟨p1, vs1, rfl, h1, s1⟩ := (r.ext x2 he.sO).seqT
      obtain ⟨p2, vs2, rfl, h2, s2⟩ := r2.seqT
      have s1 : Reps X.K X.mg O H2 vs1 (x.map D.i) := s1
      have s2 : Reps X.K X.mg O H2 vs2 (y.map D.i) := s2
      rw [s1.ints] at h1
      rw [s2.ints] at h2
      exact ⟨p1, p2, x, y, rfl, rfl, h1, h2, _, rfl, q2 H2 (x1.trans x2)⟩⟩⟩⟩
/-! ### is of bools -/
theorem JE.isB {wa wb : m Bool} (ha : JE X false a ρ eB wa) (hb : JE X false b ρ eB wb) : JE X M (.Compare a [.Is] [b] pos) ρ eB (bd wa fun x => bd wb fun y => rt (decide (x = y))) :=
  ⟨⟨pe_weak (pe_cmpR op_is_bl ha.b.pe hb.b.pe (nomark _)) fun σ H Q ⟨sr, O, H0, ad, he, hw⟩ => ⟨sr, O, H0, ad, he, by
      have hw := le2 (f := fun x y => rt (m := m) (decide (x = y))) (g := fun x y => Wp.pure (decide (x = y))) (fun _ _ => lep) _ hw
      refine (Mn.wp wa).mono (fun x q v H1 x1 r => ⟨sr, O, H0, ad, he.ext' x1, (Mn.wp wb).mono (fun y q2 v2 H2 x2 r2 => ?_) q⟩) hw
      cases r; cases r2
      exact ⟨x, y, rfl, rfl, q2 _ H2 (x1.trans x2) (.b _)⟩⟩⟩⟩
theorem JE.notB {wa wb : m Bool} (ha : JE X false a ρ eB wa) (hb : JE X false b ρ eB wb) : JE X M (.Compare a [.IsNot] [b] pos) ρ eB (bd wa fun x => bd wb fun y => rt (!decide (x = y))) :=
  ⟨⟨pe_weak (pe_cmpR op_isnot_bl ha.b.pe hb.b.pe (nomark _)) fun σ H Q ⟨sr, O, H0, ad, he, hw⟩ => ⟨sr, O, H0, ad, he, by
      have hw := le2 (f := fun x y => rt (m := m) (!decide (x = y))) (g := fun x y => Wp.pure (!decide (x = y))) (fun _ _ => lep) _ hw
      refine (Mn.wp wa).mono (fun x q v H1 x1 r => ⟨sr, O, H0, ad, he.ext' x1, (Mn.wp wb).mono (fun y q2 v2 H2 x2 r2 => ?_) q⟩) hw
      cases r; cases r2
      exact ⟨x, y, rfl, rfl, q2 _ H2 (x1.trans x2) (.b _)⟩⟩⟩⟩
theorem JT.isB {wa wb : m Bool} (ha : JE X false a ρ eB wa) (hb : JE X false b ρ eB wb) : JT X (.Compare a [.Is] [b] pos) ρ (bd wa fun x => bd wb fun y => rt (decide (x = y))) :=
  ⟨⟨pt_weak (pt_cmpR op_is_bl ha.b.pe hb.b.pe (nomark _)) fun σ H Q ⟨sr, O, H0, ad, he, hw⟩ => ⟨sr, O, H0, ad, he, by
      have hw := le2 (f := fun x y => rt (m := m) (decide (x = y))) (g := fun x y => Wp.pure (decide (x = y))) (fun _ _ => lep) _ hw
      refine (Mn.wp wa).mono (fun x q v H1 x1 r => ⟨sr, O, H0, ad, he.ext' x1, (Mn.wp wb).mono (fun y q2 v2 H2 x2 r2 => ?_) q⟩) hw
      cases r; cases r2
      exact ⟨x, y, rfl, rfl, _, rfl, q2 H2 (x1.trans x2)⟩⟩⟩⟩
theorem JT.notB {wa wb : m Bool} (ha : JE X false a ρ eB wa) (hb : JE X false b ρ eB wb) : JT X (.Compare a [.IsNot] [b] pos) ρ (bd wa fun x => bd wb fun y => rt (!decide (x = y))) :=
  ⟨⟨pt_weak (pt_cmpR op_isnot_bl ha.b.pe hb.b.pe (nomark _)) fun σ H Q ⟨sr, O, H0, ad, he, hw⟩ => ⟨sr, O, H0, ad, he, by
      have hw := le2 (f := fun x y => rt (m := m) (!decide (x = y))) (g := fun x y => Wp.pure (!decide (x = y))) (fun _ _ => lep) _ hw
      refine (Mn.wp wa).mono (fun x q v H1 x1 r => ⟨sr, O, H0, ad, he.ext' x1, (Mn.wp wb).mono (fun y q2 v2 H2 x2 r2 => ?_) q⟩) hw
      cases r; cases r2
      exact ⟨x, y, rfl, rfl, _, rfl, q2 H2 (x1.trans x2)⟩⟩⟩⟩
/-! ### xs.append(ys.pop(e)), x = ys.pop(e) -/
def popO (xs : List γ) (i : Int) : Option (γ × List γ) := if bdd i = true then (ixN xs.length i).bind fun k => (xs[k]?).map fun x => (x, xs.eraseIdx k) else none
theorem popO_is {xs : List γ} {i : Int} {r : γ × List γ} (h : popO xs i = some r) : -(2 ^ 63) ≤ i ∧ i < 2 ^ 63 ∧ ∃ k, seqIndex? i xs.length = some k ∧ xs[k]? = some r.1 ∧ r.2 = xs.eraseIdx k := by
  unfold popO at h
  split at h
  · rename_i hb
    have := bdd_is hb
    obtain ⟨k, h1, h2⟩ := Option.bind_eq_some_iff.mp h
    obtain ⟨x, h3, rfl⟩ := Option.map_eq_some_iff.mp h2
    exact ⟨by omega, by omega, k, (ixN_seq h1).1, h3, rfl⟩
  · cases h
section
variable {n n2 : Str} {F : γ → D} {E : β → D} {ρx : Option (α → List Slot)} {ρl : ω → List Slot} {e : κ → Fl α ω β} {rest : List Stmt} {pos1 apos2 cpos2 : Pos}
abbrev NmOk (X : Cx) (n : Str) : Prop := Vis X.env.scope n ∧ (n == ("__debug__" : Str)) = false ∧ (n == ("__classdict__" : Str)) = false
/-- y.pop(b), y one's own list: the item and the rest -/
theorem map_erase {f : γ → δ} : ∀ (xs : List γ) (k : Nat), (xs.eraseIdx k).map f = (xs.map f).eraseIdx k
  | [], _ => rfl
  | _ :: _, 0 => rfl
  | x :: xs, k + 1 => by
    show f x :: (xs.eraseIdx k).map f = f x :: (xs.map f).eraseIdx k
    rw [map_erase xs k]
theorem pop_pe (j : Nat) {ys : List γ} {wb : m Int} (h : ρ[j]? = some (.l (ys.map F))) (hb : JE X false b ρ eI wb) (hN : X.N[j]? = some n2) (hv : NmOk X n2)
    (hbase : attributeBase (.Name n2 p3) "pop" X.env (eval (.Name n2 p3) X.env) = eval (.Name n2 p3) X.env)
    (hfew : ((backTo cpos (starEach [b] X.env)).all (fun x => !x.1) && (backToKw cpos (keywordEach [] X.env)).all (fun x => x.1.isSome) && decide ([b].length + ([] : List Keyword).length + (if ([] : List Keyword).isEmpty then 0 else 1) < 30)) = true)
    (hline : (apos.endLine == cpos.line) = true) (hs : starEach [b] X.env = (false, eval b X.env) :: starEach [] X.env) :
    PE X (.Call (.Attribute (.Name n2 p3) "pop" apos) [b] [] cpos) (fun σ H Q => ∃ sr O H0 ad, Env X.K X.mg sr O H0 H σ ρ ad ∧ (Mn.wp (bd wb fun i => lf (m := m) (popO ys i))).run fun r => ∀ v H', Env X.K X.mg sr O H0 H' σ (ρ.set j (.l (r.2.map F))) ad → Rep X.K X.mg (OO O ad) H' v (F r.1) → Q v H') := by
  refine pe_weak (pe_bm PySem.F.plainAttrs_list PySem.F.slot_list_pop PySem.F.type_list_pop mt_popAt (pv j hN hv.1 hv.2.1 hv.2.2) (pa_cons hb.b.pe pa_nil hs) hbase hfew hline hs rfl) fun σ H Q ⟨sr, O, H0, ad, he, hw⟩ => ?_
  obtain ⟨p, vs, e1, e2, e3, rs⟩ := own_at he h
  have hw := le1 (f := fun i => lf (m := m) (popO ys i)) (g := fun i => Wp.ofO (popO ys i)) (fun _ => Mn.lift_le _) _ hw
  refine ⟨.ref p, e2, .inl ⟨rfl, vs, .inl (.inl e3)⟩, sr, O, H0, ad, he, (Mn.wp wb).mono (fun i q v H1 x1 r => ?_) hw⟩
  obtain ⟨z, hz, q⟩ := q
  cases r
  have he1 := he.ext' x1
  obtain ⟨p', vs', e1', e2', e3', rs'⟩ := own_at he1 h
  have : p' = p := Option.some.inj (e1'.symm.trans e1)
  subst this
  obtain ⟨b1, b2, k, hk, hx, hr⟩ := popO_is hz
  have hl : vs'.length = ys.length := by rw [rs'.length, List.length_map]
  obtain ⟨u, hu, ru⟩ := rs'.get (d := F z.1) (by rw [List.getElem?_map, hx]; rfl)
  refine ⟨p', vs', i, k, u, rfl, rfl, e3', b1, b2, by rw [hl]; exact hk, hu, q u _ ?_ ?_⟩
  · refine he1.write (vs := vs') h e1 ?_
    rw [hr, map_erase]
    exact rs'.eraseIdx k
  · exact ru.upd (.inr ⟨j, e1⟩) e3' trivial
theorem JS.appendPop (i j : Nat) {xs ys : List γ} {wb : m Int} {k : List γ → List γ → m κ} (h : ρ[i]? = some (.l (xs.map F))) (hj : ρ[j]? = some (.l (ys.map F))) (hij : i ≠ j) (hb : JE X false b ρ eI wb) (hr : ∀ us vs, JS X rest ((ρ.set j (.l (vs.map F))).set i (.l (us.map F))) E ρx ρl e (k us vs)) (hN : X.N[i]? = some n := by rfl) (hN2 : X.N[j]? = some n2 := by rfl)
    (hv : NmOk X n := by exact ⟨by first | exact Or.inl rfl | exact Or.inr (Or.inl rfl) | exact Or.inr (Or.inr rfl), by decide, by decide⟩) (hv2 : NmOk X n2 := by exact ⟨by first | exact Or.inl rfl | exact Or.inr (Or.inl rfl) | exact Or.inr (Or.inr rfl), by decide, by decide⟩)
    (hbase : attributeBase (.Name n p2) "append" X.env (eval (.Name n p2) X.env) = eval (.Name n p2) X.env := by rfl) (hbase2 : attributeBase (.Name n2 p3) "pop" X.env (eval (.Name n2 p3) X.env) = eval (.Name n2 p3) X.env := by rfl)
    (hfew2 : ((backTo cpos2 (starEach [b] X.env)).all (fun x => !x.1) && (backToKw cpos2 (keywordEach [] X.env)).all (fun x => x.1.isSome) && decide ([b].length + ([] : List Keyword).length + (if ([] : List Keyword).isEmpty then 0 else 1) < 30)) = true := by rfl)
    (hline2 : (apos2.endLine == cpos2.line) = true := by rfl) (hs2 : starEach [b] X.env = (false, eval b X.env) :: starEach [] X.env := by rfl)
    (hfew : ((backTo cpos (starEach [.Call (.Attribute (.Name n2 p3) "pop" apos2) [b] [] cpos2] X.env)).all (fun x => !x.1) && (backToKw cpos (keywordEach [] X.env)).all (fun x => x.1.isSome) && decide (([.Call (.Attribute (.Name n2 p3) "pop" apos2) [b] [] cpos2] : List Expr).length + ([] : List Keyword).length + (if ([] : List Keyword).isEmpty then 0 else 1) < 30)) = true := by rfl)
    (hline : (apos.endLine == cpos.line) = true := by rfl) (hs : starEach [.Call (.Attribute (.Name n2 p3) "pop" apos2) [b] [] cpos2] X.env = (false, eval (.Call (.Attribute (.Name n2 p3) "pop" apos2) [b] [] cpos2) X.env) :: starEach [] X.env := by rfl) (hsw : swapsWith (.Call (.Attribute (.Name n p2) "append" apos) [.Call (.Attribute (.Name n2 p3) "pop" apos2) [b] [] cpos2] [] cpos) none pos1.line X.env = pure false := by rfl) :
    JS X (.Expr (.Call (.Attribute (.Name n p2) "append" apos) [.Call (.Attribute (.Name n2 p3) "pop" apos2) [b] [] cpos2] [] cpos) pos1 :: rest) ρ E ρx ρl e (bd (bd wb fun i => lf (popO ys i)) fun r => bd (lf (appO xs r.1)) fun us => k us r.2) :=
  ⟨pss_weak (pss_cons (ps_expr (pe_bm PySem.F.plainAttrs_list PySem.F.slot_list_append PySem.F.type_list_append mt_append (pv i hN hv.1 hv.2.1 hv.2.2) (pa_cons (pop_pe j hj hb hN2 hv2 hbase2 hfew2 hline2 hs2) pa_nil hs) hbase hfew hline hs rfl) hsw) (pss_ex fun q : List γ × List γ => (hr q.1 q.2).ps)) fun Dd σ H ⟨sr, O, H0, ad, he, hw⟩ => (by
    obtain ⟨p, vs, e1, e2, e3, rs⟩ := own_at he h
    refine ⟨.ref p, e2, .inl ⟨rfl, vs, .inl (.inl e3)⟩, sr, O, H0, ad, he, (Mn.wp _).mono (fun z q v H1 he1 r => ?_) (bdk hw)⟩
    obtain ⟨us, hus, q⟩ := Mn.lift_le _ _ (bdk q)
    have hi1 : (ρ.set j (.l (z.2.map F)))[i]? = some (.l (xs.map F)) := by rw [List.getElem?_set_ne (fun q => hij q.symm)]; exact h
    obtain ⟨p', vs', e1', e2', e3', rs'⟩ := own_at he1 hi1
    have : p' = p := Option.some.inj (e1'.symm.trans e1)
    subst this
    unfold appO at hus
    split at hus
    · rename_i hz
      cases hus
      refine ⟨p', vs', v, rfl, rfl, e3', by rw [rs'.length, List.length_map]; exact hz, (xs ++ [z.1], z.2), sr, O, H0, ad, ?_, q⟩
      refine he1.write (vs := vs') hi1 e1 ?_
      rw [List.map_append]
      exact rs'.append (.cons r .nil)
    · cases hus), fun z => nn_bd fun x => nn_bd fun y => (hr y _).nn z⟩
/-- x = ys.pop(e) -/
theorem JS.setPop (i j : Nat) {ys : List γ} {wb : m Int} {k : γ → List γ → m κ} (hNd : X.N.Nodup) (hj : ρ[j]? = some (.l (ys.map F))) (hi : i < ρ.length) (hb : JE X false b ρ eI wb) (hr : ∀ u vs, JS X rest ((ρ.set j (.l (vs.map F))).set i (.d (F u))) E ρx ρl e (k u vs)) (hN : X.N[i]? = some n) (hf : X.fn n = true ∨ X.env.scope.names.lookup n = some .local) (hl : Loc X.env.scope n) (hN2 : X.N[j]? = some n2 := by rfl)
    (hv2 : NmOk X n2 := by exact ⟨by first | exact Or.inl rfl | exact Or.inr (Or.inl rfl) | exact Or.inr (Or.inr rfl), by decide, by decide⟩)
    (hbase2 : attributeBase (.Name n2 p3) "pop" X.env (eval (.Name n2 p3) X.env) = eval (.Name n2 p3) X.env := by rfl)
    (hfew2 : ((backTo cpos2 (starEach [b] X.env)).all (fun x => !x.1) && (backToKw cpos2 (keywordEach [] X.env)).all (fun x => x.1.isSome) && decide ([b].length + ([] : List Keyword).length + (if ([] : List Keyword).isEmpty then 0 else 1) < 30)) = true := by rfl)
    (hline2 : (apos2.endLine == cpos2.line) = true := by rfl) (hs2 : starEach [b] X.env = (false, eval b X.env) :: starEach [] X.env := by rfl)
    (hsw : swapsWith (.Call (.Attribute (.Name n2 p3) "pop" apos2) [b] [] cpos2) (some (.Name n p2)) pos1.line X.env = pure false := by rfl) :
    JS X (.Assign [.Name n p2] (.Call (.Attribute (.Name n2 p3) "pop" apos2) [b] [] cpos2) pos1 :: rest) ρ E ρx ρl e (bd (bd wb fun i => lf (popO ys i)) fun r => k r.1 r.2) :=
  ⟨pss_weak (pss_cons (ps_set hNd hN hl (pop_pe j hj hb hN2 hv2 hbase2 hfew2 hline2 hs2) hsw hf) (pss_ex fun q : γ × List γ => (hr q.1 q.2).ps)) fun Dd σ H ⟨sr, O, H0, ad, he, hw⟩ => (by
    refine ⟨sr, O, H0, ad, he, (Mn.wp _).mono (fun z q v H1 he1 r => ?_) (bdk hw)⟩
    exact ⟨z, sr, O, H0, _, he1.put i v _ r, q⟩), fun z => nn_bd fun x => (hr _ _).nn z⟩
end
end
end Wk

namespace Wk
open PySem PySem.Spec PyProof.Rows L2
/-! ### x[::-1] -/
theorem rev_pick (xs : Array Value) : ((List.range xs.size).filterMap fun (m : Nat) => xs[(((xs.size : Int) - 1) + (m : Int) * (-1)).toNat]?) = xs.toList.reverse := by
  have : ∀ n, n ≤ xs.size → ((List.range n).filterMap fun (m : Nat) => xs[(((xs.size : Int) - 1) + (m : Int) * (-1)).toNat]?) = (xs.toList.reverse).take n := by
    intro n
    induction n with
    | zero => intro _; rfl
    | succ n ih =>
      intro h
      rw [List.range_succ, List.filterMap_append, ih (by omega)]
      have e : (((xs.size : Int) - 1) + (n : Int) * (-1)).toNat = xs.size - 1 - n := by omega
      rw [List.filterMap_cons, e, Array.getElem?_eq_getElem (by omega), List.filterMap_nil]
      rw [List.take_succ, List.getElem?_reverse (by simp; omega)]
      simp
      rw [Array.getElem?_eq_getElem (by omega)]
      rfl
  rw [this xs.size (Nat.le_refl _), List.take_of_length_le (by simp)]
section
variable {prog : Program} {w : World} {A : Around} {E : Value → Shared → Prop} {s : Shared}
theorem sliceApplied_rev {sl : Addr} {t : Tok} {n : Nat} {Q : Int × Int × Nat → Shared → Prop} (hs : s.heap.IsSliceOf sl .none .none (.int (-1) t))
    (h : Q ((n : Int) - 1, -1, n) s) : wpAny (model prog w) A (Builtin.Slice.sliceApplied (.ref sl) (pure (n : Int))) Q E s := by
  obtain ⟨os, hos, hcs, hds⟩ := id hs
  unfold Builtin.Slice.sliceApplied Builtin.Slice.sliceFields
  refine wpAny_bind (wpAny_bind (wpAny_field hos hds (x := .none) rfl (wpAny_bind (wpAny_field hos hds (x := .none) rfl (wpAny_bind (wpAny_field hos hds (x := .int (-1) t) rfl (wpAny_pure ?_)))))))
  refine wpAny_bind (HT.slicePart_ (o := some (-1)) (.int (-1) t) ?_)
  show wpAny _ _ (if ((-1 : Int) == 0) = true then _ else _) _ _ s
  rw [if_neg (by decide)]
  refine wpAny_bind (HT.slicePart_ .none (wpAny_bind (HT.slicePart_ .none (wpAny_bind (wpAny_pure ?_)))))
  show wpAny _ _ (match Builtin.Slice.sliceAdjust none none (-1) (n : Int) with | (lo, hi) => pure (lo, (-1 : Int), Builtin.Slice.slicePlaces lo hi (-1))) _ _ s
  have e : Builtin.Slice.sliceAdjust none none (-1) (n : Int) = ((n : Int) - 1, -1) := rfl
  rw [e]
  show wpAny _ _ (pure ((n : Int) - 1, (-1 : Int), Builtin.Slice.slicePlaces ((n : Int) - 1) (-1) (-1))) _ _ s
  have e2 : Builtin.Slice.slicePlaces ((n : Int) - 1) (-1) (-1) = n := by
    unfold Builtin.Slice.slicePlaces
    rw [if_neg (by decide), show (-(-1 : Int)) = 1 from rfl]
    simp only [Int.ediv_one]
    split <;> omega
  rw [e2]
  exact wpAny_pure h
theorem getItem_tuple_rev {t sl : Addr} {items : Array Value} {k : Tok} {Q : Value → Shared → Prop} (ht : IsTup s.heap t items) (hs : s.heap.IsSliceOf sl .none .none (.int (-1) k))
    (h : Q (.ref s.heap.objs.size) { s with heap := s.heap.push { cls := .type "tuple", data := .seq items.toList.reverse.toArray } })
    (hsz : items.size ≤ sizeLine) : wpAny (model prog w) A (getItem (.ref t) (.ref sl)) Q E s := by
  have htake : sizeOk (.seq items.toList.reverse.toArray) := by
    show items.toList.reverse.toArray.size ≤ sizeLine
    rw [List.size_toArray, List.length_reverse, Array.length_toList]
    omega
  obtain ⟨os, hos, hcs, hds⟩ := id hs
  have hTs : s.TypeIs (.ref sl) "slice" := ⟨os, hos, hcs⟩
  unfold getItem
  try with_reducible refine wpAny_holding ?_
  first | refine wpAny_bind (wpAny_pure ?_) | skip
  refine wpAny_bind (wpAny_sequenceKey ht.typeIs (by decide) ?_)
  refine wpAny_bind (wpAny_callSpecial?_slot (name := Str.ofString "__getitem__") ht.typeIs PyProof.Rows.slot_tuple_getitem
    (wpAny_call_entry PyProof.Rows.slot_tuple_getitem ht.typeIs PyProof.Rows.entry_tuple_getitem ?_ (PyProof.Rows.args_tuple_getitem _ _)))
  show wpAny _ _ (Builtin.Tuple.tupleItemsOf (.ref t) >>= _) _ _ s
  refine wpAny_bind (tupleItemsOf_ ht ?_)
  refine wpAny_bind (wpAny_typeOf hTs ?_)
  rw [if_pos (by decide)]
  refine wpAny_bind (sliceApplied_rev (n := items.size) hs ?_)
  have hno : ¬ ((((items.size : Int) - 1) == 0 && (-1 : Int) == 1 && items.size == items.size) = true) := by simp
  show wpAny _ _ (if (((items.size : Int) - 1) == 0 && (-1 : Int) == 1 && items.size == items.size) = true then _ else _) _ _ s
  rw [if_neg hno, rev_pick]
  first
    | exact wpAny_bind (m := Builtin.Tuple.tupleExact _) (wpAny_newObj_type (wpAny_pure ⟨_, rfl, wpAny_pure h⟩) htake)
    | exact wpAny_bind (m := Builtin.Tuple.tupleExact _) (wpAny_newObj_type (wpAny_bind (wpAny_pure (wpAny_pure ⟨_, rfl, wpAny_pure h⟩))) htake)
    | exact wpAny_bind (wpAny_bind (m := Builtin.Tuple.tupleExact _) (wpAny_newObj_type (wpAny_pure (wpAny_pure ⟨_, rfl, wpAny_pure h⟩)) htake))
    | exact wpAny_bind (wpAny_bind (m := Builtin.Tuple.tupleExact _) (wpAny_newObj_type (wpAny_pure ⟨_, rfl, wpAny_pure h⟩) htake))
theorem pick_list_rev (its : List Value) : slicePick its.toArray none none (some (-1)) = its.reverse.toArray := by
  have h := rev_pick its.toArray
  rw [List.size_toArray] at h
  unfold slicePick sliceRange
  have e1 : (sliceBounds none none (some (-1)) its.toArray.size) = ((its.length : Int) - 1, -1, -1) := by
    rw [List.size_toArray]; rfl
  rw [e1]
  have e2 : (if (-1 : Int) > 0 then (if ((its.length : Int) - 1) < (-1) then ((-1) - ((its.length : Int) - 1) + (-1) - 1) / (-1) else 0) else (if ((its.length : Int) - 1) > (-1) then (((its.length : Int) - 1) - (-1) - (-1) - 1) / (-(-1)) else 0) : Int).toNat = its.length := by
    rw [if_neg (by decide), show (-(-1 : Int)) = 1 from rfl]
    simp only [Int.ediv_one]
    split <;> omega
  show ((((List.range _).map _).filterMap _) : List Value).toArray = _
  rw [e2, List.filterMap_map]
  congr 1
  have h2 : its.toArray.toList.reverse = its.reverse := rfl
  rw [← h2, ← h]
  congr 1
  funext k
  show its.toArray[((its.length : Int) - 1 + (-1) * (k : Int)).toNat]? = its.toArray[((its.length : Int) - 1 + (k : Int) * (-1)).toNat]?
  rw [Int.mul_comm]
end
section
variable {X : Cx} {e : Expr} {te : TE} {p2 pos p3 p4 : Pos} {kk : Nat}
def tRevS (K : PySem.W.Frag) (te : TE) : TE := fun σ H Q => te σ H fun x H1 => ∃ a xs, x = .ref a ∧ ((SqL K H1 a xs ∧ ∀ p, H1 p = none → Q (.ref p) (upd H1 p (.lst xs.reverse))) ∨ (SqT K H1 a xs ∧ ∀ p, H1 p = none → Q (.ref p) (upd H1 p (.tup xs.reverse))))
theorem vals_rev : ∀ {xs : List V} {us : List Value}, Vals xs us → Vals xs.reverse us.reverse
  | _, _, .nil => .nil
  | _, _, .cons r t => by
    rw [List.reverse_cons, List.reverse_cons]
    exact (vals_rev t).append (.cons r .nil)
theorem pe_revS (he : PE X e te) : PE X (.Subscript e (.Slice none none (some (.UnaryOp .USub (.Constant (.int 1) kk p3) p4)) p2) pos) (tRevS X.K te) := by
  refine ⟨fun pins s σ H Q I h => ?_⟩
  refine Subscript_ (thn (he.run pins s σ H _ I h) fun v s1 ⟨x, H1, I1, r1, a, xs, ex, q1⟩ => ?_)
  subst ex
  cases r1
  refine wpAny_Slice ?_
  rw [evalPart_none]
  refine wpAny_pure ?_
  refine wpAny_pure ?_
  rw [evalPart_some]
  refine thn ((pe_un (X := X) un_neg (pe_int (X := X) (i := 1) (j := kk) (pos := p3)) (pos := p4)).run pins s1 σ H1 (fun y H2 => y = .int (-1) ∧ H2 = H1) I1 ⟨1, rfl, rfl, rfl⟩) fun vs s3 ⟨y, H2, I3, ry, e1, e2⟩ => ?_
  subst e1 e2
  obtain ⟨k, rfl⟩ := ry
  have I4 : Inv X pins σ H2 { s3 with heap := s3.heap.push { cls := .type "slice", data := .fields #[.none, .none, .int (-1) k] } } := I3.kept (t' := s3.toks) fun b ob q => Heap.get?_push_of_some _ q
  have hs : (s3.heap.push { cls := .type "slice", data := .fields #[.none, .none, .int (-1) k] }).IsSliceOf s3.heap.objs.size .none .none (.int (-1) k) := Heap.IsSliceOf.new ..
  show wpAny (model X.prog X.w) X.A (subscriptTail e (.Slice none none (some (.UnaryOp .USub (.Constant (.int 1) kk p3) p4)) p2) (.ref a) (.ref s3.heap.objs.size)) (EP X pins σ Q) X.xe { s3 with heap := s3.heap.push { cls := .type "slice", data := .fields #[.none, .none, .int (-1) k] } }
  rcases q1 with ⟨hx, q⟩ | ⟨hx, q⟩
  · obtain ⟨its, r, ht, hz⟩ := I4.list hx
    have hlen := r.length
    refine tail_any (ops := [.ref a, .ref s3.heap.objs.size]) ht.isList.typeIs slot_list_getitem.lookup ?_ (by with_unfolding_all rfl)
    refine wpAny_getItem_list_slice ht.isList hs .none .none (st := some (-1)) (.int (-1) k) (by simp) ?_ (by rw [List.size_toArray] <;> omega)
    rw [pick_list_rev]
    refine ⟨.ref _, _, I4.laid (t' := s3.toks) (o := .lst xs.reverse) (fun b ob q => Heap.get?_push_of_some _ q) (Nat.le_refl _) ?_, rfl, q _ (I4.hok.fresh (Nat.le_refl _))⟩
    exact ⟨by rw [List.length_reverse]; exact hz, _, 0, vals_rev r, Heap.get?_push_size _ rfl⟩
  · obtain ⟨its, r, ht, hz⟩ := I4.tuple hx
    have hlen := r.length
    refine tail_any (ops := [.ref a, .ref s3.heap.objs.size]) ht.typeIs PyProof.Rows.slot_tuple_getitem.lookup ?_ (by with_unfolding_all rfl)
    refine getItem_tuple_rev ht hs ?_ (by rw [List.size_toArray]; omega)
    refine ⟨.ref _, _, I4.laid (t' := s3.toks) (o := .tup xs.reverse) (fun b ob q => Heap.get?_push_of_some _ q) (Nat.le_refl _) ?_, rfl, q _ (I4.hok.fresh (Nat.le_refl _))⟩
    exact ⟨by rw [List.length_reverse]; exact hz, _, vals_rev r, IsTup.new _ _⟩
end
section
variable {m : Type → Type} [Mn m] {α : Type} {X : Cx} {M : Bool} {ρ : List Slot} {E : α → D} {a : Expr} {p2 pos p3 p4 : Pos} {kk : Nat}
theorem JE.revT {wa : m (List α)} (ha : JE X M a ρ (eT E) wa) : JE X M (.Subscript a (.Slice none none (some (.UnaryOp .USub (.Constant (.int 1) kk p3) p4)) p2) pos) ρ (eT E) (bd wa fun xs => rt xs.reverse) :=
  ⟨⟨pe_weak (pe_revS ha.b.pe) fun σ H Q ⟨sr, O, H0, ad, he, hw⟩ => ⟨sr, O, H0, ad, he, by
      have hw := le1 (f := fun xs : List α => rt (m := m) xs.reverse) (g := fun xs => Wp.pure xs.reverse) (fun _ => lep) _ hw
      refine (Mn.wp wa).mono (fun xs q v H1 x1 r => ?_) hw
      obtain ⟨p, vs, rfl, hs, rs⟩ := r.seqT
      refine ⟨p, vs, rfl, .inr ⟨hs, fun d hd => q _ _ (x1.trans (Ext.new x1.srs hd)) (.t (.inl (.inl upd_same)) ?_)⟩⟩
      rw [List.map_reverse]
      exact rs.reverse.ext (Ext.new x1.srs hd) (he.sOM M)⟩⟩⟩
theorem JL.revL {wa : m (List α)} (ha : JE X M a ρ (eL E) wa) : JL X M (.Subscript a (.Slice none none (some (.UnaryOp .USub (.Constant (.int 1) kk p3) p4)) p2) pos) ρ E (bd wa fun xs => rt xs.reverse) :=
  ⟨⟨pe_weak (pe_revS ha.b.pe) fun σ H Q ⟨sr, O, H0, ad, he, hw⟩ => ⟨sr, O, H0, ad, he, by
      have hw := le1 (f := fun xs : List α => rt (m := m) xs.reverse) (g := fun xs => Wp.pure xs.reverse) (fun _ => lep) _ hw
      refine (Mn.wp wa).mono (fun xs q v H1 x1 r => ?_) hw
      obtain ⟨p, vs, rfl, hs, _, rs⟩ := r.seqL
      refine ⟨p, vs, rfl, .inl ⟨.inl (.inl hs), fun d hd => q d _ _ (x1.back hd) (x1.trans (Ext.new x1.srs hd)) upd_same ?_⟩⟩
      rw [List.map_reverse]
      exact ((rs.reverse.fresh hd).ext (Ext.new x1.srs hd) (fun S hS => .inl (he.sOM M S hS)))⟩⟩⟩
end
end Wk

namespace Wk
open PySem PySem.Spec PyProof.Rows L2
/-! ### t * n, any n -/
theorem tuple_mul0 (l : Addr) (items : Array Value) (n : Nat) (dd : Option Addr) (sl : Array (Option Value)) (x : Int) (u : Tok) (c0 : (decide (x < -(2 ^ 63)) || decide (x ≥ 2 ^ 63)) = false) (c1 : (items.isEmpty || x == 1) = false) (c2 : (decide (x ≤ 0) || items.isEmpty) = true) :
    Meets (Builtin.«tuple.__mul__» ⟨[.ref l, .int x u], []⟩) (fun _ R s => s.heap.get? l = some { cls := .type "tuple", dict := dd, data := .seq items n, slots := sl } ∧
      R (.ok (.ret (Value.ref s.heap.objs.size))) { s with heap := s.heap.push { cls := Value.type "tuple", data := Data.seq #[] }, toks := s.toks }) :=
  .of_wp fun prog w A R s h => by
    obtain ⟨hp, g, d, tk, os⟩ := s
    obtain ⟨hl, h⟩ := h
    have f1 := AutoSeq1.idx_int
    wp_walk using wpAny_loadPart' hl
    repeat (first
      | (refine wpAny_ite_false (decide_eq_false (by rw [c0]; exact Bool.false_ne_true)) ?_; wp_walk using wpAny_loadPart' hl)
      | (refine wpAny_ite_false (decide_eq_false (by rw [c1]; exact Bool.false_ne_true)) ?_; wp_walk using wpAny_loadPart' hl)
      | (rw [if_pos c2]; wp_walk using wpAny_loadPart' hl))
    exact ⟨_, rfl, h⟩
theorem tuple_mul1 (l : Addr) (items : Array Value) (n : Nat) (dd : Option Addr) (sl : Array (Option Value)) (x : Int) (u : Tok) (c0 : (decide (x < -(2 ^ 63)) || decide (x ≥ 2 ^ 63)) = false) (c1 : (items.isEmpty || x == 1) = true) :
    Meets (Builtin.«tuple.__mul__» ⟨[.ref l, .int x u], []⟩) (fun _ R s => s.heap.get? l = some { cls := .type "tuple", dict := dd, data := .seq items n, slots := sl } ∧
      R (.ok (.ret (Value.ref l))) s) :=
  .of_wp fun prog w A R s h => by
    obtain ⟨hp, g, d, tk, os⟩ := s
    obtain ⟨hl, h⟩ := h
    have f1 := AutoSeq1.idx_int
    wp_walk using wpAny_loadPart' hl
    repeat (first
      | (refine wpAny_ite_false (decide_eq_false (by rw [c0]; exact Bool.false_ne_true)) ?_; wp_walk using wpAny_loadPart' hl)
      | (rw [if_pos c1]; wp_walk using wpAny_loadPart' hl))
    exact ⟨_, rfl, h⟩
def rRepA (K : PySem.W.Frag) : R2 := fun x y H Q => ∃ l k xs, x = .ref l ∧ y = .int k ∧ SqT K H l xs ∧ -(2 ^ 63) ≤ k ∧ k < 2 ^ 63 ∧ xs.length * k.toNat ≤ 16777216 ∧
  (xs = [] ∨ k = 1 → Q (.ref l) H) ∧ (¬ (xs = [] ∨ k = 1) → ∀ p, H p = none → Q (.ref p) (upd H p (.tup (List.replicate k.toNat xs).flatten)))
section
variable {X : Cx}
theorem op_repA : OpR X (binaryOp .Mult) (rRepA X.K) := by
  intro pins s σ H x y v u Q I rx ry h
  obtain ⟨l, k, xs, rfl, rfl, hT, h1, h2, hz, q1, q2⟩ := h
  cases rx
  obtain ⟨t, rfl⟩ := ry
  obtain ⟨its, r, ⟨⟨cls, dd, data, sl⟩, ho, hc, n, hd⟩, hs⟩ := I.tuple hT
  simp only at hc hd
  subst hc hd
  have hle : its.length = xs.length := r.length.symm
  have hsz0 : its.toArray.size = xs.length := by rw [List.size_toArray, hle]
  have c0 : (decide (k < -(2 ^ 63)) || decide (k ≥ 2 ^ 63)) = false := by
    rw [decide_eq_false (by omega), decide_eq_false (by omega)] <;> rfl
  have emp : its.toArray.isEmpty = true ↔ xs = [] := by
    rw [Array.isEmpty_iff_size_eq_zero, hsz0]
    exact List.length_eq_zero_iff
  refine wpAny_binaryOp_repeat_ref (T := "tuple") (U := "int") (by decide) ⟨_, ho, rfl⟩ (fun s' => typeIs_int s' k t) noFill_tuple_mul F.fills_int_mul F.slot_int_rmul repeat_tuple F.slot_int_index.lookup
    (call_meets F.slot_int_rmul (typeIs_int s k t) F.entry_int_rmul (F.args_int_rmul_2 _ _) (int_rmul_tuple k t l its.toArray n dd sl)
      ⟨ho, rfl, ⟨_, ho, rfl⟩, ?_⟩)
  by_cases he : xs = [] ∨ k = 1
  · have c1 : (its.toArray.isEmpty || k == 1) = true := by
      rcases he with he | he
      · rw [emp.mpr he]; rfl
      · rw [he, Bool.or_comm]; rfl
    exact call_meets F.slot_tuple_mul ⟨_, ho, rfl⟩ F.entry_tuple_mul (F.args_tuple_mul_2 _ _) (tuple_mul1 l its.toArray n dd sl k t c0 c1) ⟨ho, .ref l, H, I, rfl, q1 he⟩
  · have hi : its.toArray.isEmpty = false := by
      cases hb : its.toArray.isEmpty with
      | false => rfl
      | true => exact absurd (.inl (emp.mp hb)) he
    have c1 : (its.toArray.isEmpty || k == 1) = false := by
      rw [hi, Bool.false_or]
      exact beq_eq_false_iff_ne.mpr fun z => he (.inr z)
    by_cases hk : k ≤ 0
    · have c2 : (decide (k ≤ 0) || its.toArray.isEmpty) = true := by rw [decide_eq_true hk]; rfl
      have e0 : k.toNat = 0 := by omega
      have q2 := q2 he
      rw [e0] at q2
      refine call_meets F.slot_tuple_mul ⟨_, ho, rfl⟩ F.entry_tuple_mul (F.args_tuple_mul_2 _ _) (tuple_mul0 l its.toArray n dd sl k t c0 c1 c2) ⟨ho, ?_⟩
      refine ⟨.ref s.heap.objs.size, _, I.laid (t' := s.toks) (o := .tup []) (fun b ob q => Heap.get?_push_of_some _ q) (Nat.le_refl _) ?_, rfl, q2 _ (I.hok.fresh (Nat.le_refl _))⟩
      exact ⟨Nat.zero_le _, [], .nil, IsTup.new _ _⟩
    · have c2 : (decide (k ≤ 0) || its.toArray.isEmpty) = false := by
        rw [hi, Bool.or_false]
        exact decide_eq_false (by omega)
      have hm : ((its.toArray.size : Nat) : Int) * k ≤ 16777216 := by
        rw [hsz0]
        have e : k = (k.toNat : Int) := by omega
        rw [e, ← Int.natCast_mul]
        omega
      have flen : (List.replicate k.toNat its).flatten.length ≤ sizeLine := by
        rw [PyProof.Rows.lm_len_rep_flat, hle, sizeLine_eq, Nat.mul_comm]
        omega
      have c4 : Builtin.Tuple.tupleTooMany (((its.toArray.size : Nat) : Int) * k) = false := by
        unfold Builtin.Tuple.tupleTooMany
        rw [sizeLine_eq]
        exact decide_eq_false (by omega)
      refine call_meets F.slot_tuple_mul ⟨_, ho, rfl⟩ F.entry_tuple_mul (F.args_tuple_mul_2 _ _) (tuple_mulW l its.toArray n dd sl k t c0 c1 c2 (by omega) c4 (by rw [size_rep, List.size_toArray]; exact flen)) ⟨ho, ?_⟩
      rw [size_rep]
      refine ⟨.ref s.heap.objs.size, _, I.laid (t' := s.toks) (o := .tup (List.replicate k.toNat xs).flatten) (fun b ob q => Heap.get?_push_of_some _ q) (Nat.le_refl _) ?_, rfl, q2 he _ (I.hok.fresh (Nat.le_refl _))⟩
      exact ⟨by rw [PyProof.Rows.lm_len_rep_flat, sizeLine_eq, Nat.mul_comm]; omega, _, r.rep k.toNat, IsTup.new _ _⟩
end
section
variable {m : Type → Type} [Mn m] {α : Type} {X : Cx} {M : Bool} {ρ : List Slot} {E : α → D} {a b : Expr} {pos : Pos}
theorem JE.repT {wa : m (List α)} {wb : m Int} (ha : JE X M a ρ (eT E) wa) (hb : JE X false b ρ eI wb) : JE X M (.BinOp a .Mult b pos) ρ (eT E) (bd wa fun xs => bd wb fun n => lf (repO xs n)) :=
  ⟨⟨pe_weak (pe_op op_repA ha.b.pe hb.b.pe) fun σ H Q ⟨sr, O, H0, ad, he, hw⟩ => ⟨sr, O, H0, ad, he, by
      have hw := le2 (f := fun xs n => lf (m := m) (repO xs n)) (g := fun xs n => Wp.guard (-(2 ^ 63) ≤ n ∧ n < 2 ^ 63 ∧ xs.length * n.toNat ≤ 16777216) (List.replicate n.toNat xs).flatten) (fun _ _ => leg) _ hw
      refine (Mn.wp wa).mono (fun xs q v H1 x1 r => ⟨sr, O, H0, ad, he.ext' x1, (Mn.wp wb).mono (fun n q2 v2 H2 x2 r2 => ?_) q⟩) hw
      obtain ⟨⟨h1, h2, h3⟩, q2⟩ := q2
      cases r2
      obtain ⟨p, vs, rfl, hs, rs⟩ := (r.ext x2 (he.sOM M)).seqT
      have hl : vs.length = xs.length := by rw [rs.length, List.length_map]
      refine ⟨p, n, vs, rfl, rfl, hs, h1, h2, by rw [hl]; exact h3, fun hz => ?_, fun hz d hd => q2 _ _ ((x1.trans x2).trans (Ext.new x2.srs hd)) (.t (.inl (.inl upd_same)) ?_)⟩
      · refine q2 _ H2 (x1.trans x2) ?_
        rcases hz with hz | hz
        · have e : xs = [] := List.eq_nil_of_length_eq_zero (by rw [← hl, hz]; rfl)
          subst e
          rw [hz] at hs
          have e2 : (List.replicate n.toNat ([] : List α)).flatten = [] := by simp
          rw [e2]
          exact .t hs .nil
        · subst hz
          have e2 : (List.replicate (1 : Int).toNat xs).flatten = xs := by simp [List.replicate]
          rw [e2]
          exact .t hs rs
      · rw [List.map_flatten, List.map_replicate]
        exact (rs.rep n.toNat).ext (Ext.new x2.srs hd) (he.sOM M)⟩⟩⟩
end
end Wk

namespace Wk
open PySem PySem.Spec PyProof.Rows L2
theorem hu65 {k : Nat} {A : Around} (r : Room k A) : A.units + 65 < cLine := by have := r.un; omega
/-! ### x in a list or tuple of data -/
def rInQ (K : PySem.W.Frag) (neg : Bool) : R2 := fun x y H Q => ∃ d ds, Dp K H x d ∧ (Dp K H y (.list ds) ∨ Dp K H y (.tuple ds)) ∧ SeqAt.shaped d = true ∧ SeqAt.shaped (.list ds) = true ∧ Q (.bl (if neg then !(ds.any fun z => PyData.eqv z d) else ds.any fun z => PyData.eqv z d)) H
section
variable {X : Cx}
theorem op_inQ (hu : X.A.units + 65 < cLine) : OpR X (compareOp .In) (rInQ X.K false) := by
  intro pins s σ H x y v u Q I rx ry h
  obtain ⟨d, ds, hd, he, sd, se, q⟩ := h
  obtain ⟨as, r1⟩ := Dp.reads I d x v hd rx
  rcases he with he | he
  · obtain ⟨bs, r2⟩ := Dp.reads I (.list ds) y u he ry
    exact SeqAt.in_list_reads r2 r1 (SeqAt.canLay_of_shaped se) (SeqAt.canLay_of_shaped sd) (room_in_shaped sd hu) ⟨.bl _, H, I, rfl, q⟩
  · obtain ⟨bs, r2⟩ := Dp.reads I (.tuple ds) y u he ry
    exact SeqAt.in_tuple_reads r2 r1 (SeqAt.canLay_of_shaped se) (SeqAt.canLay_of_shaped sd) (room_in_shaped sd hu) ⟨.bl _, H, I, rfl, q⟩
theorem op_ninQ (hu : X.A.units + 65 < cLine) : OpR X (compareOp .NotIn) (rInQ X.K true) := by
  intro pins s σ H x y v u Q I rx ry h
  obtain ⟨d, ds, hd, he, sd, se, q⟩ := h
  obtain ⟨as, r1⟩ := Dp.reads I d x v hd rx
  rcases he with he | he
  · obtain ⟨bs, r2⟩ := Dp.reads I (.list ds) y u he ry
    exact SeqAt.notIn_list_reads r2 r1 (SeqAt.canLay_of_shaped se) (SeqAt.canLay_of_shaped sd) (room_in_shaped sd hu) ⟨.bl _, H, I, rfl, q⟩
  · obtain ⟨bs, r2⟩ := Dp.reads I (.tuple ds) y u he ry
    exact SeqAt.notIn_tuple_reads r2 r1 (SeqAt.canLay_of_shaped se) (SeqAt.canLay_of_shaped sd) (room_in_shaped sd hu) ⟨.bl _, H, I, rfl, q⟩
end
section
variable {m : Type → Type} [Mn m] {α : Type} [DecidableEq α] {X : Cx} {M : Bool} {ρ : List Slot} {E : α → D} {a b : Expr} {pos : Pos}
theorem any_mem (f : Fth E) (x : α) : ∀ ys : List α, ((toPys (ys.map E)).any fun z => PyData.eqv z (toPy (E x))) = decide (x ∈ ys)
  | [] => by simp [toPys]
  | y :: ys => by
    rw [List.map_cons, toPys, List.any_cons, any_mem f x ys, f.eq, ← Bool.decide_or]
    congr 1
    rw [List.mem_cons, @eq_comm _ x y]
theorem dp_seq {K : PySem.W.Frag} {mg : Str → Option Value} {O : Addr → Prop} {H : Hp} {v : V} {k : Kd} {xs : List α} (h : Rep K mg O H v (eQ k E xs)) (hf : ∀ x, flatD (E x) = true) : Dp K H v (.list (toPys (xs.map E))) ∨ Dp K H v (.tuple (toPys (xs.map E))) := by
  have hff : flatDs (xs.map E) = true := flat_all _ fun d hd => by
    obtain ⟨x, _, rfl⟩ := List.mem_map.mp hd; exact hf x
  cases k with
  | l => exact .inl (Rep.dp (.l (xs.map E)) v hff h)
  | t => exact .inr (Rep.dp (.t (xs.map E)) v hff h)
variable {wa : m α} {wb : m (List α)} {k : Kd} {n : Nat}
theorem JE.inD (hu : X.A.units + 65 < cLine) (f : Fth E) (sE : Shp E n) (hn : n + 1 ≤ 64) (ha : JE X false a ρ E wa) (hb : JE X false b ρ (eQ k E) wb) (hm : behindInMarks .In b = false := by rfl) : JE X M (.Compare a [.In] [b] pos) ρ eB (bd wa fun x => bd wb fun y => rt (decide (x ∈ y))) :=
  ⟨⟨pe_weak (pe_cmpR (op_inQ hu) ha.b.pe hb.b.pe hm) fun σ H Q ⟨sr, O, H0, ad, he, hw⟩ => ⟨sr, O, H0, ad, he, by
      have hw := le2 (f := fun x y => rt (m := m) (decide (x ∈ y))) (g := fun x y => Wp.pure (decide (x ∈ y))) (fun _ _ => lep) _ hw
      refine (Mn.wp wa).mono (fun x q v H1 x1 r => ⟨sr, O, H0, ad, he.ext' x1, (Mn.wp wb).mono (fun y q2 v2 H2 x2 r2 => ?_) q⟩) hw
      refine ⟨_, _, (r.ext x2 he.sO).dp _ _ (sE.flat x), dp_seq r2 sE.flat, sE.shaped (by omega) x, (shp_Q (k := .l) sE).shaped hn y, ?_⟩
      rw [if_neg (by decide), any_mem f]
      exact q2 _ H2 (x1.trans x2) (.b _)⟩⟩⟩
theorem JE.ninD (hu : X.A.units + 65 < cLine) (f : Fth E) (sE : Shp E n) (hn : n + 1 ≤ 64) (ha : JE X false a ρ E wa) (hb : JE X false b ρ (eQ k E) wb) (hm : behindInMarks .NotIn b = false := by rfl) : JE X M (.Compare a [.NotIn] [b] pos) ρ eB (bd wa fun x => bd wb fun y => rt (!decide (x ∈ y))) :=
  ⟨⟨pe_weak (pe_cmpR (op_ninQ hu) ha.b.pe hb.b.pe hm) fun σ H Q ⟨sr, O, H0, ad, he, hw⟩ => ⟨sr, O, H0, ad, he, by
      have hw := le2 (f := fun x y => rt (m := m) (!decide (x ∈ y))) (g := fun x y => Wp.pure (!decide (x ∈ y))) (fun _ _ => lep) _ hw
      refine (Mn.wp wa).mono (fun x q v H1 x1 r => ⟨sr, O, H0, ad, he.ext' x1, (Mn.wp wb).mono (fun y q2 v2 H2 x2 r2 => ?_) q⟩) hw
      refine ⟨_, _, (r.ext x2 he.sO).dp _ _ (sE.flat x), dp_seq r2 sE.flat, sE.shaped (by omega) x, (shp_Q (k := .l) sE).shaped hn y, ?_⟩
      rw [if_pos rfl, any_mem f]
      exact q2 _ H2 (x1.trans x2) (.b _)⟩⟩⟩
theorem JT.inD (hu : X.A.units + 65 < cLine) (f : Fth E) (sE : Shp E n) (hn : n + 1 ≤ 64) (ha : JE X false a ρ E wa) (hb : JE X false b ρ (eQ k E) wb) (hm : behindInMarks .In b = false := by rfl) : JT X (.Compare a [.In] [b] pos) ρ (bd wa fun x => bd wb fun y => rt (decide (x ∈ y))) :=
  ⟨⟨pt_weak (pt_cmpR (op_inQ hu) ha.b.pe hb.b.pe hm) fun σ H Q ⟨sr, O, H0, ad, he, hw⟩ => ⟨sr, O, H0, ad, he, by
      have hw := le2 (f := fun x y => rt (m := m) (decide (x ∈ y))) (g := fun x y => Wp.pure (decide (x ∈ y))) (fun _ _ => lep) _ hw
      refine (Mn.wp wa).mono (fun x q v H1 x1 r => ⟨sr, O, H0, ad, he.ext' x1, (Mn.wp wb).mono (fun y q2 v2 H2 x2 r2 => ?_) q⟩) hw
      refine ⟨_, _, (r.ext x2 he.sO).dp _ _ (sE.flat x), dp_seq r2 sE.flat, sE.shaped (by omega) x, (shp_Q (k := .l) sE).shaped hn y, ?_⟩
      rw [if_neg (by decide), any_mem f]
      exact ⟨_, rfl, q2 H2 (x1.trans x2)⟩⟩⟩⟩
theorem JT.ninD (hu : X.A.units + 65 < cLine) (f : Fth E) (sE : Shp E n) (hn : n + 1 ≤ 64) (ha : JE X false a ρ E wa) (hb : JE X false b ρ (eQ k E) wb) (hm : behindInMarks .NotIn b = false := by rfl) : JT X (.Compare a [.NotIn] [b] pos) ρ (bd wa fun x => bd wb fun y => rt (!decide (x ∈ y))) :=
  ⟨⟨pt_weak (pt_cmpR (op_ninQ hu) ha.b.pe hb.b.pe hm) fun σ H Q ⟨sr, O, H0, ad, he, hw⟩ => ⟨sr, O, H0, ad, he, by
      have hw := le2 (f := fun x y => rt (m := m) (!decide (x ∈ y))) (g := fun x y => Wp.pure (!decide (x ∈ y))) (fun _ _ => lep) _ hw
      refine (Mn.wp wa).mono (fun x q v H1 x1 r => ⟨sr, O, H0, ad, he.ext' x1, (Mn.wp wb).mono (fun y q2 v2 H2 x2 r2 => ?_) q⟩) hw
      refine ⟨_, _, (r.ext x2 he.sO).dp _ _ (sE.flat x), dp_seq r2 sE.flat, sE.shaped (by omega) x, (shp_Q (k := .l) sE).shaped hn y, ?_⟩
      rw [if_pos rfl, any_mem f]
      exact ⟨_, rfl, q2 H2 (x1.trans x2)⟩⟩⟩⟩
end
end Wk

namespace Wk
open PySem PySem.Spec PyProof.Rows L2
/-! ### the truth of a list, of a tuple -/
section
variable {X : Cx} {e : Expr} {te : TE}
def tSeqT (K : PySem.W.Frag) (te : TE) : TT := fun σ H Q => te σ H fun x H1 => ∃ a xs, x = .ref a ∧ (SqL K H1 a xs ∨ SqT K H1 a xs) ∧ Q (!xs.isEmpty) H1
theorem pt_seq (h : PE X e te) (he : ∀ whole, isTrue e X.env whole = (do let v ← whole; standAt e.pos; holding [v] (truthy v)) := by intro _; rfl) : PT X e (tSeqT X.K te) := by
  refine ⟨fun pins s σ H Q I hw => ?_⟩
  refine isTrue_plain (thn (h.run pins s σ H _ I hw) fun v s1 ⟨x, H1, I1, r1, a, xs, ex, hq, q⟩ => ?_) (he _)
  subst ex
  cases r1
  have key : ∀ its : List Value, Vals xs its → its.toArray.isEmpty = xs.isEmpty := fun its r => by cases r <;> rfl
  rcases hq with hq | hq
  · obtain ⟨its, r, pl, hz⟩ := I1.list hq
    have hl := r.length
    refine wpAny_truthy_list pl.isList (by rw [List.size_toArray]; rw [sizeLine_eq] at hz; omega) ⟨H1, I1.kept (t' := s1.toks + 1 + 1) fun b o e => e, ?_⟩
    rw [key its r]; exact q
  · obtain ⟨its, r, pl, hz⟩ := I1.tuple hq
    have hl := r.length
    refine truthy_tuple pl (by rw [List.size_toArray]; rw [sizeLine_eq] at hz; omega) ⟨H1, I1.kept (t' := s1.toks + 1 + 1) fun b o e => e, ?_⟩
    rw [key its r]; exact q
end
section
variable {m : Type → Type} [Mn m] {α : Type} {X : Cx} {M : Bool} {ρ : List Slot} {E : α → D} {a : Expr} {p pos : Pos}
theorem JT.ne0 {k : Kd} {wa : m (List α)} (ha : JE X false a ρ (eQ k E) wa) (he : ∀ whole, isTrue a X.env whole = (do let v ← whole; standAt a.pos; holding [v] (truthy v)) := by intro _; rfl) : JT X a ρ (bd wa fun xs => rt (!xs.isEmpty)) :=
  ⟨⟨pt_weak (pt_seq ha.b.pe he) fun σ H Q ⟨sr, O, H0, ad, he, hw⟩ => ⟨sr, O, H0, ad, he, by
      have hw := le1 (f := fun xs : List α => rt (m := m) (!xs.isEmpty)) (g := fun xs => Wp.pure (!xs.isEmpty)) (fun _ => lep) _ hw
      refine (Mn.wp wa).mono (fun xs q v H1 x1 r => ?_) hw
      obtain ⟨p, vs, rfl, hs, rs⟩ := r.seq
      refine ⟨p, vs, rfl, hs, ?_⟩
      have : vs.isEmpty = xs.isEmpty := by
        have := rs.length
        rw [List.length_map] at this
        cases vs <;> cases xs <;> simp_all
      rw [this]
      exact q H1 x1⟩⟩⟩
end
/-! ### sum of a tuple -/
section
variable {prog : Program} {w : World} {A : Around} {E : Value → Shared → Prop} {s : Shared} {l : Addr} {its : List Value} {ns : List Int} {Q : Value → Shared → Prop}
theorem sum_rawT (hh : A.handled = none) (hl : IsTup s.heap l its.toArray) (hi : IntsAre its ns)
    (h : ∀ h' tk t', (∀ b o, s.heap.get? b = some o → h'.get? b = some o) → Q (.int ns.sum t') { s with heap := h', toks := tk }) : wpAny (model prog w) A (call (.builtin "sum") [.ref l]) Q E s := by
  obtain ⟨xs, e⟩ := hi.allInts.items
  have hn : numsOf (intItems xs).toList = ns := by rw [← e]; exact hi.numsOf
  rw [nums_intItems] at hn
  rw [e] at hl
  have hlt : l < s.heap.objs.size := by obtain ⟨_, e, _⟩ := hl; exact Heap.lt_size e
  refine call_sum_walkG (wpAny_pyIter_tuple hl ⟨_, [s.heap.objs.size, l], _, _, _, _, numAt xs, rfl, Walks.tuple (A := A.in1) hh s.heap.objs.size l (Nat.ne_of_lt hlt) (intItems xs), ⟨⟨_, Heap.get?_push_size _ rfl, rfl, rfl⟩, hl.keeps fun b o e => Heap.get?_push_of_some _ e⟩, fun b hb => ?_, (fun _ _ => intItems_at), fun h' tk t' hk => ?_⟩)
  · show b < (s.heap.push _).objs.size
    rw [Heap.size_push]
    rcases List.mem_cons.mp hb with rfl | hb
    · exact Nat.lt_succ_self _
    · rcases List.mem_cons.mp hb with rfl | hb
      · exact Nat.lt_succ_of_lt hlt
      · cases hb
  · have := h h' tk t' fun b o eo => hk b o (fun hmem => by
      rcases List.mem_cons.mp hmem with e1 | hmem
      · exact absurd (e1 ▸ Heap.lt_size eo) (Nat.lt_irrefl _)
      · cases hmem) (Heap.get?_push_of_some _ eo)
    have e3 : preSum (numAt xs) xs.size = ns.sum := by rw [preSum_eq, List.take_of_length_le (by simp), hn]
    have e4 : (intItems xs).size = xs.size := by simp [intItems]
    rw [e4, e3]; exact this
end
def rSumT (K : PySem.W.Frag) : List V → Hp → VK → Prop := fun vs H Q => ∃ (a : Addr) (ns : List Int), vs = [V.ref a] ∧ SqT K H a (ns.map V.int) ∧ Q (.int ns.sum) H
theorem cr_sumT {X : Cx} (hc : X.calm = true) : CallR X (.builtin "sum") (rSumT X.K) := by
  intro pins s σ H vs us Q I r h
  obtain ⟨a, ns, rfl, hs, q⟩ := h
  obtain ⟨its, rv, hl, _⟩ := I.tuple hs
  rw [Vals.ref1 r]
  exact sum_rawT (I.ok.hd hc) hl rv.ints fun h' tk t' hk => ⟨.int _, H, I.kept hk, ⟨_, rfl⟩, q⟩
section
variable {m : Type → Type} [Mn m] {α : Type} {X : Cx} {M : Bool} {ρ : List Slot} {a : Expr} {p pos : Pos}
theorem JE.sumT {wa : m (List Int)} (hc : X.calm = true) (hg : Gl X "sum") (hm : X.mg "sum" = none) (ha : JE X false a ρ (eT eI) wa) (hs : St1 X a := by rfl) : JE X M (.Call (.Name "sum" p) [a] [] pos) ρ eI (bd wa fun xs => rt xs.sum) :=
  (JE.fn1p (M := false) (E := eT eI) (fun xs : List Int => xs.sum) (fun ta hta => pe_callB (cr_sumT hc) hg hm (by decide +kernel) hta (by decide) (by decide) hs rfl) (fun O H v xs r Q q => by
    obtain ⟨p, vs, rfl, hs, rs⟩ := r.seqT
    have rs : Reps X.K X.mg O H vs (xs.map D.i) := rs
    rw [rs.ints] at hs
    exact ⟨p, xs, rfl, hs, q _ (.i _)⟩ ) ha hs).up pure_I
end
/-! ### enumerate(tuple) -/
theorem meets_enumerate_newT (l : Addr) (items : Array Value) (n : Nat) (dct : Option Addr) (sl : Array (Option Value)) :
    Meets (Builtin.«enumerate.__new__» ⟨[.type "enumerate", .ref l], []⟩) (fun _ R s => s.heap.get? l = some { cls := .type "tuple", dict := dct, data := .seq items n, slots := sl } ∧
      R (.ok (.ret (.ref (s.heap.push { cls := .type "tuple_iterator", data := .fields #[.ref l, .int 0 0] }).objs.size)))
        { s with heap := (s.heap.push { cls := .type "tuple_iterator", data := .fields #[.ref l, .int 0 0] }).push { cls := .type "enumerate", data := .fields #[.none, .bool false, .ref s.heap.objs.size, rawInt 0, .none, .none] } }) :=
  .of_wp fun prog w A R s h => by
    obtain ⟨hp, g, d, tk, os⟩ := s; obtain ⟨hl, h⟩ := h
    have hsub := sub_enumerate
    have hL : Heap.IsTuple (Shared.heap ⟨hp, g, d, tk, os⟩) l items := ⟨_, hl, rfl, n, rfl⟩
    have q1 : ∀ {A' : Around} {E : Value → Shared → Prop} {Q : Value → Shared → Prop}, Q (.ref hp.objs.size) ⟨hp.push { cls := .type "tuple_iterator", data := .fields #[.ref l, .int 0 0] }, g, d, tk, os⟩ → wpAny (model prog w) A' (pyIter (.ref l)) Q E ⟨hp, g, d, tk, os⟩ :=
      fun q => wpAny_pyIter_tuple hL q
    wp_walk using wpAny_loadPart' hl, q1
    refine wpAny_stack_any fun st => wpAny_pure ?_
    split
    · rename_i c _ _ _ _ _
      cases (c == Value.type "enumerate")
      · wp_walk using wpAny_loadPart' hl, q1
        exact ⟨_, rfl, h⟩
      · wp_walk using wpAny_loadPart' hl, q1
        exact ⟨_, rfl, h⟩
    · wp_walk using wpAny_loadPart' hl, q1
      exact ⟨_, rfl, h⟩
section
variable {prog : Program} {w : World} {A : Around} {E : Value → Shared → Prop} {s : Shared}
theorem call_enumerate_tuple {l : Addr} {items : Array Value} {Q : Value → Shared → Prop} (hL : s.heap.IsTuple l items)
    (h : ∀ h', IsEnum h' (s.heap.objs.size + 1) s.heap.objs.size 0 .none → h'.IsTupleIter s.heap.objs.size l 0 → h'.objs.size = s.heap.objs.size + 2 →
      (∀ b o, s.heap.get? b = some o → h'.get? b = some o) → Q (.ref (s.heap.objs.size + 1)) { s with heap := h' }) :
    wpAny (model prog w) A (call (.type "enumerate") [.ref l]) Q E s := by
  obtain ⟨⟨c, dct, dt, sl⟩, hl, hc, n, hd⟩ := hL
  replace hc : c = .type "tuple" := hc
  replace hd : dt = .seq items n := hd
  subst hc hd
  refine callType_new F.called_enumerate (by decide) (F.typeCall_enumerate_1 _) (F.newCall_enumerate_1 _) (fun obj => F.args_object_init_2 obj _) F.entry_enumerate_new
    (meets_enumerate_newT l items n dct sl) ⟨hl, ?_⟩
  have hz : (s.heap.push { cls := .type "tuple_iterator", data := .fields #[.ref l, .int 0 0] }).objs.size = s.heap.objs.size + 1 := Heap.size_push ..
  show _ ∧ _
  rw [hz]
  have he : IsEnum ((s.heap.push { cls := .type "tuple_iterator", data := .fields #[.ref l, .int 0 0] }).push
      { cls := .type "enumerate", data := .fields #[.none, .bool false, .ref s.heap.objs.size, rawInt 0, .none, .none] }) (s.heap.objs.size + 1) s.heap.objs.size 0 .none := by
    have := Heap.get?_push_size (s.heap.push { cls := .type "tuple_iterator", data := .fields #[.ref l, .int 0 0] })
      (o := { cls := .type "enumerate", data := .fields #[.none, .bool false, .ref s.heap.objs.size, rawInt 0, .none, .none] }) rfl
    rw [hz] at this; exact this
  refine ⟨⟨_, he, rfl⟩, h _ he ⟨_, Heap.get?_push_of_some _ (Heap.get?_push_size _ rfl), rfl, rfl⟩ (by rw [Heap.size_push, hz]) fun b o x => Heap.get?_push_of_some _ (Heap.get?_push_of_some _ x)⟩
end
theorem wpAny_pyNext_enum_endT {prog : Program} {w : World} {A : Around} {E : Value → Shared → Prop} {s : Shared} {e it a : Addr} {items : Array Value} {j : Nat} {i : Int} {old : Value} {Q : Option Value → Shared → Prop}
    (hh : A.handled = none) (he : IsEnum s.heap e it i old) (hit : s.heap.IsTupleIter it a j) (hp : s.heap.IsTuple a items) (hn : items[j]? = none)
    (hQ : ∀ h', Heap.ExtBut it s.heap h' → Q none { s with heap := h' }) : wpAny (model prog w) A (pyNext (.ref e)) Q E s := by
  have hT : s.TypeIs (.ref e) "enumerate" := ⟨_, he, rfl⟩
  unfold pyNext
  refine wpAny_bind (wpAny_attempt (wpAny_callSpecial?_slot (name := Str.ofString "__next__") hT F.slot_enumerate_next
    (wpAny_call_entry F.slot_enumerate_next hT F.entry_enumerate_next ?_ (F.args_enumerate_next_1 _))))
  show wpAny _ _ (field (.ref e) 2 >>= _) _ _ _
  refine wpAny_bind (wpAny_field he rfl (x := .ref it) rfl ?_)
  refine wpAny_bind (wpAny_nextOf_tuple_end hh hit hp hn fun h' x he' hx' => ?_)
  obtain ⟨o, ho, hc⟩ := hx'
  refine wpAny_bind (wpAny_isInstance (T := "StopIteration") (b := true) ⟨o, ho, hc⟩ isSubtype_stop ?_)
  exact wpAny_pure (hQ _ he')
def IteT (K : PySem.W.Frag) (a : Addr) : It :=
  ⟨fun i H => ∃ (xs : List V) (x : V), SqT K H a xs ∧ xs[i]? = some x, fun i H v H' => ∃ T x, v = .ref T ∧ H T = none ∧ H' = upd H T (.tup [.int (i : Nat), x]) ∧ ∀ xs, SqT K H a xs → xs[i]? = some x, fun i H => ∃ xs : List V, SqT K H a xs ∧ xs.length ≤ i⟩
theorem turn_enumT {P : Program} {w : World} {K : PySem.W.Frag} {elts : List Expr} {kk : Nat} {tpos : Pos} (a e it : Addr) :
    Turn P w K (.Tuple elts kk tpos) (IteT K a) [e, it] e (fun i h => (∃ old, IsEnum h e it ((i : Nat) : Int) old) ∧ h.IsTupleIter it a i ∧ e ≠ it) where
  mem := by simp
  obj := fun i h st b hb => by
    obtain ⟨⟨old, he⟩, ⟨o, ho, hc, hd⟩, _⟩ := st
    have e' : b = e ∨ b = it := by simpa using hb
    rcases e' with z | z
    · rw [z]; exact ⟨_, he, fun v q => nomatch q⟩
    · rw [z]; exact ⟨o, ho, fun v q => by rw [hd] at q; cases q⟩
  keep := fun i h h' st k => let ⟨⟨old, he⟩, hi, hne⟩ := st; ⟨⟨old, k e (by simp) _ he⟩, hi.at fun o q => k it (by simp) o q, hne⟩
  item := by
    intro X hP hw hK hc i pins s σ H E I hf st hg
    subst hP hw hK
    obtain ⟨⟨old, he⟩, hit, hne⟩ := st
    obtain ⟨xs, x, hq, hx⟩ := hg
    obtain ⟨its, rv, p, hz⟩ := I.tuple hq
    obtain ⟨u, hu, ru⟩ := rv.get hx
    have hel : e < s.heap.objs.size := Heap.lt_size he
    have hil : it < s.heap.objs.size := by obtain ⟨_, q, _⟩ := hit; exact Heap.lt_size q
    have hta : a ≠ it := fun z => by
      obtain ⟨o1, q1, c1, _⟩ := p
      obtain ⟨o2, q2, c2, _⟩ := hit
      rw [z, q2] at q1
      have e := Option.some.inj q1
      rw [← e, c2] at c1
      exact absurd (Value.type.inj c1) (by decide)
    have hea : e ≠ a := fun z => by
      obtain ⟨o1, q1, c1, _⟩ := p
      rw [← z] at q1
      have h2 := he
      unfold IsEnum at h2
      rw [h2] at q1
      have e := Option.some.inj q1
      rw [← e] at c1
      exact absurd (Value.type.inj c1) (by decide)
    have hef : e ∉ [it, a] := by simp [hne, hea]
    have hin : i < its.toArray.size := by
      rw [List.size_toArray]
      exact (List.getElem?_eq_some_iff.mp hu).1
    refine wpAny_pyNext_enum_itemD (Draws.tuple (A := X.A.in1) (I.ok.hd hc) it a hta its.toArray) he ⟨hit, p⟩ hin hne hef fun y h' tk hP ho hst' hT hsz hk => ?_
    have hy : y = u := by
      have : its[i]? = some y := by simpa using hP
      rw [hu] at this
      exact (Option.some.inj this).symm
    subst hy
    obtain ⟨hit', _⟩ := hst'
    refine ⟨_, rfl, wpAny_letOwnedTupleGo_enum (s := { s with heap := h', toks := tk + 1 }) ho fun h'' he' sb => ?_⟩
    have hT2 : h''.get? s.heap.objs.size = some { cls := .type "tuple", data := .seq #[.int i tk, y] } := (sb.2 _ (Nat.ne_of_gt hel)).trans hT
    have new : ObjOk X.prog X.w (upd H s.heap.objs.size (.tup [.int (i : Nat), x])) h'' s.heap.objs.size (.tup [.int (i : Nat), x]) :=
      ⟨by show 2 ≤ sizeLine; decide, [.int i tk, y], .cons ⟨_, rfl⟩ (.cons ru .nil), ⟨_, hT2, rfl, _, rfl⟩⟩
    have I1 : Inv X pins σ (upd H s.heap.objs.size (.tup [.int (i : Nat), x])) { s with heap := h'', toks := tk + 1 } :=
      I.turnedNew (ch := [e, it]) (fun b ob hb q => (sb.2 b (fun z => hb (by simp [z]))).trans (hk b ob (fun z => hb (by simp [z])) (fun z => hb (by simp [z])) q)) hf (Nat.le_refl _) new
    refine ⟨.ref s.heap.objs.size, _, I1, rfl, ⟨_, x, rfl, I.hok.fresh (Nat.le_refl _), rfl, fun ys hy => by rw [I.tuple_inj hy hq]; exact hx⟩, ⟨⟨y, ?_⟩, hit'.at fun o q => (sb.2 it (Ne.symm hne)).trans q, hne⟩, fun b hb => ?_⟩
    · have e1 : ((i + 1 : Nat) : Int) = (i : Int) + 1 := by omega
      rw [e1]; exact he'
    · have hb' : b < s.heap.objs.size := by
        have e' : b = e ∨ b = it := by simpa using hb
        rcases e' with z | z
        · rw [z]; exact hel
        · rw [z]; exact hil
      rw [upd_ne (Nat.ne_of_lt hb')]
      exact (hf b hb).1
  done := by
    intro X hP hw hK hc i pins s σ H E I hf st hg
    subst hP hw hK
    obtain ⟨⟨old, he⟩, hit, hne⟩ := st
    obtain ⟨xs, hq, hx⟩ := hg
    obtain ⟨its, rv, p, hz⟩ := I.tuple hq
    obtain ⟨f0, f1, f2, f3, f4, f5⟩ := hf it (by simp)
    have hl := rv.length
    exact wpAny_pyNext_enum_endT (I.ok.hd hc) he hit p (by simp; omega) fun h' eb => ⟨rfl, I.turned (t' := s.toks) (fun b o hb q => eb b o hb q) f0 f1 f3 f4 f5⟩
  self := fun A i s Q E st h => let ⟨⟨_, he⟩, _⟩ := st; wpAny_pyIter_enum he h
def iEnumT (K : PySem.W.Frag) (ta : TA) : TI := fun σ H R => ta σ H fun vs H1 => ∃ a xs, vs = [.ref a] ∧ SqT K H1 a xs ∧ R (IteT K a) H1
theorem pi_enumT {X : Cx} {e : Expr} {ta : TA} {p pos tpos : Pos} {elts : List Expr} {kk : Nat} (hg : Gl X "enumerate") (hm : X.mg "enumerate" = none) (ha : PA X [e] ta) (hs : starEach [e] X.env = [(false, eval e X.env)] := by rfl) :
    PI X (.Tuple elts kk tpos) (.Call (.Name "enumerate" p) [e] [] pos) (iEnumT X.K ta) := by
  refine ⟨fun pins s σ H R I h => ?_⟩
  refine Call_ (ld_blt I hg hm boot_enumerate (PyProof.Rows.callWith_type1 (thn (ha.run pos pins s σ H _ I h) fun us s1 ⟨vs, H1, I1, r1, q1⟩ => ?_) hs rfl))
  obtain ⟨a, xs, ex, hq, q⟩ := q1
  subst ex
  cases r1 with
  | cons r rr =>
    cases rr
    cases r
    obtain ⟨its, rv, p', hz⟩ := I1.tuple hq
    refine call_enumerate_tuple p' fun h' he hit hsz hk => wpAny_pyIter_enum he ?_
    have I2 : Inv X pins σ H1 { s1 with heap := h' } := I1.kept (t' := s1.toks) hk
    refine ⟨s1.heap.objs.size + 1, [s1.heap.objs.size + 1, s1.heap.objs.size], _, _, H1, rfl, I2, turn_enumT a (s1.heap.objs.size + 1) s1.heap.objs.size, ⟨⟨.none, he⟩, hit, Nat.succ_ne_self _⟩, fun b hb => ?_, q⟩
    have e' : b = s1.heap.objs.size + 1 ∨ b = s1.heap.objs.size := by simpa using hb
    have hle : s1.heap.objs.size ≤ b := by
      rcases e' with z | z
      · rw [z]; exact Nat.le_add_right _ _
      · rw [z]; exact Nat.le_refl _
    exact I1.fpOk hle (I1.hok.fresh hle)
section
variable {m : Type → Type} [Mn m] {α : Type} {X : Cx} {M : Bool} {ρ : List Slot} {E : α → D} {a : Expr} {p pos tpos : Pos} {elts : List Expr} {kk : Nat}
theorem JI.enumT {wa : m (List α)} (hg : Gl X "enumerate") (hm : X.mg "enumerate" = none) (ha : JE X true a ρ (eT E) wa) (hs : starEach [a] X.env = [(false, eval a X.env)] := by rfl) : JI X M (.Tuple elts kk tpos) (.Call (.Name "enumerate" p) [a] [] pos) ρ (eP eI E) (bd wa fun xs => rt (enumL 0 xs)) :=
  ⟨pi_weak (pi_enumT hg hm (pa_cons ha.b.pe pa_nil hs) hs) fun σ H R ⟨sr, O, H0, ad, he, hw⟩ => ⟨sr, O, H0, ad, he, by
      have hw := le1 (f := fun x => rt (m := m) (enumL 0 x)) (g := fun x => Wp.pure (enumL 0 x)) (fun _ => lep) _ hw
      refine (Mn.wp wa).mono (fun xs q v H1 x1 r => ?_) hw
      obtain ⟨p, vs, rfl, hs, rs⟩ := r.seqT
      have hl : vs.length = xs.length := by rw [rs.length, List.length_map]
      refine ⟨p, vs, rfl, hs, q _ H1 x1 ⟨fun i H hi g => ?_, fun H g => ?_, fun i H v H' hi g y => ?_⟩⟩
      · rw [enumL_len] at hi
        exact ⟨vs, vs[i]'(by omega), (g.le OM.le).2 p _ hs, List.getElem?_eq_getElem (by omega)⟩
      · rw [enumL_len]; exact ⟨vs, (g.le OM.le).2 p _ hs, by omega⟩
      · obtain ⟨T, z, rfl, hT, rfl, y⟩ := y
        obtain ⟨d, hd, rd⟩ := (rs.out.keep (g.le fun a h => .inl (OM.le a h))).get' (y vs ((g.le OM.le).2 p _ hs))
        rw [List.getElem?_map] at hd
        obtain ⟨x, hx, rfl⟩ := Option.map_eq_some_iff.mp hd
        refine ⟨All.new hT, ((i : Nat) : Int) |> fun j => (j, x), by rw [enumL_get xs 0 i x hx]; simp, .t (.inl (.inl upd_same)) (.cons (.i _) (.cons (rd.keep (All.new hT).keep) .nil))⟩⟩⟩
end
theorem rtbO {α β : Type} (x : α) (f : α → Option β) : bd (rt x) f = f x := Eq.trans rfl rfl
theorem rtbG {α β : Type} (x : α) (f : α → G β) : bd (rt x) f = f x := Eq.trans rfl rfl
def E0 (sc : Scope) : PySem.Env := { (default : PySem.Env) with scope := sc }
theorem relabel0 (sc1 : Scope) (env : PySem.Env) : relabel sc1 env = relabel sc1 (E0 env.scope) := rfl
theorem blkOk_in {X : Cx} {s : Shared} {H : Hp} {sc0 sc1 scope : Scope} {C : Addr} {cl : List (Str × Addr)} {fp : List Addr} {own : List (Str × Nat)} (h0 : X.env.scope = sc0) (h : blkC X.N (relabel sc1 (E0 sc0)) scope own = true) : BlkOk (Blk X s H sc1 C cl fp).N (Blk X s H sc1 C cl fp).env.scope scope own := by
  have e1 : (Blk X s H sc1 C cl fp).N = X.N := by rfl
  have e2 : (Blk X s H sc1 C cl fp).env.scope = relabel sc1 X.env := by rfl
  rw [e1, e2, relabel0, h0]
  exact blkOk_by h
section
variable {m : Type → Type} [Mn m] {α β γ δ κ ω : Type} {X : Cx} {ρ : List Slot} {E : β → D} {ρx : Option (α → List Slot)} {ρl : ω → List Slot} {e : κ → Fl α ω β}
theorem JS.to {sts : List Stmt} {ρ' : List Slot} {a : m κ} (h0 : ρ = ρ') (h : JS X sts ρ' E ρx ρl e a) : JS X sts ρ E ρx ρl e a := h0 ▸ h
end
end Wk

namespace Wk
open PySem PySem.Spec PyProof.Rows L2
/-! plain lemmas of the mirrors' words -/
section
variable {α β γ τ : Type}
theorem bd_some (x : α) (f : α → Option β) : bd (some x) f = f x := rfl
theorem bd_none (f : α → Option β) : bd (none : Option α) f = none := rfl
theorem bd_rtO (x : α) (f : α → Option β) : bd (rt x) f = f x := rfl
theorem bd_lfO (x : α) (f : α → Option β) : bd (lf (some x)) f = f x := rfl
theorem bdE {a : Option α} {x : α} {f : α → Option β} (h : a = some x) : bd a f = f x := by rw [h]; rfl
theorem bdL {a : Option α} {x : α} {f : α → Option β} (h : a = some x) : bd (lf a) f = f x := by rw [h]; rfl
theorem bdLG {a : Option α} {x : α} {f : α → G β} (h : a = some x) : bd (lf a) f = f x := by rw [h]; rfl
theorem lf_someO (x : α) : lf (m := Option) (some x) = some x := rfl
theorem bd_rtG (x : α) (f : α → G β) : bd (rt x) f = f x := rfl
theorem bd_lfG (x : α) (f : α → G β) : bd (lf (some x)) f = f x := rfl
theorem lf_someG (x : α) : lf (m := G) (some x) = rt x := rfl
theorem ifM_true {m : Type → Type} [Mn m] (u v : m α) : ifM true u v = u := rfl
theorem ifM_false {m : Type → Type} [Mn m] (u v : m α) : ifM false u v = v := rfl
theorem bd_assocO (a : Option α) (f : α → Option β) (g : β → Option γ) : bd (bd a f) g = bd a fun x => bd (f x) g := by cases a <;> rfl
theorem bind_assocG (f : α → G β) (g : β → G γ) : ∀ a : G α, (a.bind f).bind g = a.bind fun x => (f x).bind g
  | .ret x => rfl
  | .fail => rfl
  | .draw n k => by
    show G.draw n _ = G.draw n _
    congr 1
    funext r
    exact bind_assocG f g (k r)
theorem bd_assocG (a : G α) (f : α → G β) (g : β → G γ) : bd (bd a f) g = bd a fun x => bd (f x) g := bind_assocG f g a
/-! lists -/
theorem mapM_some {f : α → Option β} {g : α → β} : ∀ {xs : List α}, (∀ x ∈ xs, f x = some (g x)) → mapM' f xs = some (xs.map g)
  | [], _ => rfl
  | x :: xs, h => by
    show (f x).bind _ = _
    rw [h x List.mem_cons_self]
    show (mapM' f xs).bind _ = _
    rw [mapM_some fun y hy => h y (List.mem_cons_of_mem _ hy)]
    rfl
theorem lcM_some {c : α → Option Bool} {c' : α → Bool} {f : α → Option β} {g : α → β} : ∀ {xs : List α}, (∀ x ∈ xs, c x = some (c' x)) → (∀ x ∈ xs, c' x = true → f x = some (g x)) → lcM c f xs = some ((xs.filter c').map g)
  | [], _, _ => rfl
  | x :: xs, h, h2 => by
    have ih := lcM_some (fun y hy => h y (List.mem_cons_of_mem _ hy)) (fun y hy => h2 y (List.mem_cons_of_mem _ hy))
    show (c x).bind _ = _
    rw [h x List.mem_cons_self]
    show ifM (c' x) _ _ = _
    cases hc : c' x with
    | false =>
      rw [List.filter_cons, if_neg (by rw [hc]; decide)]
      exact ih
    | true =>
      rw [List.filter_cons, if_pos hc]
      show (f x).bind _ = _
      rw [h2 x List.mem_cons_self hc]
      show (lcM c f xs).bind _ = _
      rw [ih]
      rfl
theorem szO_some {xs : List α} (h : xs.length ≤ 16777216) : szO xs = some xs := if_pos h
theorem sz4_some {xs : List α} (h : xs.length ≤ 4000) : sz4 xs = some xs := if_pos h
theorem flat2_some {g : α → Option (List β)} {g' : α → List β} {f : α → β → Option γ} {f' : α → β → γ} : ∀ {xs : List α}, (∀ x ∈ xs, g x = some (g' x) ∧ (g' x).length ≤ 4000 ∧ ∀ y ∈ g' x, f x y = some (f' x y)) → flat2 g f xs = some (xs.flatMap fun x => (g' x).map (f' x))
  | [], _ => rfl
  | x :: xs, h => by
    obtain ⟨h1, h2, h3⟩ := h x List.mem_cons_self
    show (g x).bind _ = _
    rw [h1]
    show (sz4 (g' x)).bind _ = _
    rw [sz4_some h2]
    show (mapM' (f x) (g' x)).bind _ = _
    rw [mapM_some h3]
    show (flat2 g f xs).bind _ = _
    rw [flat2_some fun y hy => h y (List.mem_cons_of_mem _ hy)]
    rfl
theorem appO_some {xs : List α} {y : α} (h : xs.length < 16777216) : appO xs y = some (xs ++ [y]) := if_pos h
theorem catO_some {xs ys : List α} (h : xs.length + ys.length ≤ 16777216) : catO xs ys = some (xs ++ ys) := if_pos h
theorem fold_cons (f : α → τ → Option τ) (x : α) (xs : List α) (t : τ) : foldM' f (x :: xs) t = (f x t).bind fun t' => foldM' f xs t' := rfl
theorem fold_nil (f : α → τ → Option τ) (t : τ) : foldM' f [] t = some t := rfl
/-- a loop told by plain steps -/
theorem fold_some {f : α → τ → Option τ} {g : α → τ → τ} : ∀ {xs : List α} {t : τ}, (∀ x ∈ xs, ∀ t, f x t = some (g x t)) → foldM' f xs t = some (xs.foldl (fun t x => g x t) t)
  | [], _, _ => rfl
  | x :: xs, t, h => by
    rw [fold_cons, h x List.mem_cons_self t]
    exact fold_some fun y hy => h y (List.mem_cons_of_mem _ hy)
/-- .. with an invariant -/
theorem fold_inv {f : α → τ → Option τ} {g : α → τ → τ} (I : τ → Prop) : ∀ {xs : List α} {t : τ}, I t → (∀ x ∈ xs, ∀ t, I t → f x t = some (g x t) ∧ I (g x t)) → foldM' f xs t = some (xs.foldl (fun t x => g x t) t) ∧ I (xs.foldl (fun t x => g x t) t)
  | [], _, hI, _ => ⟨rfl, hI⟩
  | x :: xs, t, hI, h => by
    obtain ⟨h1, h2⟩ := h x List.mem_cons_self t hI
    rw [fold_cons, h1]
    exact fold_inv I h2 fun y hy => h y (List.mem_cons_of_mem _ hy)
/-- .. that reaches what is told by the turns -/
theorem fold_to {f : α → τ → Option τ} (R : List α → τ → Prop) : ∀ {xs pre : List α} {t : τ}, R pre t → (∀ pre x t, R pre t → (∃ post, xs = post ∨ True) → (∃ suf, pre ++ x :: suf = pre ++ x :: suf) → ∃ t', f x t = some t' ∧ R (pre ++ [x]) t') → ∃ t', foldM' f xs t = some t' ∧ R (pre ++ xs) t'
  | [], pre, t, h, _ => ⟨t, rfl, by rw [List.append_nil]; exact h⟩
  | x :: xs, pre, t, h, k => by
    obtain ⟨t', h1, h2⟩ := k pre x t h ⟨[], .inr trivial⟩ ⟨[], rfl⟩
    obtain ⟨t'', h3, h4⟩ := fold_to (xs := xs) (pre := pre ++ [x]) R h2 fun p y t hp _ _ => k p y t hp ⟨[], .inr trivial⟩ ⟨[], rfl⟩
    exact ⟨t'', by rw [fold_cons, h1]; exact h3, by rw [List.append_assoc] at h4; exact h4⟩
end
/-! numbers -/
def natL (xs : List Nat) : List Int := xs.map Int.ofNat
theorem bdd_nat {n : Nat} (h : n < 4611686018427387904) : bdd (n : Int) = true := by
  unfold bdd
  rw [decide_eq_true (by omega), decide_eq_true (by omega)]; rfl
theorem upFrom_map : ∀ (n a : Nat), upFrom (a : Int) 1 n = (List.range' a n).map Int.ofNat
  | 0, a => rfl
  | n + 1, a => by
    have : ((a : Int) + 1) = ((a + 1 : Nat) : Int) := by omega
    show (a : Int) :: upFrom ((a : Int) + 1) 1 n = _
    rw [this, upFrom_map n (a + 1), List.range'_succ]
    rfl
theorem range1_nat {n : Nat} (h : n < 4611686018427387904) : range1O (n : Int) = some ((List.range n).map Int.ofNat) := by
  unfold range1O
  rw [if_pos (bdd_nat h), List.range_eq_range', ← upFrom_map n 0]
  rfl
theorem range_nat {a b : Nat} (ha : a < 4611686018427387904) (hb : b < 4611686018427387904) : rangeO (a : Int) (b : Int) = some ((List.range' a (b - a)).map Int.ofNat) := by
  unfold rangeO
  rw [if_pos (by rw [bdd_nat ha, bdd_nat hb]; rfl), ← upFrom_map]
  congr 2
  omega
theorem divO_nat {a b : Nat} (h : 0 < b) (h2 : b < 1073741824) : divO (a : Int) (b : Int) = some ((a / b : Nat) : Int) := by
  unfold divO
  rw [if_pos (by omega)]; rfl
theorem modO_nat {a b : Nat} (h : 0 < b) : modO (a : Int) (b : Int) = some ((a % b : Nat) : Int) := by
  unfold modO
  rw [if_pos (by omega)]; rfl
theorem mulO_nat {a b : Nat} (h : a < 2 ^ 64 ∨ b < 2 ^ 64) : mulO (a : Int) (b : Int) = some ((a * b : Nat) : Int) := by
  unfold mulO
  rw [if_pos (by omega), Int.natCast_mul]
theorem ixN_of {n i : Nat} (h : i < n) : ixN n (i : Int) = some i := by
  unfold ixN
  rw [if_pos (by omega), if_pos (by omega)]
  congr 1
theorem ixN_neg {n i : Nat} (h0 : 0 < i) (h : i ≤ n) : ixN n (-(i : Int)) = some (n - i) := by
  unfold ixN
  rw [if_neg (by omega), if_pos (by omega)]
  congr 1
  omega
section
variable {α : Type}
theorem ixO_nat {xs : List α} {j : Nat} {v : α} (h : xs[j]? = some v) : ixO xs (j : Int) = some v := atI_nat h
theorem ixO_neg {xs : List α} {j : Nat} {v : α} (h0 : 0 < j) (h1 : j ≤ xs.length) (h : xs[xs.length - j]? = some v) : ixO xs (-(j : Int)) = some v := by
  unfold ixO L2.atI
  rw [ixN_neg h0 h1]
  exact h
theorem setO_nat {xs : List α} {j : Nat} {y : α} (h : j < xs.length) : setO xs (j : Int) y = some (xs.set j y) := by
  unfold setO
  rw [ixN_of h]
  rfl
theorem sIx_nat (n m : Nat) (d : Nat) : HT.sIx n d (some (m : Int)) = min m n := HT.sIx_nat n d m
theorem cutL_nat (xs : List α) (i j : Nat) : cutL xs (some (i : Int)) (some (j : Int)) = (xs.drop (min i xs.length)).take (min j xs.length - min i xs.length) := by
  unfold cutL
  rw [HT.sIx_nat, HT.sIx_nat]
theorem cutL_to (xs : List α) (j : Nat) : cutL xs none (some (j : Int)) = xs.take j := by
  unfold cutL
  rw [HT.sIx_nat, HT.sIx_none, List.drop_zero, Nat.sub_zero]
  by_cases h : j ≤ xs.length
  · rw [Nat.min_eq_left h]
  · rw [Nat.min_eq_right (by omega), List.take_of_length_le (Nat.le_refl _), List.take_of_length_le (by omega)]
theorem cutL_from (xs : List α) (i : Nat) : cutL xs (some (i : Int)) none = xs.drop i := by
  unfold cutL
  rw [HT.sIx_nat, HT.sIx_none]
  by_cases h : i ≤ xs.length
  · rw [Nat.min_eq_left h, List.take_of_length_le (by rw [List.length_drop]; exact Nat.le_refl _)]
  · rw [Nat.min_eq_right (by omega), List.drop_of_length_le (Nat.le_refl _), List.drop_of_length_le (by omega), List.take_nil]
end
/-! digits, the number of digits -/
def digN (p : Nat) : Nat → Nat → List Nat
  | 0, _ => []
  | c + 1, n => n % p :: digN p c (n / p)
def numN (p : Nat) : List Nat → Nat
  | [] => 0
  | d :: ds => d + p * numN p ds
theorem digN_len (p : Nat) : ∀ c n, (digN p c n).length = c
  | 0, _ => rfl
  | c + 1, n => by rw [digN, List.length_cons, digN_len p c]
theorem digN_lt {p : Nat} (hp : 0 < p) : ∀ c n, ∀ d ∈ digN p c n, d < p
  | 0, _, d, h => by cases h
  | c + 1, n, d, h => by
    rcases List.mem_cons.mp h with e | h
    · rw [e]; exact Nat.mod_lt _ hp
    · exact digN_lt hp c _ d h
theorem numN_digN {p : Nat} : ∀ c n, n < p ^ c → numN p (digN p c n) = n
  | 0, n, h => by simp at h; subst h; rfl
  | c + 1, n, h => by
    have hp : 0 < p := by
      rcases Nat.eq_zero_or_pos p with e | e
      · subst e; simp at h
      · exact e
    rw [digN, numN, numN_digN c (n / p) (by rw [Nat.div_lt_iff_lt_mul hp]; rw [Nat.pow_succ] at h; exact h)]
    exact Nat.mod_add_div n p
theorem numN_lt {p : Nat} : ∀ ds : List Nat, (∀ d ∈ ds, d < p) → numN p ds < p ^ ds.length
  | [], _ => by simp [numN]
  | d :: ds, h => by
    have h1 := h d List.mem_cons_self
    have h2 := numN_lt ds fun x hx => h x (List.mem_cons_of_mem _ hx)
    rw [numN, List.length_cons, Nat.pow_succ]
    have : p * (numN p ds + 1) ≤ p * p ^ ds.length := Nat.mul_le_mul_left p h2
    rw [Nat.mul_add] at this
    rw [Nat.mul_comm (p ^ ds.length) p]
    omega
end Wk

namespace Wk
open PySem PySem.Spec PyProof.Rows L2
def topS (i : Nat) : Stmt := PySem.Challenge.pw_codewhole_k90_whole_steady_words_turned.main.body.getD i (.Pass ⟨0, 0, 0, 0⟩)

structure Txt (K : PySem.W.Frag) (mg : Str → Option Value) : Prop where
  m_all : mg "all" = none
  m_any : mg "any" = none
  m_enumerate : mg "enumerate" = none
  m_int : mg "int" = none
  m_len : mg "len" = none
  m_list : mg "list" = none
  m_min : mg "min" = none
  m_range : mg "range" = none
  m_reversed : mg "reversed" = none
  m_sorted : mg "sorted" = none
  m_sum : mg "sum" = none
  m_tuple : mg "tuple" = none
  g_MOST_LENGTH : ∃ t, mg "MOST_LENGTH" = some (.int 60 t)
  f_distance : ∃ f fd, mg "distance" = some (.ref f) ∧ Fun K "distance" "distance" (topS 5) f fd ∧ Binds K fd ["one", "other"] []
  f_choose : ∃ f fd, mg "choose" = some (.ref f) ∧ Fun K "choose" "choose" (topS 7) f fd ∧ Binds K fd ["n", "k"] []
  f_checked : ∃ f fd, mg "_checked" = some (.ref f) ∧ Fun K "_checked" "_checked" (topS 10) f fd ∧ Binds K fd ["n", "w"] []
  f_bits : ∃ f fd, mg "bits" = some (.ref f) ∧ Fun K "bits" "bits" (topS 11) f fd ∧ Binds K fd ["word"] []
  f_index_of : ∃ f fd, mg "index_of" = some (.ref f) ∧ Fun K "index_of" "index_of" (topS 12) f fd ∧ Binds K fd ["word"] []
  f_word_at : ∃ f fd, mg "word_at" = some (.ref f) ∧ Fun K "word_at" "word_at" (topS 13) f fd ∧ Binds K fd ["n", "w", "index"] []
  f_even_index : ∃ f fd, mg "even_index" = some (.ref f) ∧ Fun K "even_index" "even_index" (topS 14) f fd ∧ Binds K fd ["word"] []
  f_is_balanced : ∃ f fd, mg "is_balanced" = some (.ref f) ∧ Fun K "is_balanced" "is_balanced" (topS 15) f fd ∧ Binds K fd ["word"] []
  f_paths : ∃ f fd, mg "paths" = some (.ref f) ∧ Fun K "paths" "paths" (topS 16) f fd ∧ Binds K fd ["steps", "high"] []
  f_balanced_at : ∃ f fd, mg "balanced_at" = some (.ref f) ∧ Fun K "balanced_at" "balanced_at" (topS 17) f fd ∧ Binds K fd ["n", "index"] []
  f_apart_bound : ∃ f fd, mg "apart_bound" = some (.ref f) ∧ Fun K "apart_bound" "apart_bound" (topS 18) f fd ∧ Binds K fd ["n", "d", "w"] []
  f_chosen : ∃ f fd, mg "chosen" = some (.ref f) ∧ Fun K "chosen" "chosen" (topS 19) f fd ∧ Binds K fd ["n", "d", "w"] []
  f_sets_row : ∃ f fd, mg "sets_row" = some (.ref f) ∧ Fun K "sets_row" "sets_row" (topS 21) f fd ∧ Binds K fd ["n", "k"] []
  f_law_cell : ∃ f fd, mg "_law_cell" = some (.ref f) ∧ Fun K "_law_cell" "_law_cell" (topS 23) f fd ∧ Binds K fd ["script", "k"] []
  f_law_source : ∃ f fd, mg "_law_source" = some (.ref f) ∧ Fun K "_law_source" "_law_source" (topS 24) f fd ∧ Binds K fd ["cell", "k"] []
  f_law_pick : ∃ f fd, mg "_law_pick" = some (.ref f) ∧ Fun K "_law_pick" "_law_pick" (topS 25) f fd ∧ Binds K fd ["source", "many"] []
  f_law_mixed : ∃ f fd, mg "_law_mixed" = some (.ref f) ∧ Fun K "_law_mixed" "_law_mixed" (topS 26) f fd ∧ Binds K fd ["source", "things"] []
  f_law_over : ∃ f fd, mg "_law_over" = some (.ref f) ∧ Fun K "_law_over" "_law_over" (topS 27) f fd ∧ Binds K fd ["word"] []
  f_law_right : ∃ f fd, mg "_law_right" = some (.ref f) ∧ Fun K "_law_right" "_law_right" (topS 28) f fd ∧ Binds K fd ["source"] []
abbrev s_distance : Stmt := topS 5
theorem sc_distance : FnScope ["one", "other", "at"] ["one", "other"] (defScope s_distance) := ⟨rfl, rfl, rfl, by decide +kernel, rfl, by decide +kernel, by decide +kernel⟩
def M.distance (p_one : (List Int)) (p_other : (List Int)) : Option Int :=
 bd (bd (bd (lf (range1O (p_one.length : Int))) fun x5 =>
 bd (lf (szO x5)) fun xs4 =>
 lcM (fun (at1 : Int) => bd (lf (ixO p_one at1)) fun x2 =>
 bd (lf (ixO p_other at1)) fun x3 =>
 rt (!decide (x2 = x3))) (fun (at1 : Int) => rt at1) xs4) fun x6 =>
 rt (x6.length : Int)) fun x7 =>
 rt x7
def F_distance : List D → (D → Prop) → Prop := fun ds P => ∃ (x0 : (List Int)) (x1 : (List Int)) (r : Int), ds = [(eT eI) x0, (eT eI) x1] ∧ M.distance x0 x1 = some r ∧ P (eI r)
theorem t_distance {P : Program} {w : World} {K : PySem.W.Frag} {mg : Str → Option Value} {base : Heap} {f : Addr} {cdv : Value} {A : Around} {outer : List PySem.Env} {s : Shared} {H : Hp} {E : XK} (T : Txt K mg) (hr : Room 0 (Cxf P w K mg base ["one", "other", "at"] "distance" s_distance f cdv A outer s H E).A) (p_one : (List Int)) (p_other : (List Int)) : Tail (Cxf P w K mg base ["one", "other", "at"] "distance" s_distance f cdv A outer s H E) (defBody s_distance) [.d ((eT eI) p_one), .d ((eT eI) p_other), .u] eI (M.distance p_one p_other) := by
 unfold M.distance
 exact (JS.ret (c := id) (fun _ => rfl) nl_I (JE.cl (JE.len (E := eI) (k := .l) rfl T.m_len (JL.je (JL.lc (M0 := false) (own := [("at", 2)]) (up := fun ρ x => ρ.set 2 (.d (eI x))) (E := eI) (F := eI) (cM := fun (at1 : Int) => bd (lf (ixO p_one at1)) fun x2 =>
 bd (lf (ixO p_other at1)) fun x3 =>
 rt (!decide (x2 = x3))) (f := fun (at1 : Int) => rt at1) rfl sc_distance.nd (JI.range1 rfl T.m_range (JE.len (E := eI) (k := .t) rfl T.m_len (JE.var (E := (eT eI)) 0 rfl))) (by first | exact blkOk_by (own := [("at", 2)]) (by show blkC ["one", "other", "at"] (defScope s_distance) _ _ = true; decide +kernel) | exact blkOk_in (sc0 := defScope s_distance) (own := [("at", 2)]) rfl (by show blkC ["one", "other", "at"] _ _ _ = true; decide +kernel)) (by decide) rfl (fun s H C cl fp => (JG.name 2 sc_distance.nd rfl (by first | exact Or.inl rfl | exact Or.inr rfl) (by first | exact Or.inl rfl | exact Or.inr rfl))) (fun s H C cl fp at1 => JTs.one (JT.cl (JT.ne (JE.ix (E := eI) (k := .t) (fun _ _ => rfl) (JE.var (E := (eT eI)) 0 rfl) (JE.var (E := eI) 2 rfl)) (JE.ix (E := eI) (k := .t) (fun _ _ => rfl) (JE.var (E := (eT eI)) 1 rfl) (JE.var (E := eI) 2 rfl))) (by first | with_reducible rfl | (simp only [rtbO, rtbG]; done) | (simp only [rtbO, rtbG]; congr; done) | rfl))) (fun s H C cl fp at1 => JE.cl (JE.var (E := eI) 2 rfl) (by first | with_reducible rfl | (simp only [rtbO, rtbG]; done) | (simp only [rtbO, rtbG]; congr; done) | rfl))))) (by first | with_reducible rfl | (simp only [rtbO, rtbG]; done) | (simp only [rtbO, rtbG]; congr; done) | rfl)))
theorem ok_distance {P : Program} {w : World} {K : PySem.W.Frag} {mg : Str → Option Value} {base : Heap} (T : Txt K mg) {f : Addr} {fd : FuncData} (Fu : Fun K "distance" "distance" s_distance f fd) : FnOk P w K mg base CX0 1 f fd ["one", "other"] (spF K mg F_distance) :=
 fn_ok Fu sc_distance F_distance (fun ds Q h => by obtain ⟨x0, x1, r, rfl, hm, hq⟩ := h; rfl) (by decide) fun cdv A outer s H E hr ds Q hF => by
  obtain ⟨x0, x1, r, rfl, hm, hq⟩ := hF
  exact ⟨_, _, _, t_distance T hr x0 x1, r, hm, hq⟩
theorem c_distance {X : Cx} (T : Txt X.K X.mg) (hr : Room 1 X.A) : CallOk X "distance" F_distance := by
 obtain ⟨f, fd, hm, Fu, hb⟩ := T.f_distance
 exact ⟨1, f, fd, _, ok_distance T Fu, hr, hm, Fu.kp, hb⟩
abbrev s_choose : Stmt := topS 7
theorem sc_choose : FnScope ["n", "k", "result", "step"] ["n", "k"] (defScope s_choose) := ⟨rfl, rfl, rfl, by decide +kernel, rfl, by decide +kernel, by decide +kernel⟩
def M.choose (p_n : Int) (p_k : Int) : Option Int :=
 ifM ((decide (p_k < 0)) || (decide (p_n < p_k))) (rt 0) (bd (lf (range1O p_k)) fun xs13 =>
 bd (foldM' (fun (step10 : Int) (t9 : Int) => bd (bd (lf (mulO t9 (p_n - step10))) fun x11 =>
 lf (divO x11 (step10 + 1))) fun result12 =>
 rt result12) xs13 1) fun t9 =>
 rt t9)
def F_choose : List D → (D → Prop) → Prop := fun ds P => ∃ (x0 : Int) (x1 : Int) (r : Int), ds = [eI x0, eI x1] ∧ M.choose x0 x1 = some r ∧ P (eI r)
theorem t_choose {P : Program} {w : World} {K : PySem.W.Frag} {mg : Str → Option Value} {base : Heap} {f : Addr} {cdv : Value} {A : Around} {outer : List PySem.Env} {s : Shared} {H : Hp} {E : XK} (T : Txt K mg) (hr : Room 0 (Cxf P w K mg base ["n", "k", "result", "step"] "choose" s_choose f cdv A outer s H E).A) (p_n : Int) (p_k : Int) : Tail (Cxf P w K mg base ["n", "k", "result", "step"] "choose" s_choose f cdv A outer s H E) (defBody s_choose) [.d (eI p_n), .d (eI p_k), .u, .u] eI (M.choose p_n p_k) := by
 unfold M.choose
 exact (JS.ifTP (JT.cl (JW.jt (JW.orP (JT.lt (JE.var (E := eI) 1 rfl) JE.int) (JW.or1 (JT.gt (JE.var (E := eI) 1 rfl) (JE.var (E := eI) 0 rfl))))) (by first | with_reducible rfl | (simp only [rtbO, rtbG]; done) | (simp only [rtbO, rtbG]; congr; done) | rfl)) (JS.retP (c := id) (fun _ => rfl) nl_I (JE.cl JE.int (by first | with_reducible rfl | (simp only [rtbO, rtbG]; done) | (simp only [rtbO, rtbG]; congr; done) | rfl))) (JS.asgV (i := 2) (F := eI) (v := 1) (JAsE.of sc_choose.nd rfl (by first | exact Or.inl rfl | exact Or.inr rfl) (by first | exact Or.inl rfl | exact Or.inr rfl) (JE.cl JE.int (by first | with_reducible rfl | (simp only [rtbO, rtbG]; done) | (simp only [rtbO, rtbG]; congr; done) | rfl))) (JS.forS (up := fun ρ x => ρ.set 3 (.d (eI x))) (Ei := eI) (fun (t9 : Int) => [.d (eI p_n), .u, .d (eI t9), .u]) 1 PassesOwn.never rfl (JI.cl (JI.range1 rfl T.m_range (JE.var (E := eI) 1 rfl)) (by first | with_reducible rfl | (simp only [rtbO, rtbG]; done) | (simp only [rtbO, rtbG]; congr; done) | rfl)) (JG.name 3 sc_choose.nd rfl (by first | exact Or.inl rfl | exact Or.inr rfl) (by first | exact Or.inl rfl | exact Or.inr rfl)) (.same (.drop (.same (.same (.nil))))) (fun step10 t9 => (JS.asg (i := 2) (F := eI) (JAsE.of sc_choose.nd rfl (by first | exact Or.inl rfl | exact Or.inr rfl) (by first | exact Or.inl rfl | exact Or.inr rfl) (JE.cl (JE.div (JE.mul (JE.var (E := eI) 2 rfl) (JE.sub (JE.var (E := eI) 0 rfl) (JE.var (E := eI) 3 rfl))) (JE.add (JE.var (E := eI) 3 rfl) JE.int)) (by first | with_reducible rfl | (simp only [rtbO, rtbG]; done) | (simp only [rtbO, rtbG]; congr; done) | rfl))) (fun result12 => (JS.nil result12 rfl (.same (.same (.same (.drop (.nil))))))))) (fun t9 => (JS.retP (c := id) (fun _ => rfl) nl_I (JE.cl (JE.var (E := eI) 2 rfl) (by first | with_reducible rfl | (simp only [rtbO, rtbG]; done) | (simp only [rtbO, rtbG]; congr; done) | rfl)))))))
theorem ok_choose {P : Program} {w : World} {K : PySem.W.Frag} {mg : Str → Option Value} {base : Heap} (T : Txt K mg) {f : Addr} {fd : FuncData} (Fu : Fun K "choose" "choose" s_choose f fd) : FnOk P w K mg base CX0 1 f fd ["n", "k"] (spF K mg F_choose) :=
 fn_ok Fu sc_choose F_choose (fun ds Q h => by obtain ⟨x0, x1, r, rfl, hm, hq⟩ := h; rfl) (by decide) fun cdv A outer s H E hr ds Q hF => by
  obtain ⟨x0, x1, r, rfl, hm, hq⟩ := hF
  exact ⟨_, _, _, t_choose T hr x0 x1, r, hm, hq⟩
theorem c_choose {X : Cx} (T : Txt X.K X.mg) (hr : Room 1 X.A) : CallOk X "choose" F_choose := by
 obtain ⟨f, fd, hm, Fu, hb⟩ := T.f_choose
 exact ⟨1, f, fd, _, ok_choose T Fu, hr, hm, Fu.kp, hb⟩
abbrev s_checked : Stmt := topS 10
theorem sc_checked : FnScope ["n", "w"] ["n", "w"] (defScope s_checked) := ⟨rfl, rfl, rfl, by decide +kernel, rfl, by decide +kernel, by decide +kernel⟩
def M.checked' (p_n : Int) (p_w : Int) : Option (Fl Unit Empty Unit) :=
 ifM ((!((decide (1 ≤ p_n)) && (decide (p_n ≤ 60)))) || (!((decide (0 ≤ p_w)) && (decide (p_w ≤ p_n))))) (lf none) (rt (Fl.nx ()))
def M.checked (p_n : Int) (p_w : Int) : Option Unit := bd (M.checked' p_n p_w) fun _ => rt ()
def F_checked : List D → (D → Prop) → Prop := fun ds P => ∃ (x0 : Int) (x1 : Int) (r : Unit), ds = [eI x0, eI x1] ∧ M.checked x0 x1 = some r ∧ P (eN r)
theorem t_checked {P : Program} {w : World} {K : PySem.W.Frag} {mg : Str → Option Value} {base : Heap} {f : Addr} {cdv : Value} {A : Around} {outer : List PySem.Env} {s : Shared} {H : Hp} {E : XK} (T : Txt K mg) (hr : Room 0 (Cxf P w K mg base ["n", "w"] "_checked" s_checked f cdv A outer s H E).A) (p_n : Int) (p_w : Int) : TailN (Cxf P w K mg base ["n", "w"] "_checked" s_checked f cdv A outer s H E) (defBody s_checked) [.d (eI p_n), .d (eI p_w)] 2 (M.checked' p_n p_w) := by
 unfold M.checked'
 exact (JS.ifTP (JT.cl (JW.jt (JW.orP (JT.not (JT.chainP op_le op_le (by with_unfolding_all rfl) JE.int (JE.var (E := eI) 0 rfl) (JE.globI T.g_MOST_LENGTH))) (JW.or1 (JT.not (JT.chainP op_le op_le (by with_unfolding_all rfl) JE.int (JE.var (E := eI) 1 rfl) (JE.var (E := eI) 0 rfl)))))) (by first | with_reducible rfl | (simp only [rtbO, rtbG]; done) | (simp only [rtbO, rtbG]; congr; done) | rfl)) JS.never (JS.nil (Fl.nx ()) rfl (.drop (.drop (.nil)))))
theorem ok_checked {P : Program} {w : World} {K : PySem.W.Frag} {mg : Str → Option Value} {base : Heap} (T : Txt K mg) {f : Addr} {fd : FuncData} (Fu : Fun K "_checked" "_checked" s_checked f fd) : FnOk P w K mg base CX0 1 f fd ["n", "w"] (spF K mg F_checked) :=
 fn_okN Fu sc_checked F_checked (fun ds Q h => by obtain ⟨x0, x1, r, rfl, hm, hq⟩ := h; rfl) (by decide) fun cdv A outer s H E hr ds Q hF => by
  obtain ⟨x0, x1, r, rfl, hm, hq⟩ := hF
  have hm : (M.checked' x0 x1).bind (fun _ => some ()) = some r := hm
  obtain ⟨z, hz, _⟩ := Option.bind_eq_some_iff.mp hm
  exact ⟨_, t_checked T hr x0 x1, z, hz, hq⟩
theorem c_checked {X : Cx} (T : Txt X.K X.mg) (hr : Room 1 X.A) : CallOk X "_checked" F_checked := by
 obtain ⟨f, fd, hm, Fu, hb⟩ := T.f_checked
 exact ⟨1, f, fd, _, ok_checked T Fu, hr, hm, Fu.kp, hb⟩
abbrev s_bits : Stmt := topS 11
theorem sc_bits : FnScope ["word", "found", "bit"] ["word"] (defScope s_bits) := ⟨rfl, rfl, rfl, by decide +kernel, rfl, by decide +kernel, by decide +kernel⟩
def M.bits (p_word : (List Int)) : Option (List Int) :=
 bd (ifM (!(!p_word.isEmpty)) (rt true) (ifM (decide (60 < (p_word.length : Int))) (rt true) (bd (bd (lf (szO p_word)) fun xs16 =>
 rt (xs16.map fun (bit15 : Int) => (![0, 1].contains bit15))) fun x17 =>
 rt (x17.any id)))) fun b18 => ifM b18 (lf none) (rt p_word)
def F_bits : List D → (D → Prop) → Prop := fun ds P => ∃ (x0 : (List Int)) (r : (List Int)), ds = [(eT eI) x0] ∧ M.bits x0 = some r ∧ P ((eT eI) r)
theorem t_bits {P : Program} {w : World} {K : PySem.W.Frag} {mg : Str → Option Value} {base : Heap} {f : Addr} {cdv : Value} {A : Around} {outer : List PySem.Env} {s : Shared} {H : Hp} {E : XK} (T : Txt K mg) (hr : Room 0 (Cxf P w K mg base ["word", "found", "bit"] "bits" s_bits f cdv A outer s H E).A) (p_word : (List Int)) : Tail (Cxf P w K mg base ["word", "found", "bit"] "bits" s_bits f cdv A outer s H E) (defBody s_bits) [.d ((eT eI) p_word), .u, .u] (eT eI) (M.bits p_word) := by
 unfold M.bits
 exact (JS.asgV (i := 1) (F := (eT eI)) (v := p_word) (JAsE.of sc_bits.nd rfl (by first | exact Or.inl rfl | exact Or.inr rfl) (by first | exact Or.inl rfl | exact Or.inr rfl) (JE.cl (JE.tupleT (E := eI) rfl T.m_tuple (JE.var (E := (eT eI)) 0 rfl)) (by first | with_reducible rfl | (simp only [rtbO, rtbG]; done) | (simp only [rtbO, rtbG]; congr; done) | rfl))) (JS.ifT (JT.cl (JW.jt (JW.or (JT.not (JT.ne0 (E := eI) (k := .t) (JE.var (E := (eT eI)) 1 rfl))) (JW.or (JT.gt (JE.len (E := eI) (k := .t) rfl T.m_len (JE.var (E := (eT eI)) 1 rfl)) (JE.globI T.g_MOST_LENGTH)) (JW.or1 (JT.val (JE.any rfl rfl T.m_any (JL.je (JL.mapP (g := fun (bit15 : Int) => (![0, 1].contains bit15)) (JL.lc0 (M0 := false) (own := [("bit", 2)]) (up := fun ρ x => ρ.set 2 (.d (eI x))) (E := eI) (F := eB) (f := fun (bit15 : Int) => rt (![0, 1].contains bit15)) rfl sc_bits.nd (JI.tup (E := eI) (JE.var (E := (eT eI)) 1 rfl)) (by first | exact blkOk_by (own := [("bit", 2)]) (by show blkC ["word", "found", "bit"] (defScope s_bits) _ _ = true; decide +kernel) | exact blkOk_in (sc0 := defScope s_bits) (own := [("bit", 2)]) rfl (by show blkC ["word", "found", "bit"] _ _ _ = true; decide +kernel)) (by decide) rfl (fun s H C cl fp => (JG.name 2 sc_bits.nd rfl (by first | exact Or.inl rfl | exact Or.inr rfl) (by first | exact Or.inl rfl | exact Or.inr rfl))) (fun s H C cl fp bit15 => JE.cl (JE.ninI (k := .t) (JE.var (E := eI) 2 rfl) (JE.tup (JH.cons (E := eI) JE.int (JH.cons (E := eI) JE.int (JH.nil (E := eI)))))) (by first | with_reducible rfl | (simp only [rtbO, rtbG]; done) | (simp only [rtbO, rtbG]; congr; done) | rfl))))))))))) (by first | with_reducible rfl | (simp only [rtbO, rtbG]; done) | (simp only [rtbO, rtbG]; congr; done) | rfl)) JS.never (JS.retP (c := id) (fun _ => rfl) nl_T (JE.cl (JE.var (E := (eT eI)) 1 rfl) (by first | with_reducible rfl | (simp only [rtbO, rtbG]; done) | (simp only [rtbO, rtbG]; congr; done) | rfl)))))
theorem ok_bits {P : Program} {w : World} {K : PySem.W.Frag} {mg : Str → Option Value} {base : Heap} (T : Txt K mg) {f : Addr} {fd : FuncData} (Fu : Fun K "bits" "bits" s_bits f fd) : FnOk P w K mg base CX0 1 f fd ["word"] (spF K mg F_bits) :=
 fn_ok Fu sc_bits F_bits (fun ds Q h => by obtain ⟨x0, r, rfl, hm, hq⟩ := h; rfl) (by decide) fun cdv A outer s H E hr ds Q hF => by
  obtain ⟨x0, r, rfl, hm, hq⟩ := hF
  exact ⟨_, _, _, t_bits T hr x0, r, hm, hq⟩
theorem c_bits {X : Cx} (T : Txt X.K X.mg) (hr : Room 1 X.A) : CallOk X "bits" F_bits := by
 obtain ⟨f, fd, hm, Fu, hb⟩ := T.f_bits
 exact ⟨1, f, fd, _, ok_bits T Fu, hr, hm, Fu.kp, hb⟩
/-! ### the script's cells -/
abbrev s_law_cell : Stmt := topS 23
theorem sc_law_cell : FnScope ["script", "k"] ["script", "k"] (defScope s_law_cell) := ⟨rfl, rfl, rfl, by decide +kernel, rfl, by decide +kernel, by decide +kernel⟩
def spCell (K : PySem.W.Frag) : Sp := fun vs H Q _ => ∃ (a : Addr) (ns : List Int) (k : Nat), vs = [.ref a, .int k] ∧ SqL K H a (ns.map V.int) ∧ ∀ z, Q (.int z) H
theorem ok_law_cell {P : Program} {w : World} {K : PySem.W.Frag} {mg : Str → Option Value} {base : Heap} (T : Txt K mg) {f : Addr} {fd : FuncData} (Fu : Fun K "_law_cell" "_law_cell" s_law_cell f fd) : FnOk P w K mg base CX0 1 f fd ["script", "k"] (spCell K) := by
  refine Fu.ok sc_law_cell (fun vs H Q E hs => ?_) (fun cdv A outer s H vs Q E hr hs => ?_)
  · obtain ⟨a, ns, k, rfl, _⟩ := hs
    rfl
  · obtain ⟨a, ns, k, rfl, hS, q⟩ := hs
    refine ⟨_, pss_cons (ps_if (pt_cmpR op_lt (pv 1) (pe_callB call_len_seq (by rfl) T.m_len PySem.boot_len (pa_cons (pv 0) pa_nil (by rfl)) (by decide) (by decide) (by rfl) (by rfl)) (nomark _)) (pss_one (ps_ret (pe_ix ix_seq (pv 0) (pv 1) (fun _ _ => rfl)))) pss_nil) (pss_one (ps_ret pe_int)), ?_⟩
    refine ⟨_, rfl, .ref a, rfl, a, ns.map V.int, rfl, .inl hS, k, _, rfl, rfl, _, rfl, ite2 (fun hc => ?_) (fun hc => ?_)⟩
    · have hk : k < ns.length := by
        have := of_decide_eq_true hc
        rw [List.length_map] at this
        omega
      exact ⟨.ref a, rfl, .int k, rfl, .inl ⟨a, _, k, .int ns[k], rfl, rfl, hS, atI_nat (by rw [List.getElem?_map, List.getElem?_eq_getElem hk]; rfl), q _⟩⟩
    · exact q _
abbrev s_law_source : Stmt := topS 24
theorem sc_law_source : FnScope ["cell", "k"] ["cell", "k"] (defScope s_law_source) := ⟨rfl, rfl, rfl, by decide +kernel, rfl, by decide +kernel, by decide +kernel⟩
def M.law_source (p_cell : Int) (p_k : Int) : Option (List Int) :=
 bd (bd (lf (powO 10 18)) fun x123 =>
 rt (decide (x123 ≤ p_cell))) fun b127 => ifM b127 (bd (bd (bd (lf (powO 10 18)) fun x124 =>
 rt (p_cell - x124)) fun x125 =>
 rt [x125, (p_k + 1)]) fun x126 =>
 rt x126) (rt [0, ((((p_cell * 7919) + (p_k * 104729)) + 1) % 2147483647)])
def F_law_source : List D → (D → Prop) → Prop := fun ds P => ∃ (x0 : Int) (x1 : Int) (r : (List Int)), ds = [eI x0, eI x1] ∧ M.law_source x0 x1 = some r ∧ P ((eL eI) r)
theorem t_law_source {P : Program} {w : World} {K : PySem.W.Frag} {mg : Str → Option Value} {base : Heap} {f : Addr} {cdv : Value} {A : Around} {outer : List PySem.Env} {s : Shared} {H : Hp} {E : XK} (T : Txt K mg) (hr : Room 0 (Cxf P w K mg base ["cell", "k"] "_law_source" s_law_source f cdv A outer s H E).A) (p_cell : Int) (p_k : Int) : Tail (Cxf P w K mg base ["cell", "k"] "_law_source" s_law_source f cdv A outer s H E) (defBody s_law_source) [.d (eI p_cell), .d (eI p_k)] (eL eI) (M.law_source p_cell p_k) := by
 unfold M.law_source
 exact (JS.ifT (JT.cl (JT.ge (JE.var (E := eI) 0 rfl) (JE.pow JE.int JE.int)) (by first | with_reducible rfl | (simp only [rtbO, rtbG]; done) | (simp only [rtbO, rtbG]; congr; done) | rfl)) (JS.retL (c := id) (fun _ => rfl) (JL.cl (JL.lst (JH.cons (E := eI) (JE.sub (JE.var (E := eI) 0 rfl) (JE.pow JE.int JE.int)) (JH.cons (E := eI) (JE.add (JE.var (E := eI) 1 rfl) JE.int) (JH.nil (E := eI))))) (by first | with_reducible rfl | (simp only [rtbO, rtbG]; done) | (simp only [rtbO, rtbG]; congr; done) | rfl))) (JS.retLP (c := id) (fun _ => rfl) (JL.cl (JL.lst (JH.cons (E := eI) JE.int (JH.cons (E := eI) (JE.modR (by decide) (JE.intI rfl T.m_int (JE.add (JE.add (JE.mulR (by decide) (JE.var (E := eI) 0 rfl)) (JE.mulR (by decide) (JE.var (E := eI) 1 rfl))) JE.int))) (JH.nil (E := eI))))) (by first | with_reducible rfl | (simp only [rtbO, rtbG]; done) | (simp only [rtbO, rtbG]; congr; done) | rfl))))
theorem ok_law_source {P : Program} {w : World} {K : PySem.W.Frag} {mg : Str → Option Value} {base : Heap} (T : Txt K mg) {f : Addr} {fd : FuncData} (Fu : Fun K "_law_source" "_law_source" s_law_source f fd) : FnOk P w K mg base CX0 1 f fd ["cell", "k"] (spF K mg F_law_source) :=
 fn_ok Fu sc_law_source F_law_source (fun ds Q h => by obtain ⟨x0, x1, r, rfl, hm, hq⟩ := h; rfl) (by decide) fun cdv A outer s H E hr ds Q hF => by
  obtain ⟨x0, x1, r, rfl, hm, hq⟩ := hF
  exact ⟨_, _, _, t_law_source T hr x0 x1, r, hm, hq⟩
theorem c_law_source {X : Cx} (T : Txt X.K X.mg) (hr : Room 1 X.A) : CallOk X "_law_source" F_law_source := by
 obtain ⟨f, fd, hm, Fu, hb⟩ := T.f_law_source
 exact ⟨1, f, fd, _, ok_law_source T Fu, hr, hm, Fu.kp, hb⟩
abbrev s_law_pick : Stmt := topS 25
theorem sc_law_pick : FnScope ["source", "many", "picked", "mixed"] ["source", "many"] (defScope s_law_pick) := ⟨rfl, rfl, rfl, by decide +kernel, rfl, by decide +kernel, by decide +kernel⟩
theorem ok_law_pick {P : Program} {w : World} {K : PySem.W.Frag} {mg : Str → Option Value} {base : Heap} (T : Txt K mg) {f : Addr} {fd : FuncData} (Fu : Fun K "_law_pick" "_law_pick" s_law_pick f fd) : FnOk P w K mg base CX0 1 f fd ["source", "many"] (spG K mg F_pick) := by
  have m_int := T.m_int
  refine Fu.ok sc_law_pick (fun vs H Q E hs => ?_) (fun cdv A outer s H vs Q E hr hs => ?_)
  · obtain ⟨S, O, rest, ds, rfl, hS, hA, hO, r, n, rfl, hq⟩ := hs
    rw [List.length_cons, r.length]; rfl
  · obtain ⟨S, O, rest, ds, rfl, hS, ⟨i, j, hA⟩, hO, r, n, rfl, hq⟩ := hs
    cases r with
    | cons r1 r2 =>
    cases r1
    cases r2
    unfold pickM at hq
    split at hq
    · rename_i hn
      obtain ⟨_, hq⟩ := hq
      have hq : ∀ r, 0 ≤ r → r < n → ∀ H', Fin (some S) H H' → Q (.int r) H' := fun r h1 h2 H' hf => hq r h1 h2 _ H' hf ⟨.i r, trivial⟩
      have fin : ∀ u1 u2 : V, (∃ a b : Int, u1 = .int a ∧ u2 = .int b) → Fin (some S) H (upd H S (.lst [u1, u2])) := fun u1 u2 ⟨a, b, e1, e2⟩ => by
        subst e1 e2
        exact ⟨fun a o e ne => by rw [upd_ne (fun z => ne (by rw [z]))]; exact e, fun S' e => by cases e; exact ⟨a, b, upd_same⟩⟩
      refine ⟨_, pss_cons (ps_if (pt_cmpR op_gt (pe_ix ix_seq (pv 0) pe_int (fun _ _ => rfl)) pe_int (nomark _))
          (pss_cons (ps_set (i := 2) sc_law_pick.nd rfl (.inl rfl) (pe_op op_mod (pe_callTy call_int1 (by rfl) m_int (by decide +kernel) (pa_cons (pe_ix ix_seq (pv 0) pe_int (fun _ _ => rfl)) pa_nil (by rfl)) (by decide) (by decide) (by rfl) (by rfl)) (pv 1)))
            (pss_cons (ps_asg (pe_op op_fdiv (pe_ix ix_seq (pv 0) pe_int (fun _ _ => rfl)) (pv 1)) (pg_sub (pv 0) pe_int set_list))
              (pss_one (ps_ret (pv 2))))) pss_nil)
        (pss_cons (ps_asg (pe_op op_mod (pe_callTy call_int1 (by rfl) m_int (by decide +kernel) (pa_cons (pe_op op_add (pe_op op_mul (pe_ix ix_seq (pv 0) pe_int (fun _ _ => rfl)) pe_int) pe_int) pa_nil (by rfl)) (by decide) (by decide) (by rfl) (by rfl)) pe_int) (pg_sub (pv 0) pe_int set_list))
        (pss_cons (ps_set (i := 3) sc_law_pick.nd rfl (.inl rfl) (pe_op op_mod (pe_callTy call_int1 (by rfl) m_int (by decide +kernel) (pa_cons (pe_op op_add (pe_op op_add (pe_op op_mul (pe_ix ix_seq (pv 0) pe_int (fun _ _ => rfl)) pe_int) (pe_op op_fdiv (pe_ix ix_seq (pv 0) pe_int (fun _ _ => rfl)) pe_int)) pe_int) pa_nil (by rfl)) (by decide) (by decide) (by rfl) (by rfl)) pe_int))
        (pss_one (ps_ret (pe_op op_mod (pe_callTy call_int1 (by rfl) m_int (by decide +kernel) (pa_cons (pe_op op_fdiv (pv 3) pe_int) pa_nil (by rfl)) (by decide) (by decide) (by rfl) (by rfl)) (pv 1)))))), ?_⟩
      have rd : ∀ {H' : Hp} {a b : V}, H' S = some (.lst [a, b]) → SqL K H' S [a, b] := fun h => .inl (.inl h)
      refine ⟨.ref S, rfl, .inl ⟨S, _, 0, .int i, rfl, rfl, rd hA, rfl, i, 1, rfl, rfl, _, rfl, ?_⟩⟩
      refine ite2 (fun hc => ?_) (fun hc => ?_)
      · refine ⟨.ref S, rfl, .inl ⟨S, _, 0, .int i, rfl, rfl, rd hA, rfl, .inl ⟨i, rfl, _, rfl, i, n, rfl, rfl, hn.1, ?_⟩⟩⟩
        refine ⟨.ref S, rfl, .inl ⟨S, _, 0, .int i, rfl, rfl, rd hA, rfl, _, rfl, i, n, rfl, rfl, hn, ?_⟩⟩
        refine ⟨.ref S, rfl, S, _, 0, 0, rfl, rfl, hA, rfl, ?_⟩
        exact ⟨_, rfl, hq _ (Int.emod_nonneg _ (by omega)) (Int.emod_lt_of_pos _ hn.1) _ (fin _ _ ⟨_, _, rfl, rfl⟩)⟩
      · refine ⟨.ref S, rfl, .inl ⟨S, _, 1, .int j, rfl, rfl, rd hA, rfl, j, 48271, rfl, rfl, .inr (by decide), _, 12345, rfl, rfl, .inl ⟨_, rfl, _, 2147483647, rfl, rfl, (by show (0 : Int) < 2147483647; decide), ?_⟩⟩⟩
        refine ⟨.ref S, rfl, S, _, 1, 1, rfl, rfl, hA, rfl, ?_⟩
        refine ⟨.ref S, rfl, .inl ⟨S, _, 1, _, rfl, rfl, rd upd_same, rfl, _, 69621, rfl, rfl, .inr (by decide), .ref S, rfl, .inl ⟨S, _, 1, _, rfl, rfl, rd upd_same, rfl, _, 127, rfl, rfl, (by show (0 : Int) < 127 ∧ (127 : Int) < 1073741824; decide), _, _, rfl, rfl, _, 7, rfl, rfl, .inl ⟨_, rfl, _, 2147483629, rfl, rfl, (by show (0 : Int) < 2147483629; decide), ?_⟩⟩⟩⟩
        refine ⟨_, rfl, _, 16, rfl, rfl, (by show (0 : Int) < 16 ∧ (16 : Int) < 1073741824; decide), .inl ⟨_, rfl, _, rfl, _, n, rfl, rfl, hn.1, ?_⟩⟩
        exact hq _ (Int.emod_nonneg _ (by omega)) (Int.emod_lt_of_pos _ hn.1) _ (fin _ _ ⟨_, _, rfl, rfl⟩)
    · exact hq.elim
theorem c_law_pick {X : Cx} (T : Txt X.K X.mg) (hr : Room 1 X.A) : GCallOk X "_law_pick" F_pick := by
  obtain ⟨f, fd, hm, Fu, hb⟩ := T.f_law_pick
  exact ⟨1, f, fd, _, ok_law_pick T Fu, hr, hm, Fu.kp, hb⟩
abbrev s_law_over : Stmt := topS 27
theorem sc_law_over : FnScope ["word", "bit"] ["word"] (defScope s_law_over) := ⟨rfl, rfl, rfl, by decide +kernel, rfl, by decide +kernel, by decide +kernel⟩
def M.law_over (p_word : (List Int)) : Option (List Int) :=
 bd (bd (bd (lf (szO p_word)) fun xs138 =>
 rt (xs138.map fun (bit137 : Int) => (1 - bit137))) fun x139 =>
 rt x139) fun x140 =>
 rt x140
def F_law_over : List D → (D → Prop) → Prop := fun ds P => ∃ (x0 : (List Int)) (r : (List Int)), ds = [(eT eI) x0] ∧ M.law_over x0 = some r ∧ P ((eT eI) r)
theorem t_law_over {P : Program} {w : World} {K : PySem.W.Frag} {mg : Str → Option Value} {base : Heap} {f : Addr} {cdv : Value} {A : Around} {outer : List PySem.Env} {s : Shared} {H : Hp} {E : XK} (T : Txt K mg) (hr : Room 0 (Cxf P w K mg base ["word", "bit"] "_law_over" s_law_over f cdv A outer s H E).A) (p_word : (List Int)) : Tail (Cxf P w K mg base ["word", "bit"] "_law_over" s_law_over f cdv A outer s H E) (defBody s_law_over) [.d ((eT eI) p_word), .u] (eT eI) (M.law_over p_word) := by
 unfold M.law_over
 exact (JS.ret (c := id) (fun _ => rfl) nl_T (JE.cl (JE.tupleL (E := eI) rfl T.m_tuple (JL.je (JL.mapP (g := fun (bit137 : Int) => (1 - bit137)) (JL.lc0 (M0 := false) (own := [("bit", 1)]) (up := fun ρ x => ρ.set 1 (.d (eI x))) (E := eI) (F := eI) (f := fun (bit137 : Int) => rt (1 - bit137)) rfl sc_law_over.nd (JI.tup (E := eI) (JE.var (E := (eT eI)) 0 rfl)) (by first | exact blkOk_by (own := [("bit", 1)]) (by show blkC ["word", "bit"] (defScope s_law_over) _ _ = true; decide +kernel) | exact blkOk_in (sc0 := defScope s_law_over) (own := [("bit", 1)]) rfl (by show blkC ["word", "bit"] _ _ _ = true; decide +kernel)) (by decide) rfl (fun s H C cl fp => (JG.name 1 sc_law_over.nd rfl (by first | exact Or.inl rfl | exact Or.inr rfl) (by first | exact Or.inl rfl | exact Or.inr rfl))) (fun s H C cl fp bit137 => JE.cl (JE.sub JE.int (JE.var (E := eI) 1 rfl)) (by first | with_reducible rfl | (simp only [rtbO, rtbG]; done) | (simp only [rtbO, rtbG]; congr; done) | rfl)))))) (by first | with_reducible rfl | (simp only [rtbO, rtbG]; done) | (simp only [rtbO, rtbG]; congr; done) | rfl)))
theorem ok_law_over {P : Program} {w : World} {K : PySem.W.Frag} {mg : Str → Option Value} {base : Heap} (T : Txt K mg) {f : Addr} {fd : FuncData} (Fu : Fun K "_law_over" "_law_over" s_law_over f fd) : FnOk P w K mg base CX0 1 f fd ["word"] (spF K mg F_law_over) :=
 fn_ok Fu sc_law_over F_law_over (fun ds Q h => by obtain ⟨x0, r, rfl, hm, hq⟩ := h; rfl) (by decide) fun cdv A outer s H E hr ds Q hF => by
  obtain ⟨x0, r, rfl, hm, hq⟩ := hF
  exact ⟨_, _, _, t_law_over T hr x0, r, hm, hq⟩
theorem c_law_over {X : Cx} (T : Txt X.K X.mg) (hr : Room 1 X.A) : CallOk X "_law_over" F_law_over := by
 obtain ⟨f, fd, hm, Fu, hb⟩ := T.f_law_over
 exact ⟨1, f, fd, _, ok_law_over T Fu, hr, hm, Fu.kp, hb⟩
abbrev s_index_of : Stmt := topS 12
theorem sc_index_of : FnScope ["word", "left", "ahead", "at", "bit"] ["word"] (defScope s_index_of) := ⟨rfl, rfl, rfl, by decide +kernel, rfl, by decide +kernel, by decide +kernel⟩
def M.index_of (p_word : (List Int)) : Option Int :=
 bd (lf (M.bits p_word)) fun word19 =>
 bd (foldM' (fun (at23 : (Int × Int)) (t22 : (Int × Int)) => bd (ifM (decide (at23.2 = 1)) (bd (bd (lf (M.choose (((word19.length : Int) - at23.1) - 1) t22.1)) fun x28 =>
 rt (t22.2 + x28)) fun ahead29 =>
 bd (rt (t22.1 - 1)) fun left30 =>
 rt (left30, ahead29)) (rt (t22.1, t22.2))) fun (t27 : (Int × Int)) =>
 rt (t27.1, t27.2)) (enumL 0 word19) (word19.sum, 0)) fun t22 =>
 rt t22.2
def F_index_of : List D → (D → Prop) → Prop := fun ds P => ∃ (x0 : (List Int)) (r : Int), ds = [(eT eI) x0] ∧ M.index_of x0 = some r ∧ P (eI r)
theorem t_index_of {P : Program} {w : World} {K : PySem.W.Frag} {mg : Str → Option Value} {base : Heap} {f : Addr} {cdv : Value} {A : Around} {outer : List PySem.Env} {s : Shared} {H : Hp} {E : XK} (T : Txt K mg) (hr : Room 1 (Cxf P w K mg base ["word", "left", "ahead", "at", "bit"] "index_of" s_index_of f cdv A outer s H E).A) (p_word : (List Int)) : Tail (Cxf P w K mg base ["word", "left", "ahead", "at", "bit"] "index_of" s_index_of f cdv A outer s H E) (defBody s_index_of) [.d ((eT eI) p_word), .u, .u, .u, .u] eI (M.index_of p_word) := by
 unfold M.index_of
 exact (JS.asg (i := 0) (F := (eT eI)) (JAsE.of sc_index_of.nd rfl (by first | exact Or.inl rfl | exact Or.inr rfl) (by first | exact Or.inl rfl | exact Or.inr rfl) (JE.cl (JE.call1 (E1 := (eT eI)) (f := M.bits) (G := (eT eI)) (fun x1 r P h q => ⟨x1, r, rfl, h, q⟩) (c_bits T (hr.mono (by decide))) (JE.var (E := (eT eI)) 0 rfl)) (by first | with_reducible rfl | (simp only [rtbO, rtbG]; done) | (simp only [rtbO, rtbG]; congr; done) | rfl))) (fun word19 => (JS.asgV (i := 1) (F := eI) (v := word19.sum) (JAsE.of sc_index_of.nd rfl (by first | exact Or.inl rfl | exact Or.inr rfl) (by first | exact Or.inl rfl | exact Or.inr rfl) (JE.cl (JE.sumT rfl rfl T.m_sum (JE.var (E := (eT eI)) 0 rfl)) (by first | with_reducible rfl | (simp only [rtbO, rtbG]; done) | (simp only [rtbO, rtbG]; congr; done) | rfl))) (JS.asgV (i := 2) (F := eI) (v := 0) (JAsE.of sc_index_of.nd rfl (by first | exact Or.inl rfl | exact Or.inr rfl) (by first | exact Or.inl rfl | exact Or.inr rfl) (JE.cl JE.int (by first | with_reducible rfl | (simp only [rtbO, rtbG]; done) | (simp only [rtbO, rtbG]; congr; done) | rfl))) (JS.forSP (up := fun ρ x => (ρ.set 3 (.d (eI x.1))).set 4 (.d (eI x.2))) (Ei := (eP eI eI)) (fun (t22 : (Int × Int)) => [.d ((eT eI) word19), .d (eI t22.1), .d (eI t22.2), .u, .u]) (word19.sum, 0) PassesOwn.never rfl (JI.cl (JI.enumT (E := eI) rfl T.m_enumerate (JE.var (E := (eT eI)) 0 rfl)) (by first | with_reducible rfl | (simp only [rtbO, rtbG]; done) | (simp only [rtbO, rtbG]; congr; done) | rfl)) (JG.pair 3 4 rfl sc_index_of.nd rfl (by first | exact Or.inl rfl | exact Or.inr rfl) (by first | exact Or.inl rfl | exact Or.inr rfl) rfl (by first | exact Or.inl rfl | exact Or.inr rfl) (by first | exact Or.inl rfl | exact Or.inr rfl)) (.same (.same (.same (.same (.same (.nil)))))) (fun at23 t22 => (JS.ifJP (f := fun (t27 : (Int × Int)) => [.d ((eT eI) word19), .d (eI t27.1), .d (eI t27.2), .u, .u]) (JT.cl (JT.eq (JE.var (E := eI) 4 rfl) JE.int) (by first | with_reducible rfl | (simp only [rtbO, rtbG]; done) | (simp only [rtbO, rtbG]; congr; done) | rfl)) (JS.asg (i := 2) (F := eI) (JAsE.of sc_index_of.nd rfl (by first | exact Or.inl rfl | exact Or.inr rfl) (by first | exact Or.inl rfl | exact Or.inr rfl) (JE.cl (JE.add (JE.var (E := eI) 2 rfl) (JE.call2 (E1 := eI) (E2 := eI) (f := M.choose) (G := eI) (fun x1 x2 r P h q => ⟨x1, x2, r, rfl, h, q⟩) (c_choose T (hr.mono (by decide))) (JE.sub (JE.sub (JE.len (E := eI) (k := .t) rfl T.m_len (JE.var (E := (eT eI)) 0 rfl)) (JE.var (E := eI) 3 rfl)) JE.int) (JE.var (E := eI) 1 rfl))) (by first | with_reducible rfl | (simp only [rtbO, rtbG]; done) | (simp only [rtbO, rtbG]; congr; done) | rfl))) (fun ahead29 => (JS.asg (i := 1) (F := eI) (JAsE.of sc_index_of.nd rfl (by first | exact Or.inl rfl | exact Or.inr rfl) (by first | exact Or.inl rfl | exact Or.inr rfl) (JE.cl (JE.sub (JE.var (E := eI) 1 rfl) JE.int) (by first | with_reducible rfl | (simp only [rtbO, rtbG]; done) | (simp only [rtbO, rtbG]; congr; done) | rfl))) (fun left30 => (JS.nil (left30, ahead29) rfl (.same (.same (.same (.drop (.drop (.nil))))))))))) (JS.nil (t22.1, t22.2) rfl (.same (.same (.same (.drop (.drop (.nil))))))) (fun t27 => (JS.nil (t27.1, t27.2) rfl (.same (.same (.same (.same (.same (.nil)))))))))) (fun t22 => (JS.retP (c := id) (fun _ => rfl) nl_I (JE.cl (JE.var (E := eI) 2 rfl) (by first | with_reducible rfl | (simp only [rtbO, rtbG]; done) | (simp only [rtbO, rtbG]; congr; done) | rfl)))))))))
theorem ok_index_of {P : Program} {w : World} {K : PySem.W.Frag} {mg : Str → Option Value} {base : Heap} (T : Txt K mg) {f : Addr} {fd : FuncData} (Fu : Fun K "index_of" "index_of" s_index_of f fd) : FnOk P w K mg base CX0 2 f fd ["word"] (spF K mg F_index_of) :=
 fn_ok Fu sc_index_of F_index_of (fun ds Q h => by obtain ⟨x0, r, rfl, hm, hq⟩ := h; rfl) (by decide) fun cdv A outer s H E hr ds Q hF => by
  obtain ⟨x0, r, rfl, hm, hq⟩ := hF
  exact ⟨_, _, _, t_index_of T hr x0, r, hm, hq⟩
theorem c_index_of {X : Cx} (T : Txt X.K X.mg) (hr : Room 2 X.A) : CallOk X "index_of" F_index_of := by
 obtain ⟨f, fd, hm, Fu, hb⟩ := T.f_index_of
 exact ⟨2, f, fd, _, ok_index_of T Fu, hr, hm, Fu.kp, hb⟩
abbrev s_word_at : Stmt := topS 13
theorem sc_word_at : FnScope ["n", "w", "index", "found", "at", "here"] ["n", "w", "index"] (defScope s_word_at) := ⟨rfl, rfl, rfl, by decide +kernel, rfl, by decide +kernel, by decide +kernel⟩
def M.word_at (p_n : Int) (p_w : Int) (p_index : Int) : Option (List Int) :=
 bd (lf (M.checked p_n p_w)) fun _ =>
 bd (bd (ifM (decide (0 ≤ p_index)) (bd (lf (M.choose p_n p_w)) fun x31 =>
 rt (decide (p_index < x31))) (rt false)) fun x32 =>
 rt (!x32)) fun b47 => ifM b47 (lf none) (bd (rt ([] : List Int)) fun found33 =>
 bd (lf (range1O p_n)) fun xs46 =>
 bd (foldM' (fun (at35 : Int) (t34 : (Int × (Int × (List Int)))) => bd (lf (M.choose ((p_n - at35) - 1) t34.1)) fun here36 =>
 bd (ifM (decide (t34.2.1 < here36)) (bd (lf (appO t34.2.2 0)) fun found42 =>
 rt (t34.1, t34.2.1, found42)) (bd (rt (t34.2.1 - here36)) fun index43 =>
 bd (rt (t34.1 - 1)) fun w44 =>
 bd (lf (appO t34.2.2 1)) fun found45 =>
 rt (w44, index43, found45))) fun (t41 : (Int × (Int × (List Int)))) =>
 rt (t41.1, t41.2.1, t41.2.2)) xs46 (p_w, p_index, found33)) fun t34 =>
 rt t34.2.2)
def F_word_at : List D → (D → Prop) → Prop := fun ds P => ∃ (x0 : Int) (x1 : Int) (x2 : Int) (r : (List Int)), ds = [eI x0, eI x1, eI x2] ∧ M.word_at x0 x1 x2 = some r ∧ P ((eT eI) r)
theorem t_word_at {P : Program} {w : World} {K : PySem.W.Frag} {mg : Str → Option Value} {base : Heap} {f : Addr} {cdv : Value} {A : Around} {outer : List PySem.Env} {s : Shared} {H : Hp} {E : XK} (T : Txt K mg) (hr : Room 1 (Cxf P w K mg base ["n", "w", "index", "found", "at", "here"] "word_at" s_word_at f cdv A outer s H E).A) (p_n : Int) (p_w : Int) (p_index : Int) : Tail (Cxf P w K mg base ["n", "w", "index", "found", "at", "here"] "word_at" s_word_at f cdv A outer s H E) (defBody s_word_at) [.d (eI p_n), .d (eI p_w), .d (eI p_index), .u, .u, .u] (eT eI) (M.word_at p_n p_w p_index) := by
 unfold M.word_at
 exact (JS.exS (F := eN) (JE.cl (JE.call2 (E1 := eI) (E2 := eI) (f := M.checked) (G := eN) (fun x1 x2 r P h q => ⟨x1, x2, r, rfl, h, q⟩) (c_checked T (hr.mono (by decide))) (JE.var (E := eI) 0 rfl) (JE.var (E := eI) 1 rfl)) (by first | with_reducible rfl | (simp only [rtbO, rtbG]; done) | (simp only [rtbO, rtbG]; congr; done) | rfl)) (fun _ => (JS.ifT (JT.cl (JT.not (JT.chain op_le op_lt (by with_unfolding_all rfl) JE.int (JE.var (E := eI) 2 rfl) (JE.call2 (E1 := eI) (E2 := eI) (f := M.choose) (G := eI) (fun x1 x2 r P h q => ⟨x1, x2, r, rfl, h, q⟩) (c_choose T (hr.mono (by decide))) (JE.var (E := eI) 0 rfl) (JE.var (E := eI) 1 rfl)))) (by first | with_reducible rfl | (simp only [rtbO, rtbG]; done) | (simp only [rtbO, rtbG]; congr; done) | rfl)) JS.never (JS.asgL (i := 3) (F := eI) (JAsL.of sc_word_at.nd rfl (by first | exact Or.inl rfl | exact Or.inr rfl) (by first | exact Or.inl rfl | exact Or.inr rfl) (JL.cl (JL.lst (E := eI) JH.nil) (by first | with_reducible rfl | (simp only [rtbO, rtbG]; done) | (simp only [rtbO, rtbG]; congr; done) | rfl))) (Nat.le_of_ble_eq_true rfl) (fun found33 => (JS.forS (up := fun ρ x => ρ.set 4 (.d (eI x))) (Ei := eI) (fun (t34 : (Int × (Int × (List Int)))) => [.d (eI p_n), .d (eI t34.1), .d (eI t34.2.1), .l (t34.2.2.map eI), .u, .u]) (p_w, p_index, found33) PassesOwn.never rfl (JI.cl (JI.range1 rfl T.m_range (JE.var (E := eI) 0 rfl)) (by first | with_reducible rfl | (simp only [rtbO, rtbG]; done) | (simp only [rtbO, rtbG]; congr; done) | rfl)) (JG.name 4 sc_word_at.nd rfl (by first | exact Or.inl rfl | exact Or.inr rfl) (by first | exact Or.inl rfl | exact Or.inr rfl)) (.same (.same (.same (.same (.same (.same (.nil))))))) (fun at35 t34 => (JS.asg (i := 5) (F := eI) (JAsE.of sc_word_at.nd rfl (by first | exact Or.inl rfl | exact Or.inr rfl) (by first | exact Or.inl rfl | exact Or.inr rfl) (JE.cl (JE.call2 (E1 := eI) (E2 := eI) (f := M.choose) (G := eI) (fun x1 x2 r P h q => ⟨x1, x2, r, rfl, h, q⟩) (c_choose T (hr.mono (by decide))) (JE.sub (JE.sub (JE.var (E := eI) 0 rfl) (JE.var (E := eI) 4 rfl)) JE.int) (JE.var (E := eI) 1 rfl)) (by first | with_reducible rfl | (simp only [rtbO, rtbG]; done) | (simp only [rtbO, rtbG]; congr; done) | rfl))) (fun here36 => (JS.ifJP (f := fun (t41 : (Int × (Int × (List Int)))) => [.d (eI p_n), .d (eI t41.1), .d (eI t41.2.1), .l (t41.2.2.map eI), .u, .u]) (JT.cl (JT.lt (JE.var (E := eI) 2 rfl) (JE.var (E := eI) 5 rfl)) (by first | with_reducible rfl | (simp only [rtbO, rtbG]; done) | (simp only [rtbO, rtbG]; congr; done) | rfl)) (JS.appendP (F := eI) 3 rfl (JE.cl JE.int (by first | with_reducible rfl | (simp only [rtbO, rtbG]; done) | (simp only [rtbO, rtbG]; congr; done) | rfl)) (fun found42 => (JS.nil (t34.1, t34.2.1, found42) rfl (.same (.same (.same (.same (.drop (.drop (.nil)))))))))) (JS.asg (i := 2) (F := eI) (JAsE.of sc_word_at.nd rfl (by first | exact Or.inl rfl | exact Or.inr rfl) (by first | exact Or.inl rfl | exact Or.inr rfl) (JE.cl (JE.sub (JE.var (E := eI) 2 rfl) (JE.var (E := eI) 5 rfl)) (by first | with_reducible rfl | (simp only [rtbO, rtbG]; done) | (simp only [rtbO, rtbG]; congr; done) | rfl))) (fun index43 => (JS.asg (i := 1) (F := eI) (JAsE.of sc_word_at.nd rfl (by first | exact Or.inl rfl | exact Or.inr rfl) (by first | exact Or.inl rfl | exact Or.inr rfl) (JE.cl (JE.sub (JE.var (E := eI) 1 rfl) JE.int) (by first | with_reducible rfl | (simp only [rtbO, rtbG]; done) | (simp only [rtbO, rtbG]; congr; done) | rfl))) (fun w44 => (JS.appendP (F := eI) 3 rfl (JE.cl JE.int (by first | with_reducible rfl | (simp only [rtbO, rtbG]; done) | (simp only [rtbO, rtbG]; congr; done) | rfl)) (fun found45 => (JS.nil (w44, index43, found45) rfl (.same (.same (.same (.same (.drop (.drop (.nil)))))))))))))) (fun t41 => (JS.nil (t41.1, t41.2.1, t41.2.2) rfl (.same (.same (.same (.same (.same (.same (.nil))))))))))))) (fun t34 => (JS.lw (ρ' := [.d (eI p_n), .d (eI t34.1), .d (eI t34.2.1), .d ((eL eI) t34.2.2), .u, .u]) (.same (.same (.same (.frz (.same (.same (.nil))))))) (JS.retP (c := id) (fun _ => rfl) nl_T (JE.cl (JE.tupleL (E := eI) rfl T.m_tuple (JE.var (E := (eL eI)) 3 rfl)) (by first | with_reducible rfl | (simp only [rtbO, rtbG]; done) | (simp only [rtbO, rtbG]; congr; done) | rfl)))))))))))
theorem ok_word_at {P : Program} {w : World} {K : PySem.W.Frag} {mg : Str → Option Value} {base : Heap} (T : Txt K mg) {f : Addr} {fd : FuncData} (Fu : Fun K "word_at" "word_at" s_word_at f fd) : FnOk P w K mg base CX0 2 f fd ["n", "w", "index"] (spF K mg F_word_at) :=
 fn_ok Fu sc_word_at F_word_at (fun ds Q h => by obtain ⟨x0, x1, x2, r, rfl, hm, hq⟩ := h; rfl) (by decide) fun cdv A outer s H E hr ds Q hF => by
  obtain ⟨x0, x1, x2, r, rfl, hm, hq⟩ := hF
  exact ⟨_, _, _, t_word_at T hr x0 x1 x2, r, hm, hq⟩
theorem c_word_at {X : Cx} (T : Txt X.K X.mg) (hr : Room 2 X.A) : CallOk X "word_at" F_word_at := by
 obtain ⟨f, fd, hm, Fu, hb⟩ := T.f_word_at
 exact ⟨2, f, fd, _, ok_word_at T Fu, hr, hm, Fu.kp, hb⟩
abbrev s_is_balanced : Stmt := topS 15
theorem sc_is_balanced : FnScope ["word", "high", "bit"] ["word"] (defScope s_is_balanced) := ⟨rfl, rfl, rfl, by decide +kernel, rfl, by decide +kernel, by decide +kernel⟩
def M.is_balanced (p_word : (List Int)) : Option Bool :=
 bd (lf (M.bits p_word)) fun xs65 =>
 bd (loopM (fun (bit63 : Int) (t62 : Int) => bd (rt ((t62 + 1) - (2 * bit63))) fun high64 =>
 ifM (decide (high64 < 0)) (rt (Fl.rt false)) (rt (Fl.nx high64))) xs65 0) (outM id fun t62 =>
 rt (decide (t62 = 0)))
def F_is_balanced : List D → (D → Prop) → Prop := fun ds P => ∃ (x0 : (List Int)) (r : Bool), ds = [(eT eI) x0] ∧ M.is_balanced x0 = some r ∧ P (eB r)
theorem t_is_balanced {P : Program} {w : World} {K : PySem.W.Frag} {mg : Str → Option Value} {base : Heap} {f : Addr} {cdv : Value} {A : Around} {outer : List PySem.Env} {s : Shared} {H : Hp} {E : XK} (T : Txt K mg) (hr : Room 1 (Cxf P w K mg base ["word", "high", "bit"] "is_balanced" s_is_balanced f cdv A outer s H E).A) (p_word : (List Int)) : Tail (Cxf P w K mg base ["word", "high", "bit"] "is_balanced" s_is_balanced f cdv A outer s H E) (defBody s_is_balanced) [.d ((eT eI) p_word), .u, .u] eB (M.is_balanced p_word) := by
 unfold M.is_balanced
 exact (JS.asgV (i := 1) (F := eI) (v := 0) (JAsE.of sc_is_balanced.nd rfl (by first | exact Or.inl rfl | exact Or.inr rfl) (by first | exact Or.inl rfl | exact Or.inr rfl) (JE.cl JE.int (by first | with_reducible rfl | (simp only [rtbO, rtbG]; done) | (simp only [rtbO, rtbG]; congr; done) | rfl))) (JS.for (up := fun ρ x => ρ.set 2 (.d (eI x))) (Ei := eI) (fun (t62 : Int) => [.u, .d (eI t62), .u]) 0 id (fun _ => rfl) PassesOwn.never rfl (JI.cl (JI.tup (E := eI) (JE.call1 (E1 := (eT eI)) (f := M.bits) (G := (eT eI)) (fun x1 r P h q => ⟨x1, r, rfl, h, q⟩) (c_bits T (hr.mono (by decide))) (JE.var (E := (eT eI)) 0 rfl))) (by first | with_reducible rfl | (simp only [rtbO, rtbG]; done) | (simp only [rtbO, rtbG]; congr; done) | rfl)) (JG.name 2 sc_is_balanced.nd rfl (by first | exact Or.inl rfl | exact Or.inr rfl) (by first | exact Or.inl rfl | exact Or.inr rfl)) (.drop (.same (.same (.nil)))) (fun bit63 t62 => (JS.asg (i := 1) (F := eI) (JAsE.of sc_is_balanced.nd rfl (by first | exact Or.inl rfl | exact Or.inr rfl) (by first | exact Or.inl rfl | exact Or.inr rfl) (JE.cl (JE.sub (JE.add (JE.var (E := eI) 1 rfl) JE.int) (JE.mulL (by decide) (JE.var (E := eI) 2 rfl))) (by first | with_reducible rfl | (simp only [rtbO, rtbG]; done) | (simp only [rtbO, rtbG]; congr; done) | rfl))) (fun high64 => (JS.ifTP (JT.cl (JT.lt (JE.var (E := eI) 1 rfl) JE.int) (by first | with_reducible rfl | (simp only [rtbO, rtbG]; done) | (simp only [rtbO, rtbG]; congr; done) | rfl)) (JS.retP (c := Fl.rt) (fun _ => rfl) nl_B (JE.cl JE.bl (by first | with_reducible rfl | (simp only [rtbO, rtbG]; done) | (simp only [rtbO, rtbG]; congr; done) | rfl))) (JS.nil (Fl.nx high64) rfl (.same (.same (.drop (.nil))))))))) (fun t62 => (JS.retP (c := id) (fun _ => rfl) nl_B (JE.cl (JE.eq (JE.var (E := eI) 1 rfl) JE.int) (by first | with_reducible rfl | (simp only [rtbO, rtbG]; done) | (simp only [rtbO, rtbG]; congr; done) | rfl))))))
theorem ok_is_balanced {P : Program} {w : World} {K : PySem.W.Frag} {mg : Str → Option Value} {base : Heap} (T : Txt K mg) {f : Addr} {fd : FuncData} (Fu : Fun K "is_balanced" "is_balanced" s_is_balanced f fd) : FnOk P w K mg base CX0 2 f fd ["word"] (spF K mg F_is_balanced) :=
 fn_ok Fu sc_is_balanced F_is_balanced (fun ds Q h => by obtain ⟨x0, r, rfl, hm, hq⟩ := h; rfl) (by decide) fun cdv A outer s H E hr ds Q hF => by
  obtain ⟨x0, r, rfl, hm, hq⟩ := hF
  exact ⟨_, _, _, t_is_balanced T hr x0, r, hm, hq⟩
theorem c_is_balanced {X : Cx} (T : Txt X.K X.mg) (hr : Room 2 X.A) : CallOk X "is_balanced" F_is_balanced := by
 obtain ⟨f, fd, hm, Fu, hb⟩ := T.f_is_balanced
 exact ⟨2, f, fd, _, ok_is_balanced T Fu, hr, hm, Fu.kp, hb⟩
abbrev s_paths : Stmt := topS 16
theorem sc_paths : FnScope ["steps", "high", "down"] ["steps", "high"] (defScope s_paths) := ⟨rfl, rfl, rfl, by decide +kernel, rfl, by decide +kernel, by decide +kernel⟩
def M.paths (p_steps : Int) (p_high : Int) : Option Int :=
 ifM ((decide (p_high < 0)) || ((decide (p_steps < p_high)) || (decide (((p_steps - p_high) % 2) = 1)))) (rt 0) (bd (rt ((p_steps + p_high) / 2)) fun down66 =>
 bd (bd (lf (M.choose p_steps down66)) fun x67 =>
 bd (lf (M.choose p_steps (down66 + 1))) fun x68 =>
 rt (x67 - x68)) fun x69 =>
 rt x69)
def F_paths : List D → (D → Prop) → Prop := fun ds P => ∃ (x0 : Int) (x1 : Int) (r : Int), ds = [eI x0, eI x1] ∧ M.paths x0 x1 = some r ∧ P (eI r)
theorem t_paths {P : Program} {w : World} {K : PySem.W.Frag} {mg : Str → Option Value} {base : Heap} {f : Addr} {cdv : Value} {A : Around} {outer : List PySem.Env} {s : Shared} {H : Hp} {E : XK} (T : Txt K mg) (hr : Room 1 (Cxf P w K mg base ["steps", "high", "down"] "paths" s_paths f cdv A outer s H E).A) (p_steps : Int) (p_high : Int) : Tail (Cxf P w K mg base ["steps", "high", "down"] "paths" s_paths f cdv A outer s H E) (defBody s_paths) [.d (eI p_steps), .d (eI p_high), .u] eI (M.paths p_steps p_high) := by
 unfold M.paths
 exact (JS.ifTP (JT.cl (JW.jt (JW.orP (JT.lt (JE.var (E := eI) 1 rfl) JE.int) (JW.orP (JT.gt (JE.var (E := eI) 1 rfl) (JE.var (E := eI) 0 rfl)) (JW.or1 (JT.eq (JE.modR (by decide) (JE.sub (JE.var (E := eI) 0 rfl) (JE.var (E := eI) 1 rfl))) JE.int))))) (by first | with_reducible rfl | (simp only [rtbO, rtbG]; done) | (simp only [rtbO, rtbG]; congr; done) | rfl)) (JS.retP (c := id) (fun _ => rfl) nl_I (JE.cl JE.int (by first | with_reducible rfl | (simp only [rtbO, rtbG]; done) | (simp only [rtbO, rtbG]; congr; done) | rfl))) (JS.asg (i := 2) (F := eI) (JAsE.of sc_paths.nd rfl (by first | exact Or.inl rfl | exact Or.inr rfl) (by first | exact Or.inl rfl | exact Or.inr rfl) (JE.cl (JE.divR (by decide) (JE.add (JE.var (E := eI) 0 rfl) (JE.var (E := eI) 1 rfl))) (by first | with_reducible rfl | (simp only [rtbO, rtbG]; done) | (simp only [rtbO, rtbG]; congr; done) | rfl))) (fun down66 => (JS.ret (c := id) (fun _ => rfl) nl_I (JE.cl (JE.sub (JE.call2 (E1 := eI) (E2 := eI) (f := M.choose) (G := eI) (fun x1 x2 r P h q => ⟨x1, x2, r, rfl, h, q⟩) (c_choose T (hr.mono (by decide))) (JE.var (E := eI) 0 rfl) (JE.var (E := eI) 2 rfl)) (JE.call2 (E1 := eI) (E2 := eI) (f := M.choose) (G := eI) (fun x1 x2 r P h q => ⟨x1, x2, r, rfl, h, q⟩) (c_choose T (hr.mono (by decide))) (JE.var (E := eI) 0 rfl) (JE.add (JE.var (E := eI) 2 rfl) JE.int))) (by first | with_reducible rfl | (simp only [rtbO, rtbG]; done) | (simp only [rtbO, rtbG]; congr; done) | rfl))))))
theorem ok_paths {P : Program} {w : World} {K : PySem.W.Frag} {mg : Str → Option Value} {base : Heap} (T : Txt K mg) {f : Addr} {fd : FuncData} (Fu : Fun K "paths" "paths" s_paths f fd) : FnOk P w K mg base CX0 2 f fd ["steps", "high"] (spF K mg F_paths) :=
 fn_ok Fu sc_paths F_paths (fun ds Q h => by obtain ⟨x0, x1, r, rfl, hm, hq⟩ := h; rfl) (by decide) fun cdv A outer s H E hr ds Q hF => by
  obtain ⟨x0, x1, r, rfl, hm, hq⟩ := hF
  exact ⟨_, _, _, t_paths T hr x0 x1, r, hm, hq⟩
theorem c_paths {X : Cx} (T : Txt X.K X.mg) (hr : Room 2 X.A) : CallOk X "paths" F_paths := by
 obtain ⟨f, fd, hm, Fu, hb⟩ := T.f_paths
 exact ⟨2, f, fd, _, ok_paths T Fu, hr, hm, Fu.kp, hb⟩
abbrev s_apart_bound : Stmt := topS 18
theorem sc_apart_bound : FnScope ["n", "d", "w", "half", "whole", "step", "size"] ["n", "d", "w"] (defScope s_apart_bound) := ⟨rfl, rfl, rfl, by decide +kernel, rfl, by decide +kernel, by decide +kernel⟩
def M.apart_bound (p_n : Int) (p_d : Int) (p_w : Int) : Option Int :=
 bd (lf (M.checked p_n p_w)) fun _ =>
 ifM (decide (p_d < 1)) (lf none) (bd (rt ((p_d + 1) / 2)) fun half90 =>
 ifM (decide ((2 * p_w) < p_d)) (rt 1) (bd (lf (range1O ((p_w - half90) + 1))) fun xs97 =>
 bd (foldM' (fun (step93 : Int) (t92 : Int) => bd (rt (half90 + step93)) fun size94 =>
 bd (bd (lf (mulO ((p_n - p_w) + size94) t92)) fun x95 =>
 lf (divO x95 size94)) fun whole96 =>
 rt whole96) xs97 1) fun t92 =>
 rt t92))
def F_apart_bound : List D → (D → Prop) → Prop := fun ds P => ∃ (x0 : Int) (x1 : Int) (x2 : Int) (r : Int), ds = [eI x0, eI x1, eI x2] ∧ M.apart_bound x0 x1 x2 = some r ∧ P (eI r)
theorem t_apart_bound {P : Program} {w : World} {K : PySem.W.Frag} {mg : Str → Option Value} {base : Heap} {f : Addr} {cdv : Value} {A : Around} {outer : List PySem.Env} {s : Shared} {H : Hp} {E : XK} (T : Txt K mg) (hr : Room 1 (Cxf P w K mg base ["n", "d", "w", "half", "whole", "step", "size"] "apart_bound" s_apart_bound f cdv A outer s H E).A) (p_n : Int) (p_d : Int) (p_w : Int) : Tail (Cxf P w K mg base ["n", "d", "w", "half", "whole", "step", "size"] "apart_bound" s_apart_bound f cdv A outer s H E) (defBody s_apart_bound) [.d (eI p_n), .d (eI p_d), .d (eI p_w), .u, .u, .u, .u] eI (M.apart_bound p_n p_d p_w) := by
 unfold M.apart_bound
 exact (JS.exS (F := eN) (JE.cl (JE.call2 (E1 := eI) (E2 := eI) (f := M.checked) (G := eN) (fun x1 x2 r P h q => ⟨x1, x2, r, rfl, h, q⟩) (c_checked T (hr.mono (by decide))) (JE.var (E := eI) 0 rfl) (JE.var (E := eI) 2 rfl)) (by first | with_reducible rfl | (simp only [rtbO, rtbG]; done) | (simp only [rtbO, rtbG]; congr; done) | rfl)) (fun _ => (JS.ifTP (JT.cl (JT.lt (JE.var (E := eI) 1 rfl) JE.int) (by first | with_reducible rfl | (simp only [rtbO, rtbG]; done) | (simp only [rtbO, rtbG]; congr; done) | rfl)) JS.never (JS.asg (i := 3) (F := eI) (JAsE.of sc_apart_bound.nd rfl (by first | exact Or.inl rfl | exact Or.inr rfl) (by first | exact Or.inl rfl | exact Or.inr rfl) (JE.cl (JE.divR (by decide) (JE.add (JE.var (E := eI) 1 rfl) JE.int)) (by first | with_reducible rfl | (simp only [rtbO, rtbG]; done) | (simp only [rtbO, rtbG]; congr; done) | rfl))) (fun half90 => (JS.ifTP (JT.cl (JT.lt (JE.mulL (by decide) (JE.var (E := eI) 2 rfl)) (JE.var (E := eI) 1 rfl)) (by first | with_reducible rfl | (simp only [rtbO, rtbG]; done) | (simp only [rtbO, rtbG]; congr; done) | rfl)) (JS.retP (c := id) (fun _ => rfl) nl_I (JE.cl JE.int (by first | with_reducible rfl | (simp only [rtbO, rtbG]; done) | (simp only [rtbO, rtbG]; congr; done) | rfl))) (JS.asgV (i := 4) (F := eI) (v := 1) (JAsE.of sc_apart_bound.nd rfl (by first | exact Or.inl rfl | exact Or.inr rfl) (by first | exact Or.inl rfl | exact Or.inr rfl) (JE.cl JE.int (by first | with_reducible rfl | (simp only [rtbO, rtbG]; done) | (simp only [rtbO, rtbG]; congr; done) | rfl))) (JS.forS (up := fun ρ x => ρ.set 5 (.d (eI x))) (Ei := eI) (fun (t92 : Int) => [.d (eI p_n), .u, .d (eI p_w), .d (eI half90), .d (eI t92), .u, .u]) 1 PassesOwn.never rfl (JI.cl (JI.range1 rfl T.m_range (JE.add (JE.sub (JE.var (E := eI) 2 rfl) (JE.var (E := eI) 3 rfl)) JE.int)) (by first | with_reducible rfl | (simp only [rtbO, rtbG]; done) | (simp only [rtbO, rtbG]; congr; done) | rfl)) (JG.name 5 sc_apart_bound.nd rfl (by first | exact Or.inl rfl | exact Or.inr rfl) (by first | exact Or.inl rfl | exact Or.inr rfl)) (.same (.drop (.same (.same (.same (.same (.same (.nil)))))))) (fun step93 t92 => (JS.asg (i := 6) (F := eI) (JAsE.of sc_apart_bound.nd rfl (by first | exact Or.inl rfl | exact Or.inr rfl) (by first | exact Or.inl rfl | exact Or.inr rfl) (JE.cl (JE.add (JE.var (E := eI) 3 rfl) (JE.var (E := eI) 5 rfl)) (by first | with_reducible rfl | (simp only [rtbO, rtbG]; done) | (simp only [rtbO, rtbG]; congr; done) | rfl))) (fun size94 => (JS.asg (i := 4) (F := eI) (JAsE.of sc_apart_bound.nd rfl (by first | exact Or.inl rfl | exact Or.inr rfl) (by first | exact Or.inl rfl | exact Or.inr rfl) (JE.cl (JE.div (JE.mul (JE.add (JE.sub (JE.var (E := eI) 0 rfl) (JE.var (E := eI) 2 rfl)) (JE.var (E := eI) 6 rfl)) (JE.var (E := eI) 4 rfl)) (JE.var (E := eI) 6 rfl)) (by first | with_reducible rfl | (simp only [rtbO, rtbG]; done) | (simp only [rtbO, rtbG]; congr; done) | rfl))) (fun whole96 => (JS.nil whole96 rfl (.same (.same (.same (.same (.same (.drop (.drop (.nil)))))))))))))) (fun t92 => (JS.retP (c := id) (fun _ => rfl) nl_I (JE.cl (JE.var (E := eI) 4 rfl) (by first | with_reducible rfl | (simp only [rtbO, rtbG]; done) | (simp only [rtbO, rtbG]; congr; done) | rfl))))))))))))
theorem ok_apart_bound {P : Program} {w : World} {K : PySem.W.Frag} {mg : Str → Option Value} {base : Heap} (T : Txt K mg) {f : Addr} {fd : FuncData} (Fu : Fun K "apart_bound" "apart_bound" s_apart_bound f fd) : FnOk P w K mg base CX0 2 f fd ["n", "d", "w"] (spF K mg F_apart_bound) :=
 fn_ok Fu sc_apart_bound F_apart_bound (fun ds Q h => by obtain ⟨x0, x1, x2, r, rfl, hm, hq⟩ := h; rfl) (by decide) fun cdv A outer s H E hr ds Q hF => by
  obtain ⟨x0, x1, x2, r, rfl, hm, hq⟩ := hF
  exact ⟨_, _, _, t_apart_bound T hr x0 x1 x2, r, hm, hq⟩
theorem c_apart_bound {X : Cx} (T : Txt X.K X.mg) (hr : Room 2 X.A) : CallOk X "apart_bound" F_apart_bound := by
 obtain ⟨f, fd, hm, Fu, hb⟩ := T.f_apart_bound
 exact ⟨2, f, fd, _, ok_apart_bound T Fu, hr, hm, Fu.kp, hb⟩
abbrev s_law_mixed : Stmt := topS 26
theorem sc_law_mixed : FnScope ["source", "things", "left", "found", "k"] ["source", "things"] (defScope s_law_mixed) := ⟨rfl, rfl, rfl, by decide +kernel, rfl, by decide +kernel, by decide +kernel⟩
def M.law_mixed (p_things : (List Int)) : G (List Int) :=
 bd (rt ([] : List Int)) fun found129 =>
 bd (lf (range1O (p_things.length : Int))) fun xs136 =>
 bd (foldM' (fun (k131 : Int) (t130 : ((List Int) × (List Int))) => bd (bd (pickM (t130.1.length : Int)) fun i135 => lf (popO t130.1 i135)) fun pr134 =>
 bd (lf (appO t130.2 pr134.1)) fun found132 =>
 (fun left133 => rt (left133, found132)) pr134.2) xs136 (p_things, found129)) fun t130 =>
 rt t130.2
def F_law_mixed : List D → (D → Prop) → Prop := fun ds P => ∃ (k1 : Kd) (x0 : (List Int)), ds = [(eQ k1 eI) x0] ∧ (M.law_mixed x0).wp fun r => P ((eL eI) r)
theorem t_law_mixed {P : Program} {w : World} {K : PySem.W.Frag} {mg : Str → Option Value} {base : Heap} {f : Addr} {cdv : Value} {A : Around} {outer : List PySem.Env} {s : Shared} {H : Hp} {E : XK} (T : Txt K mg) (hr : Room 1 (Cxf P w K mg base ["source", "things", "left", "found", "k"] "_law_mixed" s_law_mixed f cdv A outer s H E).A) {k1 : Kd} (p_things : (List Int)) : Tail (Cxf P w K mg base ["source", "things", "left", "found", "k"] "_law_mixed" s_law_mixed f cdv A outer s H E) (defBody s_law_mixed) [.src, .d ((eQ k1 eI) p_things), .u, .u, .u] (eL eI) (M.law_mixed p_things) := by
 unfold M.law_mixed
 exact (JS.asgLV (i := 2) (F := eI) (v := p_things) (JAsL.of sc_law_mixed.nd rfl (by first | exact Or.inl rfl | exact Or.inr rfl) (by first | exact Or.inl rfl | exact Or.inr rfl) (JL.cl (JL.list (E := eI) (k := k1) rfl T.m_list (JE.var (E := (eQ k1 eI)) 1 rfl)) (by first | with_reducible rfl | (simp only [rtbO, rtbG]; done) | (simp only [rtbO, rtbG]; congr; done) | rfl))) (Nat.le_of_ble_eq_true rfl) (JS.asgL (i := 3) (F := eI) (JAsL.of sc_law_mixed.nd rfl (by first | exact Or.inl rfl | exact Or.inr rfl) (by first | exact Or.inl rfl | exact Or.inr rfl) (JL.cl (JL.lst (E := eI) JH.nil) (by first | with_reducible rfl | (simp only [rtbO, rtbG]; done) | (simp only [rtbO, rtbG]; congr; done) | rfl))) (Nat.le_of_ble_eq_true rfl) (fun found129 => (JS.forS (up := fun ρ x => ρ.set 4 (.d (eI x))) (Ei := eI) (fun (t130 : ((List Int) × (List Int))) => [.src, .u, .l (t130.1.map eI), .l (t130.2.map eI), .u]) (p_things, found129) PassesOwn.never rfl (JI.cl (JI.range1 rfl T.m_range (JE.len (E := eI) (k := k1) rfl T.m_len (JE.var (E := (eQ k1 eI)) 1 rfl))) (by first | with_reducible rfl | (simp only [rtbO, rtbG]; done) | (simp only [rtbO, rtbG]; congr; done) | rfl)) (JG.name 4 sc_law_mixed.nd rfl (by first | exact Or.inl rfl | exact Or.inr rfl) (by first | exact Or.inl rfl | exact Or.inr rfl)) (.same (.drop (.same (.same (.same (.nil)))))) (fun k131 t130 => (JS.appendPop (F := eI) (k := fun found132 left133 => rt (left133, found132)) 3 2 rfl rfl (by decide) (JE.cl (JE.pick 0 rfl (c_law_pick T (hr.mono (by decide))) (JE.len (E := eI) (k := .l) rfl T.m_len (JE.varL (E := eI) 2 rfl))) (by first | with_reducible rfl | (simp only [rtbO, rtbG]; done) | (simp only [rtbO, rtbG]; congr; done) | rfl)) (fun found132 left133 => (JS.nil (left133, found132) rfl (.same (.same (.same (.same (.drop (.nil)))))))))) (fun t130 => (JS.retV (E := eI) (c := id) 3 (fun _ => rfl) rfl))))))
theorem ok_law_mixed {P : Program} {w : World} {K : PySem.W.Frag} {mg : Str → Option Value} {base : Heap} (T : Txt K mg) {f : Addr} {fd : FuncData} (Fu : Fun K "_law_mixed" "_law_mixed" s_law_mixed f fd) : FnOk P w K mg base CX0 2 f fd ["source", "things"] (spG K mg F_law_mixed) :=
 fn_okG Fu sc_law_mixed F_law_mixed (fun ds Q h => by obtain ⟨k1, x0, rfl, hq⟩ := h; rfl) (by decide) fun cdv A outer s H E hr ds Q hF => by
  obtain ⟨k1, x0, rfl, hq⟩ := hF
  refine ⟨_, _, _, t_law_mixed T hr x0, ?_⟩
  first | with_reducible exact hq | exact hq
theorem c_law_mixed {X : Cx} (T : Txt X.K X.mg) (hr : Room 2 X.A) : GCallOk X "_law_mixed" F_law_mixed := by
 obtain ⟨f, fd, hm, Fu, hb⟩ := T.f_law_mixed
 exact ⟨2, f, fd, _, ok_law_mixed T Fu, hr, hm, Fu.kp, hb⟩
abbrev s_even_index : Stmt := topS 14
theorem sc_even_index : FnScope ["word", "ahead", "high", "at", "bit"] ["word"] (defScope s_even_index) := ⟨rfl, rfl, rfl, by decide +kernel, rfl, by decide +kernel, by decide +kernel⟩
def M.even_index (p_word : (List Int)) : Option Int :=
 bd (lf (M.bits p_word)) fun word48 =>
 bd (bd (lf (M.is_balanced word48)) fun x49 =>
 rt (!x49)) fun b60 => ifM b60 (lf none) (bd (foldM' (fun (at53 : (Int × Int)) (t52 : (Int × Int)) => bd (ifM (decide (at53.2 = 1)) (bd (bd (lf (M.paths (((word48.length : Int) - at53.1) - 1) (t52.2 + 1))) fun x57 =>
 rt (t52.1 + x57)) fun ahead58 =>
 rt ahead58) (rt t52.1)) fun (t56 : Int) =>
 bd (rt ((t52.2 + 1) - (2 * at53.2))) fun high59 =>
 rt (t56, high59)) (enumL 0 word48) (0, 0)) fun t52 =>
 rt t52.1)
def F_even_index : List D → (D → Prop) → Prop := fun ds P => ∃ (x0 : (List Int)) (r : Int), ds = [(eT eI) x0] ∧ M.even_index x0 = some r ∧ P (eI r)
theorem t_even_index {P : Program} {w : World} {K : PySem.W.Frag} {mg : Str → Option Value} {base : Heap} {f : Addr} {cdv : Value} {A : Around} {outer : List PySem.Env} {s : Shared} {H : Hp} {E : XK} (T : Txt K mg) (hr : Room 2 (Cxf P w K mg base ["word", "ahead", "high", "at", "bit"] "even_index" s_even_index f cdv A outer s H E).A) (p_word : (List Int)) : Tail (Cxf P w K mg base ["word", "ahead", "high", "at", "bit"] "even_index" s_even_index f cdv A outer s H E) (defBody s_even_index) [.d ((eT eI) p_word), .u, .u, .u, .u] eI (M.even_index p_word) := by
 unfold M.even_index
 exact (JS.asg (i := 0) (F := (eT eI)) (JAsE.of sc_even_index.nd rfl (by first | exact Or.inl rfl | exact Or.inr rfl) (by first | exact Or.inl rfl | exact Or.inr rfl) (JE.cl (JE.call1 (E1 := (eT eI)) (f := M.bits) (G := (eT eI)) (fun x1 r P h q => ⟨x1, r, rfl, h, q⟩) (c_bits T (hr.mono (by decide))) (JE.var (E := (eT eI)) 0 rfl)) (by first | with_reducible rfl | (simp only [rtbO, rtbG]; done) | (simp only [rtbO, rtbG]; congr; done) | rfl))) (fun word48 => (JS.ifT (JT.cl (JT.not (JT.val (JE.call1 (E1 := (eT eI)) (f := M.is_balanced) (G := eB) (fun x1 r P h q => ⟨x1, r, rfl, h, q⟩) (c_is_balanced T (hr.mono (by decide))) (JE.var (E := (eT eI)) 0 rfl)))) (by first | with_reducible rfl | (simp only [rtbO, rtbG]; done) | (simp only [rtbO, rtbG]; congr; done) | rfl)) JS.never (JS.asgV (i := 1) (F := eI) (v := 0) (JAsE.of sc_even_index.nd rfl (by first | exact Or.inl rfl | exact Or.inr rfl) (by first | exact Or.inl rfl | exact Or.inr rfl) (JE.cl JE.int (by first | with_reducible rfl | (simp only [rtbO, rtbG]; done) | (simp only [rtbO, rtbG]; congr; done) | rfl))) (JS.asgV (i := 2) (F := eI) (v := 0) (JAsE.of sc_even_index.nd rfl (by first | exact Or.inl rfl | exact Or.inr rfl) (by first | exact Or.inl rfl | exact Or.inr rfl) (JE.cl JE.int (by first | with_reducible rfl | (simp only [rtbO, rtbG]; done) | (simp only [rtbO, rtbG]; congr; done) | rfl))) (JS.forSP (up := fun ρ x => (ρ.set 3 (.d (eI x.1))).set 4 (.d (eI x.2))) (Ei := (eP eI eI)) (fun (t52 : (Int × Int)) => [.d ((eT eI) word48), .d (eI t52.1), .d (eI t52.2), .u, .u]) (0, 0) PassesOwn.never rfl (JI.cl (JI.enumT (E := eI) rfl T.m_enumerate (JE.var (E := (eT eI)) 0 rfl)) (by first | with_reducible rfl | (simp only [rtbO, rtbG]; done) | (simp only [rtbO, rtbG]; congr; done) | rfl)) (JG.pair 3 4 rfl sc_even_index.nd rfl (by first | exact Or.inl rfl | exact Or.inr rfl) (by first | exact Or.inl rfl | exact Or.inr rfl) rfl (by first | exact Or.inl rfl | exact Or.inr rfl) (by first | exact Or.inl rfl | exact Or.inr rfl)) (.same (.same (.same (.same (.same (.nil)))))) (fun at53 t52 => (JS.ifJP (f := fun (t56 : Int) => [.d ((eT eI) word48), .d (eI t56), .d (eI t52.2), .u, .d (eI at53.2)]) (JT.cl (JT.eq (JE.var (E := eI) 4 rfl) JE.int) (by first | with_reducible rfl | (simp only [rtbO, rtbG]; done) | (simp only [rtbO, rtbG]; congr; done) | rfl)) (JS.asg (i := 1) (F := eI) (JAsE.of sc_even_index.nd rfl (by first | exact Or.inl rfl | exact Or.inr rfl) (by first | exact Or.inl rfl | exact Or.inr rfl) (JE.cl (JE.add (JE.var (E := eI) 1 rfl) (JE.call2 (E1 := eI) (E2 := eI) (f := M.paths) (G := eI) (fun x1 x2 r P h q => ⟨x1, x2, r, rfl, h, q⟩) (c_paths T (hr.mono (by decide))) (JE.sub (JE.sub (JE.len (E := eI) (k := .t) rfl T.m_len (JE.var (E := (eT eI)) 0 rfl)) (JE.var (E := eI) 3 rfl)) JE.int) (JE.add (JE.var (E := eI) 2 rfl) JE.int))) (by first | with_reducible rfl | (simp only [rtbO, rtbG]; done) | (simp only [rtbO, rtbG]; congr; done) | rfl))) (fun ahead58 => (JS.nil ahead58 rfl (.same (.same (.same (.drop (.same (.nil))))))))) (JS.nil t52.1 rfl (.same (.same (.same (.drop (.same (.nil))))))) (fun t56 => (JS.asg (i := 2) (F := eI) (JAsE.of sc_even_index.nd rfl (by first | exact Or.inl rfl | exact Or.inr rfl) (by first | exact Or.inl rfl | exact Or.inr rfl) (JE.cl (JE.sub (JE.add (JE.var (E := eI) 2 rfl) JE.int) (JE.mulL (by decide) (JE.var (E := eI) 4 rfl))) (by first | with_reducible rfl | (simp only [rtbO, rtbG]; done) | (simp only [rtbO, rtbG]; congr; done) | rfl))) (fun high59 => (JS.nil (t56, high59) rfl (.same (.same (.same (.same (.drop (.nil)))))))))))) (fun t52 => (JS.retP (c := id) (fun _ => rfl) nl_I (JE.cl (JE.var (E := eI) 1 rfl) (by first | with_reducible rfl | (simp only [rtbO, rtbG]; done) | (simp only [rtbO, rtbG]; congr; done) | rfl))))))))))
theorem ok_even_index {P : Program} {w : World} {K : PySem.W.Frag} {mg : Str → Option Value} {base : Heap} (T : Txt K mg) {f : Addr} {fd : FuncData} (Fu : Fun K "even_index" "even_index" s_even_index f fd) : FnOk P w K mg base CX0 3 f fd ["word"] (spF K mg F_even_index) :=
 fn_ok Fu sc_even_index F_even_index (fun ds Q h => by obtain ⟨x0, r, rfl, hm, hq⟩ := h; rfl) (by decide) fun cdv A outer s H E hr ds Q hF => by
  obtain ⟨x0, r, rfl, hm, hq⟩ := hF
  exact ⟨_, _, _, t_even_index T hr x0, r, hm, hq⟩
theorem c_even_index {X : Cx} (T : Txt X.K X.mg) (hr : Room 3 X.A) : CallOk X "even_index" F_even_index := by
 obtain ⟨f, fd, hm, Fu, hb⟩ := T.f_even_index
 exact ⟨3, f, fd, _, ok_even_index T Fu, hr, hm, Fu.kp, hb⟩
abbrev s_balanced_at : Stmt := topS 17
theorem sc_balanced_at : FnScope ["n", "index", "found", "high", "at", "here"] ["n", "index"] (defScope s_balanced_at) := ⟨rfl, rfl, rfl, by decide +kernel, rfl, by decide +kernel, by decide +kernel⟩
def M.balanced_at (p_n : Int) (p_index : Int) : Option (List Int) :=
 bd (ifM (decide (p_n < 2)) (rt true) (ifM (decide (60 < p_n)) (rt true) (ifM (decide ((p_n % 2) = 1)) (rt true) (bd (ifM (decide (0 ≤ p_index)) (bd (lf (M.paths p_n 0)) fun x70 =>
 rt (decide (p_index < x70))) (rt false)) fun x71 =>
 rt (!x71))))) fun b89 => ifM b89 (lf none) (bd (rt ([] : List Int)) fun found72 =>
 bd (lf (range1O p_n)) fun xs88 =>
 bd (foldM' (fun (at75 : Int) (t74 : (Int × ((List Int) × Int))) => bd (lf (M.paths ((p_n - at75) - 1) (t74.2.2 + 1))) fun here76 =>
 bd (ifM (decide (t74.1 < here76)) (bd (lf (appO t74.2.1 0)) fun found83 =>
 bd (rt (t74.2.2 + 1)) fun high84 =>
 rt (t74.1, found83, high84)) (bd (rt (t74.1 - here76)) fun index85 =>
 bd (lf (appO t74.2.1 1)) fun found86 =>
 bd (rt (t74.2.2 - 1)) fun high87 =>
 rt (index85, found86, high87))) fun (t82 : (Int × ((List Int) × Int))) =>
 rt (t82.1, t82.2.1, t82.2.2)) xs88 (p_index, found72, 0)) fun t74 =>
 rt t74.2.1)
def F_balanced_at : List D → (D → Prop) → Prop := fun ds P => ∃ (x0 : Int) (x1 : Int) (r : (List Int)), ds = [eI x0, eI x1] ∧ M.balanced_at x0 x1 = some r ∧ P ((eT eI) r)
theorem t_balanced_at {P : Program} {w : World} {K : PySem.W.Frag} {mg : Str → Option Value} {base : Heap} {f : Addr} {cdv : Value} {A : Around} {outer : List PySem.Env} {s : Shared} {H : Hp} {E : XK} (T : Txt K mg) (hr : Room 2 (Cxf P w K mg base ["n", "index", "found", "high", "at", "here"] "balanced_at" s_balanced_at f cdv A outer s H E).A) (p_n : Int) (p_index : Int) : Tail (Cxf P w K mg base ["n", "index", "found", "high", "at", "here"] "balanced_at" s_balanced_at f cdv A outer s H E) (defBody s_balanced_at) [.d (eI p_n), .d (eI p_index), .u, .u, .u, .u] (eT eI) (M.balanced_at p_n p_index) := by
 unfold M.balanced_at
 exact (JS.ifT (JT.cl (JW.jt (JW.or (JT.lt (JE.var (E := eI) 0 rfl) JE.int) (JW.or (JT.gt (JE.var (E := eI) 0 rfl) (JE.globI T.g_MOST_LENGTH)) (JW.or (JT.eq (JE.modR (by decide) (JE.var (E := eI) 0 rfl)) JE.int) (JW.or1 (JT.not (JT.chain op_le op_lt (by with_unfolding_all rfl) JE.int (JE.var (E := eI) 1 rfl) (JE.call2 (E1 := eI) (E2 := eI) (f := M.paths) (G := eI) (fun x1 x2 r P h q => ⟨x1, x2, r, rfl, h, q⟩) (c_paths T (hr.mono (by decide))) (JE.var (E := eI) 0 rfl) JE.int)))))))) (by first | with_reducible rfl | (simp only [rtbO, rtbG]; done) | (simp only [rtbO, rtbG]; congr; done) | rfl)) JS.never (JS.asgL (i := 2) (F := eI) (JAsL.of sc_balanced_at.nd rfl (by first | exact Or.inl rfl | exact Or.inr rfl) (by first | exact Or.inl rfl | exact Or.inr rfl) (JL.cl (JL.lst (E := eI) JH.nil) (by first | with_reducible rfl | (simp only [rtbO, rtbG]; done) | (simp only [rtbO, rtbG]; congr; done) | rfl))) (Nat.le_of_ble_eq_true rfl) (fun found72 => (JS.asgV (i := 3) (F := eI) (v := 0) (JAsE.of sc_balanced_at.nd rfl (by first | exact Or.inl rfl | exact Or.inr rfl) (by first | exact Or.inl rfl | exact Or.inr rfl) (JE.cl JE.int (by first | with_reducible rfl | (simp only [rtbO, rtbG]; done) | (simp only [rtbO, rtbG]; congr; done) | rfl))) (JS.forS (up := fun ρ x => ρ.set 4 (.d (eI x))) (Ei := eI) (fun (t74 : (Int × ((List Int) × Int))) => [.d (eI p_n), .d (eI t74.1), .l (t74.2.1.map eI), .d (eI t74.2.2), .u, .u]) (p_index, found72, 0) PassesOwn.never rfl (JI.cl (JI.range1 rfl T.m_range (JE.var (E := eI) 0 rfl)) (by first | with_reducible rfl | (simp only [rtbO, rtbG]; done) | (simp only [rtbO, rtbG]; congr; done) | rfl)) (JG.name 4 sc_balanced_at.nd rfl (by first | exact Or.inl rfl | exact Or.inr rfl) (by first | exact Or.inl rfl | exact Or.inr rfl)) (.same (.same (.same (.same (.same (.same (.nil))))))) (fun at75 t74 => (JS.asg (i := 5) (F := eI) (JAsE.of sc_balanced_at.nd rfl (by first | exact Or.inl rfl | exact Or.inr rfl) (by first | exact Or.inl rfl | exact Or.inr rfl) (JE.cl (JE.call2 (E1 := eI) (E2 := eI) (f := M.paths) (G := eI) (fun x1 x2 r P h q => ⟨x1, x2, r, rfl, h, q⟩) (c_paths T (hr.mono (by decide))) (JE.sub (JE.sub (JE.var (E := eI) 0 rfl) (JE.var (E := eI) 4 rfl)) JE.int) (JE.add (JE.var (E := eI) 3 rfl) JE.int)) (by first | with_reducible rfl | (simp only [rtbO, rtbG]; done) | (simp only [rtbO, rtbG]; congr; done) | rfl))) (fun here76 => (JS.ifJP (f := fun (t82 : (Int × ((List Int) × Int))) => [.d (eI p_n), .d (eI t82.1), .l (t82.2.1.map eI), .d (eI t82.2.2), .u, .u]) (JT.cl (JT.lt (JE.var (E := eI) 1 rfl) (JE.var (E := eI) 5 rfl)) (by first | with_reducible rfl | (simp only [rtbO, rtbG]; done) | (simp only [rtbO, rtbG]; congr; done) | rfl)) (JS.appendP (F := eI) 2 rfl (JE.cl JE.int (by first | with_reducible rfl | (simp only [rtbO, rtbG]; done) | (simp only [rtbO, rtbG]; congr; done) | rfl)) (fun found83 => (JS.asg (i := 3) (F := eI) (JAsE.of sc_balanced_at.nd rfl (by first | exact Or.inl rfl | exact Or.inr rfl) (by first | exact Or.inl rfl | exact Or.inr rfl) (JE.cl (JE.add (JE.var (E := eI) 3 rfl) JE.int) (by first | with_reducible rfl | (simp only [rtbO, rtbG]; done) | (simp only [rtbO, rtbG]; congr; done) | rfl))) (fun high84 => (JS.nil (t74.1, found83, high84) rfl (.same (.same (.same (.same (.drop (.drop (.nil)))))))))))) (JS.asg (i := 1) (F := eI) (JAsE.of sc_balanced_at.nd rfl (by first | exact Or.inl rfl | exact Or.inr rfl) (by first | exact Or.inl rfl | exact Or.inr rfl) (JE.cl (JE.sub (JE.var (E := eI) 1 rfl) (JE.var (E := eI) 5 rfl)) (by first | with_reducible rfl | (simp only [rtbO, rtbG]; done) | (simp only [rtbO, rtbG]; congr; done) | rfl))) (fun index85 => (JS.appendP (F := eI) 2 rfl (JE.cl JE.int (by first | with_reducible rfl | (simp only [rtbO, rtbG]; done) | (simp only [rtbO, rtbG]; congr; done) | rfl)) (fun found86 => (JS.asg (i := 3) (F := eI) (JAsE.of sc_balanced_at.nd rfl (by first | exact Or.inl rfl | exact Or.inr rfl) (by first | exact Or.inl rfl | exact Or.inr rfl) (JE.cl (JE.sub (JE.var (E := eI) 3 rfl) JE.int) (by first | with_reducible rfl | (simp only [rtbO, rtbG]; done) | (simp only [rtbO, rtbG]; congr; done) | rfl))) (fun high87 => (JS.nil (index85, found86, high87) rfl (.same (.same (.same (.same (.drop (.drop (.nil)))))))))))))) (fun t82 => (JS.nil (t82.1, t82.2.1, t82.2.2) rfl (.same (.same (.same (.same (.same (.same (.nil))))))))))))) (fun t74 => (JS.lw (ρ' := [.d (eI p_n), .d (eI t74.1), .d ((eL eI) t74.2.1), .d (eI t74.2.2), .u, .u]) (.same (.same (.frz (.same (.same (.same (.nil))))))) (JS.retP (c := id) (fun _ => rfl) nl_T (JE.cl (JE.tupleL (E := eI) rfl T.m_tuple (JE.var (E := (eL eI)) 2 rfl)) (by first | with_reducible rfl | (simp only [rtbO, rtbG]; done) | (simp only [rtbO, rtbG]; congr; done) | rfl))))))))))
theorem ok_balanced_at {P : Program} {w : World} {K : PySem.W.Frag} {mg : Str → Option Value} {base : Heap} (T : Txt K mg) {f : Addr} {fd : FuncData} (Fu : Fun K "balanced_at" "balanced_at" s_balanced_at f fd) : FnOk P w K mg base CX0 3 f fd ["n", "index"] (spF K mg F_balanced_at) :=
 fn_ok Fu sc_balanced_at F_balanced_at (fun ds Q h => by obtain ⟨x0, x1, r, rfl, hm, hq⟩ := h; rfl) (by decide) fun cdv A outer s H E hr ds Q hF => by
  obtain ⟨x0, x1, r, rfl, hm, hq⟩ := hF
  exact ⟨_, _, _, t_balanced_at T hr x0 x1, r, hm, hq⟩
theorem c_balanced_at {X : Cx} (T : Txt X.K X.mg) (hr : Room 3 X.A) : CallOk X "balanced_at" F_balanced_at := by
 obtain ⟨f, fd, hm, Fu, hb⟩ := T.f_balanced_at
 exact ⟨3, f, fd, _, ok_balanced_at T Fu, hr, hm, Fu.kp, hb⟩
abbrev s_chosen : Stmt := topS 19
theorem sc_chosen : FnScope ["n", "d", "w", "found", "index", "word", "other"] ["n", "d", "w"] (defScope s_chosen) := ⟨rfl, rfl, rfl, by decide +kernel, rfl, by decide +kernel, by decide +kernel⟩
def M.chosen (p_n : Int) (p_d : Int) (p_w : Int) : Option (List (List Int)) :=
 bd (lf (M.checked p_n p_w)) fun _ =>
 bd (ifM (decide (p_d < 1)) (rt true) (bd (lf (M.choose p_n p_w)) fun x98 =>
 rt (decide (3000 < x98)))) fun b113 => ifM b113 (lf none) (bd (rt ([] : List (List Int))) fun found99 =>
 bd (bd (lf (M.choose p_n p_w)) fun x100 =>
 lf (range1O x100)) fun xs112 =>
 bd (foldM' (fun (index102 : Int) (t101 : (List (List Int))) => bd (lf (M.word_at p_n p_w index102)) fun word103 =>
 bd (bd (bd (bd (lf (szO t101)) fun xs106 =>
 mapM' (fun (other104 : (List Int)) => bd (lf (M.distance word103 other104)) fun x105 =>
 rt (decide (p_d ≤ x105))) xs106) fun x107 =>
 rt (x107.all id)) fun b111 => ifM b111 (bd (lf (appO t101 word103)) fun found110 =>
 rt found110) (rt t101)) fun (t109 : (List (List Int))) =>
 rt t109) xs112 found99) fun t101 =>
 rt t101)
def F_chosen : List D → (D → Prop) → Prop := fun ds P => ∃ (x0 : Int) (x1 : Int) (x2 : Int) (r : (List (List Int))), ds = [eI x0, eI x1, eI x2] ∧ M.chosen x0 x1 x2 = some r ∧ P ((eT (eT eI)) r)
theorem t_chosen {P : Program} {w : World} {K : PySem.W.Frag} {mg : Str → Option Value} {base : Heap} {f : Addr} {cdv : Value} {A : Around} {outer : List PySem.Env} {s : Shared} {H : Hp} {E : XK} (T : Txt K mg) (hr : Room 2 (Cxf P w K mg base ["n", "d", "w", "found", "index", "word", "other"] "chosen" s_chosen f cdv A outer s H E).A) (p_n : Int) (p_d : Int) (p_w : Int) : Tail (Cxf P w K mg base ["n", "d", "w", "found", "index", "word", "other"] "chosen" s_chosen f cdv A outer s H E) (defBody s_chosen) [.d (eI p_n), .d (eI p_d), .d (eI p_w), .u, .u, .u, .u] (eT (eT eI)) (M.chosen p_n p_d p_w) := by
 unfold M.chosen
 exact (JS.exS (F := eN) (JE.cl (JE.call2 (E1 := eI) (E2 := eI) (f := M.checked) (G := eN) (fun x1 x2 r P h q => ⟨x1, x2, r, rfl, h, q⟩) (c_checked T (hr.mono (by decide))) (JE.var (E := eI) 0 rfl) (JE.var (E := eI) 2 rfl)) (by first | with_reducible rfl | (simp only [rtbO, rtbG]; done) | (simp only [rtbO, rtbG]; congr; done) | rfl)) (fun _ => (JS.ifT (JT.cl (JW.jt (JW.or (JT.lt (JE.var (E := eI) 1 rfl) JE.int) (JW.or1 (JT.gt (JE.call2 (E1 := eI) (E2 := eI) (f := M.choose) (G := eI) (fun x1 x2 r P h q => ⟨x1, x2, r, rfl, h, q⟩) (c_choose T (hr.mono (by decide))) (JE.var (E := eI) 0 rfl) (JE.var (E := eI) 2 rfl)) JE.int)))) (by first | with_reducible rfl | (simp only [rtbO, rtbG]; done) | (simp only [rtbO, rtbG]; congr; done) | rfl)) JS.never (JS.asgL (i := 3) (F := (eT eI)) (JAsL.of sc_chosen.nd rfl (by first | exact Or.inl rfl | exact Or.inr rfl) (by first | exact Or.inl rfl | exact Or.inr rfl) (JL.cl (JL.lst (E := (eT eI)) JH.nil) (by first | with_reducible rfl | (simp only [rtbO, rtbG]; done) | (simp only [rtbO, rtbG]; congr; done) | rfl))) (Nat.le_of_ble_eq_true rfl) (fun found99 => (JS.forS (up := fun ρ x => ρ.set 4 (.d (eI x))) (Ei := eI) (fun (t101 : (List (List Int))) => [.d (eI p_n), .d (eI p_d), .d (eI p_w), .l (t101.map (eT eI)), .u, .u, .u]) found99 PassesOwn.never rfl (JI.cl (JI.range1 rfl T.m_range (JE.call2 (E1 := eI) (E2 := eI) (f := M.choose) (G := eI) (fun x1 x2 r P h q => ⟨x1, x2, r, rfl, h, q⟩) (c_choose T (hr.mono (by decide))) (JE.var (E := eI) 0 rfl) (JE.var (E := eI) 2 rfl))) (by first | with_reducible rfl | (simp only [rtbO, rtbG]; done) | (simp only [rtbO, rtbG]; congr; done) | rfl)) (JG.name 4 sc_chosen.nd rfl (by first | exact Or.inl rfl | exact Or.inr rfl) (by first | exact Or.inl rfl | exact Or.inr rfl)) (.same (.same (.same (.same (.same (.same (.same (.nil)))))))) (fun index102 t101 => (JS.asg (i := 5) (F := (eT eI)) (JAsE.of sc_chosen.nd rfl (by first | exact Or.inl rfl | exact Or.inr rfl) (by first | exact Or.inl rfl | exact Or.inr rfl) (JE.cl (JE.call3 (E1 := eI) (E2 := eI) (E3 := eI) (f := M.word_at) (G := (eT eI)) (fun x1 x2 x3 r P h q => ⟨x1, x2, x3, r, rfl, h, q⟩) (c_word_at T (hr.mono (by decide))) (JE.var (E := eI) 0 rfl) (JE.var (E := eI) 2 rfl) (JE.var (E := eI) 4 rfl)) (by first | with_reducible rfl | (simp only [rtbO, rtbG]; done) | (simp only [rtbO, rtbG]; congr; done) | rfl))) (fun word103 => (JS.ifJ (f := fun (t109 : (List (List Int))) => [.d (eI p_n), .d (eI p_d), .d (eI p_w), .l (t109.map (eT eI)), .u, .u, .u]) (JT.cl (JT.val (JE.all rfl rfl T.m_all (JL.je (JL.lc0 (M0 := false) (own := [("other", 6)]) (up := fun ρ x => ρ.set 6 (.d ((eT eI) x))) (E := (eT eI)) (F := eB) (f := fun (other104 : (List Int)) => bd (lf (M.distance word103 other104)) fun x105 =>
 rt (decide (p_d ≤ x105))) rfl sc_chosen.nd (JI.var (E := (eT eI)) 3 rfl) (by first | exact blkOk_by (own := [("other", 6)]) (by show blkC ["n", "d", "w", "found", "index", "word", "other"] (defScope s_chosen) _ _ = true; decide +kernel) | exact blkOk_in (sc0 := defScope s_chosen) (own := [("other", 6)]) rfl (by show blkC ["n", "d", "w", "found", "index", "word", "other"] _ _ _ = true; decide +kernel)) (by decide) rfl (fun s H C cl fp => (JG.name 6 sc_chosen.nd rfl (by first | exact Or.inl rfl | exact Or.inr rfl) (by first | exact Or.inl rfl | exact Or.inr rfl))) (fun s H C cl fp other104 => JE.cl (JE.ge (JE.call2 (E1 := (eT eI)) (E2 := (eT eI)) (f := M.distance) (G := eI) (fun x1 x2 r P h q => ⟨x1, x2, r, rfl, h, q⟩) (c_distance T (hr.mono (by decide))) (JE.var (E := (eT eI)) 5 rfl) (JE.var (E := (eT eI)) 6 rfl)) (JE.var (E := eI) 1 rfl)) (by first | with_reducible rfl | (simp only [rtbO, rtbG]; done) | (simp only [rtbO, rtbG]; congr; done) | rfl)))))) (by first | with_reducible rfl | (simp only [rtbO, rtbG]; done) | (simp only [rtbO, rtbG]; congr; done) | rfl)) (JS.appendP (F := (eT eI)) 3 rfl (JE.cl (JE.var (E := (eT eI)) 5 rfl) (by first | with_reducible rfl | (simp only [rtbO, rtbG]; done) | (simp only [rtbO, rtbG]; congr; done) | rfl)) (fun found110 => (JS.nil found110 rfl (.same (.same (.same (.same (.drop (.drop (.same (.nil))))))))))) (JS.nil t101 rfl (.same (.same (.same (.same (.drop (.drop (.same (.nil))))))))) (fun t109 => (JS.nil t109 rfl (.same (.same (.same (.same (.same (.same (.same (.nil)))))))))))))) (fun t101 => (JS.lw (ρ' := [.d (eI p_n), .d (eI p_d), .d (eI p_w), .d ((eL (eT eI)) t101), .u, .u, .u]) (.same (.same (.same (.frz (.same (.same (.same (.nil)))))))) (JS.retP (c := id) (fun _ => rfl) nl_T (JE.cl (JE.tupleL (E := (eT eI)) rfl T.m_tuple (JE.var (E := (eL (eT eI))) 3 rfl)) (by first | with_reducible rfl | (simp only [rtbO, rtbG]; done) | (simp only [rtbO, rtbG]; congr; done) | rfl)))))))))))
theorem ok_chosen {P : Program} {w : World} {K : PySem.W.Frag} {mg : Str → Option Value} {base : Heap} (T : Txt K mg) {f : Addr} {fd : FuncData} (Fu : Fun K "chosen" "chosen" s_chosen f fd) : FnOk P w K mg base CX0 3 f fd ["n", "d", "w"] (spF K mg F_chosen) :=
 fn_ok Fu sc_chosen F_chosen (fun ds Q h => by obtain ⟨x0, x1, x2, r, rfl, hm, hq⟩ := h; rfl) (by decide) fun cdv A outer s H E hr ds Q hF => by
  obtain ⟨x0, x1, x2, r, rfl, hm, hq⟩ := hF
  exact ⟨_, _, _, t_chosen T hr x0 x1 x2, r, hm, hq⟩
theorem c_chosen {X : Cx} (T : Txt X.K X.mg) (hr : Room 3 X.A) : CallOk X "chosen" F_chosen := by
 obtain ⟨f, fd, hm, Fu, hb⟩ := T.f_chosen
 exact ⟨3, f, fd, _, ok_chosen T Fu, hr, hm, Fu.kp, hb⟩
abbrev s_sets_row : Stmt := topS 21
theorem sc_sets_row : FnScope ["n", "k", "without", "having", "own"] ["n", "k"] (defScope s_sets_row) := ⟨rfl, rfl, rfl, by decide +kernel, rfl, by decide +kernel, by decide +kernel⟩
def M.sets_row_body (rec : Int → Int → Option (List (List Int))) (p_n : Int) (p_k : Int) : Option (List (List Int)) :=
 ifM ((!((decide (0 ≤ p_k)) && (decide (p_k ≤ p_n)))) || (decide (12 < p_n))) (lf none) (ifM ((decide (p_k = 0)) || (decide (p_k = p_n))) (bd (bd (lf (rgO 0 p_k)) fun x114 =>
 rt [x114]) fun x115 =>
 rt x115) (bd (lf (rec (p_n - 1) p_k)) fun without116 =>
 bd (bd (bd (lf (rec (p_n - 1) (p_k - 1))) fun x117 =>
 rt x117.reverse) fun x120 =>
 bd (lf (szO x120)) fun xs119 =>
 mapM' (fun (own118 : (List Int)) => lf (catO own118 [(p_n - 1)])) xs119) fun having121 =>
 bd (lf (catO without116 having121)) fun x122 =>
 rt x122))
def M.sets_row : Nat → Int → Int → Option (List (List Int))
  | 0 => fun _ _ => none
  | d + 1 => M.sets_row_body (M.sets_row d)
def F_sets_row (d : Nat) : List D → (D → Prop) → Prop := fun ds P => ∃ (x0 : Int) (x1 : Int) (r : (List (List Int))), ds = [eI x0, eI x1] ∧ M.sets_row d x0 x1 = some r ∧ P ((eL (eT eI)) r)
theorem t_sets_row {P : Program} {w : World} {K : PySem.W.Frag} {mg : Str → Option Value} {base : Heap} {f : Addr} {cdv : Value} {A : Around} {outer : List PySem.Env} {s : Shared} {H : Hp} {E : XK} (T : Txt K mg) (d : Nat) (hr : Room (1 + d) (Cxf P w K mg base ["n", "k", "without", "having", "own"] "sets_row" s_sets_row f cdv A outer s H E).A) (C : CallOk (Cxf P w K mg base ["n", "k", "without", "having", "own"] "sets_row" s_sets_row f cdv A outer s H E) "sets_row" (F_sets_row d)) (p_n : Int) (p_k : Int) : Tail (Cxf P w K mg base ["n", "k", "without", "having", "own"] "sets_row" s_sets_row f cdv A outer s H E) (defBody s_sets_row) [.d (eI p_n), .d (eI p_k), .u, .u, .u] (eL (eT eI)) (M.sets_row_body (M.sets_row d) p_n p_k) := by
 unfold M.sets_row_body
 exact (JS.ifTP (JT.cl (JW.jt (JW.orP (JT.not (JT.chainP op_le op_le (by with_unfolding_all rfl) JE.int (JE.var (E := eI) 1 rfl) (JE.var (E := eI) 0 rfl))) (JW.or1 (JT.gt (JE.var (E := eI) 0 rfl) JE.int)))) (by first | with_reducible rfl | (simp only [rtbO, rtbG]; done) | (simp only [rtbO, rtbG]; congr; done) | rfl)) JS.never (JS.ifTP (JT.cl (JW.jt (JW.orP (JT.eq (JE.var (E := eI) 1 rfl) JE.int) (JW.or1 (JT.eq (JE.var (E := eI) 1 rfl) (JE.var (E := eI) 0 rfl))))) (by first | with_reducible rfl | (simp only [rtbO, rtbG]; done) | (simp only [rtbO, rtbG]; congr; done) | rfl)) (JS.retL (c := id) (fun _ => rfl) (JL.cl (JL.lst (JH.cons (E := (eT eI)) (JE.tupRange rfl rfl T.m_tuple rfl T.m_range (JE.var (E := eI) 1 rfl)) (JH.nil (E := (eT eI))))) (by first | with_reducible rfl | (simp only [rtbO, rtbG]; done) | (simp only [rtbO, rtbG]; congr; done) | rfl))) (JS.asg (i := 2) (F := (eL (eT eI))) (JAsL.ofL (JAsL.of sc_sets_row.nd rfl (by first | exact Or.inl rfl | exact Or.inr rfl) (by first | exact Or.inl rfl | exact Or.inr rfl) (JL.cl (JL.call2 (E1 := eI) (E2 := eI) (f := (M.sets_row d)) (G := (eT eI)) (fun x1 x2 r P h q => ⟨x1, x2, r, rfl, h, q⟩) C (JE.sub (JE.var (E := eI) 0 rfl) JE.int) (JE.var (E := eI) 1 rfl)) (by first | with_reducible rfl | (simp only [rtbO, rtbG]; done) | (simp only [rtbO, rtbG]; congr; done) | rfl)))) (fun without116 => (JS.asg (i := 3) (F := (eL (eT eI))) (JAsL.ofL (JAsL.cl (JAsL.lc0 (M0 := false) (own := [("own", 4)]) (up := fun ρ x => ρ.set 4 (.d ((eT eI) x))) (E := (eT eI)) (F := (eT eI)) (f := fun (own118 : (List Int)) => lf (catO own118 [(p_n - 1)])) rfl sc_sets_row.nd rfl rfl (sw_true rfl rfl rfl (by decide +kernel)) (JI.rev (E := (eT eI)) (k := .l) rfl T.m_reversed (JL.je (JL.call2 (E1 := eI) (E2 := eI) (f := (M.sets_row d)) (G := (eT eI)) (fun x1 x2 r P h q => ⟨x1, x2, r, rfl, h, q⟩) C (JE.sub (JE.var (E := eI) 0 rfl) JE.int) (JE.sub (JE.var (E := eI) 1 rfl) JE.int)))) (by first | exact blkOk_by (own := [("own", 4)]) (by show blkC ["n", "k", "without", "having", "own"] (defScope s_sets_row) _ _ = true; decide +kernel) | exact blkOk_in (sc0 := defScope s_sets_row) (own := [("own", 4)]) rfl (by show blkC ["n", "k", "without", "having", "own"] _ _ _ = true; decide +kernel)) (by decide) rfl (fun s H C cl fp => (JG.name 4 sc_sets_row.nd rfl (by first | exact Or.inl rfl | exact Or.inr rfl) (by first | exact Or.inl rfl | exact Or.inr rfl))) (fun s H C cl fp own118 => JE.cl (JE.catT (E := eI) (JE.var (E := (eT eI)) 4 rfl) (JE.tup (JH.cons (E := eI) (JE.sub (JE.var (E := eI) 0 rfl) JE.int) (JH.nil (E := eI))))) (by first | with_reducible rfl | (simp only [rtbO, rtbG]; done) | (simp only [rtbO, rtbG]; congr; done) | rfl))) (by first | with_reducible rfl | (simp only [rtbO, rtbG]; done) | (simp only [rtbO, rtbG]; congr; done) | rfl))) (fun having121 => (JS.retL (c := id) (fun _ => rfl) (JL.cl (JL.cat (E := (eT eI)) (JE.var (E := (eL (eT eI))) 2 rfl) (JE.var (E := (eL (eT eI))) 3 rfl)) (by first | with_reducible rfl | (simp only [rtbO, rtbG]; done) | (simp only [rtbO, rtbG]; congr; done) | rfl)))))))))
theorem ok_sets_row {P : Program} {w : World} {K : PySem.W.Frag} {mg : Str → Option Value} {base : Heap} (T : Txt K mg) {f : Addr} {fd : FuncData} (hmg : mg "sets_row" = some (.ref f)) (Fu : Fun K "sets_row" "sets_row" s_sets_row f fd) (hb : Binds K fd ["n", "k"] []) : ∀ d, FnOk P w K mg base CX0 (1 + d) f fd ["n", "k"] (spF K mg (F_sets_row d))
  | 0 => fn_ok (k := 0) Fu sc_sets_row (F_sets_row 0) (fun ds Q h => by obtain ⟨x0, x1, r, rfl, hm, hq⟩ := h; rfl) (by decide) fun cdv A outer s H E hr ds Q hF => by
    obtain ⟨x0, x1, r, rfl, hm, hq⟩ := hF
    cases hm
  | d + 1 => fn_ok (k := 1 + d) Fu sc_sets_row (F_sets_row (d + 1)) (fun ds Q h => by obtain ⟨x0, x1, r, rfl, hm, hq⟩ := h; rfl) (by decide) fun cdv A outer s H E hr ds Q hF => by
    obtain ⟨x0, x1, r, rfl, hm, hq⟩ := hF
    exact ⟨_, _, _, t_sets_row T d hr ⟨1 + d, f, fd, _, ok_sets_row T hmg Fu hb d, hr, hmg, Fu.kp, hb⟩ x0 x1, r, hm, hq⟩
theorem c_sets_row {X : Cx} (d : Nat) (T : Txt X.K X.mg) (hr : Room (1 + d) X.A) : CallOk X "sets_row" (F_sets_row d) := by
 obtain ⟨f, fd, hm, Fu, hb⟩ := T.f_sets_row
 exact ⟨1 + d, f, fd, _, ok_sets_row T hm Fu hb d, hr, hm, Fu.kp, hb⟩
abbrev s_law_right : Stmt := topS 28
theorem sc_law_right : FnScope ["source", "n", "w", "word", "index", "count", "other", "size", "many", "sets", "half", "total", "one", "small", "steps", "high", "d", "some", "drawn", "place", "own", "bit", "k", "j"] ["source"] (defScope s_law_right) := ⟨rfl, rfl, rfl, by decide +kernel, rfl, by decide +kernel, by decide +kernel⟩
def M.law_right  : G Bool :=
 bd (bd (pickM 40) fun x141 =>
 rt (1 + x141)) fun n142 =>
 bd (pickM (n142 + 1)) fun w143 =>
 bd (bd (bd (bd (lf (repO [0] (n142 - w143))) fun x144 =>
 bd (lf (repO [1] w143)) fun x145 =>
 lf (catO x144 x145)) fun x146 =>
 M.law_mixed x146) fun x147 =>
 rt x147) fun word148 =>
 bd (lf (M.index_of word148)) fun index149 =>
 bd (lf (M.choose n142 w143)) fun count150 =>
 bd (bd (bd (bd (lf (M.law_over word148)) fun x151 =>
 lf (M.index_of x151)) fun x152 =>
 rt (!decide (x152 = ((count150 - 1) - index149)))) fun x157 =>
 ifM x157 (rt true) (bd (bd (bd (lf (catO [0, 0] word148)) fun x153 =>
 lf (M.index_of x153)) fun x154 =>
 rt (!decide (x154 = index149))) fun x156 =>
 ifM x156 (rt true) (bd (lf (M.word_at n142 w143 index149)) fun x155 =>
 rt (!decide (x155 = word148))))) fun b273 => ifM b273 (rt false) (bd (ifM (decide (n142 < 60)) (bd (bd (lf (catO [1] word148)) fun x158 =>
 lf (M.index_of x158)) fun x160 =>
 bd (bd (lf (M.choose n142 (w143 + 1))) fun x159 =>
 rt (x159 + index149)) fun x161 =>
 rt (!decide (x160 = x161))) (rt false)) fun b272 => ifM b272 (rt false) (bd (bd (M.law_mixed word148) fun x162 =>
 rt x162) fun other163 =>
 bd (bd (bd (bd (lf (M.index_of other163)) fun x164 =>
 rt (decide (x164 < index149))) fun x165 =>
 rt (!decide (x165 = (HT.lexLt other163 word148)))) fun x168 =>
 ifM x168 (rt true) (bd (bd (lf (M.index_of other163)) fun x166 =>
 rt (decide (x166 = index149))) fun x167 =>
 rt (!decide (x167 = (decide (other163 = word148)))))) fun b271 => ifM b271 (rt false) (bd (bd (pickM 8) fun x169 =>
 rt (1 + x169)) fun size170 =>
 bd (pickM (size170 + 1)) fun many171 =>
 bd (bd (lf (M.sets_row 14 size170 many171)) fun x178 =>
 bd (lf (szO x178)) fun xs177 =>
 mapM' (fun (own172 : (List Int)) => bd (bd (lf (range1O size170)) fun x175 =>
 bd (lf (szO x175)) fun xs174 =>
 rt (xs174.map fun (place173 : Int) => (if (own172.contains place173) then 1 else 0))) fun x176 =>
 rt x176) xs177) fun sets179 =>
 bd (bd (bd (bd (lf (szO sets179)) fun xs181 =>
 mapM' (fun (own180 : (List Int)) => lf (M.index_of own180)) xs181) fun x182 =>
 rt (sortI x182)) fun x184 =>
 bd (bd (lf (M.choose size170 many171)) fun x183 =>
 lf (rgO 0 x183)) fun x185 =>
 rt (!decide (x184 = x185))) fun b270 => ifM b270 (rt false) (bd (bd (pickM 12) fun x186 =>
 rt (1 + x186)) fun half187 =>
 bd (lf (M.paths (2 * half187) 0)) fun total188 =>
 bd (bd (pickM total188) fun x189 =>
 lf (M.balanced_at (2 * half187) x189)) fun one190 =>
 bd (lf (M.balanced_at 2 0)) fun small191 =>
 bd (bd (bd (bd (bd (lf (catO [0] one190)) fun x192 =>
 lf (catO x192 [1])) fun x193 =>
 lf (M.is_balanced x193)) fun x194 =>
 rt (!decide (x194 = true))) fun x199 =>
 ifM x199 (rt true) (bd (bd (bd (lf (catO one190 small191)) fun x195 =>
 lf (M.is_balanced x195)) fun x196 =>
 rt (!decide (x196 = true))) fun x198 =>
 ifM x198 (rt true) (bd (lf (M.is_balanced one190.reverse)) fun x197 =>
 rt (!decide (x197 = false))))) fun b269 => ifM b269 (rt false) (bd (bd (bd (bd (bd (bd (lf (szO one190.reverse)) fun xs201 =>
 rt (xs201.map fun (bit200 : Int) => (1 - bit200))) fun x202 =>
 rt x202) fun x203 =>
 lf (M.is_balanced x203)) fun x204 =>
 rt (!decide (x204 = true))) fun x212 =>
 ifM x212 (rt true) (bd (bd (bd (bd (lf (repO [0] half187)) fun x205 =>
 bd (lf (repO [1] half187)) fun x206 =>
 lf (catO x205 x206)) fun x207 =>
 lf (M.even_index x207)) fun x208 =>
 rt (!decide (x208 = 0))) fun x211 =>
 ifM x211 (rt true) (bd (bd (lf (repO [0, 1] half187)) fun x209 =>
 lf (M.even_index x209)) fun x210 =>
 rt (!decide (x210 = (total188 - 1)))))) fun b268 => ifM b268 (rt false) (bd (pickM 20) fun steps213 =>
 bd (pickM 8) fun high214 =>
 bd (bd (lf (M.paths (steps213 + 1) high214)) fun x218 =>
 bd (bd (lf (M.paths steps213 (high214 + 1))) fun x216 =>
 bd (bd (lf (M.paths steps213 (high214 - 1))) fun x215 =>
 lf (mulO (if (decide (0 < high214)) then 1 else 0) x215)) fun x217 =>
 rt (x216 + x217)) fun x219 =>
 rt (!decide (x218 = x219))) fun b267 => ifM b267 (rt false) (bd (bd (bd (bd (lf (range1O half187)) fun x224 =>
 bd (lf (szO x224)) fun xs223 =>
 mapM' (fun (k220 : Int) => bd (lf (M.paths (2 * k220) 0)) fun x221 =>
 bd (lf (M.paths (2 * ((half187 - 1) - k220)) 0)) fun x222 =>
 lf (mulO x221 x222)) xs223) fun x225 =>
 rt x225.sum) fun x226 =>
 rt (!decide (total188 = x226))) fun b266 => ifM b266 (rt false) (bd (bd (pickM 7) fun x227 =>
 rt (2 + x227)) fun n228 =>
 bd (pickM (n228 + 1)) fun w229 =>
 bd (bd (pickM 6) fun x230 =>
 rt (1 + x230)) fun d231 =>
 bd (lf (M.chosen n228 d231 w229)) fun some232 =>
 bd (bd (bd (bd (lf (range1O (some232.length : Int))) fun x242 =>
 bd (lf (szO x242)) fun xs241 =>
 lcM (fun (k233 : Int) => bd (bd (lf (range1O k233)) fun x239 =>
 bd (lf (szO x239)) fun xs238 =>
 lcM (fun (j234 : Int) => bd (bd (lf (ixO some232 j234)) fun x235 =>
 bd (lf (ixO some232 k233)) fun x236 =>
 lf (M.distance x235 x236)) fun x237 =>
 rt (decide (x237 < d231))) (fun (j234 : Int) => rt j234) xs238) fun x240 =>
 rt (!decide (x240 = ([] : (List Int))))) (fun (k233 : Int) => rt k233) xs241) fun x243 =>
 rt (!decide (x243 = ([] : (List Int))))) fun x245 =>
 ifM x245 (rt true) (bd (lf (M.apart_bound n228 d231 w229)) fun x244 =>
 rt (decide (x244 < (some232.length : Int))))) fun b265 => ifM b265 (rt false) (bd (bd (bd (bd (lf (repO [0] (n228 - w229))) fun x246 =>
 bd (lf (repO [1] w229)) fun x247 =>
 lf (catO x246 x247)) fun x248 =>
 M.law_mixed x248) fun x249 =>
 rt x249) fun drawn250 =>
 bd (ifM (!decide (drawn250 ∈ some232)) (bd (bd (bd (lf (szO some232)) fun xs252 =>
 mapM' (fun (one251 : (List Int)) => lf (M.distance drawn250 one251)) xs252) fun x253 =>
 lf (minO x253)) fun x254 =>
 rt (decide (d231 ≤ x254))) (rt false)) fun b264 => ifM b264 (rt false) (bd (bd (bd (lf (ixO some232 0)) fun x257 =>
 bd (bd (lf (repO [0] (n228 - w229))) fun x255 =>
 bd (lf (repO [1] w229)) fun x256 =>
 lf (catO x255 x256)) fun x258 =>
 rt (decide (x257 = x258))) fun x262 =>
 ifM x262 (bd (bd (lf (M.chosen n228 2 w229)) fun x259 =>
 rt (x259.length : Int)) fun x260 =>
 bd (lf (M.choose n228 w229)) fun x261 =>
 rt (decide (x260 = x261))) (rt false)) fun x263 =>
 rt x263))))))))))
def F_law_right : List D → (D → Prop) → Prop := fun ds P => ds = [] ∧ (M.law_right ).wp fun r => P (eB r)
theorem t_law_right {P : Program} {w : World} {K : PySem.W.Frag} {mg : Str → Option Value} {base : Heap} {f : Addr} {cdv : Value} {A : Around} {outer : List PySem.Env} {s : Shared} {H : Hp} {E : XK} (T : Txt K mg) (hr : Room 15 (Cxf P w K mg base ["source", "n", "w", "word", "index", "count", "other", "size", "many", "sets", "half", "total", "one", "small", "steps", "high", "d", "some", "drawn", "place", "own", "bit", "k", "j"] "_law_right" s_law_right f cdv A outer s H E).A)  : Tail (Cxf P w K mg base ["source", "n", "w", "word", "index", "count", "other", "size", "many", "sets", "half", "total", "one", "small", "steps", "high", "d", "some", "drawn", "place", "own", "bit", "k", "j"] "_law_right" s_law_right f cdv A outer s H E) (defBody s_law_right) [.src, .u, .u, .u, .u, .u, .u, .u, .u, .u, .u, .u, .u, .u, .u, .u, .u, .u, .u, .u, .u, .u, .u, .u] eB (M.law_right ) := by
 unfold M.law_right
 exact (JS.asg (i := 1) (F := eI) (JAsE.of sc_law_right.nd rfl (by first | exact Or.inl rfl | exact Or.inr rfl) (by first | exact Or.inl rfl | exact Or.inr rfl) (JE.cl (JE.add JE.int (JE.pick 0 rfl (c_law_pick T (hr.mono (by decide))) JE.int)) (by first | with_reducible rfl | (simp only [rtbO, rtbG]; done) | (simp only [rtbO, rtbG]; congr; done) | rfl))) (fun n142 => (JS.to (ρ' := [.src, .d (eI n142), .u, .u, .u, .u, .u, .u, .u, .u, .u, .u, .u, .u, .u, .u, .u, .u, .u, .u, .u, .u, .u, .u]) rfl (JS.asg (i := 2) (F := eI) (JAsE.of sc_law_right.nd rfl (by first | exact Or.inl rfl | exact Or.inr rfl) (by first | exact Or.inl rfl | exact Or.inr rfl) (JE.cl (JE.pick 0 rfl (c_law_pick T (hr.mono (by decide))) (JE.add (JE.var (E := eI) 1 rfl) JE.int)) (by first | with_reducible rfl | (simp only [rtbO, rtbG]; done) | (simp only [rtbO, rtbG]; congr; done) | rfl))) (fun w143 => (JS.to (ρ' := [.src, .d (eI n142), .d (eI w143), .u, .u, .u, .u, .u, .u, .u, .u, .u, .u, .u, .u, .u, .u, .u, .u, .u, .u, .u, .u, .u]) rfl (JS.asg (i := 3) (F := (eT eI)) (JAsE.of sc_law_right.nd rfl (by first | exact Or.inl rfl | exact Or.inr rfl) (by first | exact Or.inl rfl | exact Or.inr rfl) (JE.cl (JE.tupleL (E := eI) rfl T.m_tuple (JL.je (JL.gcall1 (E1 := (eL eI)) (f := M.law_mixed) (G' := eI) 0 rfl (fun x1 P h => ⟨.l, x1, rfl, by first | with_reducible exact h | exact h⟩) (c_law_mixed T (hr.mono (by decide))) (JL.je (JL.cat (E := eI) (JL.je (JL.rep (E := eI) (JL.je (JL.lst (JH.cons (E := eI) JE.int (JH.nil (E := eI))))) (JE.sub (JE.var (E := eI) 1 rfl) (JE.var (E := eI) 2 rfl)))) (JL.je (JL.rep (E := eI) (JL.je (JL.lst (JH.cons (E := eI) JE.int (JH.nil (E := eI))))) (JE.var (E := eI) 2 rfl)))))))) (by first | with_reducible rfl | (simp only [rtbO, rtbG]; done) | (simp only [rtbO, rtbG]; congr; done) | rfl))) (fun word148 => (JS.to (ρ' := [.src, .d (eI n142), .d (eI w143), .d ((eT eI) word148), .u, .u, .u, .u, .u, .u, .u, .u, .u, .u, .u, .u, .u, .u, .u, .u, .u, .u, .u, .u]) rfl (JS.asg (i := 4) (F := eI) (JAsE.of sc_law_right.nd rfl (by first | exact Or.inl rfl | exact Or.inr rfl) (by first | exact Or.inl rfl | exact Or.inr rfl) (JE.cl (JE.call1 (E1 := (eT eI)) (f := M.index_of) (G := eI) (fun x1 r P h q => ⟨x1, r, rfl, h, q⟩) (c_index_of T (hr.mono (by decide))) (JE.var (E := (eT eI)) 3 rfl)) (by first | with_reducible rfl | (simp only [rtbO, rtbG]; done) | (simp only [rtbO, rtbG]; congr; done) | rfl))) (fun index149 => (JS.to (ρ' := [.src, .d (eI n142), .d (eI w143), .d ((eT eI) word148), .d (eI index149), .u, .u, .u, .u, .u, .u, .u, .u, .u, .u, .u, .u, .u, .u, .u, .u, .u, .u, .u]) rfl (JS.asg (i := 5) (F := eI) (JAsE.of sc_law_right.nd rfl (by first | exact Or.inl rfl | exact Or.inr rfl) (by first | exact Or.inl rfl | exact Or.inr rfl) (JE.cl (JE.call2 (E1 := eI) (E2 := eI) (f := M.choose) (G := eI) (fun x1 x2 r P h q => ⟨x1, x2, r, rfl, h, q⟩) (c_choose T (hr.mono (by decide))) (JE.var (E := eI) 1 rfl) (JE.var (E := eI) 2 rfl)) (by first | with_reducible rfl | (simp only [rtbO, rtbG]; done) | (simp only [rtbO, rtbG]; congr; done) | rfl))) (fun count150 => (JS.to (ρ' := [.src, .d (eI n142), .d (eI w143), .d ((eT eI) word148), .d (eI index149), .d (eI count150), .u, .u, .u, .u, .u, .u, .u, .u, .u, .u, .u, .u, .u, .u, .u, .u, .u, .u]) rfl (JS.ifT (JT.cl (JW.jt (JW.or (JT.ne (JE.call1 (E1 := (eT eI)) (f := M.index_of) (G := eI) (fun x1 r P h q => ⟨x1, r, rfl, h, q⟩) (c_index_of T (hr.mono (by decide))) (JE.call1 (E1 := (eT eI)) (f := M.law_over) (G := (eT eI)) (fun x1 r P h q => ⟨x1, r, rfl, h, q⟩) (c_law_over T (hr.mono (by decide))) (JE.var (E := (eT eI)) 3 rfl))) (JE.sub (JE.sub (JE.var (E := eI) 5 rfl) JE.int) (JE.var (E := eI) 4 rfl))) (JW.or (JT.ne (JE.call1 (E1 := (eT eI)) (f := M.index_of) (G := eI) (fun x1 r P h q => ⟨x1, r, rfl, h, q⟩) (c_index_of T (hr.mono (by decide))) (JE.catT (E := eI) (JE.tup (JH.cons (E := eI) JE.int (JH.cons (E := eI) JE.int (JH.nil (E := eI))))) (JE.var (E := (eT eI)) 3 rfl))) (JE.var (E := eI) 4 rfl)) (JW.or1 (JT.neF (E := (eT eI)) hr.units (fth_Q fth_I) (shp_Q shp_I) (by decide) (JE.call3 (E1 := eI) (E2 := eI) (E3 := eI) (f := M.word_at) (G := (eT eI)) (fun x1 x2 x3 r P h q => ⟨x1, x2, x3, r, rfl, h, q⟩) (c_word_at T (hr.mono (by decide))) (JE.var (E := eI) 1 rfl) (JE.var (E := eI) 2 rfl) (JE.var (E := eI) 4 rfl)) (JE.var (E := (eT eI)) 3 rfl)))))) (by first | with_reducible rfl | (simp only [rtbO, rtbG]; done) | (simp only [rtbO, rtbG]; congr; done) | rfl)) (JS.retP (c := id) (fun _ => rfl) nl_B (JE.cl JE.bl (by first | with_reducible rfl | (simp only [rtbO, rtbG]; done) | (simp only [rtbO, rtbG]; congr; done) | rfl))) (JS.ifT (JT.cl (JW.jt (JW.and (JT.lt (JE.var (E := eI) 1 rfl) JE.int) (JW.and1 (JT.ne (JE.call1 (E1 := (eT eI)) (f := M.index_of) (G := eI) (fun x1 r P h q => ⟨x1, r, rfl, h, q⟩) (c_index_of T (hr.mono (by decide))) (JE.catT (E := eI) (JE.tup (JH.cons (E := eI) JE.int (JH.nil (E := eI)))) (JE.var (E := (eT eI)) 3 rfl))) (JE.add (JE.call2 (E1 := eI) (E2 := eI) (f := M.choose) (G := eI) (fun x1 x2 r P h q => ⟨x1, x2, r, rfl, h, q⟩) (c_choose T (hr.mono (by decide))) (JE.var (E := eI) 1 rfl) (JE.add (JE.var (E := eI) 2 rfl) JE.int)) (JE.var (E := eI) 4 rfl)))))) (by first | with_reducible rfl | (simp only [rtbO, rtbG]; done) | (simp only [rtbO, rtbG]; congr; done) | rfl)) (JS.retP (c := id) (fun _ => rfl) nl_B (JE.cl JE.bl (by first | with_reducible rfl | (simp only [rtbO, rtbG]; done) | (simp only [rtbO, rtbG]; congr; done) | rfl))) (JS.asg (i := 6) (F := (eT eI)) (JAsE.of sc_law_right.nd rfl (by first | exact Or.inl rfl | exact Or.inr rfl) (by first | exact Or.inl rfl | exact Or.inr rfl) (JE.cl (JE.tupleL (E := eI) rfl T.m_tuple (JL.je (JL.gcall1 (E1 := (eT eI)) (f := M.law_mixed) (G' := eI) 0 rfl (fun x1 P h => ⟨.t, x1, rfl, by first | with_reducible exact h | exact h⟩) (c_law_mixed T (hr.mono (by decide))) (JE.var (E := (eT eI)) 3 rfl)))) (by first | with_reducible rfl | (simp only [rtbO, rtbG]; done) | (simp only [rtbO, rtbG]; congr; done) | rfl))) (fun other163 => (JS.to (ρ' := [.src, .d (eI n142), .d (eI w143), .d ((eT eI) word148), .d (eI index149), .d (eI count150), .d ((eT eI) other163), .u, .u, .u, .u, .u, .u, .u, .u, .u, .u, .u, .u, .u, .u, .u, .u, .u]) rfl (JS.ifT (JT.cl (JW.jt (JW.or (JT.neF (E := eB) hr.units fth_B shp_B (by decide) (JE.lt (JE.call1 (E1 := (eT eI)) (f := M.index_of) (G := eI) (fun x1 r P h q => ⟨x1, r, rfl, h, q⟩) (c_index_of T (hr.mono (by decide))) (JE.var (E := (eT eI)) 6 rfl)) (JE.var (E := eI) 4 rfl)) (JE.ltT (hu_of hr) (JE.var (E := (eT eI)) 6 rfl) (JE.var (E := (eT eI)) 3 rfl))) (JW.or1 (JT.neF (E := eB) hr.units fth_B shp_B (by decide) (JE.eq (JE.call1 (E1 := (eT eI)) (f := M.index_of) (G := eI) (fun x1 r P h q => ⟨x1, r, rfl, h, q⟩) (c_index_of T (hr.mono (by decide))) (JE.var (E := (eT eI)) 6 rfl)) (JE.var (E := eI) 4 rfl)) (JE.eqF (E := (eT eI)) hr.units (fth_Q fth_I) (shp_Q shp_I) (by decide) (JE.var (E := (eT eI)) 6 rfl) (JE.var (E := (eT eI)) 3 rfl)))))) (by first | with_reducible rfl | (simp only [rtbO, rtbG]; done) | (simp only [rtbO, rtbG]; congr; done) | rfl)) (JS.retP (c := id) (fun _ => rfl) nl_B (JE.cl JE.bl (by first | with_reducible rfl | (simp only [rtbO, rtbG]; done) | (simp only [rtbO, rtbG]; congr; done) | rfl))) (JS.asg (i := 7) (F := eI) (JAsE.of sc_law_right.nd rfl (by first | exact Or.inl rfl | exact Or.inr rfl) (by first | exact Or.inl rfl | exact Or.inr rfl) (JE.cl (JE.add JE.int (JE.pick 0 rfl (c_law_pick T (hr.mono (by decide))) JE.int)) (by first | with_reducible rfl | (simp only [rtbO, rtbG]; done) | (simp only [rtbO, rtbG]; congr; done) | rfl))) (fun size170 => (JS.to (ρ' := [.src, .d (eI n142), .d (eI w143), .d ((eT eI) word148), .d (eI index149), .d (eI count150), .d ((eT eI) other163), .d (eI size170), .u, .u, .u, .u, .u, .u, .u, .u, .u, .u, .u, .u, .u, .u, .u, .u]) rfl (JS.asg (i := 8) (F := eI) (JAsE.of sc_law_right.nd rfl (by first | exact Or.inl rfl | exact Or.inr rfl) (by first | exact Or.inl rfl | exact Or.inr rfl) (JE.cl (JE.pick 0 rfl (c_law_pick T (hr.mono (by decide))) (JE.add (JE.var (E := eI) 7 rfl) JE.int)) (by first | with_reducible rfl | (simp only [rtbO, rtbG]; done) | (simp only [rtbO, rtbG]; congr; done) | rfl))) (fun many171 => (JS.to (ρ' := [.src, .d (eI n142), .d (eI w143), .d ((eT eI) word148), .d (eI index149), .d (eI count150), .d ((eT eI) other163), .d (eI size170), .d (eI many171), .u, .u, .u, .u, .u, .u, .u, .u, .u, .u, .u, .u, .u, .u, .u]) rfl (JS.asg (i := 9) (F := (eL (eT eI))) (JAsL.ofL (JAsL.cl (JAsL.lc0 (M0 := false) (own := [("own", 20)]) (up := fun ρ x => ρ.set 20 (.d ((eT eI) x))) (E := (eT eI)) (F := (eT eI)) (f := fun (own172 : (List Int)) => bd (bd (lf (range1O size170)) fun x175 =>
 bd (lf (szO x175)) fun xs174 =>
 rt (xs174.map fun (place173 : Int) => (if (own172.contains place173) then 1 else 0))) fun x176 =>
 rt x176) rfl sc_law_right.nd rfl rfl (sw_true rfl rfl rfl (by decide +kernel)) (JI.list (E := (eT eI)) (JL.je (JL.call2 (E1 := eI) (E2 := eI) (f := (M.sets_row 14)) (G := (eT eI)) (fun x1 x2 r P h q => ⟨x1, x2, r, rfl, h, q⟩) (c_sets_row 14 T (hr.mono (by decide))) (JE.var (E := eI) 7 rfl) (JE.var (E := eI) 8 rfl)))) (by first | exact blkOk_by (own := [("own", 20)]) (by show blkC ["source", "n", "w", "word", "index", "count", "other", "size", "many", "sets", "half", "total", "one", "small", "steps", "high", "d", "some", "drawn", "place", "own", "bit", "k", "j"] (defScope s_law_right) _ _ = true; decide +kernel) | exact blkOk_in (sc0 := defScope s_law_right) (own := [("own", 20)]) rfl (by show blkC ["source", "n", "w", "word", "index", "count", "other", "size", "many", "sets", "half", "total", "one", "small", "steps", "high", "d", "some", "drawn", "place", "own", "bit", "k", "j"] _ _ _ = true; decide +kernel)) (by decide) rfl (fun s H C cl fp => (JG.name 20 sc_law_right.nd rfl (by first | exact Or.inl rfl | exact Or.inr rfl) (by first | exact Or.inl rfl | exact Or.inr rfl))) (fun s H C cl fp own172 => JE.cl (JE.tupleL (E := eI) rfl T.m_tuple (JL.je (JL.mapP (g := fun (place173 : Int) => (if (own172.contains place173) then 1 else 0)) (JL.lc0 (M0 := false) (own := [("place", 19)]) (up := fun ρ x => ρ.set 19 (.d (eI x))) (E := eI) (F := eI) (f := fun (place173 : Int) => rt (if (own172.contains place173) then 1 else 0)) rfl sc_law_right.nd (JI.range1 rfl T.m_range (JE.var (E := eI) 7 rfl)) (by first | exact blkOk_by (own := [("place", 19)]) (by show blkC ["source", "n", "w", "word", "index", "count", "other", "size", "many", "sets", "half", "total", "one", "small", "steps", "high", "d", "some", "drawn", "place", "own", "bit", "k", "j"] (defScope s_law_right) _ _ = true; decide +kernel) | exact blkOk_in (sc0 := defScope s_law_right) (own := [("place", 19)]) rfl (by show blkC ["source", "n", "w", "word", "index", "count", "other", "size", "many", "sets", "half", "total", "one", "small", "steps", "high", "d", "some", "drawn", "place", "own", "bit", "k", "j"] _ _ _ = true; decide +kernel)) (by decide) rfl (fun s H C cl fp => (JG.name 19 sc_law_right.nd rfl (by first | exact Or.inl rfl | exact Or.inr rfl) (by first | exact Or.inl rfl | exact Or.inr rfl))) (fun s H C cl fp place173 => JE.cl (JE.intB rfl T.m_int (JE.inI (k := .t) (JE.var (E := eI) 19 rfl) (JE.var (E := (eT eI)) 20 rfl))) (by first | with_reducible rfl | (simp only [rtbO, rtbG]; done) | (simp only [rtbO, rtbG]; congr; done) | rfl)))))) (by first | with_reducible rfl | (simp only [rtbO, rtbG]; done) | (simp only [rtbO, rtbG]; congr; done) | rfl))) (by first | with_reducible rfl | (simp only [rtbO, rtbG]; done) | (simp only [rtbO, rtbG]; congr; done) | rfl))) (fun sets179 => (JS.to (ρ' := [.src, .d (eI n142), .d (eI w143), .d ((eT eI) word148), .d (eI index149), .d (eI count150), .d ((eT eI) other163), .d (eI size170), .d (eI many171), .d ((eL (eT eI)) sets179), .u, .u, .u, .u, .u, .u, .u, .u, .u, .u, .u, .u, .u, .u]) rfl (JS.ifT (JT.cl (JT.neF (E := (eL eI)) hr.units (fth_Q fth_I) (shp_Q shp_I) (by decide) (JL.je (JL.sortedI rfl T.m_sorted (JL.je (JL.lc0 (M0 := false) (own := [("own", 20)]) (up := fun ρ x => ρ.set 20 (.d ((eT eI) x))) (E := (eT eI)) (F := eI) (f := fun (own180 : (List Int)) => lf (M.index_of own180)) rfl sc_law_right.nd (JI.list (E := (eT eI)) (JE.var (E := (eL (eT eI))) 9 rfl)) (by first | exact blkOk_by (own := [("own", 20)]) (by show blkC ["source", "n", "w", "word", "index", "count", "other", "size", "many", "sets", "half", "total", "one", "small", "steps", "high", "d", "some", "drawn", "place", "own", "bit", "k", "j"] (defScope s_law_right) _ _ = true; decide +kernel) | exact blkOk_in (sc0 := defScope s_law_right) (own := [("own", 20)]) rfl (by show blkC ["source", "n", "w", "word", "index", "count", "other", "size", "many", "sets", "half", "total", "one", "small", "steps", "high", "d", "some", "drawn", "place", "own", "bit", "k", "j"] _ _ _ = true; decide +kernel)) (by decide) rfl (fun s H C cl fp => (JG.name 20 sc_law_right.nd rfl (by first | exact Or.inl rfl | exact Or.inr rfl) (by first | exact Or.inl rfl | exact Or.inr rfl))) (fun s H C cl fp own180 => JE.cl (JE.call1 (E1 := (eT eI)) (f := M.index_of) (G := eI) (fun x1 r P h q => ⟨x1, r, rfl, h, q⟩) (c_index_of T (hr.mono (by decide))) (JE.var (E := (eT eI)) 20 rfl)) (by first | with_reducible rfl | (simp only [rtbO, rtbG]; done) | (simp only [rtbO, rtbG]; congr; done) | rfl)))))) (JL.je (JL.listRange rfl rfl T.m_list rfl T.m_range (JE.call2 (E1 := eI) (E2 := eI) (f := M.choose) (G := eI) (fun x1 x2 r P h q => ⟨x1, x2, r, rfl, h, q⟩) (c_choose T (hr.mono (by decide))) (JE.var (E := eI) 7 rfl) (JE.var (E := eI) 8 rfl))))) (by first | with_reducible rfl | (simp only [rtbO, rtbG]; done) | (simp only [rtbO, rtbG]; congr; done) | rfl)) (JS.retP (c := id) (fun _ => rfl) nl_B (JE.cl JE.bl (by first | with_reducible rfl | (simp only [rtbO, rtbG]; done) | (simp only [rtbO, rtbG]; congr; done) | rfl))) (JS.asg (i := 10) (F := eI) (JAsE.of sc_law_right.nd rfl (by first | exact Or.inl rfl | exact Or.inr rfl) (by first | exact Or.inl rfl | exact Or.inr rfl) (JE.cl (JE.add JE.int (JE.pick 0 rfl (c_law_pick T (hr.mono (by decide))) JE.int)) (by first | with_reducible rfl | (simp only [rtbO, rtbG]; done) | (simp only [rtbO, rtbG]; congr; done) | rfl))) (fun half187 => (JS.to (ρ' := [.src, .d (eI n142), .d (eI w143), .d ((eT eI) word148), .d (eI index149), .d (eI count150), .d ((eT eI) other163), .d (eI size170), .d (eI many171), .d ((eL (eT eI)) sets179), .d (eI half187), .u, .u, .u, .u, .u, .u, .u, .u, .u, .u, .u, .u, .u]) rfl (JS.asg (i := 11) (F := eI) (JAsE.of sc_law_right.nd rfl (by first | exact Or.inl rfl | exact Or.inr rfl) (by first | exact Or.inl rfl | exact Or.inr rfl) (JE.cl (JE.call2 (E1 := eI) (E2 := eI) (f := M.paths) (G := eI) (fun x1 x2 r P h q => ⟨x1, x2, r, rfl, h, q⟩) (c_paths T (hr.mono (by decide))) (JE.mulL (by decide) (JE.var (E := eI) 10 rfl)) JE.int) (by first | with_reducible rfl | (simp only [rtbO, rtbG]; done) | (simp only [rtbO, rtbG]; congr; done) | rfl))) (fun total188 => (JS.to (ρ' := [.src, .d (eI n142), .d (eI w143), .d ((eT eI) word148), .d (eI index149), .d (eI count150), .d ((eT eI) other163), .d (eI size170), .d (eI many171), .d ((eL (eT eI)) sets179), .d (eI half187), .d (eI total188), .u, .u, .u, .u, .u, .u, .u, .u, .u, .u, .u, .u]) rfl (JS.asg (i := 12) (F := (eT eI)) (JAsE.of sc_law_right.nd rfl (by first | exact Or.inl rfl | exact Or.inr rfl) (by first | exact Or.inl rfl | exact Or.inr rfl) (JE.cl (JE.call2 (E1 := eI) (E2 := eI) (f := M.balanced_at) (G := (eT eI)) (fun x1 x2 r P h q => ⟨x1, x2, r, rfl, h, q⟩) (c_balanced_at T (hr.mono (by decide))) (JE.mulL (by decide) (JE.var (E := eI) 10 rfl)) (JE.pick 0 rfl (c_law_pick T (hr.mono (by decide))) (JE.var (E := eI) 11 rfl))) (by first | with_reducible rfl | (simp only [rtbO, rtbG]; done) | (simp only [rtbO, rtbG]; congr; done) | rfl))) (fun one190 => (JS.to (ρ' := [.src, .d (eI n142), .d (eI w143), .d ((eT eI) word148), .d (eI index149), .d (eI count150), .d ((eT eI) other163), .d (eI size170), .d (eI many171), .d ((eL (eT eI)) sets179), .d (eI half187), .d (eI total188), .d ((eT eI) one190), .u, .u, .u, .u, .u, .u, .u, .u, .u, .u, .u]) rfl (JS.asg (i := 13) (F := (eT eI)) (JAsE.of sc_law_right.nd rfl (by first | exact Or.inl rfl | exact Or.inr rfl) (by first | exact Or.inl rfl | exact Or.inr rfl) (JE.cl (JE.call2 (E1 := eI) (E2 := eI) (f := M.balanced_at) (G := (eT eI)) (fun x1 x2 r P h q => ⟨x1, x2, r, rfl, h, q⟩) (c_balanced_at T (hr.mono (by decide))) JE.int JE.int) (by first | with_reducible rfl | (simp only [rtbO, rtbG]; done) | (simp only [rtbO, rtbG]; congr; done) | rfl))) (fun small191 => (JS.to (ρ' := [.src, .d (eI n142), .d (eI w143), .d ((eT eI) word148), .d (eI index149), .d (eI count150), .d ((eT eI) other163), .d (eI size170), .d (eI many171), .d ((eL (eT eI)) sets179), .d (eI half187), .d (eI total188), .d ((eT eI) one190), .d ((eT eI) small191), .u, .u, .u, .u, .u, .u, .u, .u, .u, .u]) rfl (JS.ifT (JT.cl (JW.jt (JW.or (JT.notB (JE.call1 (E1 := (eT eI)) (f := M.is_balanced) (G := eB) (fun x1 r P h q => ⟨x1, r, rfl, h, q⟩) (c_is_balanced T (hr.mono (by decide))) (JE.catT (E := eI) (JE.catT (E := eI) (JE.tup (JH.cons (E := eI) JE.int (JH.nil (E := eI)))) (JE.var (E := (eT eI)) 12 rfl)) (JE.tup (JH.cons (E := eI) JE.int (JH.nil (E := eI)))))) JE.bl) (JW.or (JT.notB (JE.call1 (E1 := (eT eI)) (f := M.is_balanced) (G := eB) (fun x1 r P h q => ⟨x1, r, rfl, h, q⟩) (c_is_balanced T (hr.mono (by decide))) (JE.catT (E := eI) (JE.var (E := (eT eI)) 12 rfl) (JE.var (E := (eT eI)) 13 rfl))) JE.bl) (JW.or1 (JT.notB (JE.call1 (E1 := (eT eI)) (f := M.is_balanced) (G := eB) (fun x1 r P h q => ⟨x1, r, rfl, h, q⟩) (c_is_balanced T (hr.mono (by decide))) (JE.revT (E := eI) (JE.var (E := (eT eI)) 12 rfl))) JE.bl))))) (by first | with_reducible rfl | (simp only [rtbO, rtbG]; done) | (simp only [rtbO, rtbG]; congr; done) | rfl)) (JS.retP (c := id) (fun _ => rfl) nl_B (JE.cl JE.bl (by first | with_reducible rfl | (simp only [rtbO, rtbG]; done) | (simp only [rtbO, rtbG]; congr; done) | rfl))) (JS.ifT (JT.cl (JW.jt (JW.or (JT.notB (JE.call1 (E1 := (eT eI)) (f := M.is_balanced) (G := eB) (fun x1 r P h q => ⟨x1, r, rfl, h, q⟩) (c_is_balanced T (hr.mono (by decide))) (JE.tupleL (E := eI) rfl T.m_tuple (JL.je (JL.mapP (g := fun (bit200 : Int) => (1 - bit200)) (JL.lc0 (M0 := false) (own := [("bit", 21)]) (up := fun ρ x => ρ.set 21 (.d (eI x))) (E := eI) (F := eI) (f := fun (bit200 : Int) => rt (1 - bit200)) rfl sc_law_right.nd (JI.tup (E := eI) (JE.revT (E := eI) (JE.var (E := (eT eI)) 12 rfl))) (by first | exact blkOk_by (own := [("bit", 21)]) (by show blkC ["source", "n", "w", "word", "index", "count", "other", "size", "many", "sets", "half", "total", "one", "small", "steps", "high", "d", "some", "drawn", "place", "own", "bit", "k", "j"] (defScope s_law_right) _ _ = true; decide +kernel) | exact blkOk_in (sc0 := defScope s_law_right) (own := [("bit", 21)]) rfl (by show blkC ["source", "n", "w", "word", "index", "count", "other", "size", "many", "sets", "half", "total", "one", "small", "steps", "high", "d", "some", "drawn", "place", "own", "bit", "k", "j"] _ _ _ = true; decide +kernel)) (by decide) rfl (fun s H C cl fp => (JG.name 21 sc_law_right.nd rfl (by first | exact Or.inl rfl | exact Or.inr rfl) (by first | exact Or.inl rfl | exact Or.inr rfl))) (fun s H C cl fp bit200 => JE.cl (JE.sub JE.int (JE.var (E := eI) 21 rfl)) (by first | with_reducible rfl | (simp only [rtbO, rtbG]; done) | (simp only [rtbO, rtbG]; congr; done) | rfl))))))) JE.bl) (JW.or (JT.ne (JE.call1 (E1 := (eT eI)) (f := M.even_index) (G := eI) (fun x1 r P h q => ⟨x1, r, rfl, h, q⟩) (c_even_index T (hr.mono (by decide))) (JE.catT (E := eI) (JE.repT (E := eI) (JE.tup (JH.cons (E := eI) JE.int (JH.nil (E := eI)))) (JE.var (E := eI) 10 rfl)) (JE.repT (E := eI) (JE.tup (JH.cons (E := eI) JE.int (JH.nil (E := eI)))) (JE.var (E := eI) 10 rfl)))) JE.int) (JW.or1 (JT.ne (JE.call1 (E1 := (eT eI)) (f := M.even_index) (G := eI) (fun x1 r P h q => ⟨x1, r, rfl, h, q⟩) (c_even_index T (hr.mono (by decide))) (JE.repT (E := eI) (JE.tup (JH.cons (E := eI) JE.int (JH.cons (E := eI) JE.int (JH.nil (E := eI))))) (JE.var (E := eI) 10 rfl))) (JE.sub (JE.var (E := eI) 11 rfl) JE.int)))))) (by first | with_reducible rfl | (simp only [rtbO, rtbG]; done) | (simp only [rtbO, rtbG]; congr; done) | rfl)) (JS.retP (c := id) (fun _ => rfl) nl_B (JE.cl JE.bl (by first | with_reducible rfl | (simp only [rtbO, rtbG]; done) | (simp only [rtbO, rtbG]; congr; done) | rfl))) (JS.asg (i := 14) (F := eI) (JAsE.of sc_law_right.nd rfl (by first | exact Or.inl rfl | exact Or.inr rfl) (by first | exact Or.inl rfl | exact Or.inr rfl) (JE.cl (JE.pick 0 rfl (c_law_pick T (hr.mono (by decide))) JE.int) (by first | with_reducible rfl | (simp only [rtbO, rtbG]; done) | (simp only [rtbO, rtbG]; congr; done) | rfl))) (fun steps213 => (JS.to (ρ' := [.src, .d (eI n142), .d (eI w143), .d ((eT eI) word148), .d (eI index149), .d (eI count150), .d ((eT eI) other163), .d (eI size170), .d (eI many171), .d ((eL (eT eI)) sets179), .d (eI half187), .d (eI total188), .d ((eT eI) one190), .d ((eT eI) small191), .d (eI steps213), .u, .u, .u, .u, .u, .u, .u, .u, .u]) rfl (JS.asg (i := 15) (F := eI) (JAsE.of sc_law_right.nd rfl (by first | exact Or.inl rfl | exact Or.inr rfl) (by first | exact Or.inl rfl | exact Or.inr rfl) (JE.cl (JE.pick 0 rfl (c_law_pick T (hr.mono (by decide))) JE.int) (by first | with_reducible rfl | (simp only [rtbO, rtbG]; done) | (simp only [rtbO, rtbG]; congr; done) | rfl))) (fun high214 => (JS.to (ρ' := [.src, .d (eI n142), .d (eI w143), .d ((eT eI) word148), .d (eI index149), .d (eI count150), .d ((eT eI) other163), .d (eI size170), .d (eI many171), .d ((eL (eT eI)) sets179), .d (eI half187), .d (eI total188), .d ((eT eI) one190), .d ((eT eI) small191), .d (eI steps213), .d (eI high214), .u, .u, .u, .u, .u, .u, .u, .u]) rfl (JS.ifT (JT.cl (JT.ne (JE.call2 (E1 := eI) (E2 := eI) (f := M.paths) (G := eI) (fun x1 x2 r P h q => ⟨x1, x2, r, rfl, h, q⟩) (c_paths T (hr.mono (by decide))) (JE.add (JE.var (E := eI) 14 rfl) JE.int) (JE.var (E := eI) 15 rfl)) (JE.add (JE.call2 (E1 := eI) (E2 := eI) (f := M.paths) (G := eI) (fun x1 x2 r P h q => ⟨x1, x2, r, rfl, h, q⟩) (c_paths T (hr.mono (by decide))) (JE.var (E := eI) 14 rfl) (JE.add (JE.var (E := eI) 15 rfl) JE.int)) (JE.mul (JE.intB rfl T.m_int (JE.gt (JE.var (E := eI) 15 rfl) JE.int)) (JE.call2 (E1 := eI) (E2 := eI) (f := M.paths) (G := eI) (fun x1 x2 r P h q => ⟨x1, x2, r, rfl, h, q⟩) (c_paths T (hr.mono (by decide))) (JE.var (E := eI) 14 rfl) (JE.sub (JE.var (E := eI) 15 rfl) JE.int))))) (by first | with_reducible rfl | (simp only [rtbO, rtbG]; done) | (simp only [rtbO, rtbG]; congr; done) | rfl)) (JS.retP (c := id) (fun _ => rfl) nl_B (JE.cl JE.bl (by first | with_reducible rfl | (simp only [rtbO, rtbG]; done) | (simp only [rtbO, rtbG]; congr; done) | rfl))) (JS.ifT (JT.cl (JT.ne (JE.var (E := eI) 11 rfl) (JE.sum rfl rfl T.m_sum (JL.je (JL.lc0 (M0 := false) (own := [("k", 22)]) (up := fun ρ x => ρ.set 22 (.d (eI x))) (E := eI) (F := eI) (f := fun (k220 : Int) => bd (lf (M.paths (2 * k220) 0)) fun x221 =>
 bd (lf (M.paths (2 * ((half187 - 1) - k220)) 0)) fun x222 =>
 lf (mulO x221 x222)) rfl sc_law_right.nd (JI.range1 rfl T.m_range (JE.var (E := eI) 10 rfl)) (by first | exact blkOk_by (own := [("k", 22)]) (by show blkC ["source", "n", "w", "word", "index", "count", "other", "size", "many", "sets", "half", "total", "one", "small", "steps", "high", "d", "some", "drawn", "place", "own", "bit", "k", "j"] (defScope s_law_right) _ _ = true; decide +kernel) | exact blkOk_in (sc0 := defScope s_law_right) (own := [("k", 22)]) rfl (by show blkC ["source", "n", "w", "word", "index", "count", "other", "size", "many", "sets", "half", "total", "one", "small", "steps", "high", "d", "some", "drawn", "place", "own", "bit", "k", "j"] _ _ _ = true; decide +kernel)) (by decide) rfl (fun s H C cl fp => (JG.name 22 sc_law_right.nd rfl (by first | exact Or.inl rfl | exact Or.inr rfl) (by first | exact Or.inl rfl | exact Or.inr rfl))) (fun s H C cl fp k220 => JE.cl (JE.mul (JE.call2 (E1 := eI) (E2 := eI) (f := M.paths) (G := eI) (fun x1 x2 r P h q => ⟨x1, x2, r, rfl, h, q⟩) (c_paths T (hr.mono (by decide))) (JE.mulL (by decide) (JE.var (E := eI) 22 rfl)) JE.int) (JE.call2 (E1 := eI) (E2 := eI) (f := M.paths) (G := eI) (fun x1 x2 r P h q => ⟨x1, x2, r, rfl, h, q⟩) (c_paths T (hr.mono (by decide))) (JE.mulL (by decide) (JE.sub (JE.sub (JE.var (E := eI) 10 rfl) JE.int) (JE.var (E := eI) 22 rfl))) JE.int)) (by first | with_reducible rfl | (simp only [rtbO, rtbG]; done) | (simp only [rtbO, rtbG]; congr; done) | rfl)))))) (by first | with_reducible rfl | (simp only [rtbO, rtbG]; done) | (simp only [rtbO, rtbG]; congr; done) | rfl)) (JS.retP (c := id) (fun _ => rfl) nl_B (JE.cl JE.bl (by first | with_reducible rfl | (simp only [rtbO, rtbG]; done) | (simp only [rtbO, rtbG]; congr; done) | rfl))) (JS.asg (i := 1) (F := eI) (JAsE.of sc_law_right.nd rfl (by first | exact Or.inl rfl | exact Or.inr rfl) (by first | exact Or.inl rfl | exact Or.inr rfl) (JE.cl (JE.add JE.int (JE.pick 0 rfl (c_law_pick T (hr.mono (by decide))) JE.int)) (by first | with_reducible rfl | (simp only [rtbO, rtbG]; done) | (simp only [rtbO, rtbG]; congr; done) | rfl))) (fun n228 => (JS.to (ρ' := [.src, .d (eI n228), .d (eI w143), .d ((eT eI) word148), .d (eI index149), .d (eI count150), .d ((eT eI) other163), .d (eI size170), .d (eI many171), .d ((eL (eT eI)) sets179), .d (eI half187), .d (eI total188), .d ((eT eI) one190), .d ((eT eI) small191), .d (eI steps213), .d (eI high214), .u, .u, .u, .u, .u, .u, .u, .u]) rfl (JS.asg (i := 2) (F := eI) (JAsE.of sc_law_right.nd rfl (by first | exact Or.inl rfl | exact Or.inr rfl) (by first | exact Or.inl rfl | exact Or.inr rfl) (JE.cl (JE.pick 0 rfl (c_law_pick T (hr.mono (by decide))) (JE.add (JE.var (E := eI) 1 rfl) JE.int)) (by first | with_reducible rfl | (simp only [rtbO, rtbG]; done) | (simp only [rtbO, rtbG]; congr; done) | rfl))) (fun w229 => (JS.to (ρ' := [.src, .d (eI n228), .d (eI w229), .d ((eT eI) word148), .d (eI index149), .d (eI count150), .d ((eT eI) other163), .d (eI size170), .d (eI many171), .d ((eL (eT eI)) sets179), .d (eI half187), .d (eI total188), .d ((eT eI) one190), .d ((eT eI) small191), .d (eI steps213), .d (eI high214), .u, .u, .u, .u, .u, .u, .u, .u]) rfl (JS.asg (i := 16) (F := eI) (JAsE.of sc_law_right.nd rfl (by first | exact Or.inl rfl | exact Or.inr rfl) (by first | exact Or.inl rfl | exact Or.inr rfl) (JE.cl (JE.add JE.int (JE.pick 0 rfl (c_law_pick T (hr.mono (by decide))) JE.int)) (by first | with_reducible rfl | (simp only [rtbO, rtbG]; done) | (simp only [rtbO, rtbG]; congr; done) | rfl))) (fun d231 => (JS.to (ρ' := [.src, .d (eI n228), .d (eI w229), .d ((eT eI) word148), .d (eI index149), .d (eI count150), .d ((eT eI) other163), .d (eI size170), .d (eI many171), .d ((eL (eT eI)) sets179), .d (eI half187), .d (eI total188), .d ((eT eI) one190), .d ((eT eI) small191), .d (eI steps213), .d (eI high214), .d (eI d231), .u, .u, .u, .u, .u, .u, .u]) rfl (JS.asg (i := 17) (F := (eT (eT eI))) (JAsE.of sc_law_right.nd rfl (by first | exact Or.inl rfl | exact Or.inr rfl) (by first | exact Or.inl rfl | exact Or.inr rfl) (JE.cl (JE.call3 (E1 := eI) (E2 := eI) (E3 := eI) (f := M.chosen) (G := (eT (eT eI))) (fun x1 x2 x3 r P h q => ⟨x1, x2, x3, r, rfl, h, q⟩) (c_chosen T (hr.mono (by decide))) (JE.var (E := eI) 1 rfl) (JE.var (E := eI) 16 rfl) (JE.var (E := eI) 2 rfl)) (by first | with_reducible rfl | (simp only [rtbO, rtbG]; done) | (simp only [rtbO, rtbG]; congr; done) | rfl))) (fun some232 => (JS.to (ρ' := [.src, .d (eI n228), .d (eI w229), .d ((eT eI) word148), .d (eI index149), .d (eI count150), .d ((eT eI) other163), .d (eI size170), .d (eI many171), .d ((eL (eT eI)) sets179), .d (eI half187), .d (eI total188), .d ((eT eI) one190), .d ((eT eI) small191), .d (eI steps213), .d (eI high214), .d (eI d231), .d ((eT (eT eI)) some232), .u, .u, .u, .u, .u, .u]) rfl (JS.ifT (JT.cl (JW.jt (JW.or (JT.neF (E := (eL eI)) hr.units (fth_Q fth_I) (shp_Q shp_I) (by decide) (JL.je (JL.lc (M0 := false) (own := [("k", 22)]) (up := fun ρ x => ρ.set 22 (.d (eI x))) (E := eI) (F := eI) (cM := fun (k233 : Int) => bd (bd (lf (range1O k233)) fun x239 =>
 bd (lf (szO x239)) fun xs238 =>
 lcM (fun (j234 : Int) => bd (bd (lf (ixO some232 j234)) fun x235 =>
 bd (lf (ixO some232 k233)) fun x236 =>
 lf (M.distance x235 x236)) fun x237 =>
 rt (decide (x237 < d231))) (fun (j234 : Int) => rt j234) xs238) fun x240 =>
 rt (!decide (x240 = ([] : (List Int))))) (f := fun (k233 : Int) => rt k233) rfl sc_law_right.nd (JI.range1 rfl T.m_range (JE.len (E := (eT eI)) (k := .t) rfl T.m_len (JE.var (E := (eT (eT eI))) 17 rfl))) (by first | exact blkOk_by (own := [("k", 22)]) (by show blkC ["source", "n", "w", "word", "index", "count", "other", "size", "many", "sets", "half", "total", "one", "small", "steps", "high", "d", "some", "drawn", "place", "own", "bit", "k", "j"] (defScope s_law_right) _ _ = true; decide +kernel) | exact blkOk_in (sc0 := defScope s_law_right) (own := [("k", 22)]) rfl (by show blkC ["source", "n", "w", "word", "index", "count", "other", "size", "many", "sets", "half", "total", "one", "small", "steps", "high", "d", "some", "drawn", "place", "own", "bit", "k", "j"] _ _ _ = true; decide +kernel)) (by decide) rfl (fun s H C cl fp => (JG.name 22 sc_law_right.nd rfl (by first | exact Or.inl rfl | exact Or.inr rfl) (by first | exact Or.inl rfl | exact Or.inr rfl))) (fun s H C cl fp k233 => JTs.one (JT.cl (JT.neF (E := (eL eI)) hr.units (fth_Q fth_I) (shp_Q shp_I) (by decide) (JL.je (JL.lc (M0 := false) (own := [("j", 23)]) (up := fun ρ x => ρ.set 23 (.d (eI x))) (E := eI) (F := eI) (cM := fun (j234 : Int) => bd (bd (lf (ixO some232 j234)) fun x235 =>
 bd (lf (ixO some232 k233)) fun x236 =>
 lf (M.distance x235 x236)) fun x237 =>
 rt (decide (x237 < d231))) (f := fun (j234 : Int) => rt j234) rfl sc_law_right.nd (JI.range1 rfl T.m_range (JE.var (E := eI) 22 rfl)) (by first | exact blkOk_by (own := [("j", 23)]) (by show blkC ["source", "n", "w", "word", "index", "count", "other", "size", "many", "sets", "half", "total", "one", "small", "steps", "high", "d", "some", "drawn", "place", "own", "bit", "k", "j"] (defScope s_law_right) _ _ = true; decide +kernel) | exact blkOk_in (sc0 := defScope s_law_right) (own := [("j", 23)]) rfl (by show blkC ["source", "n", "w", "word", "index", "count", "other", "size", "many", "sets", "half", "total", "one", "small", "steps", "high", "d", "some", "drawn", "place", "own", "bit", "k", "j"] _ _ _ = true; decide +kernel)) (by decide) rfl (fun s H C cl fp => (JG.name 23 sc_law_right.nd rfl (by first | exact Or.inl rfl | exact Or.inr rfl) (by first | exact Or.inl rfl | exact Or.inr rfl))) (fun s H C cl fp j234 => JTs.one (JT.cl (JT.lt (JE.call2 (E1 := (eT eI)) (E2 := (eT eI)) (f := M.distance) (G := eI) (fun x1 x2 r P h q => ⟨x1, x2, r, rfl, h, q⟩) (c_distance T (hr.mono (by decide))) (JE.ix (E := (eT eI)) (k := .t) (fun _ _ => rfl) (JE.var (E := (eT (eT eI))) 17 rfl) (JE.var (E := eI) 23 rfl)) (JE.ix (E := (eT eI)) (k := .t) (fun _ _ => rfl) (JE.var (E := (eT (eT eI))) 17 rfl) (JE.var (E := eI) 22 rfl))) (JE.var (E := eI) 16 rfl)) (by first | with_reducible rfl | (simp only [rtbO, rtbG]; done) | (simp only [rtbO, rtbG]; congr; done) | rfl))) (fun s H C cl fp j234 => JE.cl (JE.var (E := eI) 23 rfl) (by first | with_reducible rfl | (simp only [rtbO, rtbG]; done) | (simp only [rtbO, rtbG]; congr; done) | rfl)))) (JL.je (JL.lst (E := eI) JH.nil))) (by first | with_reducible rfl | (simp only [rtbO, rtbG]; done) | (simp only [rtbO, rtbG]; congr; done) | rfl))) (fun s H C cl fp k233 => JE.cl (JE.var (E := eI) 22 rfl) (by first | with_reducible rfl | (simp only [rtbO, rtbG]; done) | (simp only [rtbO, rtbG]; congr; done) | rfl)))) (JL.je (JL.lst (E := eI) JH.nil))) (JW.or1 (JT.gt (JE.len (E := (eT eI)) (k := .t) rfl T.m_len (JE.var (E := (eT (eT eI))) 17 rfl)) (JE.call3 (E1 := eI) (E2 := eI) (E3 := eI) (f := M.apart_bound) (G := eI) (fun x1 x2 x3 r P h q => ⟨x1, x2, x3, r, rfl, h, q⟩) (c_apart_bound T (hr.mono (by decide))) (JE.var (E := eI) 1 rfl) (JE.var (E := eI) 16 rfl) (JE.var (E := eI) 2 rfl)))))) (by first | with_reducible rfl | (simp only [rtbO, rtbG]; done) | (simp only [rtbO, rtbG]; congr; done) | rfl)) (JS.retP (c := id) (fun _ => rfl) nl_B (JE.cl JE.bl (by first | with_reducible rfl | (simp only [rtbO, rtbG]; done) | (simp only [rtbO, rtbG]; congr; done) | rfl))) (JS.asg (i := 18) (F := (eT eI)) (JAsE.of sc_law_right.nd rfl (by first | exact Or.inl rfl | exact Or.inr rfl) (by first | exact Or.inl rfl | exact Or.inr rfl) (JE.cl (JE.tupleL (E := eI) rfl T.m_tuple (JL.je (JL.gcall1 (E1 := (eL eI)) (f := M.law_mixed) (G' := eI) 0 rfl (fun x1 P h => ⟨.l, x1, rfl, by first | with_reducible exact h | exact h⟩) (c_law_mixed T (hr.mono (by decide))) (JL.je (JL.cat (E := eI) (JL.je (JL.rep (E := eI) (JL.je (JL.lst (JH.cons (E := eI) JE.int (JH.nil (E := eI))))) (JE.sub (JE.var (E := eI) 1 rfl) (JE.var (E := eI) 2 rfl)))) (JL.je (JL.rep (E := eI) (JL.je (JL.lst (JH.cons (E := eI) JE.int (JH.nil (E := eI))))) (JE.var (E := eI) 2 rfl)))))))) (by first | with_reducible rfl | (simp only [rtbO, rtbG]; done) | (simp only [rtbO, rtbG]; congr; done) | rfl))) (fun drawn250 => (JS.to (ρ' := [.src, .d (eI n228), .d (eI w229), .d ((eT eI) word148), .d (eI index149), .d (eI count150), .d ((eT eI) other163), .d (eI size170), .d (eI many171), .d ((eL (eT eI)) sets179), .d (eI half187), .d (eI total188), .d ((eT eI) one190), .d ((eT eI) small191), .d (eI steps213), .d (eI high214), .d (eI d231), .d ((eT (eT eI)) some232), .d ((eT eI) drawn250), .u, .u, .u, .u, .u]) rfl (JS.ifT (JT.cl (JW.jt (JW.and (JT.ninD (E := (eT eI)) (k := .t) (hu65 hr) (fth_Q fth_I) (shp_Q shp_I) (by decide) (JE.var (E := (eT eI)) 18 rfl) (JE.var (E := (eT (eT eI))) 17 rfl)) (JW.and1 (JT.ge (JE.minL rfl rfl T.m_min (JL.je (JL.lc0 (M0 := false) (own := [("one", 12)]) (up := fun ρ x => ρ.set 12 (.d ((eT eI) x))) (E := (eT eI)) (F := eI) (f := fun (one251 : (List Int)) => lf (M.distance drawn250 one251)) rfl sc_law_right.nd (JI.tup (E := (eT eI)) (JE.var (E := (eT (eT eI))) 17 rfl)) (by first | exact blkOk_by (own := [("one", 12)]) (by show blkC ["source", "n", "w", "word", "index", "count", "other", "size", "many", "sets", "half", "total", "one", "small", "steps", "high", "d", "some", "drawn", "place", "own", "bit", "k", "j"] (defScope s_law_right) _ _ = true; decide +kernel) | exact blkOk_in (sc0 := defScope s_law_right) (own := [("one", 12)]) rfl (by show blkC ["source", "n", "w", "word", "index", "count", "other", "size", "many", "sets", "half", "total", "one", "small", "steps", "high", "d", "some", "drawn", "place", "own", "bit", "k", "j"] _ _ _ = true; decide +kernel)) (by decide) rfl (fun s H C cl fp => (JG.name 12 sc_law_right.nd rfl (by first | exact Or.inl rfl | exact Or.inr rfl) (by first | exact Or.inl rfl | exact Or.inr rfl))) (fun s H C cl fp one251 => JE.cl (JE.call2 (E1 := (eT eI)) (E2 := (eT eI)) (f := M.distance) (G := eI) (fun x1 x2 r P h q => ⟨x1, x2, r, rfl, h, q⟩) (c_distance T (hr.mono (by decide))) (JE.var (E := (eT eI)) 18 rfl) (JE.var (E := (eT eI)) 12 rfl)) (by first | with_reducible rfl | (simp only [rtbO, rtbG]; done) | (simp only [rtbO, rtbG]; congr; done) | rfl))))) (JE.var (E := eI) 16 rfl))))) (by first | with_reducible rfl | (simp only [rtbO, rtbG]; done) | (simp only [rtbO, rtbG]; congr; done) | rfl)) (JS.retP (c := id) (fun _ => rfl) nl_B (JE.cl JE.bl (by first | with_reducible rfl | (simp only [rtbO, rtbG]; done) | (simp only [rtbO, rtbG]; congr; done) | rfl))) (JS.ret (c := id) (fun _ => rfl) nl_B (JE.cl (JE.and (JE.eqF (E := (eT eI)) hr.units (fth_Q fth_I) (shp_Q shp_I) (by decide) (JE.ix (E := (eT eI)) (k := .t) (fun _ _ => rfl) (JE.var (E := (eT (eT eI))) 17 rfl) JE.int) (JE.catT (E := eI) (JE.repT (E := eI) (JE.tup (JH.cons (E := eI) JE.int (JH.nil (E := eI)))) (JE.sub (JE.var (E := eI) 1 rfl) (JE.var (E := eI) 2 rfl))) (JE.repT (E := eI) (JE.tup (JH.cons (E := eI) JE.int (JH.nil (E := eI)))) (JE.var (E := eI) 2 rfl)))) (JE.and1 (JE.eq (JE.len (E := (eT eI)) (k := .t) rfl T.m_len (JE.call3 (E1 := eI) (E2 := eI) (E3 := eI) (f := M.chosen) (G := (eT (eT eI))) (fun x1 x2 x3 r P h q => ⟨x1, x2, x3, r, rfl, h, q⟩) (c_chosen T (hr.mono (by decide))) (JE.var (E := eI) 1 rfl) JE.int (JE.var (E := eI) 2 rfl))) (JE.call2 (E1 := eI) (E2 := eI) (f := M.choose) (G := eI) (fun x1 x2 r P h q => ⟨x1, x2, r, rfl, h, q⟩) (c_choose T (hr.mono (by decide))) (JE.var (E := eI) 1 rfl) (JE.var (E := eI) 2 rfl))))) (by first | with_reducible rfl | (simp only [rtbO, rtbG]; done) | (simp only [rtbO, rtbG]; congr; done) | rfl)))))))))))))))))))))))))))))))))))))))))))))))))))))))))))))))))))))))))
theorem ok_law_right {P : Program} {w : World} {K : PySem.W.Frag} {mg : Str → Option Value} {base : Heap} (T : Txt K mg) {f : Addr} {fd : FuncData} (Fu : Fun K "_law_right" "_law_right" s_law_right f fd) : FnOk P w K mg base CX0 16 f fd ["source"] (spG K mg F_law_right) :=
 fn_okG Fu sc_law_right F_law_right (fun ds Q h => by obtain ⟨rfl, hq⟩ := h; rfl) (by decide) fun cdv A outer s H E hr ds Q hF => by
  obtain ⟨rfl, hq⟩ := hF
  refine ⟨_, _, _, t_law_right T hr , ?_⟩
  first | with_reducible exact hq | exact hq
theorem c_law_right {X : Cx} (T : Txt X.K X.mg) (hr : Room 16 X.A) : GCallOk X "_law_right" F_law_right := by
 obtain ⟨f, fd, hm, Fu, hb⟩ := T.f_law_right
 exact ⟨16, f, fd, _, ok_law_right T Fu, hr, hm, Fu.kp, hb⟩

/-! ### the law -/
abbrev s_law : Stmt := topS 29
theorem sc_law : FnScope ["script", "k"] ["script"] (defScope s_law) := ⟨rfl, rfl, rfl, by decide +kernel, rfl, by decide +kernel, by decide +kernel⟩
def spLaw (K : PySem.W.Frag) : Sp := fun vs H Q _ => ∃ (a : Addr) (ns : List Int), vs = [.ref a] ∧ SqL K H a (ns.map V.int) ∧ ns.length ≤ 63 ∧ ∀ H', Q (.bl true) H'
theorem source_is (c k : Int) : ∃ i j, M.law_source c k = some [i, j] := by
  unfold M.law_source
  have e : powO 10 18 = some 1000000000000000000 := by decide
  simp only [bdO, lfO, rtO, e, Option.bind_some]
  by_cases h : (1000000000000000000 : Int) ≤ c
  · refine ⟨c - 1000000000000000000, k + 1, ?_⟩
    unfold ifM
    rw [if_pos (decide_eq_true h)]
  · refine ⟨0, (c * 7919 + k * 104729 + 1) % 2147483647, ?_⟩
    unfold ifM
    rw [if_neg (by rw [decide_eq_false h]; decide)]
theorem ok_law {P : Program} {w : World} {K : PySem.W.Frag} {mg : Str → Option Value} {base : Heap} (T : Txt K mg) (right : M.law_right.wp fun b => b = true) {f : Addr} {fd : FuncData} (Fu : Fun K "law" "law" s_law f fd) : FnOk P w K mg base CX0 17 f fd ["script"] (spLaw K) := by
  obtain ⟨fc, fdc, hmc, Fc, bc⟩ := T.f_law_cell
  obtain ⟨fs, fds, hms, Fs, bs⟩ := T.f_law_source
  obtain ⟨fr, fdr, hmr, Fr, br⟩ := T.f_law_right
  have C : FnOk P w K mg base CX0 1 fc fdc ["script", "k"] (spCell K) := ok_law_cell T Fc
  have S : FnOk P w K mg base CX0 1 fs fds ["cell", "k"] (spF K mg F_law_source) := ok_law_source T Fs
  have R : FnOk P w K mg base CX0 16 fr fdr ["source"] (spG K mg F_law_right) := ok_law_right T Fr
  refine Fu.ok sc_law (fun vs H Q E hs => ?_) (fun cdv A outer s H vs Q E hr hs => ?_)
  · obtain ⟨a, ns, rfl, _⟩ := hs
    rfl
  · obtain ⟨a, ns, rfl, hS, hl, q⟩ := hs
    refine ⟨_, pss_cons (ps_for PassesOwn.never rfl (pi_range1 (by rfl) T.m_range (pa_cons (pe_op op_add (pe_callB (call_min2 rfl) (by rfl) T.m_min (by decide +kernel) (pa_cons (pe_callB call_len_seq (by rfl) T.m_len PySem.boot_len (pa_cons (pv 0) pa_nil (by rfl)) (by decide) (by decide) (by rfl) (by rfl)) (pa_cons pe_int pa_nil (by rfl)) (by rfl)) (by decide) (by decide) (by rfl) (by rfl)) pe_int) pa_nil (by rfl))) (pg_name (i := 1) sc_law.nd rfl (.inl rfl))
        (pss_one (ps_if (pt_not (pt_val (pe_call R (hr.mono (by decide)) (by rfl) hmr Fr.kp br .nil pass0 (pa_cons (pe_call S (hr.mono (by decide)) (by rfl) hms Fs.kp bs .nil pass0 (pa_cons (pe_call C (hr.mono (by decide)) (by rfl) hmc Fc.kp bc .nil pass0 (pa_cons (pv 0) (pa_cons (pv 1) pa_nil (by rfl)) (by rfl)) (by decide) (by rfl) (by rfl)) (pa_cons (pv 1) pa_nil (by rfl)) (by rfl)) (by decide) (by rfl) (by rfl)) pa_nil (by rfl)) (by decide) (by rfl) (by rfl)))) (pss_one (ps_ret pe_bl)) pss_nil)))
      (pss_one (ps_ret pe_bl)), ?_⟩
    refine ⟨.ref a, rfl, a, ns.map V.int, rfl, .inl hS, _, _, rfl, _, _, rfl, rfl, _, rfl, ?_, ?_, ?_⟩
    · rw [List.length_map]; split <;> omega
    · rw [List.length_map]; split <;> omega
    refine for_range (fun i σ H' => ∃ v, σ = [some (.ref a), v] ∧ Same H H') ⟨_, rfl, Same.refl H⟩ ?_ ?_
    · rintro i σ H1 hi ⟨v, rfl, sm⟩
      have hS1 : SqL K H1 a (ns.map V.int) := sm.seq hS
      refine ⟨.ref a, rfl, .int (0 + (i : Int)), rfl, a, ns, i, by rw [Int.zero_add]; rfl, hS1, fun z => ?_⟩
      refine ⟨.int (0 + (i : Int)), rfl, ?_⟩
      obtain ⟨x, y, hxy⟩ := source_is z (0 + (i : Int))
      refine ⟨fun _ => False, _, fun _ h => h.elim, .cons (.i z) (.cons (.i _) .nil), z, 0 + (i : Int), [x, y], rfl, hxy, ?_⟩
      rintro v2 H2 al ⟨_, p, vs, rfl, np, hp, rs⟩
      have hvs : vs = [.int x, .int y] := Reps.ints (ns := [x, y]) rs
      subst hvs
      refine ⟨p, fun b => b = p, [], [], rfl, rfl, ⟨x, y, hp⟩, fun b hb => by rw [hb, hp]; trivial, .nil, rfl, G.wp_mono (fun b hb => ?_) _ right⟩
      subst hb
      rintro v3 H3 ⟨hf, _⟩ ⟨r3, _⟩
      cases r3
      refine ⟨_, rfl, ?_⟩
      show (if (!true) = true then _ else _)
      rw [if_neg (by decide)]
      refine ⟨_, rfl, fun b o e => hf b o (al b o (sm b o e)) fun z => ?_⟩
      cases z
      rw [sm.free np] at e
      cases e
    · rintro σ H1 ⟨v, rfl, sm⟩
      exact q _
theorem all_mk {l : PySem.W.OpenLaw} {w : World} {K : PySem.W.Frag} {h : Heap} {mg : Str → Option Value} {fa f1 f2 f3 f4 f5 f6 f7 f8 f9 f10 f11 f12 f13 f14 f15 f16 f17 f18 f19 f20 : Addr} {od1 an1 od2 an2 od3 an3 od4 an4 od5 an5 od6 an6 od7 an7 od8 an8 od9 an9 od10 an10 od11 an11 od12 an12 od13 an13 od14 an14 od15 an15 od16 an16 od17 an17 od18 an18 od19 an19 od20 an20 : Option Addr} {sl1 sl2 sl3 sl4 sl5 sl6 sl7 sl8 sl9 sl10 sl11 sl12 sl13 sl14 sl15 sl16 sl17 sl18 sl19 sl20 : Array (Option Value)} {oc1 kV1 dc1 pm1 cd1 ct1 oc2 kV2 dc2 pm2 cd2 ct2 oc3 kV3 dc3 pm3 cd3 ct3 oc4 kV4 dc4 pm4 cd4 ct4 oc5 kV5 dc5 pm5 cd5 ct5 oc6 kV6 dc6 pm6 cd6 ct6 oc7 kV7 dc7 pm7 cd7 ct7 oc8 kV8 dc8 pm8 cd8 ct8 oc9 kV9 dc9 pm9 cd9 ct9 oc10 kV10 dc10 pm10 cd10 ct10 oc11 kV11 dc11 pm11 cd11 ct11 oc12 kV12 dc12 pm12 cd12 ct12 oc13 kV13 dc13 pm13 cd13 ct13 oc14 kV14 dc14 pm14 cd14 ct14 oc15 kV15 dc15 pm15 cd15 ct15 oc16 kV16 dc16 pm16 cd16 ct16 oc17 kV17 dc17 pm17 cd17 ct17 oc18 kV18 dc18 pm18 cd18 ct18 oc19 kV19 dc19 pm19 cd19 ct19 oc20 kV20 dc20 pm20 cd20 ct20 : Value} {t_MOST_LENGTH : _} (X : K.In h) (G : h.Ns mainGlobals mg) (hfa : mg "law" = some (.ref fa))
    (z_all : PySem.W.nsIn K mainGlobals "all" = some none)
    (z_any : PySem.W.nsIn K mainGlobals "any" = some none)
    (z_enumerate : PySem.W.nsIn K mainGlobals "enumerate" = some none)
    (z_int : PySem.W.nsIn K mainGlobals "int" = some none)
    (z_len : PySem.W.nsIn K mainGlobals "len" = some none)
    (z_list : PySem.W.nsIn K mainGlobals "list" = some none)
    (z_min : PySem.W.nsIn K mainGlobals "min" = some none)
    (z_range : PySem.W.nsIn K mainGlobals "range" = some none)
    (z_reversed : PySem.W.nsIn K mainGlobals "reversed" = some none)
    (z_sorted : PySem.W.nsIn K mainGlobals "sorted" = some none)
    (z_sum : PySem.W.nsIn K mainGlobals "sum" = some none)
    (z_tuple : PySem.W.nsIn K mainGlobals "tuple" = some none)
    (g_MOST_LENGTH : PySem.W.nsIn K mainGlobals "MOST_LENGTH" = some (some (.int 60 t_MOST_LENGTH)))
    (a1 : PySem.W.nsIn K mainGlobals "distance" = some (some (.ref f1)))
    (l1 : K.lookup f1 = some ⟨oc1, od1, .func (PySem.W.fnOf "distance" "distance" (defArgs s_distance) (defBody s_distance) (defScope s_distance) .none kV1 dc1 pm1 an1 cd1 ct1), sl1⟩)
    (c1 : PySem.W.codeIn K cd1 "distance" = true)
    (k1 : PySem.W.keepIn K (.ref f1) = true)
    (a2 : PySem.W.nsIn K mainGlobals "choose" = some (some (.ref f2)))
    (l2 : K.lookup f2 = some ⟨oc2, od2, .func (PySem.W.fnOf "choose" "choose" (defArgs s_choose) (defBody s_choose) (defScope s_choose) .none kV2 dc2 pm2 an2 cd2 ct2), sl2⟩)
    (c2 : PySem.W.codeIn K cd2 "choose" = true)
    (k2 : PySem.W.keepIn K (.ref f2) = true)
    (a3 : PySem.W.nsIn K mainGlobals "_checked" = some (some (.ref f3)))
    (l3 : K.lookup f3 = some ⟨oc3, od3, .func (PySem.W.fnOf "_checked" "_checked" (defArgs s_checked) (defBody s_checked) (defScope s_checked) .none kV3 dc3 pm3 an3 cd3 ct3), sl3⟩)
    (c3 : PySem.W.codeIn K cd3 "_checked" = true)
    (k3 : PySem.W.keepIn K (.ref f3) = true)
    (a4 : PySem.W.nsIn K mainGlobals "bits" = some (some (.ref f4)))
    (l4 : K.lookup f4 = some ⟨oc4, od4, .func (PySem.W.fnOf "bits" "bits" (defArgs s_bits) (defBody s_bits) (defScope s_bits) .none kV4 dc4 pm4 an4 cd4 ct4), sl4⟩)
    (c4 : PySem.W.codeIn K cd4 "bits" = true)
    (k4 : PySem.W.keepIn K (.ref f4) = true)
    (a5 : PySem.W.nsIn K mainGlobals "index_of" = some (some (.ref f5)))
    (l5 : K.lookup f5 = some ⟨oc5, od5, .func (PySem.W.fnOf "index_of" "index_of" (defArgs s_index_of) (defBody s_index_of) (defScope s_index_of) .none kV5 dc5 pm5 an5 cd5 ct5), sl5⟩)
    (c5 : PySem.W.codeIn K cd5 "index_of" = true)
    (k5 : PySem.W.keepIn K (.ref f5) = true)
    (a6 : PySem.W.nsIn K mainGlobals "word_at" = some (some (.ref f6)))
    (l6 : K.lookup f6 = some ⟨oc6, od6, .func (PySem.W.fnOf "word_at" "word_at" (defArgs s_word_at) (defBody s_word_at) (defScope s_word_at) .none kV6 dc6 pm6 an6 cd6 ct6), sl6⟩)
    (c6 : PySem.W.codeIn K cd6 "word_at" = true)
    (k6 : PySem.W.keepIn K (.ref f6) = true)
    (a7 : PySem.W.nsIn K mainGlobals "even_index" = some (some (.ref f7)))
    (l7 : K.lookup f7 = some ⟨oc7, od7, .func (PySem.W.fnOf "even_index" "even_index" (defArgs s_even_index) (defBody s_even_index) (defScope s_even_index) .none kV7 dc7 pm7 an7 cd7 ct7), sl7⟩)
    (c7 : PySem.W.codeIn K cd7 "even_index" = true)
    (k7 : PySem.W.keepIn K (.ref f7) = true)
    (a8 : PySem.W.nsIn K mainGlobals "is_balanced" = some (some (.ref f8)))
    (l8 : K.lookup f8 = some ⟨oc8, od8, .func (PySem.W.fnOf "is_balanced" "is_balanced" (defArgs s_is_balanced) (defBody s_is_balanced) (defScope s_is_balanced) .none kV8 dc8 pm8 an8 cd8 ct8), sl8⟩)
    (c8 : PySem.W.codeIn K cd8 "is_balanced" = true)
    (k8 : PySem.W.keepIn K (.ref f8) = true)
    (a9 : PySem.W.nsIn K mainGlobals "paths" = some (some (.ref f9)))
    (l9 : K.lookup f9 = some ⟨oc9, od9, .func (PySem.W.fnOf "paths" "paths" (defArgs s_paths) (defBody s_paths) (defScope s_paths) .none kV9 dc9 pm9 an9 cd9 ct9), sl9⟩)
    (c9 : PySem.W.codeIn K cd9 "paths" = true)
    (k9 : PySem.W.keepIn K (.ref f9) = true)
    (a10 : PySem.W.nsIn K mainGlobals "balanced_at" = some (some (.ref f10)))
    (l10 : K.lookup f10 = some ⟨oc10, od10, .func (PySem.W.fnOf "balanced_at" "balanced_at" (defArgs s_balanced_at) (defBody s_balanced_at) (defScope s_balanced_at) .none kV10 dc10 pm10 an10 cd10 ct10), sl10⟩)
    (c10 : PySem.W.codeIn K cd10 "balanced_at" = true)
    (k10 : PySem.W.keepIn K (.ref f10) = true)
    (a11 : PySem.W.nsIn K mainGlobals "apart_bound" = some (some (.ref f11)))
    (l11 : K.lookup f11 = some ⟨oc11, od11, .func (PySem.W.fnOf "apart_bound" "apart_bound" (defArgs s_apart_bound) (defBody s_apart_bound) (defScope s_apart_bound) .none kV11 dc11 pm11 an11 cd11 ct11), sl11⟩)
    (c11 : PySem.W.codeIn K cd11 "apart_bound" = true)
    (k11 : PySem.W.keepIn K (.ref f11) = true)
    (a12 : PySem.W.nsIn K mainGlobals "chosen" = some (some (.ref f12)))
    (l12 : K.lookup f12 = some ⟨oc12, od12, .func (PySem.W.fnOf "chosen" "chosen" (defArgs s_chosen) (defBody s_chosen) (defScope s_chosen) .none kV12 dc12 pm12 an12 cd12 ct12), sl12⟩)
    (c12 : PySem.W.codeIn K cd12 "chosen" = true)
    (k12 : PySem.W.keepIn K (.ref f12) = true)
    (a13 : PySem.W.nsIn K mainGlobals "sets_row" = some (some (.ref f13)))
    (l13 : K.lookup f13 = some ⟨oc13, od13, .func (PySem.W.fnOf "sets_row" "sets_row" (defArgs s_sets_row) (defBody s_sets_row) (defScope s_sets_row) .none kV13 dc13 pm13 an13 cd13 ct13), sl13⟩)
    (c13 : PySem.W.codeIn K cd13 "sets_row" = true)
    (k13 : PySem.W.keepIn K (.ref f13) = true)
    (a14 : PySem.W.nsIn K mainGlobals "_law_cell" = some (some (.ref f14)))
    (l14 : K.lookup f14 = some ⟨oc14, od14, .func (PySem.W.fnOf "_law_cell" "_law_cell" (defArgs s_law_cell) (defBody s_law_cell) (defScope s_law_cell) .none kV14 dc14 pm14 an14 cd14 ct14), sl14⟩)
    (c14 : PySem.W.codeIn K cd14 "_law_cell" = true)
    (k14 : PySem.W.keepIn K (.ref f14) = true)
    (a15 : PySem.W.nsIn K mainGlobals "_law_source" = some (some (.ref f15)))
    (l15 : K.lookup f15 = some ⟨oc15, od15, .func (PySem.W.fnOf "_law_source" "_law_source" (defArgs s_law_source) (defBody s_law_source) (defScope s_law_source) .none kV15 dc15 pm15 an15 cd15 ct15), sl15⟩)
    (c15 : PySem.W.codeIn K cd15 "_law_source" = true)
    (k15 : PySem.W.keepIn K (.ref f15) = true)
    (a16 : PySem.W.nsIn K mainGlobals "_law_pick" = some (some (.ref f16)))
    (l16 : K.lookup f16 = some ⟨oc16, od16, .func (PySem.W.fnOf "_law_pick" "_law_pick" (defArgs s_law_pick) (defBody s_law_pick) (defScope s_law_pick) .none kV16 dc16 pm16 an16 cd16 ct16), sl16⟩)
    (c16 : PySem.W.codeIn K cd16 "_law_pick" = true)
    (k16 : PySem.W.keepIn K (.ref f16) = true)
    (a17 : PySem.W.nsIn K mainGlobals "_law_mixed" = some (some (.ref f17)))
    (l17 : K.lookup f17 = some ⟨oc17, od17, .func (PySem.W.fnOf "_law_mixed" "_law_mixed" (defArgs s_law_mixed) (defBody s_law_mixed) (defScope s_law_mixed) .none kV17 dc17 pm17 an17 cd17 ct17), sl17⟩)
    (c17 : PySem.W.codeIn K cd17 "_law_mixed" = true)
    (k17 : PySem.W.keepIn K (.ref f17) = true)
    (a18 : PySem.W.nsIn K mainGlobals "_law_over" = some (some (.ref f18)))
    (l18 : K.lookup f18 = some ⟨oc18, od18, .func (PySem.W.fnOf "_law_over" "_law_over" (defArgs s_law_over) (defBody s_law_over) (defScope s_law_over) .none kV18 dc18 pm18 an18 cd18 ct18), sl18⟩)
    (c18 : PySem.W.codeIn K cd18 "_law_over" = true)
    (k18 : PySem.W.keepIn K (.ref f18) = true)
    (a19 : PySem.W.nsIn K mainGlobals "_law_right" = some (some (.ref f19)))
    (l19 : K.lookup f19 = some ⟨oc19, od19, .func (PySem.W.fnOf "_law_right" "_law_right" (defArgs s_law_right) (defBody s_law_right) (defScope s_law_right) .none kV19 dc19 pm19 an19 cd19 ct19), sl19⟩)
    (c19 : PySem.W.codeIn K cd19 "_law_right" = true)
    (k19 : PySem.W.keepIn K (.ref f19) = true)
    (a20 : PySem.W.nsIn K mainGlobals "law" = some (some (.ref f20)))
    (l20 : K.lookup f20 = some ⟨oc20, od20, .func (PySem.W.fnOf "law" "law" (defArgs s_law) (defBody s_law) (defScope s_law) .none kV20 dc20 pm20 an20 cd20 ct20), sl20⟩)
    (c20 : PySem.W.codeIn K cd20 "law" = true)
    (k20 : PySem.W.keepIn K (.ref f20) = true)
    (right : M.law_right.wp fun b => b = true) : ∃ fd : FuncData, (∀ (s : Shared) (v : Value), BindsTo s fd ⟨[v], []⟩ [("script", v)]) ∧ ∀ base : Heap, K.In base → base.Ns mainGlobals mg → FnOk l.prog w K mg base CX0 17 fa fd ["script"] (spLaw K) := by
  have e := hfa.symm.trans (PySem.W.mg_of X G a20)
  cases e
  have F1 := fun_mk (st := s_distance) l1 c1 k1
  have b1 := F1.binds (ps := ["one", "other"]) fun _ _ _ _ _ _ us hl => match us, hl with | [_, _], _ => rfl
  have F2 := fun_mk (st := s_choose) l2 c2 k2
  have b2 := F2.binds (ps := ["n", "k"]) fun _ _ _ _ _ _ us hl => match us, hl with | [_, _], _ => rfl
  have F3 := fun_mk (st := s_checked) l3 c3 k3
  have b3 := F3.binds (ps := ["n", "w"]) fun _ _ _ _ _ _ us hl => match us, hl with | [_, _], _ => rfl
  have F4 := fun_mk (st := s_bits) l4 c4 k4
  have b4 := F4.binds (ps := ["word"]) fun _ _ _ _ _ _ us hl => match us, hl with | [_], _ => rfl
  have F5 := fun_mk (st := s_index_of) l5 c5 k5
  have b5 := F5.binds (ps := ["word"]) fun _ _ _ _ _ _ us hl => match us, hl with | [_], _ => rfl
  have F6 := fun_mk (st := s_word_at) l6 c6 k6
  have b6 := F6.binds (ps := ["n", "w", "index"]) fun _ _ _ _ _ _ us hl => match us, hl with | [_, _, _], _ => rfl
  have F7 := fun_mk (st := s_even_index) l7 c7 k7
  have b7 := F7.binds (ps := ["word"]) fun _ _ _ _ _ _ us hl => match us, hl with | [_], _ => rfl
  have F8 := fun_mk (st := s_is_balanced) l8 c8 k8
  have b8 := F8.binds (ps := ["word"]) fun _ _ _ _ _ _ us hl => match us, hl with | [_], _ => rfl
  have F9 := fun_mk (st := s_paths) l9 c9 k9
  have b9 := F9.binds (ps := ["steps", "high"]) fun _ _ _ _ _ _ us hl => match us, hl with | [_, _], _ => rfl
  have F10 := fun_mk (st := s_balanced_at) l10 c10 k10
  have b10 := F10.binds (ps := ["n", "index"]) fun _ _ _ _ _ _ us hl => match us, hl with | [_, _], _ => rfl
  have F11 := fun_mk (st := s_apart_bound) l11 c11 k11
  have b11 := F11.binds (ps := ["n", "d", "w"]) fun _ _ _ _ _ _ us hl => match us, hl with | [_, _, _], _ => rfl
  have F12 := fun_mk (st := s_chosen) l12 c12 k12
  have b12 := F12.binds (ps := ["n", "d", "w"]) fun _ _ _ _ _ _ us hl => match us, hl with | [_, _, _], _ => rfl
  have F13 := fun_mk (st := s_sets_row) l13 c13 k13
  have b13 := F13.binds (ps := ["n", "k"]) fun _ _ _ _ _ _ us hl => match us, hl with | [_, _], _ => rfl
  have F14 := fun_mk (st := s_law_cell) l14 c14 k14
  have b14 := F14.binds (ps := ["script", "k"]) fun _ _ _ _ _ _ us hl => match us, hl with | [_, _], _ => rfl
  have F15 := fun_mk (st := s_law_source) l15 c15 k15
  have b15 := F15.binds (ps := ["cell", "k"]) fun _ _ _ _ _ _ us hl => match us, hl with | [_, _], _ => rfl
  have F16 := fun_mk (st := s_law_pick) l16 c16 k16
  have b16 := F16.binds (ps := ["source", "many"]) fun _ _ _ _ _ _ us hl => match us, hl with | [_, _], _ => rfl
  have F17 := fun_mk (st := s_law_mixed) l17 c17 k17
  have b17 := F17.binds (ps := ["source", "things"]) fun _ _ _ _ _ _ us hl => match us, hl with | [_, _], _ => rfl
  have F18 := fun_mk (st := s_law_over) l18 c18 k18
  have b18 := F18.binds (ps := ["word"]) fun _ _ _ _ _ _ us hl => match us, hl with | [_], _ => rfl
  have F19 := fun_mk (st := s_law_right) l19 c19 k19
  have b19 := F19.binds (ps := ["source"]) fun _ _ _ _ _ _ us hl => match us, hl with | [_], _ => rfl
  have F20 := fun_mk (st := s_law) l20 c20 k20
  have T : Txt K mg := ⟨PySem.W.mg_none_of X G z_all,
    PySem.W.mg_none_of X G z_any,
    PySem.W.mg_none_of X G z_enumerate,
    PySem.W.mg_none_of X G z_int,
    PySem.W.mg_none_of X G z_len,
    PySem.W.mg_none_of X G z_list,
    PySem.W.mg_none_of X G z_min,
    PySem.W.mg_none_of X G z_range,
    PySem.W.mg_none_of X G z_reversed,
    PySem.W.mg_none_of X G z_sorted,
    PySem.W.mg_none_of X G z_sum,
    PySem.W.mg_none_of X G z_tuple,
    ⟨_, PySem.W.mg_of X G g_MOST_LENGTH⟩,
    ⟨f1, _, PySem.W.mg_of X G a1, F1, b1⟩,
    ⟨f2, _, PySem.W.mg_of X G a2, F2, b2⟩,
    ⟨f3, _, PySem.W.mg_of X G a3, F3, b3⟩,
    ⟨f4, _, PySem.W.mg_of X G a4, F4, b4⟩,
    ⟨f5, _, PySem.W.mg_of X G a5, F5, b5⟩,
    ⟨f6, _, PySem.W.mg_of X G a6, F6, b6⟩,
    ⟨f7, _, PySem.W.mg_of X G a7, F7, b7⟩,
    ⟨f8, _, PySem.W.mg_of X G a8, F8, b8⟩,
    ⟨f9, _, PySem.W.mg_of X G a9, F9, b9⟩,
    ⟨f10, _, PySem.W.mg_of X G a10, F10, b10⟩,
    ⟨f11, _, PySem.W.mg_of X G a11, F11, b11⟩,
    ⟨f12, _, PySem.W.mg_of X G a12, F12, b12⟩,
    ⟨f13, _, PySem.W.mg_of X G a13, F13, b13⟩,
    ⟨f14, _, PySem.W.mg_of X G a14, F14, b14⟩,
    ⟨f15, _, PySem.W.mg_of X G a15, F15, b15⟩,
    ⟨f16, _, PySem.W.mg_of X G a16, F16, b16⟩,
    ⟨f17, _, PySem.W.mg_of X G a17, F17, b17⟩,
    ⟨f18, _, PySem.W.mg_of X G a18, F18, b18⟩,
    ⟨f19, _, PySem.W.mg_of X G a19, F19, b19⟩⟩
  exact ⟨PySem.W.fnOf "law" "law" (defArgs s_law) (defBody s_law) (defScope s_law) .none kV20 dc20 pm20 an20 cd20 ct20, fun s v => .of_eq rfl, fun base _ _ => ok_law T right F20⟩
end Wk

namespace Wk
open PySem PySem.Spec PyProof.Rows L2
/-! ### draws -/
section
variable {α β γ τ κ : Type}
theorem wp_bdG {a : G α} {f : α → G β} {P : β → Prop} (h : a.wp fun x => (f x).wp P) : (bd a f).wp P := (G.wp_bind a).mpr h
theorem wp_pick {n : Int} {k : Int → G α} {P : α → Prop} (h0 : 0 < n) (h1 : n < 1073741824) (h : ∀ r : Nat, (r : Int) < n → (k (r : Int)).wp P) : (bd (pickM n) k).wp P := by
  refine wp_bdG ?_
  unfold pickM
  rw [if_pos ⟨h0, h1⟩]
  refine ⟨h0, fun r h2 h3 => ?_⟩
  obtain ⟨i, rfl⟩ := Int.eq_ofNat_of_zero_le h2
  exact h i h3
theorem wp_pick1 {n : Int} {P : Int → Prop} (h0 : 0 < n) (h1 : n < 1073741824) (h : ∀ r : Nat, (r : Int) < n → P (r : Int)) : (pickM n).wp P := by
  unfold pickM
  rw [if_pos ⟨h0, h1⟩]
  refine ⟨h0, fun r h2 h3 => ?_⟩
  obtain ⟨i, rfl⟩ := Int.eq_ofNat_of_zero_le h2
  exact h i h3
theorem wp_lf {a : Option α} {x : α} {f : α → G β} {P : β → Prop} (e : a = some x) (h : (f x).wp P) : (bd (lf a) f).wp P := by rw [bdLG e]; exact h
/-- a loop whose turns all fall through -/
theorem wp_loop {f : γ → τ → G (Fl τ τ β)} {c : β → κ} {k : τ → G κ} {P : κ → Prop} (I : τ → Prop) : ∀ {xs : List γ} {t : τ}, I t → (∀ x ∈ xs, ∀ t, I t → (f x t).wp fun fl => ∃ t', (fl = .nx t' ∨ fl = .ct t') ∧ I t') → (∀ t, I t → (k t).wp P) → (bd (loopM f xs t) (outM c k)).wp P
  | [], t, hI, _, hk => hk t hI
  | x :: xs, t, hI, hf, hk => by
    refine wp_bdG ?_
    show (bd (f x t) _).wp _
    refine wp_bdG (G.wp_mono (fun fl h => ?_) _ (hf x List.mem_cons_self t hI))
    obtain ⟨t', e, hI'⟩ := h
    have ih := wp_loop (c := c) I (xs := xs) hI' (fun y hy => hf y (List.mem_cons_of_mem _ hy)) hk
    rcases e with e | e <;> (subst e; exact (G.wp_bind _).mp ih)
end

end Wk
namespace Wk
open PySem PySem.Spec PyProof.Rows L2
/-! ### binomial numbers -/
def cb : Nat → Nat → Nat
  | _, 0 => 1
  | 0, _ + 1 => 0
  | n + 1, k + 1 => cb n k + cb n (k + 1)
def okPas (n k : Nat) : Bool := match M.choose ((n : Int) + 1) ((k : Int) + 1), M.choose n k, M.choose n ((k : Int) + 1) with
  | some a, some b, some c => decide (a = b + c)
  | _, _, _ => false
theorem pas60 : (List.range 61).all (fun n => (List.range 62).all fun k => okPas n k) = true := by decide +kernel
theorem ch_n0 : (List.range 63).all (fun n => decide (M.choose (n : Int) 0 = some 1)) = true := by decide +kernel
theorem ch_0k : (List.range 63).all (fun k => decide (M.choose 0 ((k : Int) + 1) = some 0)) = true := by decide +kernel
theorem cb_n0 (n : Nat) : cb n 0 = 1 := by cases n <;> rfl
theorem choose_is : ∀ n k : Nat, n ≤ 61 → k ≤ 62 → M.choose (n : Int) (k : Int) = some ((cb n k : Nat) : Int)
  | n, 0, h, _ => by
    have := List.all_eq_true.mp ch_n0 n (List.mem_range.mpr (by omega))
    rw [cb_n0]
    exact of_decide_eq_true this
  | 0, k + 1, _, h => by
    have := List.all_eq_true.mp ch_0k k (List.mem_range.mpr (by omega))
    exact of_decide_eq_true this
  | n + 1, k + 1, h, h2 => by
    have h3 := List.all_eq_true.mp (List.all_eq_true.mp pas60 n (List.mem_range.mpr (by omega))) k (List.mem_range.mpr (by omega))
    unfold okPas at h3
    have e1 := choose_is n k (by omega) (by omega)
    have e2 := choose_is n (k + 1) (by omega) (by omega)
    have c1 : ((n : Int) + 1) = ((n + 1 : Nat) : Int) := by omega
    have c2 : ((k : Int) + 1) = ((k + 1 : Nat) : Int) := by omega
    rw [c1, c2, e1, e2] at h3
    cases h4 : M.choose ((n + 1 : Nat) : Int) ((k + 1 : Nat) : Int) with
    | none => rw [h4] at h3; cases h3
    | some a =>
      rw [h4] at h3
      have := of_decide_eq_true h3
      rw [this, cb]
      congr 1
theorem cb_gt : ∀ n k, n < k → cb n k = 0
  | _, 0, h => by omega
  | 0, k + 1, _ => rfl
  | n + 1, k + 1, h => by rw [cb, cb_gt n k (by omega), cb_gt n (k + 1) (by omega)]
theorem cb_self : ∀ n, cb n n = 1
  | 0 => rfl
  | n + 1 => by rw [cb, cb_self n, cb_gt n (n + 1) (by omega)]
theorem cb_sym : ∀ n a b, a + b = n → cb n a = cb n b
  | 0, a, b, h => by
    have e1 : a = 0 := by omega
    have e2 : b = 0 := by omega
    rw [e1, e2]
  | n + 1, 0, b, h => by
    have e2 : b = n + 1 := by omega
    rw [e2, cb_self, cb_n0]
  | n + 1, a + 1, 0, h => by
    have e2 : a = n := by omega
    rw [e2, cb_self, cb_n0]
  | n + 1, a + 1, b + 1, h => by
    rw [cb, cb, cb_sym n a (b + 1) (by omega), cb_sym n (a + 1) b (by omega), Nat.add_comm]
/-! ### words -/
def cnt : List Bool → Nat
  | [] => 0
  | true :: bs => cnt bs + 1
  | false :: bs => cnt bs
def bi (b : Bool) : Int := if b = true then 1 else 0
def bw (bs : List Bool) : List Int := bs.map bi
theorem cnt_le : ∀ bs, cnt bs ≤ bs.length
  | [] => Nat.le_refl _
  | true :: bs => Nat.succ_le_succ (cnt_le bs)
  | false :: bs => Nat.le_succ_of_le (cnt_le bs)
theorem bw_sum : ∀ bs, (bw bs).sum = (cnt bs : Int)
  | [] => rfl
  | true :: bs => by
    show bi true + (bw bs).sum = _
    rw [bw_sum bs, cnt]; unfold bi; simp; omega
  | false :: bs => by
    show bi false + (bw bs).sum = _
    rw [bw_sum bs, cnt]; unfold bi; simp
def rk : List Bool → Nat
  | [] => 0
  | true :: bs => cb bs.length (cnt bs + 1) + rk bs
  | false :: bs => rk bs
theorem rk_lt : ∀ bs, rk bs < cb bs.length (cnt bs)
  | [] => by decide
  | true :: bs => by
    have := rk_lt bs
    rw [rk, List.length_cons, cnt, cb]; omega
  | false :: bs => by
    have := rk_lt bs
    rw [rk, List.length_cons, cnt]
    cases h : cnt bs with
    | zero => rw [h, cb_n0] at this; rw [cb_n0]; exact this
    | succ k => rw [h] at this; rw [cb]; omega
theorem cnt_not : ∀ bs, cnt (bs.map not) + cnt bs = bs.length
  | [] => rfl
  | true :: bs => by have := cnt_not bs; rw [List.map_cons, Bool.not_true, cnt, cnt, List.length_cons]; omega
  | false :: bs => by have := cnt_not bs; rw [List.map_cons, Bool.not_false, cnt, cnt, List.length_cons]; omega
theorem rk_not : ∀ bs, rk (bs.map not) + rk bs + 1 = cb bs.length (cnt bs)
  | [] => rfl
  | true :: bs => by
    have := rk_not bs
    rw [List.map_cons, Bool.not_true, rk, rk, List.length_cons, cnt, cb]; omega
  | false :: bs => by
    have := rk_not bs
    have hc := cnt_not bs
    rw [List.map_cons, Bool.not_false, rk, rk, List.length_cons, List.length_map, cnt]
    cases h : cnt bs with
    | zero =>
      rw [h, cb_n0] at this
      rw [cb_n0, cb_gt _ _ (by omega)]; omega
    | succ k =>
      rw [h] at this hc
      rw [cb, cb_sym bs.length (cnt (bs.map not) + 1) k (by omega)]; omega
def un : Nat → Nat → Nat → List Bool
  | 0, _, _ => []
  | n + 1, w, i => if i < cb n w then false :: un n w i else true :: un n (w - 1) (i - cb n w)
theorem un_rk : ∀ bs, un bs.length (cnt bs) (rk bs) = bs
  | [] => rfl
  | true :: bs => by
    rw [List.length_cons, cnt, rk, un, if_neg (by omega)]
    rw [Nat.add_sub_cancel, Nat.add_sub_cancel_left, un_rk bs]
  | false :: bs => by
    rw [List.length_cons, cnt, rk, un, if_pos (rk_lt bs), un_rk bs]
theorem un_ok : ∀ n w i, i < cb n w → (un n w i).length = n ∧ cnt (un n w i) = w ∧ rk (un n w i) = i
  | 0, 0, i, h => by
    have : i = 0 := by rw [cb_n0] at h; omega
    subst this
    exact ⟨rfl, rfl, rfl⟩
  | 0, w + 1, i, h => by rw [cb] at h; omega
  | n + 1, w, i, h => by
    rw [un]
    by_cases c : i < cb n w
    · obtain ⟨h1, h2, h3⟩ := un_ok n w i c
      rw [if_pos c]
      exact ⟨by rw [List.length_cons, h1], h2, h3⟩
    · rw [if_neg c]
      cases w with
      | zero => rw [cb_n0] at h c; omega
      | succ w =>
        rw [cb] at h
        obtain ⟨h1, h2, h3⟩ := un_ok n w (i - cb n (w + 1)) (by omega)
        rw [Nat.add_sub_cancel]
        refine ⟨by rw [List.length_cons, h1], by rw [cnt, h2], ?_⟩
        rw [rk, h1, h2, h3]; omega
theorem rk_inj {a b : List Bool} (hl : a.length = b.length) (hc : cnt a = cnt b) (h : rk a = rk b) : a = b := by
  rw [← un_rk a, hl, hc, h, un_rk]
end Wk

namespace Wk
open PySem PySem.Spec PyProof.Rows L2
/-! ### index_of, word_at -/
theorem bits_any : ∀ bs : List Bool, (((bw bs).map fun (bit15 : Int) => (![0, 1].contains bit15)).any id) = false
  | [] => rfl
  | true :: bs => by
    show (_ || ((bw bs).map _).any id) = false
    rw [bits_any bs]; rfl
  | false :: bs => by
    show (_ || ((bw bs).map _).any id) = false
    rw [bits_any bs]; rfl
theorem bw_len (bs : List Bool) : (bw bs).length = bs.length := List.length_map _
theorem bits_ok {bs : List Bool} (h0 : 0 < bs.length) (h : bs.length ≤ 60) : M.bits (bw bs) = some (bw bs) := by
  unfold M.bits
  have e1 : (bw bs).isEmpty = false := by cases bs with | nil => cases h0 | cons b bs => rfl
  have hl := bw_len bs
  rw [e1, Bool.not_false, Bool.not_true, ifM_false, decide_eq_false (by omega), ifM_false, bdL (szO_some (by omega)), bd_rtO, bits_any, bd_rtO, ifM_false]
  rfl
theorem int_of_cnt (n : Nat) : ((n + 1 : Nat) : Int) - 1 = (n : Int) := by omega
theorem idx_loop (len : Int) : ∀ (bs : List Bool) (i a : Nat), (i : Int) + bs.length = len → bs.length ≤ 61 →
    foldM' (m := Option) (fun (at23 : (Int × Int)) (t22 : (Int × Int)) => bd (ifM (decide (at23.2 = 1)) (bd (bd (lf (M.choose ((len - at23.1) - 1) t22.1)) fun x28 =>
 rt (t22.2 + x28)) fun ahead29 =>
 bd (rt (t22.1 - 1)) fun left30 =>
 rt (left30, ahead29)) (rt (t22.1, t22.2))) fun (t27 : (Int × Int)) =>
 rt (t27.1, t27.2)) (enumL (i : Int) (bw bs)) ((cnt bs : Int), (a : Int)) = some (0, ((a + rk bs : Nat) : Int))
  | [], i, a, _, _ => rfl
  | true :: bs, i, a, h, h2 => by
    rw [List.length_cons] at h h2
    have hc := cnt_le bs
    have ih := idx_loop len bs (i + 1) (a + cb bs.length (cnt bs + 1)) (by omega) (by omega)
    have e1 : ((len - (i : Int)) - 1) = (bs.length : Int) := by omega
    show foldM' _ (((i : Int), bi true) :: enumL ((i : Int) + 1) (bw bs)) _ = _
    rw [fold_cons]
    show (bd (ifM (decide (bi true = 1)) _ _) _ : Option _).bind _ = _
    rw [show decide (bi true = 1) = true from rfl, ifM_true]
    show (bd (bd (bd (lf (M.choose ((len - (i : Int)) - 1) (cnt (true :: bs) : Int))) _) _) _ : Option _).bind _ = _
    rw [e1, cnt, bdL (choose_is bs.length (cnt bs + 1) (by omega) (by omega))]
    show foldM' _ _ (((cnt bs + 1 : Nat) : Int) - 1, (a : Int) + (cb bs.length (cnt bs + 1) : Int)) = _
    rw [int_of_cnt, show ((i : Int) + 1) = ((i + 1 : Nat) : Int) by omega, show (a : Int) + (cb bs.length (cnt bs + 1) : Int) = ((a + cb bs.length (cnt bs + 1) : Nat) : Int) by omega, ih, rk, Nat.add_assoc]
  | false :: bs, i, a, h, h2 => by
    rw [List.length_cons] at h h2
    have ih := idx_loop len bs (i + 1) a (by omega) (by omega)
    show foldM' _ (((i : Int), bi false) :: enumL ((i : Int) + 1) (bw bs)) _ = _
    rw [fold_cons]
    show (bd (ifM (decide (bi false = 1)) _ _) _ : Option _).bind _ = _
    rw [show decide (bi false = 1) = false from rfl, ifM_false]
    show foldM' _ _ ((cnt (false :: bs) : Int), (a : Int)) = _
    rw [cnt, show ((i : Int) + 1) = ((i + 1 : Nat) : Int) by omega, ih, rk]
theorem index_ok {bs : List Bool} (h0 : 0 < bs.length) (h : bs.length ≤ 60) : M.index_of (bw bs) = some ((rk bs : Nat) : Int) := by
  unfold M.index_of
  have := idx_loop ((bw bs).length : Int) bs 0 0 (by rw [bw_len]; simp) (by omega)
  rw [bdL (bits_ok h0 h), bw_sum]
  rw [show ((0 : Nat) : Int) = 0 from rfl, Nat.zero_add] at this
  rw [bdE this]
  rfl
theorem cb_lt62 {n w : Nat} (h : n ≤ 61) (hw : w ≤ 62) : M.choose n w = some ((cb n w : Nat) : Int) := choose_is n w h hw
theorem word_loop (len : Int) : ∀ (n i w x : Nat) (acc : List Int), (i : Int) + n = len → n ≤ 60 → w ≤ 60 → x < cb n w → acc.length + n < 16777216 →
    ∃ w' x' : Int, foldM' (m := Option) (fun (at35 : Int) (t34 : (Int × (Int × (List Int)))) => bd (lf (M.choose ((len - at35) - 1) t34.1)) fun here36 =>
 bd (ifM (decide (t34.2.1 < here36)) (bd (lf (appO t34.2.2 0)) fun found42 =>
 rt (t34.1, t34.2.1, found42)) (bd (rt (t34.2.1 - here36)) fun index43 =>
 bd (rt (t34.1 - 1)) fun w44 =>
 bd (lf (appO t34.2.2 1)) fun found45 =>
 rt (w44, index43, found45))) fun (t41 : (Int × (Int × (List Int)))) =>
 rt (t41.1, t41.2.1, t41.2.2)) ((List.range' i n).map Int.ofNat) ((w : Int), (x : Int), acc) = some (w', x', acc ++ bw (un n w x))
  | 0, i, w, x, acc, _, _, _, _, _ => ⟨w, x, by rw [un]; show some _ = _; rw [show bw [] = [] from rfl, List.append_nil]⟩
  | n + 1, i, w, x, acc, h, h2, h3, h4, h5 => by
    rw [List.range'_succ, List.map_cons, fold_cons]
    have e1 : ((len - (i : Int)) - 1) = (n : Int) := by omega
    show ∃ w' x' : Int, (bd (lf (M.choose ((len - (i : Int)) - 1) (w : Int))) _ : Option _).bind _ = _
    rw [e1, bdL (choose_is n w (by omega) (by omega))]
    by_cases c : x < cb n w
    · obtain ⟨w', x', ih⟩ := word_loop len n (i + 1) w x (acc ++ [0]) (by omega) (by omega) h3 c (by rw [List.length_append, List.length_singleton]; omega)
      refine ⟨w', x', ?_⟩
      show (bd (ifM (decide ((x : Int) < (cb n w : Int))) _ _) _ : Option _).bind _ = _
      rw [decide_eq_true (by omega), ifM_true]
      show (bd (bd (lf (appO acc 0)) _) _ : Option _).bind _ = _
      rw [bdL (appO_some (by omega))]
      refine Eq.trans ih ?_
      rw [un, if_pos c, List.append_assoc]; rfl
    · cases w with
      | zero =>
        rw [cb_n0] at h4 c; omega
      | succ w =>
        rw [cb] at h4
        obtain ⟨w', x', ih⟩ := word_loop len n (i + 1) w (x - cb n (w + 1)) (acc ++ [1]) (by omega) (by omega) (by omega) (by omega) (by rw [List.length_append, List.length_singleton]; omega)
        refine ⟨w', x', ?_⟩
        show (bd (ifM (decide ((x : Int) < (cb n (w + 1) : Int))) _ _) _ : Option _).bind _ = _
        rw [decide_eq_false (by omega), ifM_false]
        show (bd (bd (lf (appO acc 1)) _) _ : Option _).bind _ = _
        rw [bdL (appO_some (by omega))]
        have e2 : (x : Int) - (cb n (w + 1) : Int) = ((x - cb n (w + 1) : Nat) : Int) := by omega
        have e3 : ((w + 1 : Nat) : Int) - 1 = (w : Int) := by omega
        show foldM' _ _ (((w + 1 : Nat) : Int) - 1, (x : Int) - (cb n (w + 1) : Int), acc ++ [1]) = _
        rw [e2, e3]
        refine Eq.trans ih ?_
        rw [un, if_neg c, List.append_assoc, Nat.add_sub_cancel]; rfl
theorem word_ok {n w x : Nat} (h0 : 0 < n) (h : n ≤ 60) (hw : w ≤ n) (hx : x < cb n w) : M.word_at (n : Int) (w : Int) (x : Int) = some (bw (un n w x)) := by
  unfold M.word_at
  have hc : M.checked (n : Int) (w : Int) = some () := by
    unfold M.checked M.checked'
    rw [decide_eq_true (by omega), decide_eq_true (by omega), decide_eq_true (by omega), decide_eq_true (by omega)]
    rfl
  rw [bdL hc, decide_eq_true (by omega), ifM_true, bdL (choose_is n w (by omega) (by omega)), decide_eq_true (by omega)]
  obtain ⟨w', x', e⟩ := word_loop (n : Int) n 0 w x [] (by omega) h (by omega) hx (by simp; omega)
  rw [List.nil_append] at e
  simp only [rtbO, Bool.not_true, ifM_false] at e ⊢
  rw [bdL (range1_nat (by omega)), List.range_eq_range']
  rw [bdE e]
  rfl
end Wk

namespace Wk
open PySem PySem.Spec PyProof.Rows L2
/-! ### the order -/
theorem bi_tt : bi true = 1 := rfl
theorem bi_ff : bi false = 0 := rfl
theorem lex_rk : ∀ a b : List Bool, a.length = b.length → cnt a = cnt b → HT.lexLt (bw a) (bw b) = decide (rk a < rk b)
  | [], [], _, _ => rfl
  | [], _ :: _, h, _ => by cases h
  | _ :: _, [], h, _ => by cases h
  | true :: a, true :: b, h, hc => by
    have h : a.length = b.length := Nat.succ.inj h
    have hc : cnt a = cnt b := Nat.succ.inj hc
    show HT.lexLt (bi true :: bw a) (bi true :: bw b) = _
    rw [HT.lexLt_cons, if_pos rfl, lex_rk a b h hc, rk, rk, h, hc]
    exact decide_eq_decide.mpr (by omega)
  | false :: a, false :: b, h, hc => by
    have h : a.length = b.length := Nat.succ.inj h
    have hc : cnt a = cnt b := hc
    show HT.lexLt (bi false :: bw a) (bi false :: bw b) = _
    rw [HT.lexLt_cons, if_pos rfl, lex_rk a b h hc, rk, rk]
  | false :: a, true :: b, h, hc => by
    have h : a.length = b.length := Nat.succ.inj h
    have hc : cnt a = cnt b + 1 := hc
    have := rk_lt a
    show HT.lexLt (bi false :: bw a) (bi true :: bw b) = _
    rw [HT.lexLt_cons, if_neg (by decide), rk, rk, ← h, ← hc]
    rw [show decide (bi false < bi true) = true from rfl, decide_eq_true (by omega)]
  | true :: a, false :: b, h, hc => by
    have h : a.length = b.length := Nat.succ.inj h
    have hc : cnt a + 1 = cnt b := hc
    have := rk_lt b
    show HT.lexLt (bi true :: bw a) (bi false :: bw b) = _
    rw [HT.lexLt_cons, if_neg (by decide), rk, rk, h, hc]
    rw [show decide (bi true < bi false) = false from rfl, decide_eq_false (by omega)]
theorem bi_inj {a b : Bool} (h : bi a = bi b) : a = b := by cases a <;> cases b <;> first | rfl | exact absurd h (by decide)
theorem bw_inj : ∀ {a b : List Bool}, bw a = bw b → a = b
  | [], [], _ => rfl
  | [], _ :: _, h => by cases h
  | _ :: _, [], h => by cases h
  | x :: a, y :: b, h => by
    have h : bi x :: bw a = bi y :: bw b := h
    injection h with h1 h2
    rw [bi_inj h1, bw_inj h2]
theorem eq_rk {a b : List Bool} (hl : a.length = b.length) (hc : cnt a = cnt b) : decide (bw a = bw b) = decide (rk a = rk b) :=
  decide_eq_decide.mpr ⟨fun h => by rw [bw_inj h], fun h => by rw [rk_inj hl hc h]⟩
theorem over_ok {bs : List Bool} (h : bs.length ≤ 60) : M.law_over (bw bs) = some (bw (bs.map not)) := by
  unfold M.law_over
  have hl := bw_len bs
  rw [bdL (szO_some (by omega))]
  show some ((bw bs).map _) = _
  unfold bw
  rw [List.map_map, List.map_map]
  congr 1
  apply List.map_congr_left
  intro b _
  cases b <;> rfl
/-! ### mixed words -/
theorem pop_at {xs : List Int} {i : Nat} (h : i < xs.length) (hb : xs.length < 4611686018427387904) : popO xs (i : Int) = some (xs[i], xs.eraseIdx i) := by
  unfold popO
  rw [if_pos (bdd_nat (by omega)), ixN_of h, Option.bind_some, List.getElem?_eq_getElem h]
  rfl
theorem pop_perm : ∀ (l : List Int) (i : Nat) (h : i < l.length), (l[i] :: l.eraseIdx i).Perm l
  | [], _, h => by cases h
  | x :: l, 0, _ => List.Perm.refl _
  | x :: l, i + 1, h => (List.Perm.swap x (l[i]'(Nat.lt_of_succ_lt_succ h)) (l.eraseIdx i)).trans (.cons x (pop_perm l i (Nat.lt_of_succ_lt_succ h)))
theorem mix_loop (zs : List Int) (hz : zs.length < 16777216) : ∀ (ks left found : List Int), left.length = ks.length → (found ++ left).Perm zs →
    (foldM' (fun (k131 : Int) (t130 : ((List Int) × (List Int))) => bd (bd (pickM (t130.1.length : Int)) fun i135 => lf (popO t130.1 i135)) fun pr134 =>
 bd (lf (appO t130.2 pr134.1)) fun found132 =>
 (fun left133 => rt (m := G) (left133, found132)) pr134.2) ks (left, found)).wp fun t => t.2.Perm zs
  | [], left, found, h, hp => by
    have : left = [] := List.eq_nil_of_length_eq_zero h
    subst this
    rw [List.append_nil] at hp
    exact hp
  | k :: ks, left, found, h, hp => by
    have hlen := hp.length_eq
    rw [List.length_append] at hlen
    rw [List.length_cons] at h
    refine wp_bdG ?_
    show (bd (bd (pickM (left.length : Int)) fun i135 => lf (popO left i135)) _).wp _
    refine wp_bdG (wp_bdG (wp_pick1 (by omega) (by omega) fun r hr => ?_))
    rw [pop_at (by omega) (by omega), lf_someG]
    show (bd (lf (appO found left[r])) _ : G _).wp _
    rw [bdLG (appO_some (by omega))]
    show (foldM' _ ks (left.eraseIdx r, found ++ [left[r]]) : G _).wp _
    refine mix_loop zs hz ks (left.eraseIdx r) (found ++ [left[r]]) (by rw [List.length_eraseIdx_of_lt (by omega)]; omega) ?_
    rw [List.append_assoc]
    exact (List.Perm.append_left found (pop_perm left r (by omega))).trans hp
theorem mix_wp {zs : List Int} (hz : zs.length < 16777216) {P : List Int → Prop} (h : ∀ r, r.Perm zs → P r) : (M.law_mixed zs).wp P := by
  unfold M.law_mixed
  rw [bd_rtG, bdLG (range1_nat (by omega))]
  have key := mix_loop zs hz ((List.range zs.length).map Int.ofNat) zs [] (by simp) (List.Perm.refl _)
  refine wp_bdG ?_
  exact G.wp_mono (fun t ht => h t.2 ht) _ key
theorem bw_of : ∀ r : List Int, (∀ x ∈ r, x = 0 ∨ x = 1) → ∃ bs, r = bw bs ∧ bs.length = r.length ∧ cnt bs = r.count 1
  | [], _ => ⟨[], rfl, rfl, rfl⟩
  | x :: r, h => by
    obtain ⟨bs, e1, e2, e3⟩ := bw_of r fun y hy => h y (List.mem_cons_of_mem _ hy)
    rcases h x List.mem_cons_self with q | q
    · subst q
      exact ⟨false :: bs, by rw [e1]; rfl, by rw [List.length_cons, List.length_cons, e2], by rw [cnt, e3, List.count_cons]; rfl⟩
    · subst q
      exact ⟨true :: bs, by rw [e1]; rfl, by rw [List.length_cons, List.length_cons, e2], by rw [cnt, e3, List.count_cons]; rfl⟩
theorem bw_01 {bs : List Bool} {x : Int} (h : x ∈ bw bs) : x = 0 ∨ x = 1 := by
  obtain ⟨b, _, rfl⟩ := List.mem_map.mp h
  cases b
  · exact .inl rfl
  · exact .inr rfl
theorem bw_count : ∀ bs : List Bool, (bw bs).count 1 = cnt bs
  | [] => rfl
  | true :: bs => by show (bi true :: bw bs).count 1 = _; rw [List.count_cons, bw_count bs, cnt]; rfl
  | false :: bs => by show (bi false :: bw bs).count 1 = _; rw [List.count_cons, bw_count bs, cnt]; rfl
/-- a mixed word is a word of the same bits -/
theorem mix_bw {bs : List Bool} (hb : bs.length < 16777216) {P : List Int → Prop} (h : ∀ cs : List Bool, cs.length = bs.length → cnt cs = cnt bs → P (bw cs)) : (M.law_mixed (bw bs)).wp P := by
  have hb' : (bw bs).length < 16777216 := by rw [bw_len]; exact hb
  with_reducible refine mix_wp hb' fun r hp => ?_
  obtain ⟨cs, e1, e2, e3⟩ := bw_of r fun x hx => bw_01 (hp.mem_iff.mp hx)
  subst e1
  exact h cs (by rw [e2, hp.length_eq, bw_len]) (by rw [e3, hp.count_eq, bw_count])
def zo (z o : Nat) : List Bool := List.replicate z false ++ List.replicate o true
theorem cnt_app : ∀ a b : List Bool, cnt (a ++ b) = cnt a + cnt b
  | [], b => by rw [List.nil_append, cnt, Nat.zero_add]
  | true :: a, b => by rw [List.cons_append, cnt, cnt, cnt_app a b]; omega
  | false :: a, b => by rw [List.cons_append, cnt, cnt, cnt_app a b]
theorem cnt_f : ∀ z, cnt (List.replicate z false) = 0
  | 0 => rfl
  | z + 1 => by rw [List.replicate_succ, cnt, cnt_f z]
theorem cnt_t : ∀ z, cnt (List.replicate z true) = z
  | 0 => rfl
  | z + 1 => by rw [List.replicate_succ, cnt, cnt_t z]
theorem cnt_zo (z o : Nat) : cnt (zo z o) = o := by unfold zo; rw [cnt_app, cnt_f, cnt_t, Nat.zero_add]
theorem len_zo (z o : Nat) : (zo z o).length = z + o := by unfold zo; rw [List.length_append, List.length_replicate, List.length_replicate]
theorem rep1 (x : Int) {n : Nat} (h : n < 16777216) : repO [x] (n : Int) = some (List.replicate n x) := by
  unfold repO
  rw [if_pos (by refine ⟨by omega, by omega, ?_⟩; simp; omega)]
  congr 1
  simp
theorem bw_app (a b : List Bool) : bw (a ++ b) = bw a ++ bw b := List.map_append ..
theorem bw_zo (z o : Nat) : List.replicate z (0 : Int) ++ List.replicate o 1 = bw (zo z o) := by
  unfold zo
  rw [bw_app]
  unfold bw
  rw [List.map_replicate, List.map_replicate]; rfl
end Wk

namespace Wk
open PySem PySem.Spec PyProof.Rows L2
/-! ### paths, balanced words -/
def pw : Nat → Nat → Nat
  | 0, 0 => 1
  | 0, _ + 1 => 0
  | s + 1, 0 => pw s 1
  | s + 1, h + 1 => pw s (h + 2) + pw s h
def okP0 (s : Nat) : Bool := match M.paths ((s : Int) + 1) 0, M.paths s 1 with
  | some a, some b => decide (a = b)
  | _, _ => false
def okP1 (s h : Nat) : Bool := match M.paths ((s : Int) + 1) ((h : Int) + 1), M.paths s ((h : Int) + 2), M.paths s h with
  | some a, some b, some c => decide (a = b + c)
  | _, _, _ => false
theorem p_00 : M.paths 0 0 = some 1 := by decide +kernel
theorem p_0h : (List.range 55).all (fun h => decide (M.paths 0 ((h : Int) + 1) = some 0)) = true := by decide +kernel
theorem p_s0 : (List.range 26).all okP0 = true := by decide +kernel
theorem p_sh : (List.range 26).all (fun s => (List.range 55).all (okP1 s)) = true := by decide +kernel
theorem paths_is : ∀ s h : Nat, s ≤ 26 → h ≤ 54 - s → M.paths (s : Int) (h : Int) = some ((pw s h : Nat) : Int)
  | 0, 0, _, _ => p_00
  | 0, h + 1, _, h2 => of_decide_eq_true (List.all_eq_true.mp p_0h h (List.mem_range.mpr (by omega)))
  | s + 1, 0, h1, h2 => by
    have h3 := List.all_eq_true.mp p_s0 s (List.mem_range.mpr (by omega))
    unfold okP0 at h3
    have e1 := paths_is s 1 (by omega) (by omega)
    rw [show ((1 : Nat) : Int) = 1 from rfl] at e1
    rw [show ((s : Int) + 1) = ((s + 1 : Nat) : Int) by omega, e1] at h3
    show M.paths ((s + 1 : Nat) : Int) 0 = _
    cases h4 : M.paths ((s + 1 : Nat) : Int) 0 with
    | none => rw [h4] at h3; cases h3
    | some a =>
      rw [h4] at h3
      rw [of_decide_eq_true h3, pw]
  | s + 1, h + 1, h1, h2 => by
    have h3 := List.all_eq_true.mp (List.all_eq_true.mp p_sh s (List.mem_range.mpr (by omega))) h (List.mem_range.mpr (by omega))
    unfold okP1 at h3
    have e1 := paths_is s (h + 2) (by omega) (by omega)
    have e2 := paths_is s h (by omega) (by omega)
    rw [show ((s : Int) + 1) = ((s + 1 : Nat) : Int) by omega, show ((h : Int) + 1) = ((h + 1 : Nat) : Int) by omega, show ((h : Int) + 2) = ((h + 2 : Nat) : Int) by omega, e1, e2] at h3
    cases h4 : M.paths ((s + 1 : Nat) : Int) ((h + 1 : Nat) : Int) with
    | none => rw [h4] at h3; cases h3
    | some a =>
      rw [h4] at h3
      rw [of_decide_eq_true h3, pw]
      congr 1
def bal : Nat → List Bool → Bool
  | h, [] => decide (h = 0)
  | h, false :: bs => bal (h + 1) bs
  | 0, true :: _ => false
  | h + 1, true :: bs => bal h bs
theorem bal_loop : ∀ (bs : List Bool) (h : Nat), bd (loopM (m := Option) (fun (bit63 : Int) (t62 : Int) => bd (rt ((t62 + 1) - (2 * bit63))) fun high64 =>
 ifM (decide (high64 < 0)) (rt (Fl.rt false)) (rt (Fl.nx high64))) (bw bs) (h : Int)) (outM id fun t62 =>
 rt (decide (t62 = 0))) = some (bal h bs)
  | [], h => by
    show some (decide ((h : Int) = 0)) = some (decide (h = 0))
    congr 1
    exact decide_eq_decide.mpr (by omega)
  | false :: bs, h => by
    have ih := bal_loop bs (h + 1)
    rw [bal, ← ih]
    show bd (bd (ifM (decide ((h : Int) + 1 - 2 * bi false < 0)) (rt (Fl.rt false)) (rt (Fl.nx ((h : Int) + 1 - 2 * bi false)))) _) _ = _
    rw [bi_ff, decide_eq_false (by omega), ifM_false, show ((h : Int) + 1 - 2 * 0) = ((h + 1 : Nat) : Int) by omega]
    rfl
  | true :: bs, 0 => rfl
  | true :: bs, h + 1 => by
    have ih := bal_loop bs h
    rw [bal, ← ih]
    show bd (bd (ifM (decide (((h + 1 : Nat) : Int) + 1 - 2 * bi true < 0)) (rt (Fl.rt false)) (rt (Fl.nx (((h + 1 : Nat) : Int) + 1 - 2 * bi true)))) _) _ = _
    rw [bi_tt, decide_eq_false (by omega), ifM_false, show (((h + 1 : Nat) : Int) + 1 - 2 * 1) = (h : Int) by omega]
    rfl
theorem bal_ok {bs : List Bool} (h0 : 0 < bs.length) (h : bs.length ≤ 60) : M.is_balanced (bw bs) = some (bal 0 bs) := by
  unfold M.is_balanced
  rw [bdL (bits_ok h0 h)]
  exact bal_loop bs 0
theorem bal_snoc : ∀ (bs : List Bool) (h : Nat), bal h bs = true → bal (h + 1) (bs ++ [true]) = true
  | [], h, e => by
    have : h = 0 := of_decide_eq_true e
    subst this; rfl
  | false :: bs, h, e => bal_snoc bs (h + 1) e
  | true :: bs, 0, e => by cases e
  | true :: bs, h + 1, e => bal_snoc bs h e
theorem bal_small : ∀ (bs : List Bool) (h : Nat), bal h bs = true → bal h (bs ++ [false, true]) = true
  | [], h, e => by
    have : h = 0 := of_decide_eq_true e
    subst this; rfl
  | false :: bs, h, e => bal_small bs (h + 1) e
  | true :: bs, 0, e => by cases e
  | true :: bs, h + 1, e => bal_small bs h e
theorem bal_last : ∀ (bs : List Bool) (h : Nat), bal h (bs ++ [false]) = false
  | [], h => by show decide (h + 1 = 0) = false; exact decide_eq_false (by omega)
  | false :: bs, h => bal_last bs (h + 1)
  | true :: bs, 0 => rfl
  | true :: bs, h + 1 => bal_last bs h
theorem bal_rev {bs : List Bool} (h0 : 0 < bs.length) (h : bal 0 bs = true) : bal 0 bs.reverse = false := by
  rcases List.eq_nil_or_concat bs with e | ⟨as, b, e⟩
  · subst e; cases h0
  · rw [List.concat_eq_append] at e
    subst e
    rw [List.reverse_append]
    cases b with
    | false => rw [bal_last] at h; cases h
    | true => rfl
/-- a path from h to g -/
def pth : Nat → List Bool → Nat → Bool
  | h, [], g => decide (h = g)
  | h, false :: bs, g => pth (h + 1) bs g
  | 0, true :: _, _ => false
  | h + 1, true :: bs, g => pth h bs g
theorem pth_bal : ∀ (bs : List Bool) (h : Nat), pth h bs 0 = bal h bs
  | [], h => rfl
  | false :: bs, h => pth_bal bs (h + 1)
  | true :: bs, 0 => rfl
  | true :: bs, h + 1 => pth_bal bs h
theorem pth_t : ∀ (bs : List Bool) (h g : Nat), pth h bs (g + 1) = true → pth h (bs ++ [true]) g = true
  | [], h, g, e => by
    have : h = g + 1 := of_decide_eq_true e
    subst this
    exact decide_eq_true rfl
  | false :: bs, h, g, e => pth_t bs (h + 1) g e
  | true :: bs, 0, g, e => by cases e
  | true :: bs, h + 1, g, e => pth_t bs h g e
theorem pth_f : ∀ (bs : List Bool) (h g : Nat), pth h bs g = true → pth h (bs ++ [false]) (g + 1) = true
  | [], h, g, e => by
    have : h = g := of_decide_eq_true e
    subst this
    exact decide_eq_true rfl
  | false :: bs, h, g, e => pth_f bs (h + 1) g e
  | true :: bs, 0, g, e => by cases e
  | true :: bs, h + 1, g, e => pth_f bs h g e
theorem pth_rev : ∀ (bs : List Bool) (h g : Nat), pth h bs g = true → pth g (bs.reverse.map not) h = true
  | [], h, g, e => by
    have : h = g := of_decide_eq_true e
    subst this
    exact decide_eq_true rfl
  | false :: bs, h, g, e => by
    rw [List.reverse_cons, List.map_append]
    exact pth_t _ _ _ (pth_rev bs (h + 1) g e)
  | true :: bs, 0, g, e => by cases e
  | true :: bs, h + 1, g, e => by
    rw [List.reverse_cons, List.map_append]
    exact pth_f _ _ _ (pth_rev bs h g e)
theorem bal_turn {bs : List Bool} (h : bal 0 bs = true) : bal 0 (bs.reverse.map not) = true := by
  rw [← pth_bal]
  exact pth_rev bs 0 0 (by rw [pth_bal]; exact h)
def bat : Nat → Nat → Nat → List Bool
  | 0, _, _ => []
  | s + 1, h, i => if i < pw s (h + 1) then false :: bat s (h + 1) i else true :: bat s (h - 1) (i - pw s (h + 1))
theorem bat_ok : ∀ s h i, i < pw s h → (bat s h i).length = s ∧ bal h (bat s h i) = true
  | 0, 0, i, _ => ⟨rfl, rfl⟩
  | 0, h + 1, i, e => by rw [pw] at e; omega
  | s + 1, h, i, e => by
    rw [bat]
    by_cases c : i < pw s (h + 1)
    · obtain ⟨h1, h2⟩ := bat_ok s (h + 1) i c
      rw [if_pos c]
      exact ⟨by rw [List.length_cons, h1], h2⟩
    · rw [if_neg c]
      cases h with
      | zero =>
        have c2 : ¬ i < pw s 1 := c
        rw [pw] at e; omega
      | succ h =>
        have c2 : ¬ i < pw s (h + 2) := c
        rw [pw] at e
        obtain ⟨h1, h2⟩ := bat_ok s h (i - pw s (h + 2)) (by omega)
        exact ⟨by rw [List.length_cons]; exact congrArg _ h1, h2⟩
theorem bat_loop (len : Int) : ∀ (n i h x : Nat) (acc : List Int), (i : Int) + n = len → n + h ≤ 26 → x < pw n h → acc.length + n < 16777216 →
    ∃ x' h' : Int, foldM' (m := Option) (fun (at75 : Int) (t74 : (Int × ((List Int) × Int))) => bd (lf (M.paths ((len - at75) - 1) (t74.2.2 + 1))) fun here76 =>
 bd (ifM (decide (t74.1 < here76)) (bd (lf (appO t74.2.1 0)) fun found83 =>
 bd (rt (t74.2.2 + 1)) fun high84 =>
 rt (t74.1, found83, high84)) (bd (rt (t74.1 - here76)) fun index85 =>
 bd (lf (appO t74.2.1 1)) fun found86 =>
 bd (rt (t74.2.2 - 1)) fun high87 =>
 rt (index85, found86, high87))) fun (t82 : (Int × ((List Int) × Int))) =>
 rt (t82.1, t82.2.1, t82.2.2)) ((List.range' i n).map Int.ofNat) ((x : Int), acc, (h : Int)) = some (x', acc ++ bw (bat n h x), h')
  | 0, i, h, x, acc, _, _, _, _ => ⟨x, h, by rw [bat]; show some _ = _; rw [show bw [] = [] from rfl, List.append_nil]⟩
  | n + 1, i, h, x, acc, e, h2, h4, h5 => by
    rw [List.range'_succ, List.map_cons, fold_cons]
    have e1 : ((len - (i : Int)) - 1) = (n : Int) := by omega
    show ∃ x' h' : Int, (bd (lf (M.paths ((len - (i : Int)) - 1) ((h : Int) + 1))) _ : Option _).bind _ = _
    rw [e1, show ((h : Int) + 1) = ((h + 1 : Nat) : Int) by omega, bdL (paths_is n (h + 1) (by omega) (by omega))]
    by_cases c : x < pw n (h + 1)
    · obtain ⟨x', h', ih⟩ := bat_loop len n (i + 1) (h + 1) x (acc ++ [0]) (by omega) (by omega) c (by rw [List.length_append, List.length_singleton]; omega)
      refine ⟨x', h', ?_⟩
      show (bd (ifM (decide ((x : Int) < (pw n (h + 1) : Int))) _ _) _ : Option _).bind _ = _
      rw [decide_eq_true (by omega), ifM_true]
      show (bd (bd (lf (appO acc 0)) _) _ : Option _).bind _ = _
      rw [bdL (appO_some (by omega))]
      refine Eq.trans ih ?_
      rw [bat, if_pos c, List.append_assoc]; rfl
    · cases h with
      | zero =>
        have c2 : ¬ x < pw n 1 := c
        rw [pw] at h4; omega
      | succ h =>
        have c2 : ¬ x < pw n (h + 2) := c
        rw [pw] at h4
        obtain ⟨x', h', ih⟩ := bat_loop len n (i + 1) h (x - pw n (h + 2)) (acc ++ [1]) (by omega) (by omega) (by omega) (by rw [List.length_append, List.length_singleton]; omega)
        refine ⟨x', h', ?_⟩
        show (bd (ifM (decide ((x : Int) < (pw n (h + 1 + 1) : Int))) _ _) _ : Option _).bind _ = _
        rw [decide_eq_false (show ¬ ((x : Int) < (pw n (h + 2) : Int)) by omega), ifM_false]
        show (bd (bd (lf (appO acc 1)) _) _ : Option _).bind _ = _
        rw [bdL (appO_some (by omega))]
        have e2 : (x : Int) - (pw n (h + 1 + 1) : Int) = ((x - pw n (h + 2) : Nat) : Int) := by
          show (x : Int) - (pw n (h + 2) : Int) = _
          omega
        have e3 : ((h + 1 : Nat) : Int) - 1 = (h : Int) := by omega
        show foldM' _ _ ((x : Int) - (pw n (h + 1 + 1) : Int), acc ++ [1], ((h + 1 : Nat) : Int) - 1) = _
        rw [e2, e3]
        refine Eq.trans ih ?_
        rw [bat, if_neg c, List.append_assoc, Nat.add_sub_cancel]; rfl
theorem balat_ok {half x : Nat} (h0 : 0 < half) (h : half ≤ 12) (hx : x < pw (2 * half) 0) : M.balanced_at (2 * (half : Int)) (x : Int) = some (bw (bat (2 * half) 0 x)) := by
  unfold M.balanced_at
  have e1 : (2 * (half : Int)) = ((2 * half : Nat) : Int) := by omega
  have hp := paths_is (2 * half) 0 (by omega) (by omega)
  rw [show ((0 : Nat) : Int) = 0 from rfl] at hp
  obtain ⟨x', h', e⟩ := bat_loop ((2 * half : Nat) : Int) (2 * half) 0 0 x [] (by omega) (by omega) hx (by simp; omega)
  rw [e1, decide_eq_false (by omega), ifM_false, decide_eq_false (by omega), ifM_false, decide_eq_false (by omega), ifM_false, decide_eq_true (by omega), ifM_true, bdL hp, decide_eq_true (by omega)]
  rw [List.nil_append, show ((0 : Nat) : Int) = 0 from rfl] at e
  simp only [rtbO, Bool.not_true, ifM_false] at e ⊢
  rw [bdL (range1_nat (by omega)), List.range_eq_range']
  rw [bdE e]
  rfl
end Wk

namespace Wk
open PySem PySem.Spec PyProof.Rows L2
/-! ### the finite parts -/
def retG : G Bool → Option Bool
  | .ret b => some b
  | _ => none
theorem retG_is {g : G Bool} {b : Bool} (h : retG g = some b) : g = rt b := by
  cases g with
  | ret x => cases h; rfl
  | fail => cases h
  | draw n k => cases h
def pcSets (size170 many171 : Int) : G Bool :=
 bd (bd (lf (M.sets_row 14 size170 many171)) fun x178 =>
 bd (lf (szO x178)) fun xs177 =>
 mapM' (fun (own172 : (List Int)) => bd (bd (lf (range1O size170)) fun x175 =>
 bd (lf (szO x175)) fun xs174 =>
 rt (xs174.map fun (place173 : Int) => (if (own172.contains place173) then 1 else 0))) fun x176 =>
 rt x176) xs177) fun sets179 =>
 bd (bd (bd (lf (szO sets179)) fun xs181 =>
 mapM' (fun (own180 : (List Int)) => lf (M.index_of own180)) xs181) fun x182 =>
 rt (sortI x182)) fun x184 =>
 bd (bd (lf (M.choose size170 many171)) fun x183 =>
 lf (rgO 0 x183)) fun x185 =>
 rt (!decide (x184 = x185))
theorem sets_fin : (List.range 8).all (fun a => (List.range (a + 2)).all fun b => decide (retG (pcSets (1 + (a : Int)) (b : Int)) = some false)) = true := by decide +kernel
def pcB (n228 d231 w229 : Int) (some232 : List (List Int)) : G Bool :=
 bd (bd (bd (lf (range1O (some232.length : Int))) fun x242 =>
 bd (lf (szO x242)) fun xs241 =>
 lcM (fun (k233 : Int) => bd (bd (lf (range1O k233)) fun x239 =>
 bd (lf (szO x239)) fun xs238 =>
 lcM (fun (j234 : Int) => bd (bd (lf (ixO some232 j234)) fun x235 =>
 bd (lf (ixO some232 k233)) fun x236 =>
 lf (M.distance x235 x236)) fun x237 =>
 rt (decide (x237 < d231))) (fun (j234 : Int) => rt j234) xs238) fun x240 =>
 rt (!decide (x240 = ([] : (List Int))))) (fun (k233 : Int) => rt k233) xs241) fun x243 =>
 rt (!decide (x243 = ([] : (List Int))))) fun x245 =>
 ifM x245 (rt true) (bd (lf (M.apart_bound n228 d231 w229)) fun x244 =>
 rt (decide (x244 < (some232.length : Int))))
def pcC (d231 : Int) (some232 : List (List Int)) (drawn250 : List Int) : G Bool :=
 ifM (!decide (drawn250 ∈ some232)) (bd (bd (bd (lf (szO some232)) fun xs252 =>
 mapM' (fun (one251 : (List Int)) => lf (M.distance drawn250 one251)) xs252) fun x253 =>
 lf (minO x253)) fun x254 =>
 rt (decide (d231 ≤ x254))) (rt false)
def pcD (n228 w229 : Int) (some232 : List (List Int)) : G Bool :=
 bd (bd (bd (lf (ixO some232 0)) fun x257 =>
 bd (bd (lf (repO [0] (n228 - w229))) fun x255 =>
 bd (lf (repO [1] w229)) fun x256 =>
 lf (catO x255 x256)) fun x258 =>
 rt (decide (x257 = x258))) fun x262 =>
 ifM x262 (bd (bd (lf (M.chosen n228 2 w229)) fun x259 =>
 rt (x259.length : Int)) fun x260 =>
 bd (lf (M.choose n228 w229)) fun x261 =>
 rt (decide (x260 = x261))) (rt false)) fun x263 =>
 rt x263
def fin1 (n w d : Nat) : Bool := match M.chosen n d w with
  | none => false
  | some s => decide (retG (pcB n d w s) = some false) && (((List.range (cb n w)).all fun i => decide (retG (pcC d s (bw (un n w i))) = some false)) && decide (retG (pcD n w s) = some true))
def finN (n : Nat) : Bool := (List.range (n + 1)).all fun w => (List.range 6).all fun d => fin1 n w (d + 1)
theorem fin2 : finN 2 = true := by decide +kernel
theorem fin3 : finN 3 = true := by decide +kernel
theorem fin4 : finN 4 = true := by decide +kernel
theorem fin5 : finN 5 = true := by decide +kernel
theorem fin6 : finN 6 = true := by decide +kernel
theorem fin7 : finN 7 = true := by decide +kernel
theorem fin8 : finN 8 = true := by decide +kernel
end Wk

namespace Wk
open PySem PySem.Spec PyProof.Rows L2
theorem lfbG {α β : Type} (x : α) (f : α → G β) : bd (lf (some x)) f = f x := Eq.trans rfl rfl
theorem lfsG {α : Type} (x : α) : (lf (some x) : G α) = rt x := Eq.trans rfl rfl
theorem ifT {m : Type → Type} [Mn m] {α : Type} (u v : m α) : ifM true u v = u := Eq.trans rfl rfl
theorem ifF {m : Type → Type} [Mn m] {α : Type} (u v : m α) : ifM false u v = v := Eq.trans rfl rfl
theorem wp_rt {α : Type} {x : α} {P : α → Prop} (h : P x) : (rt x : G α).wp P := h
theorem stepF {α : Type} {c : G Bool} {K : G α} {x : α} {P : α → Prop} (h : c = rt false) (hk : K.wp P) : (bd c fun b => ifM b (rt x) K).wp P := by
  rw [h, rtbG, ifF]; exact hk
theorem wordZ {n w : Nat} (hn : n ≤ 60) (hw : w ≤ n) : (bd (lf (repO [0] ((n : Int) - (w : Int)))) fun x => bd (lf (repO [1] (w : Int))) fun y => lf (catO x y)) = (rt (bw (zo (n - w) w)) : G (List Int)) := by
  rw [show ((n : Int) - (w : Int)) = ((n - w : Nat) : Int) by omega, rep1 0 (by omega), lfbG, rep1 1 (by omega), lfbG, catO_some (by rw [List.length_replicate, List.length_replicate]; omega), bw_zo, lfsG]
theorem wordM {n w : Nat} (hn : n ≤ 60) (hw : w ≤ n) {α : Type} {K : List Int → G α} {P : α → Prop} (h : ∀ bs : List Bool, bs.length = n → cnt bs = w → (K (bw bs)).wp P) :
    (bd (bd (bd (bd (lf (repO [0] ((n : Int) - (w : Int)))) fun x => bd (lf (repO [1] (w : Int))) fun y => lf (catO x y)) fun x => M.law_mixed x) fun x => rt x) K).wp P := by
  rw [wordZ hn hw, rtbG]
  with_reducible refine wp_bdG ?_
  with_reducible refine wp_bdG ?_
  with_reducible refine mix_bw (by rw [len_zo]; omega) fun cs h1 h2 => ?_
  rw [len_zo] at h1
  rw [cnt_zo] at h2
  exact wp_rt (h cs (by omega) h2)
/-- words told by weight -/
theorem seg1 {n w : Nat} (h0 : 0 < n) (hn : n ≤ 40) (hw : w ≤ n) {bs : List Bool} (h1 : bs.length = n) (h2 : cnt bs = w) :
 (bd (bd (bd (lf (M.law_over (bw bs))) fun x151 =>
 lf (M.index_of x151)) fun x152 =>
 rt (!decide (x152 = (((cb n w : Nat) : Int) - 1) - ((rk bs : Nat) : Int)))) fun x157 =>
 ifM x157 (rt true) (bd (bd (bd (lf (catO [0, 0] (bw bs))) fun x153 =>
 lf (M.index_of x153)) fun x154 =>
 rt (!decide (x154 = ((rk bs : Nat) : Int)))) fun x156 =>
 ifM x156 (rt true) (bd (lf (M.word_at (n : Int) (w : Int) ((rk bs : Nat) : Int))) fun x155 =>
 rt (!decide (x155 = (bw bs)))))) = (rt false : G Bool) := by
  have a1 := rk_not bs
  have a2 := rk_lt bs
  have a3 := un_rk bs
  rw [h1, h2] at a1 a2 a3
  have e1 : M.index_of (bw (bs.map not)) = some ((rk (bs.map not) : Nat) : Int) := index_ok (by rw [List.length_map]; omega) (by rw [List.length_map]; omega)
  have e2 : M.index_of ([0, 0] ++ bw bs) = some ((rk bs : Nat) : Int) := index_ok (bs := false :: false :: bs) (by simp) (by simp only [List.length_cons]; omega)
  have e3 : M.word_at (n : Int) (w : Int) ((rk bs : Nat) : Int) = some (bw bs) := by rw [word_ok h0 (by omega) hw a2, a3]
  have e4 : catO [0, 0] (bw bs) = some ([0, 0] ++ bw bs) := catO_some (by rw [bw_len, h1]; show 2 + n ≤ _; omega)
  rw [over_ok (by omega), lfbG, e1, lfbG, decide_eq_true (by omega), Bool.not_true, rtbG, ifF, e4, lfbG, e2, lfbG, decide_eq_true rfl, Bool.not_true, rtbG, ifF, e3, lfbG, decide_eq_true rfl, Bool.not_true]
theorem seg2 {n w : Nat} (h0 : 0 < n) (hn : n ≤ 40) (hw : w ≤ n) {bs : List Bool} (h1 : bs.length = n) (h2 : cnt bs = w) :
 (ifM (decide ((n : Int) < 60)) (bd (bd (lf (catO [1] (bw bs))) fun x158 =>
 lf (M.index_of x158)) fun x160 =>
 bd (bd (lf (M.choose (n : Int) ((w : Int) + 1))) fun x159 =>
 rt (x159 + ((rk bs : Nat) : Int))) fun x161 =>
 rt (!decide (x160 = x161))) (rt false)) = (rt false : G Bool) := by
  have e2 : M.index_of ([1] ++ bw bs) = some ((rk (true :: bs) : Nat) : Int) := index_ok (bs := true :: bs) (by simp) (by simp only [List.length_cons]; omega)
  have e4 : catO [1] (bw bs) = some ([1] ++ bw bs) := catO_some (by rw [bw_len, h1]; show 1 + n ≤ _; omega)
  have e5 := choose_is n (w + 1) (by omega) (by omega)
  rw [show ((w : Int) + 1) = ((w + 1 : Nat) : Int) by omega, decide_eq_true (by omega), ifT, e4, lfbG, e2, lfbG, e5, lfbG, rtbG, decide_eq_true (by rw [rk, h1, h2]; omega), Bool.not_true]
theorem seg3 {n w : Nat} (h0 : 0 < n) (hn : n ≤ 40) {bs cs : List Bool} (h1 : bs.length = n) (h2 : cnt bs = w) (h3 : cs.length = n) (h4 : cnt cs = w) :
 (bd (bd (bd (lf (M.index_of (bw cs))) fun x164 =>
 rt (decide (x164 < ((rk bs : Nat) : Int)))) fun x165 =>
 rt (!decide (x165 = (HT.lexLt (bw cs) (bw bs))))) fun x168 =>
 ifM x168 (rt true) (bd (bd (lf (M.index_of (bw cs))) fun x166 =>
 rt (decide (x166 = ((rk bs : Nat) : Int)))) fun x167 =>
 rt (!decide (x167 = (decide (bw cs = bw bs)))))) = (rt false : G Bool) := by
  have e1 : M.index_of (bw cs) = some ((rk cs : Nat) : Int) := index_ok (by omega) (by omega)
  have d1 : decide (((rk cs : Nat) : Int) < ((rk bs : Nat) : Int)) = decide (rk cs < rk bs) := decide_eq_decide.mpr (by omega)
  have d2 : decide (((rk cs : Nat) : Int) = ((rk bs : Nat) : Int)) = decide (rk cs = rk bs) := decide_eq_decide.mpr (by omega)
  rw [e1, lfbG, rtbG, d1, lex_rk cs bs (by omega) (by omega), decide_eq_true rfl, Bool.not_true, rtbG, ifF, lfbG, rtbG, d2, eq_rk (by omega) (by omega), decide_eq_true rfl, Bool.not_true]
end Wk

namespace Wk
open PySem PySem.Spec PyProof.Rows L2
/-! ### balanced words: the law's checks -/
def pcE1 (half187 : Int) : G Bool :=
 bd (bd (bd (lf (repO [0] half187)) fun x205 =>
 bd (lf (repO [1] half187)) fun x206 =>
 lf (catO x205 x206)) fun x207 =>
 lf (M.even_index x207)) fun x208 =>
 rt (!decide (x208 = 0))
def pcE2 (half187 total188 : Int) : G Bool :=
 bd (bd (lf (repO [0, 1] half187)) fun x209 =>
 lf (M.even_index x209)) fun x210 =>
 rt (!decide (x210 = (total188 - 1)))
def pcC3 (steps213 high214 : Int) : G Bool :=
 bd (lf (M.paths (steps213 + 1) high214)) fun x218 =>
 bd (bd (lf (M.paths steps213 (high214 + 1))) fun x216 =>
 bd (bd (lf (M.paths steps213 (high214 - 1))) fun x215 =>
 lf (mulO (if (decide (0 < high214)) then 1 else 0) x215)) fun x217 =>
 rt (x216 + x217)) fun x219 =>
 rt (!decide (x218 = x219))
def pcC4 (half187 total188 : Int) : G Bool :=
 bd (bd (bd (lf (range1O half187)) fun x224 =>
 bd (lf (szO x224)) fun xs223 =>
 mapM' (fun (k220 : Int) => bd (lf (M.paths (2 * k220) 0)) fun x221 =>
 bd (lf (M.paths (2 * ((half187 - 1) - k220)) 0)) fun x222 =>
 lf (mulO x221 x222)) xs223) fun x225 =>
 rt x225.sum) fun x226 =>
 rt (!decide (total188 = x226))
def finH (a : Nat) : Bool := match M.paths (2 * (1 + (a : Int))) 0 with
  | none => false
  | some t => decide (0 < t) && (decide (t < 1000000) && (decide (retG (pcE1 (1 + (a : Int))) = some false) && (decide (retG (pcE2 (1 + (a : Int)) t) = some false) && decide (retG (pcC4 (1 + (a : Int)) t) = some false))))
theorem finH12 : (List.range 12).all finH = true := by decide +kernel
theorem finC3 : (List.range 20).all (fun s => (List.range 8).all fun h => decide (retG (pcC3 (s : Int) (h : Int)) = some false)) = true := by decide +kernel
theorem small_is : M.balanced_at 2 0 = some (bw [false, true]) := by decide +kernel
theorem segC1 {bs : List Bool} (h0 : 0 < bs.length) (h : bs.length ≤ 24) (hb : bal 0 bs = true) :
 (bd (bd (bd (bd (lf (catO [0] (bw bs))) fun x192 =>
 lf (catO x192 [1])) fun x193 =>
 lf (M.is_balanced x193)) fun x194 =>
 rt (!decide (x194 = true))) fun x199 =>
 ifM x199 (rt true) (bd (bd (bd (lf (catO (bw bs) (bw [false, true]))) fun x195 =>
 lf (M.is_balanced x195)) fun x196 =>
 rt (!decide (x196 = true))) fun x198 =>
 ifM x198 (rt true) (bd (lf (M.is_balanced (bw bs).reverse)) fun x197 =>
 rt (!decide (x197 = false))))) = (rt false : G Bool) := by
  have hl := bw_len bs
  have c1 : catO [0] (bw bs) = some ([0] ++ bw bs) := catO_some (by rw [hl]; show 1 + _ ≤ _; omega)
  have c2 : catO ([0] ++ bw bs) [1] = some (([0] ++ bw bs) ++ [1]) := catO_some (by rw [List.length_append, hl]; show 1 + _ + 1 ≤ _; omega)
  have q2 : ([0] ++ bw bs) ++ [1] = bw (false :: bs ++ [true]) := by rw [bw_app]; rfl
  have c3 : catO (bw bs) (bw [false, true]) = some (bw (bs ++ [false, true])) := by rw [bw_app]; exact catO_some (by rw [hl]; show _ + 2 ≤ _; omega)
  have q3 : (bw bs).reverse = bw bs.reverse := by unfold bw; rw [List.map_reverse]
  have b1 : M.is_balanced (bw (false :: bs ++ [true])) = some true := by
    rw [bal_ok (by simp) (by simp; omega)]
    congr 1
    exact bal_snoc bs 0 hb
  have b2 : M.is_balanced (bw (bs ++ [false, true])) = some true := by
    rw [bal_ok (by simp) (by simp; omega), bal_small bs 0 hb]
  have b3 : M.is_balanced (bw bs.reverse) = some false := by
    rw [bal_ok (by simpa using h0) (by simp; omega), bal_rev h0 hb]
  rw [c1, lfbG, c2, q2, lfbG, b1, lfbG, decide_eq_true rfl, Bool.not_true, rtbG, ifF, c3, lfbG, b2, lfbG, decide_eq_true rfl, Bool.not_true, rtbG, ifF, q3, b3, lfbG, decide_eq_true rfl, Bool.not_true]
theorem segC2 {bs : List Bool} (h0 : 0 < bs.length) (h : bs.length ≤ 24) (hb : bal 0 bs = true) :
 (bd (bd (bd (bd (lf (szO (bw bs).reverse)) fun xs201 =>
 rt (xs201.map fun (bit200 : Int) => (1 - bit200))) fun x202 =>
 rt x202) fun x203 =>
 lf (M.is_balanced x203)) fun x204 =>
 rt (!decide (x204 = true))) = (rt false : G Bool) := by
  have hl := bw_len bs
  have q1 : ((bw bs).reverse.map fun (bit200 : Int) => (1 - bit200)) = bw (bs.reverse.map not) := by
    unfold bw
    rw [← List.map_reverse, List.map_map, List.map_map]
    apply List.map_congr_left
    intro b _
    cases b <;> rfl
  have b1 : M.is_balanced (bw (bs.reverse.map not)) = some true := by
    rw [bal_ok (by simpa using h0) (by simp; omega), bal_turn hb]
  rw [szO_some (by rw [List.length_reverse, hl]; omega), lfbG, q1, rtbG, rtbG, b1, lfbG, decide_eq_true rfl, Bool.not_true]
end Wk

namespace Wk
open PySem PySem.Spec PyProof.Rows L2
def M.R1 : G Bool :=
 bd (bd (pickM 8) fun x169 =>
 rt (1 + x169)) fun size170 =>
 bd (pickM (size170 + 1)) fun many171 =>
 bd (bd (lf (M.sets_row 14 size170 many171)) fun x178 =>
 bd (lf (szO x178)) fun xs177 =>
 mapM' (fun (own172 : (List Int)) => bd (bd (lf (range1O size170)) fun x175 =>
 bd (lf (szO x175)) fun xs174 =>
 rt (xs174.map fun (place173 : Int) => (if (own172.contains place173) then 1 else 0))) fun x176 =>
 rt x176) xs177) fun sets179 =>
 bd (bd (bd (bd (lf (szO sets179)) fun xs181 =>
 mapM' (fun (own180 : (List Int)) => lf (M.index_of own180)) xs181) fun x182 =>
 rt (sortI x182)) fun x184 =>
 bd (bd (lf (M.choose size170 many171)) fun x183 =>
 lf (rgO 0 x183)) fun x185 =>
 rt (!decide (x184 = x185))) fun b270 => ifM b270 (rt false) (bd (bd (pickM 12) fun x186 =>
 rt (1 + x186)) fun half187 =>
 bd (lf (M.paths (2 * half187) 0)) fun total188 =>
 bd (bd (pickM total188) fun x189 =>
 lf (M.balanced_at (2 * half187) x189)) fun one190 =>
 bd (lf (M.balanced_at 2 0)) fun small191 =>
 bd (bd (bd (bd (bd (lf (catO [0] one190)) fun x192 =>
 lf (catO x192 [1])) fun x193 =>
 lf (M.is_balanced x193)) fun x194 =>
 rt (!decide (x194 = true))) fun x199 =>
 ifM x199 (rt true) (bd (bd (bd (lf (catO one190 small191)) fun x195 =>
 lf (M.is_balanced x195)) fun x196 =>
 rt (!decide (x196 = true))) fun x198 =>
 ifM x198 (rt true) (bd (lf (M.is_balanced one190.reverse)) fun x197 =>
 rt (!decide (x197 = false))))) fun b269 => ifM b269 (rt false) (bd (bd (bd (bd (bd (bd (lf (szO one190.reverse)) fun xs201 =>
 rt (xs201.map fun (bit200 : Int) => (1 - bit200))) fun x202 =>
 rt x202) fun x203 =>
 lf (M.is_balanced x203)) fun x204 =>
 rt (!decide (x204 = true))) fun x212 =>
 ifM x212 (rt true) (bd (bd (bd (bd (lf (repO [0] half187)) fun x205 =>
 bd (lf (repO [1] half187)) fun x206 =>
 lf (catO x205 x206)) fun x207 =>
 lf (M.even_index x207)) fun x208 =>
 rt (!decide (x208 = 0))) fun x211 =>
 ifM x211 (rt true) (bd (bd (lf (repO [0, 1] half187)) fun x209 =>
 lf (M.even_index x209)) fun x210 =>
 rt (!decide (x210 = (total188 - 1)))))) fun b268 => ifM b268 (rt false) (bd (pickM 20) fun steps213 =>
 bd (pickM 8) fun high214 =>
 bd (bd (lf (M.paths (steps213 + 1) high214)) fun x218 =>
 bd (bd (lf (M.paths steps213 (high214 + 1))) fun x216 =>
 bd (bd (lf (M.paths steps213 (high214 - 1))) fun x215 =>
 lf (mulO (if (decide (0 < high214)) then 1 else 0) x215)) fun x217 =>
 rt (x216 + x217)) fun x219 =>
 rt (!decide (x218 = x219))) fun b267 => ifM b267 (rt false) (bd (bd (bd (bd (lf (range1O half187)) fun x224 =>
 bd (lf (szO x224)) fun xs223 =>
 mapM' (fun (k220 : Int) => bd (lf (M.paths (2 * k220) 0)) fun x221 =>
 bd (lf (M.paths (2 * ((half187 - 1) - k220)) 0)) fun x222 =>
 lf (mulO x221 x222)) xs223) fun x225 =>
 rt x225.sum) fun x226 =>
 rt (!decide (total188 = x226))) fun b266 => ifM b266 (rt false) (bd (bd (pickM 7) fun x227 =>
 rt (2 + x227)) fun n228 =>
 bd (pickM (n228 + 1)) fun w229 =>
 bd (bd (pickM 6) fun x230 =>
 rt (1 + x230)) fun d231 =>
 bd (lf (M.chosen n228 d231 w229)) fun some232 =>
 bd (bd (bd (bd (lf (range1O (some232.length : Int))) fun x242 =>
 bd (lf (szO x242)) fun xs241 =>
 lcM (fun (k233 : Int) => bd (bd (lf (range1O k233)) fun x239 =>
 bd (lf (szO x239)) fun xs238 =>
 lcM (fun (j234 : Int) => bd (bd (lf (ixO some232 j234)) fun x235 =>
 bd (lf (ixO some232 k233)) fun x236 =>
 lf (M.distance x235 x236)) fun x237 =>
 rt (decide (x237 < d231))) (fun (j234 : Int) => rt j234) xs238) fun x240 =>
 rt (!decide (x240 = ([] : (List Int))))) (fun (k233 : Int) => rt k233) xs241) fun x243 =>
 rt (!decide (x243 = ([] : (List Int))))) fun x245 =>
 ifM x245 (rt true) (bd (lf (M.apart_bound n228 d231 w229)) fun x244 =>
 rt (decide (x244 < (some232.length : Int))))) fun b265 => ifM b265 (rt false) (bd (bd (bd (bd (lf (repO [0] (n228 - w229))) fun x246 =>
 bd (lf (repO [1] w229)) fun x247 =>
 lf (catO x246 x247)) fun x248 =>
 M.law_mixed x248) fun x249 =>
 rt x249) fun drawn250 =>
 bd (ifM (!decide (drawn250 ∈ some232)) (bd (bd (bd (lf (szO some232)) fun xs252 =>
 mapM' (fun (one251 : (List Int)) => lf (M.distance drawn250 one251)) xs252) fun x253 =>
 lf (minO x253)) fun x254 =>
 rt (decide (d231 ≤ x254))) (rt false)) fun b264 => ifM b264 (rt false) (bd (bd (bd (lf (ixO some232 0)) fun x257 =>
 bd (bd (lf (repO [0] (n228 - w229))) fun x255 =>
 bd (lf (repO [1] w229)) fun x256 =>
 lf (catO x255 x256)) fun x258 =>
 rt (decide (x257 = x258))) fun x262 =>
 ifM x262 (bd (bd (lf (M.chosen n228 2 w229)) fun x259 =>
 rt (x259.length : Int)) fun x260 =>
 bd (lf (M.choose n228 w229)) fun x261 =>
 rt (decide (x260 = x261))) (rt false)) fun x263 =>
 rt x263)))))))
def M.R2 : G Bool :=
 bd (bd (pickM 12) fun x186 =>
 rt (1 + x186)) fun half187 =>
 bd (lf (M.paths (2 * half187) 0)) fun total188 =>
 bd (bd (pickM total188) fun x189 =>
 lf (M.balanced_at (2 * half187) x189)) fun one190 =>
 bd (lf (M.balanced_at 2 0)) fun small191 =>
 bd (bd (bd (bd (bd (lf (catO [0] one190)) fun x192 =>
 lf (catO x192 [1])) fun x193 =>
 lf (M.is_balanced x193)) fun x194 =>
 rt (!decide (x194 = true))) fun x199 =>
 ifM x199 (rt true) (bd (bd (bd (lf (catO one190 small191)) fun x195 =>
 lf (M.is_balanced x195)) fun x196 =>
 rt (!decide (x196 = true))) fun x198 =>
 ifM x198 (rt true) (bd (lf (M.is_balanced one190.reverse)) fun x197 =>
 rt (!decide (x197 = false))))) fun b269 => ifM b269 (rt false) (bd (bd (bd (bd (bd (bd (lf (szO one190.reverse)) fun xs201 =>
 rt (xs201.map fun (bit200 : Int) => (1 - bit200))) fun x202 =>
 rt x202) fun x203 =>
 lf (M.is_balanced x203)) fun x204 =>
 rt (!decide (x204 = true))) fun x212 =>
 ifM x212 (rt true) (bd (bd (bd (bd (lf (repO [0] half187)) fun x205 =>
 bd (lf (repO [1] half187)) fun x206 =>
 lf (catO x205 x206)) fun x207 =>
 lf (M.even_index x207)) fun x208 =>
 rt (!decide (x208 = 0))) fun x211 =>
 ifM x211 (rt true) (bd (bd (lf (repO [0, 1] half187)) fun x209 =>
 lf (M.even_index x209)) fun x210 =>
 rt (!decide (x210 = (total188 - 1)))))) fun b268 => ifM b268 (rt false) (bd (pickM 20) fun steps213 =>
 bd (pickM 8) fun high214 =>
 bd (bd (lf (M.paths (steps213 + 1) high214)) fun x218 =>
 bd (bd (lf (M.paths steps213 (high214 + 1))) fun x216 =>
 bd (bd (lf (M.paths steps213 (high214 - 1))) fun x215 =>
 lf (mulO (if (decide (0 < high214)) then 1 else 0) x215)) fun x217 =>
 rt (x216 + x217)) fun x219 =>
 rt (!decide (x218 = x219))) fun b267 => ifM b267 (rt false) (bd (bd (bd (bd (lf (range1O half187)) fun x224 =>
 bd (lf (szO x224)) fun xs223 =>
 mapM' (fun (k220 : Int) => bd (lf (M.paths (2 * k220) 0)) fun x221 =>
 bd (lf (M.paths (2 * ((half187 - 1) - k220)) 0)) fun x222 =>
 lf (mulO x221 x222)) xs223) fun x225 =>
 rt x225.sum) fun x226 =>
 rt (!decide (total188 = x226))) fun b266 => ifM b266 (rt false) (bd (bd (pickM 7) fun x227 =>
 rt (2 + x227)) fun n228 =>
 bd (pickM (n228 + 1)) fun w229 =>
 bd (bd (pickM 6) fun x230 =>
 rt (1 + x230)) fun d231 =>
 bd (lf (M.chosen n228 d231 w229)) fun some232 =>
 bd (bd (bd (bd (lf (range1O (some232.length : Int))) fun x242 =>
 bd (lf (szO x242)) fun xs241 =>
 lcM (fun (k233 : Int) => bd (bd (lf (range1O k233)) fun x239 =>
 bd (lf (szO x239)) fun xs238 =>
 lcM (fun (j234 : Int) => bd (bd (lf (ixO some232 j234)) fun x235 =>
 bd (lf (ixO some232 k233)) fun x236 =>
 lf (M.distance x235 x236)) fun x237 =>
 rt (decide (x237 < d231))) (fun (j234 : Int) => rt j234) xs238) fun x240 =>
 rt (!decide (x240 = ([] : (List Int))))) (fun (k233 : Int) => rt k233) xs241) fun x243 =>
 rt (!decide (x243 = ([] : (List Int))))) fun x245 =>
 ifM x245 (rt true) (bd (lf (M.apart_bound n228 d231 w229)) fun x244 =>
 rt (decide (x244 < (some232.length : Int))))) fun b265 => ifM b265 (rt false) (bd (bd (bd (bd (lf (repO [0] (n228 - w229))) fun x246 =>
 bd (lf (repO [1] w229)) fun x247 =>
 lf (catO x246 x247)) fun x248 =>
 M.law_mixed x248) fun x249 =>
 rt x249) fun drawn250 =>
 bd (ifM (!decide (drawn250 ∈ some232)) (bd (bd (bd (lf (szO some232)) fun xs252 =>
 mapM' (fun (one251 : (List Int)) => lf (M.distance drawn250 one251)) xs252) fun x253 =>
 lf (minO x253)) fun x254 =>
 rt (decide (d231 ≤ x254))) (rt false)) fun b264 => ifM b264 (rt false) (bd (bd (bd (lf (ixO some232 0)) fun x257 =>
 bd (bd (lf (repO [0] (n228 - w229))) fun x255 =>
 bd (lf (repO [1] w229)) fun x256 =>
 lf (catO x255 x256)) fun x258 =>
 rt (decide (x257 = x258))) fun x262 =>
 ifM x262 (bd (bd (lf (M.chosen n228 2 w229)) fun x259 =>
 rt (x259.length : Int)) fun x260 =>
 bd (lf (M.choose n228 w229)) fun x261 =>
 rt (decide (x260 = x261))) (rt false)) fun x263 =>
 rt x263))))))
def M.R4 : G Bool :=
 bd (bd (pickM 7) fun x227 =>
 rt (2 + x227)) fun n228 =>
 bd (pickM (n228 + 1)) fun w229 =>
 bd (bd (pickM 6) fun x230 =>
 rt (1 + x230)) fun d231 =>
 bd (lf (M.chosen n228 d231 w229)) fun some232 =>
 bd (bd (bd (bd (lf (range1O (some232.length : Int))) fun x242 =>
 bd (lf (szO x242)) fun xs241 =>
 lcM (fun (k233 : Int) => bd (bd (lf (range1O k233)) fun x239 =>
 bd (lf (szO x239)) fun xs238 =>
 lcM (fun (j234 : Int) => bd (bd (lf (ixO some232 j234)) fun x235 =>
 bd (lf (ixO some232 k233)) fun x236 =>
 lf (M.distance x235 x236)) fun x237 =>
 rt (decide (x237 < d231))) (fun (j234 : Int) => rt j234) xs238) fun x240 =>
 rt (!decide (x240 = ([] : (List Int))))) (fun (k233 : Int) => rt k233) xs241) fun x243 =>
 rt (!decide (x243 = ([] : (List Int))))) fun x245 =>
 ifM x245 (rt true) (bd (lf (M.apart_bound n228 d231 w229)) fun x244 =>
 rt (decide (x244 < (some232.length : Int))))) fun b265 => ifM b265 (rt false) (bd (bd (bd (bd (lf (repO [0] (n228 - w229))) fun x246 =>
 bd (lf (repO [1] w229)) fun x247 =>
 lf (catO x246 x247)) fun x248 =>
 M.law_mixed x248) fun x249 =>
 rt x249) fun drawn250 =>
 bd (ifM (!decide (drawn250 ∈ some232)) (bd (bd (bd (lf (szO some232)) fun xs252 =>
 mapM' (fun (one251 : (List Int)) => lf (M.distance drawn250 one251)) xs252) fun x253 =>
 lf (minO x253)) fun x254 =>
 rt (decide (d231 ≤ x254))) (rt false)) fun b264 => ifM b264 (rt false) (bd (bd (bd (lf (ixO some232 0)) fun x257 =>
 bd (bd (lf (repO [0] (n228 - w229))) fun x255 =>
 bd (lf (repO [1] w229)) fun x256 =>
 lf (catO x255 x256)) fun x258 =>
 rt (decide (x257 = x258))) fun x262 =>
 ifM x262 (bd (bd (lf (M.chosen n228 2 w229)) fun x259 =>
 rt (x259.length : Int)) fun x260 =>
 bd (lf (M.choose n228 w229)) fun x261 =>
 rt (decide (x260 = x261))) (rt false)) fun x263 =>
 rt x263))
theorem bdd1 (a : Nat) : (1 + (a : Int)) = ((a + 1 : Nat) : Int) := by omega
theorem bdd2 (a : Nat) : (2 + (a : Int)) = ((a + 2 : Nat) : Int) := by omega
theorem R4_ok : M.R4.wp fun b => b = true := by
  unfold M.R4
  with_reducible refine wp_bdG ?_
  with_reducible refine wp_bdG ?_
  with_reducible refine wp_pick1 (by decide) (by decide) fun a ha => ?_
  with_reducible refine wp_rt ?_
  rw [bdd2]
  have ha : a < 7 := by omega
  with_reducible refine wp_bdG ?_
  with_reducible refine wp_pick1 (by omega) (by omega) fun w hw => ?_
  with_reducible refine wp_bdG ?_
  with_reducible refine wp_bdG ?_
  with_reducible refine wp_pick1 (by decide) (by decide) fun d hd => ?_
  with_reducible refine wp_rt ?_
  rw [bdd1]
  have hd : d < 6 := by omega
  have hw : w ≤ a + 2 := by omega
  have hf : fin1 (a + 2) w (d + 1) = true := by
    have hN : finN (a + 2) = true := by
      match a, ha with
      | 0, _ => exact fin2
      | 1, _ => exact fin3
      | 2, _ => exact fin4
      | 3, _ => exact fin5
      | 4, _ => exact fin6
      | 5, _ => exact fin7
      | 6, _ => exact fin8
    exact List.all_eq_true.mp (List.all_eq_true.mp hN w (List.mem_range.mpr (by omega))) d (List.mem_range.mpr hd)
  unfold fin1 at hf
  cases hs : M.chosen ((a + 2 : Nat) : Int) ((d + 1 : Nat) : Int) (w : Int) with
  | none => rw [hs] at hf; cases hf
  | some some232 =>
    simp only [hs, Bool.and_eq_true, decide_eq_true_eq] at hf
    have f1 := hf.1
    have f2 := hf.2.1
    have f3 := hf.2.2
    clear hf
    with_reducible have f1 := retG_is f1
    with_reducible have f3 := retG_is f3
    unfold pcB at f1
    unfold pcD at f3
    rw [lfbG]
    with_reducible refine stepF f1 ?_
    with_reducible refine wordM (by omega) hw fun bs h1 h2 => ?_
    have hr : rk bs ∈ List.range (cb (a + 2) w) := List.mem_range.mpr (by have := rk_lt bs; rw [h1, h2] at this; exact this)
    with_reducible have f2 := List.all_eq_true.mp f2 (rk bs) hr
    rw [decide_eq_true_eq] at f2
    have e := un_rk bs
    rw [h1, h2] at e
    rw [e] at f2
    with_reducible have f2 := retG_is f2
    unfold pcC at f2
    with_reducible refine stepF f2 ?_
    rw [f3]
    exact wp_rt rfl
theorem R2_ok : M.R2.wp fun b => b = true := by
  unfold M.R2
  with_reducible refine wp_bdG ?_
  with_reducible refine wp_bdG ?_
  with_reducible refine wp_pick1 (by decide) (by decide) fun a ha => ?_
  with_reducible refine wp_rt ?_
  have ha : a < 12 := by omega
  have hf := List.all_eq_true.mp finH12 a (List.mem_range.mpr ha)
  unfold finH at hf
  cases hs : M.paths (2 * (1 + (a : Int))) 0 with
  | none => rw [hs] at hf; cases hf
  | some total =>
    simp only [hs, Bool.and_eq_true, decide_eq_true_eq] at hf
    have t0 := hf.1
    have t1 := hf.2.1
    have f1 := hf.2.2.1
    have f2 := hf.2.2.2.1
    have f3 := hf.2.2.2.2
    clear hf
    with_reducible have f1 := retG_is f1
    with_reducible have f2 := retG_is f2
    with_reducible have f3 := retG_is f3
    unfold pcE1 at f1
    unfold pcE2 at f2
    unfold pcC4 at f3
    rw [lfbG]
    have ht : total = ((pw (2 * (a + 1)) 0 : Nat) : Int) := by
      have := paths_is (2 * (a + 1)) 0 (by omega) (by omega)
      rw [show ((2 * (a + 1) : Nat) : Int) = 2 * (1 + (a : Int)) by omega, show ((0 : Nat) : Int) = 0 from rfl, hs] at this
      exact Option.some.inj this
    with_reducible refine wp_bdG ?_
    with_reducible refine wp_bdG ?_
    with_reducible refine wp_pick1 t0 (by omega) fun x hx => ?_
    have hx : x < pw (2 * (a + 1)) 0 := by omega
    have hb := balat_ok (half := a + 1) (x := x) (by omega) (by omega) hx
    rw [← bdd1] at hb
    obtain ⟨l1, l2⟩ := bat_ok (2 * (a + 1)) 0 x hx
    rw [hb, lfsG]
    with_reducible refine wp_rt ?_
    rw [small_is, lfbG]
    with_reducible refine stepF (segC1 (by omega) (by omega) l2) ?_
    with_reducible refine stepF ?_ ?_
    · rw [segC2 (by omega) (by omega) l2, rtbG, ifF, f1, rtbG, ifF, f2]
    with_reducible refine wp_bdG ?_
    with_reducible refine wp_pick1 (by decide) (by decide) fun s hs2 => ?_
    with_reducible refine wp_bdG ?_
    with_reducible refine wp_pick1 (by decide) (by decide) fun h hh => ?_
    have f4 := List.all_eq_true.mp (List.all_eq_true.mp finC3 s (List.mem_range.mpr (by omega))) h (List.mem_range.mpr (by omega))
    rw [decide_eq_true_eq] at f4
    with_reducible have f4 := retG_is f4
    unfold pcC3 at f4
    with_reducible refine stepF f4 ?_
    with_reducible refine stepF f3 ?_
    have h4 := R4_ok
    unfold M.R4 at h4
    with_reducible exact h4
theorem R1_ok : M.R1.wp fun b => b = true := by
  unfold M.R1
  with_reducible refine wp_bdG ?_
  with_reducible refine wp_bdG ?_
  with_reducible refine wp_pick1 (by decide) (by decide) fun a ha => ?_
  with_reducible refine wp_rt ?_
  have ha : a < 8 := by omega
  with_reducible refine wp_bdG ?_
  with_reducible refine wp_pick1 (by omega) (by omega) fun b hb => ?_
  have f := List.all_eq_true.mp (List.all_eq_true.mp sets_fin a (List.mem_range.mpr ha)) b (List.mem_range.mpr (by omega))
  rw [decide_eq_true_eq] at f
  with_reducible have f := retG_is f
  unfold pcSets at f
  rw [← bd_assocG]
  with_reducible refine stepF f ?_
  have h2 := R2_ok
  unfold M.R2 at h2
  with_reducible exact h2
theorem right : M.law_right.wp fun b => b = true := by
  unfold M.law_right
  with_reducible refine wp_bdG ?_
  with_reducible refine wp_bdG ?_
  with_reducible refine wp_pick1 (by decide) (by decide) fun a ha => ?_
  with_reducible refine wp_rt ?_
  rw [bdd1]
  have ha : a < 40 := by omega
  with_reducible refine wp_bdG ?_
  with_reducible refine wp_pick1 (by omega) (by omega) fun w hw => ?_
  have hw : w ≤ a + 1 := by omega
  with_reducible refine wordM (by omega) hw fun bs h1 h2 => ?_
  rw [index_ok (bs := bs) (by omega) (by omega), lfbG, choose_is (a + 1) w (by omega) (by omega), lfbG]
  with_reducible refine stepF (seg1 (by omega) (by omega) hw h1 h2) ?_
  with_reducible refine stepF (seg2 (by omega) (by omega) hw h1 h2) ?_
  with_reducible refine wp_bdG ?_
  with_reducible refine wp_bdG ?_
  with_reducible refine mix_bw (by omega) fun cs h3 h4 => ?_
  with_reducible refine wp_rt ?_
  with_reducible refine stepF (seg3 (n := a + 1) (w := w) (by omega) (by omega) h1 h2 (by omega) (by omega)) ?_
  have h2 := R1_ok
  unfold M.R1 at h2
  with_reducible exact h2
end Wk

open PySem PySem.W PyProof.Rows
set_option maxHeartbeats 0 in
theorem PySem.Challenge.cw_codewhole_k90_whole_steady_words_turned_holds : PySem.Challenge.rw_codewhole_k90_whole_steady_words_turned.Holds := by
  w_on; o_law; k_head; (case hw => w_witness2)
  k_fill
  refine L2.walk_of (l := PySem.Challenge.rw_codewhole_k90_whole_steady_words_turned) (n := 63) (k := 17) (x := "script") (CX := fun _ => L2.CX0) (sp := fun w => Wk.spLaw _) rfl (by decide) rfl ⟨rfl, by decide, by decide⟩ (fun w h Y => PySem.W.kIn_of Y) ?F (fun _ _ a ns hl _ hS => ⟨a, ns, rfl, hS, hl, fun _ => rfl⟩) (fun _ _ _ _ _ h => h)
  case F =>
    intro w mg fa h KX G hmg
    refine' Wk.all_mk KX G hmg ?z_all ?z_any ?z_enumerate ?z_int ?z_len ?z_list ?z_min ?z_range ?z_reversed ?z_sorted ?z_sum ?z_tuple ?g_MOST_LENGTH ?a1 ?l1 ?c1 ?k1 ?a2 ?l2 ?c2 ?k2 ?a3 ?l3 ?c3 ?k3 ?a4 ?l4 ?c4 ?k4 ?a5 ?l5 ?c5 ?k5 ?a6 ?l6 ?c6 ?k6 ?a7 ?l7 ?c7 ?k7 ?a8 ?l8 ?c8 ?k8 ?a9 ?l9 ?c9 ?k9 ?a10 ?l10 ?c10 ?k10 ?a11 ?l11 ?c11 ?k11 ?a12 ?l12 ?c12 ?k12 ?a13 ?l13 ?c13 ?k13 ?a14 ?l14 ?c14 ?k14 ?a15 ?l15 ?c15 ?k15 ?a16 ?l16 ?c16 ?k16 ?a17 ?l17 ?c17 ?k17 ?a18 ?l18 ?c18 ?k18 ?a19 ?l19 ?c19 ?k19 ?a20 ?l20 ?c20 ?k20 Wk.right
    (case z_all => k_is)
    (case z_any => k_is)
    (case z_enumerate => k_is)
    (case z_int => k_is)
    (case z_len => k_is)
    (case z_list => k_is)
    (case z_min => k_is)
    (case z_range => k_is)
    (case z_reversed => k_is)
    (case z_sorted => k_is)
    (case z_sum => k_is)
    (case z_tuple => k_is)
    (case g_MOST_LENGTH => k_is)
    (case a1 => k_is)
    (case l1 => k_is)
    (case c1 => k_is)
    (case k1 => k_is)
    (case a2 => k_is)
    (case l2 => k_is)
    (case c2 => k_is)
    (case k2 => k_is)
    (case a3 => k_is)
    (case l3 => k_is)
    (case c3 => k_is)
    (case k3 => k_is)
    (case a4 => k_is)
    (case l4 => k_is)
    (case c4 => k_is)
    (case k4 => k_is)
    (case a5 => k_is)
    (case l5 => k_is)
    (case c5 => k_is)
    (case k5 => k_is)
    (case a6 => k_is)
    (case l6 => k_is)
    (case c6 => k_is)
    (case k6 => k_is)
    (case a7 => k_is)
    (case l7 => k_is)
    (case c7 => k_is)
    (case k7 => k_is)
    (case a8 => k_is)
    (case l8 => k_is)
    (case c8 => k_is)
    (case k8 => k_is)
    (case a9 => k_is)
    (case l9 => k_is)
    (case c9 => k_is)
    (case k9 => k_is)
    (case a10 => k_is)
    (case l10 => k_is)
    (case c10 => k_is)
    (case k10 => k_is)
    (case a11 => k_is)
    (case l11 => k_is)
    (case c11 => k_is)
    (case k11 => k_is)
    (case a12 => k_is)
    (case l12 => k_is)
    (case c12 => k_is)
    (case k12 => k_is)
    (case a13 => k_is)
    (case l13 => k_is)
    (case c13 => k_is)
    (case k13 => k_is)
    (case a14 => k_is)
    (case l14 => k_is)
    (case c14 => k_is)
    (case k14 => k_is)
    (case a15 => k_is)
    (case l15 => k_is)
    (case c15 => k_is)
    (case k15 => k_is)
    (case a16 => k_is)
    (case l16 => k_is)
    (case c16 => k_is)
    (case k16 => k_is)
    (case a17 => k_is)
    (case l17 => k_is)
    (case c17 => k_is)
    (case k17 => k_is)
    (case a18 => k_is)
    (case l18 => k_is)
    (case c18 => k_is)
    (case k18 => k_is)
    (case a19 => k_is)
    (case l19 => k_is)
    (case c19 => k_is)
    (case k19 => k_is)
    (case a20 => k_is)
    (case l20 => k_is)
    (case c20 => k_is)
    (case k20 => k_is)

