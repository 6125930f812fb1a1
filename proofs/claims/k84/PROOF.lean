import PyProof.Rows.All
import Wide.All
import OpenK.AllK
import Wide.FinOn
import HandS.ForMost
import HandS.SortInts
import HandS.TupAny
import HandS.Style
import HandS.Rev
import HandS.Zip
import HandS.Deep
import HandS.Walk
import HandS.RevTup
import HandS.TupLen
import HandS.Dict
import HandS.TupMul
import HandS.SetFor
import HandS.Conv
import HandS.TupLe
import PyProof.P3In
import KE.GoesEnum
import HandS.Iter
import HandS.TupSets
import PySem.Challenge.RW_codewhole_k84_whole_tests_more_and_fewer
set_option Elab.async false
set_option linter.all false
set_option maxRecDepth 100000
set_option maxHeartbeats 40000000
namespace Wk
open PySem PySem.Spec PyProof.Rows L2

/-! ### data -/
inductive D where
  | n
  | b (x : Bool)
  | i (x : Int)
  | s (x : Str)
  | t (xs : List D)
  | l (xs : List D)
  | o (c : Str) (ns : List Str) (ds : List D)
  | d (ks : List Key) (ds : List D)
  | e (ks : List (List Key)) (ds : List D)

mutual
inductive Rep (K : PySem.W.Frag) (mg : Str → Option Value) (O : Addr → Prop) (H : Hp) : V → D → Prop
  | n : Rep K mg O H .non .n
  | b (x : Bool) : Rep K mg O H (.bl x) (.b x)
  | i (x : Int) : Rep K mg O H (.int x) (.i x)
  | s (x : Str) : Rep K mg O H (.str x) (.s x)
  | t {a : Addr} {vs : List V} {ds : List D} : H a = some (.tup vs) → Reps K mg O H vs ds → Rep K mg O H (.ref a) (.t ds)
  | l {a : Addr} {vs : List V} {ds : List D} : H a = some (.lst vs) → ¬ O a → Reps K mg O H vs ds → Rep K mg O H (.ref a) (.l ds)
  | o {a C dx : Addr} {fs : List (Str × V)} {c : Str} {ns : List Str} {ds : List D} : H a = some (.ins C dx fs) → ¬ O a → mg c = some (.ref C) → fs.map (·.1) = ns → Reps K mg O H (fs.map (·.2)) ds → Rep K mg O H (.ref a) (.o c ns ds)
  | d {a : Addr} {kvs : List (Key × V)} {ks : List Key} {ds : List D} : H a = some (.dK kvs) → ¬ O a → kvs.map (·.1) = ks → Reps K mg O H (kvs.map (·.2)) ds → Rep K mg O H (.ref a) (.d ks ds)
  | e {a : Addr} {kvs : List (List Key × V)} {ks : List (List Key)} {ds : List D} : H a = some (.dT kvs) → ¬ O a → kvs.map (·.1) = ks → Reps K mg O H (kvs.map (·.2)) ds → Rep K mg O H (.ref a) (.e ks ds)
inductive Reps (K : PySem.W.Frag) (mg : Str → Option Value) (O : Addr → Prop) (H : Hp) : List V → List D → Prop
  | nil : Reps K mg O H [] []
  | cons {v : V} {vs : List V} {d : D} {ds : List D} : Rep K mg O H v d → Reps K mg O H vs ds → Reps K mg O H (v :: vs) (d :: ds)
end

section
variable {K : PySem.W.Frag} {mg : Str → Option Value} {O O' : Addr → Prop} {H H' : Hp}
mutual
theorem Rep.gen (k : ∀ a o, H a = some o → ¬ O a → H' a = some o ∧ ¬ O' a) (kt : ∀ a vs, H a = some (.tup vs) → H' a = some (.tup vs)) : ∀ (d : D) (v : V), Rep K mg O H v d → Rep K mg O' H' v d
  | .n, _, h => by cases h; exact .n
  | .b x, _, h => by cases h; exact .b x
  | .i x, _, h => by cases h; exact .i x
  | .s x, _, h => by cases h; exact .s x
  | .t ds, _, h => by
    cases h with
    | t h1 h2 => exact .t (kt _ _ h1) (Reps.gen k kt ds _ h2)
  | .l ds, _, h => by
    cases h with
    | l h1 h2 h3 => exact .l (k _ _ h1 h2).1 (k _ _ h1 h2).2 (Reps.gen k kt ds _ h3)
  | .o c ns ds, _, h => by
    cases h with
    | o h1 h2 h3 h4 h5 => exact .o (k _ _ h1 h2).1 (k _ _ h1 h2).2 h3 h4 (Reps.gen k kt ds _ h5)
  | .d ks ds, _, h => by
    cases h with
    | d h1 h2 h3 h4 => exact .d (k _ _ h1 h2).1 (k _ _ h1 h2).2 h3 (Reps.gen k kt ds _ h4)
  | .e ks ds, _, h => by
    cases h with
    | e h1 h2 h3 h4 => exact .e (k _ _ h1 h2).1 (k _ _ h1 h2).2 h3 (Reps.gen k kt ds _ h4)
theorem Reps.gen (k : ∀ a o, H a = some o → ¬ O a → H' a = some o ∧ ¬ O' a) (kt : ∀ a vs, H a = some (.tup vs) → H' a = some (.tup vs)) : ∀ (ds : List D) (vs : List V), Reps K mg O H vs ds → Reps K mg O' H' vs ds
  | [], _, h => by cases h; exact .nil
  | d :: ds, _, h => by
    cases h with
    | cons h1 h2 => exact .cons (Rep.gen k kt d _ h1) (Reps.gen k kt ds _ h2)
end
theorem Rep.sub (k : ∀ a, O' a → O a) {d : D} {v : V} (h : Rep K mg O H v d) : Rep K mg O' H v d := h.gen (fun _ _ e n => ⟨e, fun z => n (k _ z)⟩) (fun _ _ e => e)
theorem Reps.sub (k : ∀ a, O' a → O a) {d : List D} {v : List V} (h : Reps K mg O H v d) : Reps K mg O' H v d := Reps.gen (fun _ _ e n => ⟨e, fun z => n (k _ z)⟩) (fun _ _ e => e) _ _ h
theorem Reps.length : ∀ {vs : List V} {ds : List D}, Reps K mg O H vs ds → vs.length = ds.length
  | _, _, .nil => rfl
  | _, _, .cons _ t => by rw [List.length_cons, List.length_cons, t.length]
theorem Reps.get : ∀ {vs : List V} {ds : List D} {i : Nat} {d : D}, Reps K mg O H vs ds → ds[i]? = some d → ∃ v, vs[i]? = some v ∧ Rep K mg O H v d
  | _, _, _, _, .nil, e => by simp at e
  | _, _, 0, _, .cons r _, e => by simp at e; subst e; exact ⟨_, rfl, r⟩
  | _, _, i + 1, d, .cons _ t, e => by
    obtain ⟨v, h1, h2⟩ := Reps.get (i := i) (d := d) t (by simpa using e)
    exact ⟨v, by simpa using h1, h2⟩
theorem Reps.get' : ∀ {vs : List V} {ds : List D} {i : Nat} {v : V}, Reps K mg O H vs ds → vs[i]? = some v → ∃ d, ds[i]? = some d ∧ Rep K mg O H v d
  | _, _, _, _, .nil, e => by simp at e
  | _, _, 0, _, .cons r _, e => by simp at e; subst e; exact ⟨_, rfl, r⟩
  | _, _, i + 1, v, .cons _ t, e => by
    obtain ⟨d, h1, h2⟩ := Reps.get' (i := i) (v := v) t (by simpa using e)
    exact ⟨d, by simpa using h1, h2⟩
theorem Reps.append : ∀ {vs ws : List V} {ds es : List D}, Reps K mg O H vs ds → Reps K mg O H ws es → Reps K mg O H (vs ++ ws) (ds ++ es)
  | _, _, _, _, .nil, s => s
  | _, _, _, _, .cons r t, s => .cons r (Reps.append t s)
theorem Reps.take : ∀ {vs : List V} {ds : List D} (n : Nat), Reps K mg O H vs ds → Reps K mg O H (vs.take n) (ds.take n)
  | _, _, 0, _ => .nil
  | _, _, _ + 1, .nil => .nil
  | _, _, n + 1, .cons r t => .cons r (Reps.take n t)
theorem Reps.drop : ∀ {vs : List V} {ds : List D} (n : Nat), Reps K mg O H vs ds → Reps K mg O H (vs.drop n) (ds.drop n)
  | _, _, 0, r => r
  | _, _, _ + 1, .nil => .nil
  | _, _, n + 1, .cons _ t => Reps.drop n t
theorem Reps.set {v : V} {d : D} (r : Rep K mg O H v d) : ∀ {vs : List V} {ds : List D} (i : Nat), Reps K mg O H vs ds → Reps K mg O H (vs.set i v) (ds.set i d)
  | _, _, _, .nil => .nil
  | _, _, 0, .cons _ t => .cons r t
  | _, _, i + 1, .cons q t => .cons q (Reps.set r i t)
theorem Reps.eraseIdx : ∀ {vs : List V} {ds : List D} (i : Nat), Reps K mg O H vs ds → Reps K mg O H (vs.eraseIdx i) (ds.eraseIdx i)
  | _, _, _, .nil => .nil
  | _, _, 0, .cons _ t => t
  | _, _, i + 1, .cons r t => .cons r (Reps.eraseIdx i t)
theorem Reps.reverse : ∀ {vs : List V} {ds : List D}, Reps K mg O H vs ds → Reps K mg O H vs.reverse ds.reverse
  | _, _, .nil => .nil
  | _, _, .cons r t => by
    rw [List.reverse_cons, List.reverse_cons]
    exact Reps.append (Reps.reverse t) (.cons r .nil)
theorem Reps.ints : ∀ {ns : List Int} {vs : List V}, Reps K mg O H vs (ns.map D.i) → vs = ns.map V.int
  | [], _, h => by cases h; rfl
  | n :: ns, _, h => by
    cases h with
    | cons h1 h2 => cases h1; rw [Reps.ints h2]; rfl
theorem Reps.of_ints : ∀ (ns : List Int), Reps K mg O H (ns.map V.int) (ns.map D.i)
  | [] => .nil
  | n :: ns => .cons (.i n) (Reps.of_ints ns)
theorem Reps.bls : ∀ {ns : List Bool} {vs : List V}, Reps K mg O H vs (ns.map D.b) → vs = ns.map V.bl
  | [], _, h => by cases h; rfl
  | n :: ns, _, h => by
    cases h with
    | cons h1 h2 => cases h1; rw [Reps.bls h2]; rfl
end

/-! ### the heap's growth; sr: the address of the source (a list of two ints, which a call may change) -/
def SrcAt (H : Hp) (S : Addr) : Prop := ∃ i j : Int, H S = some (.lst [.int i, .int j])
def Ext (sr : Option Addr) (H H' : Hp) : Prop := (∀ a o, H a = some o → sr ≠ some a → H' a = some o) ∧ ∀ S, sr = some S → SrcAt H S ∧ SrcAt H' S
def Srs (sr : Option Addr) (H : Hp) : Prop := ∀ S, sr = some S → SrcAt H S
section
variable {K : PySem.W.Frag} {mg : Str → Option Value} {O O' : Addr → Prop} {H H' H1 H2 : Hp} {sr : Option Addr}
theorem Ext.refl (h : Srs sr H) : Ext sr H H := ⟨fun _ _ e _ => e, fun S e => ⟨h S e, h S e⟩⟩
theorem Ext.trans (a : Ext sr H H1) (b : Ext sr H1 H2) : Ext sr H H2 := ⟨fun x o e n => b.1 x o (a.1 x o e n) n, fun S e => ⟨(a.2 S e).1, (b.2 S e).2⟩⟩
theorem Ext.srs (a : Ext sr H H') : Srs sr H' := fun S e => (a.2 S e).2
theorem Ext.srs0 (a : Ext sr H H') : Srs sr H := fun S e => (a.2 S e).1
theorem Ext.new {p : Addr} {o : HO} (h : Srs sr H) (hp : H p = none) : Ext sr H (upd H p o) := by
  refine ⟨fun a u e _ => ?_, fun S e => ⟨h S e, ?_⟩⟩
  · rw [upd_ne (ne_of_none e hp)]; exact e
  · obtain ⟨i, j, e2⟩ := h S e
    exact ⟨i, j, by rw [upd_ne (ne_of_none e2 hp)]; exact e2⟩
theorem Ext.same (h : Srs sr H) (k : ∀ a o, H a = some o → H' a = some o) : Ext sr H H' :=
  ⟨fun a o e _ => k a o e, fun S e => ⟨h S e, let ⟨i, j, z⟩ := h S e; ⟨i, j, k _ _ z⟩⟩⟩
theorem Ext.sqT (e : Ext sr H H') {a : Addr} {vs : List V} (h : SqT K H a vs) : SqT K H' a vs := by
  have ne : ∀ u, H a = some u → (∀ xs, u ≠ .lst xs) → sr ≠ some a := fun u h1 h2 z => by
    obtain ⟨⟨i, j, q⟩, _⟩ := e.2 a z
    rw [h1] at q; cases q; exact h2 _ rfl
  rcases h with (h | ⟨o, h⟩) | h
  · exact .inl (.inl (e.1 a _ h (ne _ h fun _ z => nomatch z)))
  · exact .inl (.inr ⟨o, e.1 a _ h (ne _ h fun _ z => nomatch z)⟩)
  · exact .inr h
theorem Ext.tup (e : Ext sr H H') {a : Addr} {vs : List V} (h : H a = some (.tup vs)) : H' a = some (.tup vs) := e.1 a _ h fun z => by
  obtain ⟨⟨i, j, q⟩, _⟩ := e.2 a z
  rw [h] at q; cases q
theorem Ext.back (e : Ext sr H H') {p : Addr} (h : H' p = none) : H p = none := by
  cases q : H p with
  | none => rfl
  | some o =>
    by_cases hs : sr = some p
    · obtain ⟨_, i, j, z⟩ := e.2 p hs
      rw [h] at z; cases z
    · rw [e.1 p o q hs] at h; cases h
theorem Rep.ext {d : D} {v : V} (h : Rep K mg O H v d) (e : Ext sr H H') (hs : ∀ S, sr = some S → O S) : Rep K mg O H' v d :=
  h.gen (fun a o q n => ⟨e.1 a o q fun z => n (hs a z), n⟩) (fun _ _ q => e.tup q)
theorem Reps.ext {d : List D} {v : List V} (h : Reps K mg O H v d) (e : Ext sr H H') (hs : ∀ S, sr = some S → O S) : Reps K mg O H' v d :=
  Reps.gen (fun a o q n => ⟨e.1 a o q fun z => n (hs a z), n⟩) (fun _ _ q => e.tup q) _ _ h
/-- an address that is new to the heap lies outside the footprints -/
theorem Rep.fresh {d : D} {v : V} {p : Addr} (h : Rep K mg O H v d) (hp : H p = none) : Rep K mg (fun a => O a ∨ a = p) H v d :=
  h.gen (fun a o q n => ⟨q, fun z => z.elim n fun z => by rw [z, hp] at q; cases q⟩) (fun _ _ q => q)
theorem Reps.fresh {d : List D} {v : List V} {p : Addr} (h : Reps K mg O H v d) (hp : H p = none) : Reps K mg (fun a => O a ∨ a = p) H v d :=
  Reps.gen (fun a o q n => ⟨q, fun z => z.elim n fun z => by rw [z, hp] at q; cases q⟩) (fun _ _ q => q) _ _ h
/-- a list that is left out is written -/
theorem sqT_upd {p : Addr} {o u : HO} (hp : H p = some u) (hu : Mut (some u)) {a : Addr} {vs : List V} (h : SqT K H a vs) : SqT K (upd H p o) a vs := by
  have ne : ∀ w, H a = some w → ¬ Mut (some w) → a ≠ p := fun w h1 h2 z => by
    rw [z, hp] at h1; cases h1; exact h2 hu
  rcases h with (h | ⟨ob, h⟩) | h
  · exact .inl (.inl (by rw [upd_ne (ne _ h fun z => z)]; exact h))
  · exact .inl (.inr ⟨ob, by rw [upd_ne (ne _ h fun z => z)]; exact h⟩)
  · exact .inr h
theorem tup_upd {p : Addr} {o u : HO} (hp : H p = some u) (hu : Mut (some u)) {a : Addr} {vs : List V} (h : H a = some (.tup vs)) : L2.upd H p o a = some (.tup vs) := by
  rw [upd_ne (fun z => by rw [z, hp] at h; cases h; exact hu)]; exact h
theorem Rep.upd {d : D} {v : V} {p : Addr} {o u : HO} (h : Rep K mg O H v d) (op : O p) (hp : H p = some u) (hu : Mut (some u)) : Rep K mg O (L2.upd H p o) v d :=
  h.gen (fun a w q n => ⟨by rw [upd_ne (fun z => n (by rw [z]; exact op))]; exact q, n⟩) (fun _ _ q => tup_upd hp hu q)
theorem Reps.upd {d : List D} {v : List V} {p : Addr} {o u : HO} (h : Reps K mg O H v d) (op : O p) (hp : H p = some u) (hu : Mut (some u)) : Reps K mg O (L2.upd H p o) v d :=
  Reps.gen (fun a w q n => ⟨by rw [upd_ne (fun z => n (by rw [z]; exact op))]; exact q, n⟩) (fun _ _ q => tup_upd hp hu q) _ _ h
end

/-- a dict's content -/
def DkOk (K : PySem.W.Frag) (mg : Str → Option Value) (O : Addr → Prop) (H : Hp) : HO → D → Prop
  | .dK kvs, .d ks ds => kvs.map (·.1) = ks ∧ Reps K mg O H (kvs.map (·.2)) ds
  | .dT kvs, .e ks ds => kvs.map (·.1) = ks ∧ Reps K mg O H (kvs.map (·.2)) ds
  | _, _ => False
section
variable {K : PySem.W.Frag} {mg : Str → Option Value} {O O' : Addr → Prop} {H H' : Hp} {sr : Option Addr}
theorem DkOk.cases {u : HO} {d : D} (h : DkOk K mg O H u d) : (∃ kvs ks ds, u = .dK kvs ∧ d = .d ks ds ∧ kvs.map (·.1) = ks ∧ Reps K mg O H (kvs.map (·.2)) ds) ∨ (∃ kvs ks ds, u = .dT kvs ∧ d = .e ks ds ∧ kvs.map (·.1) = ks ∧ Reps K mg O H (kvs.map (·.2)) ds) := by
  cases u <;> cases d <;> first | exact .inl ⟨_, _, _, rfl, rfl, h⟩ | exact .inr ⟨_, _, _, rfl, rfl, h⟩ | exact h.elim
theorem DkOk.mu {u : HO} {d : D} (h : DkOk K mg O H u d) : Mut (some u) := by
  rcases h.cases with ⟨_, _, _, rfl, _⟩ | ⟨_, _, _, rfl, _⟩ <;> trivial
theorem DkOk.map {u : HO} {d : D} (h : DkOk K mg O H u d) (k : ∀ vs ds, Reps K mg O H vs ds → Reps K mg O' H' vs ds) : DkOk K mg O' H' u d := by
  rcases h.cases with ⟨_, _, _, rfl, rfl, e, r⟩ | ⟨_, _, _, rfl, rfl, e, r⟩
  · exact ⟨e, k _ _ r⟩
  · exact ⟨e, k _ _ r⟩
theorem DkOk.ext {u : HO} {d : D} (h : DkOk K mg O H u d) (e : Ext sr H H') (hs : ∀ S, sr = some S → O S) : DkOk K mg O H' u d := h.map fun _ _ r => r.ext e hs
theorem DkOk.sub (k : ∀ a, O' a → O a) {u : HO} {d : D} (h : DkOk K mg O H u d) : DkOk K mg O' H u d := h.map fun _ _ r => r.sub k
theorem DkOk.fresh {u : HO} {d : D} {p : Addr} (h : DkOk K mg O H u d) (hp : H p = none) : DkOk K mg (fun a => O a ∨ a = p) H u d := h.map fun _ _ r => r.fresh hp
theorem DkOk.upd {u : HO} {d : D} {p : Addr} {o w : HO} (h : DkOk K mg O H u d) (op : O p) (hp : H p = some w) (hu : Mut (some w)) : DkOk K mg O (L2.upd H p o) u d := h.map fun _ _ r => r.upd op hp hu
theorem DkOk.rep {u : HO} {d : D} {p : Addr} (h : DkOk K mg O H u d) (hp : H p = some u) (no : ¬ O p) : Rep K mg O H (.ref p) d := by
  rcases h.cases with ⟨_, _, _, rfl, rfl, e, r⟩ | ⟨_, _, _, rfl, rfl, e, r⟩
  · exact .d hp no e r
  · exact .e hp no e r
end
/-! ### the frame's slots -/
inductive Slot where
  /-- nothing is known -/
  | u
  /-- data that does not change -/
  | d (x : D)
  /-- a list of one's own, that may change -/
  | l (xs : List D)
  /-- a dict of one's own -/
  | w (x : D)
  /-- an object of one's own -/
  | ob (p : Addr) (c : Str) (ns : List Str) (ds : List D)
  /-- the source -/
  | src

def SlotOk (K : PySem.W.Frag) (mg : Str → Option Value) (Q : Addr → Prop) (sr : Option Addr) (H : Hp) (v : Option (Option V)) (a : Option Addr) : Option Slot → Prop
  | none => a = none
  | some .u => a = none
  | some (.d x) => a = none ∧ ∃ w, v = some (some w) ∧ Rep K mg Q H w x
  | some (.l xs) => ∃ p vs, a = some p ∧ v = some (some (.ref p)) ∧ H p = some (.lst vs) ∧ Reps K mg Q H vs xs
  | some (.w x) => ∃ p u, a = some p ∧ v = some (some (.ref p)) ∧ H p = some u ∧ DkOk K mg Q H u x
  | some (.ob p c ns ds) => ∃ C dx fs, a = some p ∧ v = some (some (.ref p)) ∧ H p = some (.ins C dx fs) ∧ mg c = some (.ref C) ∧ fs.map (·.1) = ns ∧ Reps K mg Q H (fs.map (·.2)) ds
  | some .src => a = none ∧ ∃ S, sr = some S ∧ v = some (some (.ref S))

/-- left out by the slots' own lists too -/
def OO (O : Addr → Prop) (ad : Nat → Option Addr) : Addr → Prop := fun p => O p ∨ ∃ j, ad j = some p
/-- M: true: data that may be kept; false: data for the moment, that may be a list of one's own -/
def OM (M : Bool) (O : Addr → Prop) (ad : Nat → Option Addr) : Addr → Prop := match M with
  | true => OO O ad
  | false => O
structure Env (K : PySem.W.Frag) (mg : Str → Option Value) (sr : Option Addr) (O : Addr → Prop) (H0 H : Hp) (σ : L2.St) (ρ : List Slot) (ad : Nat → Option Addr) : Prop where
  len : σ.length = ρ.length
  at_ : ∀ j, SlotOk K mg (OO O ad) sr H σ[j]? (ad j) ρ[j]?
  inj : ∀ j k p, ad j = some p → ad k = some p → j = k
  frs : ∀ j p, ad j = some p → H0 p = none
  mu : ∀ j p, ad j = some p → Mut (H p)
  src : ∀ S, sr = some S → O S ∧ SrcAt H S
  dom : ∀ p, O p → Mut (H p)
  dis : ∀ j p, ad j = some p → ¬ O p
  ext : ∀ a o, H0 a = some o → sr ≠ some a → H a = some o

section
variable {K : PySem.W.Frag} {mg : Str → Option Value} {O O' : Addr → Prop} {H0 H H' H1 H2 : Hp} {sr : Option Addr} {σ : L2.St} {ρ : List Slot} {ad : Nat → Option Addr}
theorem Env.srs (e : Env K mg sr O H0 H σ ρ ad) : Srs sr H := fun S h => (e.src S h).2
theorem Env.sO (e : Env K mg sr O H0 H σ ρ ad) : ∀ S, sr = some S → O S := fun S h => (e.src S h).1
theorem Env.sOM (e : Env K mg sr O H0 H σ ρ ad) (M : Bool) : ∀ S, sr = some S → OM M O ad S := fun S h => by
  cases M with
  | true => exact .inl (e.sO S h)
  | false => exact e.sO S h
theorem OM.le {M : Bool} : ∀ a, OM M O ad a → OO O ad a := fun a h => by
  cases M with
  | true => exact h
  | false => exact .inl h
theorem OM.of {M : Bool} : ∀ a, O a → OM M O ad a := fun a h => by
  cases M with
  | true => exact .inl h
  | false => exact h
theorem mut_some {x : Option HO} (h : Mut x) : ∃ o, x = some o := by
  cases x with
  | none => exact h.elim
  | some o => exact ⟨o, rfl⟩
theorem Env.fresh (e : Env K mg sr O H0 H σ ρ ad) {p : Addr} (h : H p = none) : ¬ OO O ad p := fun z => by
  rcases z with z | ⟨j, z⟩
  · have := e.dom p z; rw [h] at this; exact this
  · have := e.mu j p z; rw [h] at this; exact this
theorem Env.freshM (e : Env K mg sr O H0 H σ ρ ad) {p : Addr} (h : H p = none) (M : Bool) : ¬ OM M O ad p := fun z => e.fresh h (OM.le _ z)
theorem SlotOk.ext {Q : Addr → Prop} {v : Option (Option V)} {a : Option Addr} {s : Option Slot} (h : SlotOk K mg Q sr H v a s) (e : Ext sr H H') (hs : ∀ S, sr = some S → Q S) (hn : ∀ p, a = some p → sr ≠ some p) : SlotOk K mg Q sr H' v a s := by
  match s, h with
  | none, h => exact h
  | some .u, h => exact h
  | some (.d x), ⟨h1, w, h2, h3⟩ => exact ⟨h1, w, h2, h3.ext e hs⟩
  | some (.l xs), ⟨p, vs, h1, h2, h3, h4⟩ => exact ⟨p, vs, h1, h2, e.1 p _ h3 (hn p h1), h4.ext e hs⟩
  | some (.w d), ⟨p, u, h1, h2, h3, h4⟩ => exact ⟨p, u, h1, h2, e.1 p _ h3 (hn p h1), h4.ext e hs⟩
  | some (.ob p c ns ds), ⟨C, dx, fs, h1, h2, h3, h4, h5, h6⟩ => exact ⟨C, dx, fs, h1, h2, e.1 p _ h3 (hn p h1), h4, h5, h6.ext e hs⟩
  | some .src, h => exact h
theorem Env.ext' (e : Env K mg sr O H0 H σ ρ ad) (x : Ext sr H H') : Env K mg sr O H0 H' σ ρ ad := by
  have keep : ∀ p, Mut (H p) → sr ≠ some p → Mut (H' p) := fun p h n => by
    obtain ⟨o, q⟩ := mut_some h
    rw [x.1 p o q n, ← q]; exact h
  have nsr : ∀ j p, ad j = some p → sr ≠ some p := fun j p h z => e.dis j p h (e.sO p z)
  refine ⟨e.len, fun j => (e.at_ j).ext x (fun S h => .inl (e.sO S h)) (nsr j), e.inj, e.frs, fun j p h => keep p (e.mu j p h) (nsr j p h), fun S h => ⟨e.sO S h, (x.2 S h).2⟩, fun p h => ?_, e.dis, fun a o h n => x.1 a o (e.ext a o h n) n⟩
  by_cases hs : sr = some p
  · obtain ⟨_, i, j, z⟩ := x.2 p hs
    rw [z]; trivial
  · exact keep p (e.dom p h) hs
/-- the slot i is forgotten or takes data -/
theorem SlotOk.sub {Q Q' : Addr → Prop} {v : Option (Option V)} {a : Option Addr} {s : Option Slot} (h : SlotOk K mg Q sr H v a s) (k : ∀ p, Q' p → Q p) : SlotOk K mg Q' sr H v a s := by
  match s, h with
  | none, h => exact h
  | some .u, h => exact h
  | some (.d x), ⟨h1, w, h2, h3⟩ => exact ⟨h1, w, h2, h3.sub k⟩
  | some (.l xs), ⟨p, vs, h1, h2, h3, h4⟩ => exact ⟨p, vs, h1, h2, h3, h4.sub k⟩
  | some (.w d), ⟨p, u, h1, h2, h3, h4⟩ => exact ⟨p, u, h1, h2, h3, h4.sub k⟩
  | some (.ob p c ns ds), ⟨C, dx, fs, h1, h2, h3, h4, h5, h6⟩ => exact ⟨C, dx, fs, h1, h2, h3, h4, h5, h6.sub k⟩
  | some .src, h => exact h
def unad (ad : Nat → Option Addr) (i : Nat) : Nat → Option Addr := fun j => if j = i then none else ad j
theorem unad_le {i : Nat} : ∀ a, OO O (unad ad i) a → OO O ad a := fun a h => by
  rcases h with h | ⟨j, h⟩
  · exact .inl h
  · unfold unad at h
    split at h
    · cases h
    · exact .inr ⟨j, h⟩
theorem unad_some {i j : Nat} {p : Addr} (h : unad ad i j = some p) : ad j = some p ∧ j ≠ i := by
  unfold unad at h
  split at h
  · cases h
  · rename_i q; exact ⟨h, q⟩
theorem Env.put (e : Env K mg sr O H0 H σ ρ ad) (i : Nat) (v : V) (x : D) (h : Rep K mg (OO O ad) H v x) : Env K mg sr O H0 H (σ.set i (some v)) (ρ.set i (.d x)) (unad ad i) := by
  refine ⟨by simp [e.len], fun j => ?_, fun j k p h1 h2 => e.inj j k p (unad_some h1).1 (unad_some h2).1, fun j p h => e.frs j p (unad_some h).1, fun j p h => e.mu j p (unad_some h).1, e.src, e.dom, fun j p h => e.dis j p (unad_some h).1, e.ext⟩
  by_cases hj : j = i
  · subst hj
    by_cases hl : j < ρ.length
    · rw [List.getElem?_set_self (by rw [e.len]; exact hl), List.getElem?_set_self hl]
      exact ⟨by unfold unad; rw [if_pos rfl], v, rfl, h.sub unad_le⟩
    · rw [List.getElem?_eq_none (by rw [List.length_set, e.len]; omega), List.getElem?_eq_none (by rw [List.length_set]; omega)]
      show unad ad j j = none
      unfold unad; rw [if_pos rfl]
  · rw [List.getElem?_set_ne (Ne.symm hj), List.getElem?_set_ne (Ne.symm hj)]
    have := e.at_ j
    unfold unad
    rw [if_neg hj]
    exact this.sub unad_le
theorem Env.forget (e : Env K mg sr O H0 H σ ρ ad) (i : Nat) (v : Option V) : Env K mg sr O H0 H (σ.set i v) (ρ.set i .u) (unad ad i) := by
  refine ⟨by simp [e.len], fun j => ?_, fun j k p h1 h2 => e.inj j k p (unad_some h1).1 (unad_some h2).1, fun j p h => e.frs j p (unad_some h).1, fun j p h => e.mu j p (unad_some h).1, e.src, e.dom, fun j p h => e.dis j p (unad_some h).1, e.ext⟩
  by_cases hj : j = i
  · subst hj
    by_cases hl : j < ρ.length
    · rw [List.getElem?_set_self hl]
      show unad ad j j = none
      unfold unad; rw [if_pos rfl]
    · rw [List.getElem?_eq_none (l := ρ.set j .u) (by rw [List.length_set]; omega)]
      show unad ad j j = none
      unfold unad; rw [if_pos rfl]
  · rw [List.getElem?_set_ne (Ne.symm hj), List.getElem?_set_ne (Ne.symm hj)]
    have := e.at_ j
    unfold unad
    rw [if_neg hj]
    exact this.sub unad_le
def atad (ad : Nat → Option Addr) (i : Nat) (p : Addr) : Nat → Option Addr := fun j => if j = i then some p else ad j
theorem atad_some {i j : Nat} {p q : Addr} (h : atad ad i p j = some q) : (j = i ∧ q = p) ∨ (j ≠ i ∧ ad j = some q) := by
  unfold atad at h
  split at h
  · rename_i z; exact .inl ⟨z, (Option.some.inj h).symm⟩
  · rename_i z; exact .inr ⟨z, h⟩
/-- a new list becomes the slot's own; H: the heap ahead of its making -/
theorem Env.own (e : Env K mg sr O H0 H σ ρ ad) (x : Ext sr H H') {i : Nat} (hi : i < ρ.length) {p : Addr} {vs : List V} {xs : List D} (hp : H p = none) (hp' : H' p = some (.lst vs)) (h : Reps K mg (OO O ad) H' vs xs) (hf : Reps K mg (fun a => OO O ad a ∨ a = p) H' vs xs) :
    Env K mg sr O H0 H' (σ.set i (some (.ref p))) (ρ.set i (.l xs)) (atad ad i p) := by
  have le : ∀ a, OO O (atad ad i p) a → OO O ad a ∨ a = p := fun a h => by
    rcases h with h | ⟨j, h⟩
    · exact .inl (.inl h)
    · rcases atad_some h with ⟨_, z⟩ | ⟨_, z⟩
      · exact .inr z
      · exact .inl (.inr ⟨j, z⟩)
  have nn : ∀ j q, ad j = some q → q ≠ p := fun j q h z => by
    have := e.mu j q h; rw [z, hp] at this; exact this
  have e' := e.ext' x
  refine ⟨by simp [e.len], fun j => ?_, fun j k q h1 h2 => ?_, fun j q h => ?_, fun j q h => ?_, e'.src, e'.dom, fun j q h => ?_, e'.ext⟩
  · by_cases hj : j = i
    · subst hj
      rw [List.getElem?_set_self (by rw [e.len]; exact hi), List.getElem?_set_self hi]
      exact ⟨p, vs, by unfold atad; rw [if_pos rfl], rfl, hp', hf.sub le⟩
    · rw [List.getElem?_set_ne (Ne.symm hj), List.getElem?_set_ne (Ne.symm hj)]
      have q : SlotOk K mg (fun a => OO O ad a ∨ a = p) sr H σ[j]? (ad j) ρ[j]? := by
        have := e.at_ j
        revert this
        generalize ρ[j]? = s
        generalize σ[j]? = v
        generalize ad j = a
        intro h
        match s, h with
        | none, h => exact h
        | some .u, h => exact h
        | some (.d x), ⟨h1, w, h2, h3⟩ => exact ⟨h1, w, h2, h3.fresh hp⟩
        | some (.l xs), ⟨p, vs, h1, h2, h3, h4⟩ => exact ⟨p, vs, h1, h2, h3, h4.fresh hp⟩
        | some (.w d), ⟨p, u, h1, h2, h3, h4⟩ => exact ⟨p, u, h1, h2, h3, h4.fresh hp⟩
        | some (.ob p c ns ds), ⟨C, dx, fs, h1, h2, h3, h4, h5, h6⟩ => exact ⟨C, dx, fs, h1, h2, h3, h4, h5, h6.fresh hp⟩
        | some .src, h => exact h
      have q2 := q.ext x (fun S h => .inl (.inl (e.sO S h))) (fun p h z => e.dis j p h (e.sO p z))
      unfold atad
      rw [if_neg hj]
      exact q2.sub le
  · rcases atad_some h1 with ⟨a1, b1⟩ | ⟨a1, b1⟩
    · rcases atad_some h2 with ⟨a2, b2⟩ | ⟨a2, b2⟩
      · rw [a1, a2]
      · exact absurd b1 (nn k q b2)
    · rcases atad_some h2 with ⟨a2, b2⟩ | ⟨a2, b2⟩
      · exact absurd b2 (nn j q b1)
      · exact e.inj j k q b1 b2
  · rcases atad_some h with ⟨a1, b1⟩ | ⟨a1, b1⟩
    · rw [b1]
      cases z : H0 p with
      | none => rfl
      | some o =>
        by_cases hs : sr = some p
        · obtain ⟨u, v, w⟩ := e.srs p hs
          rw [hp] at w; cases w
        · rw [e.ext p o z hs] at hp; cases hp
    · exact e.frs j q b1
  · rcases atad_some h with ⟨a1, b1⟩ | ⟨a1, b1⟩
    · rw [b1, hp']; trivial
    · exact e'.mu j q b1
  · rcases atad_some h with ⟨a1, b1⟩ | ⟨a1, b1⟩
    · rw [b1]; intro z; have := e.dom p z; rw [hp] at this; exact this
    · exact e.dis j q b1
/-- the slot's own list is written -/
theorem Env.write (e : Env K mg sr O H0 H σ ρ ad) {i : Nat} {xs ys : List D} (hi : ρ[i]? = some (.l xs)) {p : Addr} {vs ws : List V} (hp : ad i = some p) (h : Reps K mg (OO O ad) H ws ys) :
    Env K mg sr O H0 (upd H p (.lst ws)) σ (ρ.set i (.l ys)) ad := by
  have m := e.mu i p hp
  obtain ⟨u, hu⟩ := mut_some m
  have op : OO O ad p := .inr ⟨i, hp⟩
  rw [hu] at m
  have hl : i < ρ.length := (List.getElem?_eq_some_iff.mp hi).1
  have ei := e.at_ i
  rw [hi] at ei
  obtain ⟨p', vs', h1, h2, h3, h4⟩ := ei
  have epp : p' = p := Option.some.inj (h1.symm.trans hp)
  subst epp
  refine ⟨by simp [e.len], fun j => ?_, e.inj, e.frs, fun j q hq => ?_, fun S hS => ?_, fun q hq => ?_, e.dis, fun a o ha n => ?_⟩
  · by_cases hj : j = i
    · subst hj
      rw [List.getElem?_set_self hl]
      exact ⟨p', ws, hp, h2, upd_same, h.upd op hu m⟩
    · rw [List.getElem?_set_ne (Ne.symm hj)]
      have q := e.at_ j
      have nad : ∀ q, ad j = some q → q ≠ p' := fun q hq z => hj (e.inj j i p' (by rw [← z]; exact hq) hp)
      revert q nad
      generalize ρ[j]? = s
      generalize σ[j]? = v
      generalize ad j = a
      intro h nad
      match s, h with
      | none, h => exact h
      | some .u, h => exact h
      | some (.d x), ⟨h1, w, h2, h3⟩ => exact ⟨h1, w, h2, h3.upd op hu m⟩
      | some (.l xs), ⟨p, vs, h1, h2, h3, h4⟩ => exact ⟨p, vs, h1, h2, by rw [upd_ne (nad p h1)]; exact h3, h4.upd op hu m⟩
      | some (.w d), ⟨p, u, h1, h2, h3, h4⟩ => exact ⟨p, u, h1, h2, by rw [upd_ne (nad p h1)]; exact h3, h4.upd op hu m⟩
      | some (.ob p c ns ds), ⟨C, dx, fs, h1, h2, h3, h4, h5, h6⟩ => exact ⟨C, dx, fs, h1, h2, by rw [upd_ne (nad p h1)]; exact h3, h4, h5, h6.upd op hu m⟩
      | some .src, h => exact h
  · by_cases hqp : q = p'
    · rw [hqp, upd_same]; trivial
    · rw [upd_ne hqp]; exact e.mu j q hq
  · refine ⟨e.sO S hS, ?_⟩
    obtain ⟨a, b, z⟩ := e.srs S hS
    have : S ≠ p' := fun z => e.dis i p' hp (by rw [← z]; exact e.sO S hS)
    exact ⟨a, b, by rw [upd_ne this]; exact z⟩
  · have : q ≠ p' := fun z => e.dis i p' hp (by rw [← z]; exact hq)
    rw [upd_ne this]; exact e.dom q hq
  · have : a ≠ p' := fun z => by rw [z, e.frs i p' hp] at ha; cases ha
    rw [upd_ne this]; exact e.ext a o ha n
end
end Wk

namespace Wk
open PySem PySem.Spec PyProof.Rows L2

/-! ### what is computed: monotone wishes -/
structure Wp (α : Type) where
  run : (α → Prop) → Prop
  mono : ∀ {P Q : α → Prop}, (∀ x, P x → Q x) → run P → run Q
namespace Wp
variable {α β : Type}
def pure (x : α) : Wp α := ⟨fun P => P x, fun h p => h _ p⟩
def bind (w : Wp α) (f : α → Wp β) : Wp β := ⟨fun P => w.run fun x => (f x).run P, fun h p => w.mono (fun x q => (f x).mono h q) p⟩
def guard (C : Prop) (x : α) : Wp α := ⟨fun P => C ∧ P x, fun h p => ⟨p.1, h _ p.2⟩⟩
def ofO (m : Option α) : Wp α := ⟨fun P => ∃ x, m = some x ∧ P x, fun h ⟨x, e, p⟩ => ⟨x, e, h x p⟩⟩
def ite (b : Bool) (u v : Wp α) : Wp α := ⟨fun P => if b = true then u.run P else v.run P, fun h p => by
  cases b with
  | true => exact u.mono h p
  | false => exact v.mono h p⟩
/-- v is a better wish than u -/
def Le (u v : Wp α) : Prop := ∀ P, u.run P → v.run P
theorem Le.refl (u : Wp α) : Le u u := fun _ h => h
theorem Le.trans {u v w : Wp α} (a : Le u v) (b : Le v w) : Le u w := fun P h => b P (a P h)
theorem Le.bind {u u' : Wp α} {f f' : α → Wp β} (a : Le u u') (b : ∀ x, Le (f x) (f' x)) : Le (u.bind f) (u'.bind f') := fun P h => a _ (u.mono (fun x q => b x P q) h)
theorem ofO_bind {m : Option α} {f : α → Option β} : Le (ofO (m.bind f)) ((ofO m).bind fun x => ofO (f x)) := fun P ⟨y, e, p⟩ => by
  cases m with
  | none => cases e
  | some x => exact ⟨x, rfl, y, e, p⟩
theorem ofO_pure {x : α} : Le (ofO (some x)) (pure x) := fun P ⟨y, e, p⟩ => by cases e; exact p
theorem ofO_guard {C : Prop} [Decidable C] {x : α} : Le (ofO (if C then some x else none)) (guard C x) := fun P ⟨y, e, p⟩ => by
  split at e
  · cases e; exact ⟨by assumption, p⟩
  · cases e
end Wp

/-! ### draws -/
inductive G (α : Type) where
  | ret (x : α)
  | fail
  | draw (many : Int) (k : Int → G α)
namespace G
variable {α β : Type}
def bind : G α → (α → G β) → G β
  | ret x, f => f x
  | fail, _ => fail
  | draw n k, f => draw n fun r => (k r).bind f
def wp : G α → (α → Prop) → Prop
  | ret x, P => P x
  | fail, _ => False
  | draw n k, P => 0 < n ∧ ∀ r, 0 ≤ r → r < n → (k r).wp P
theorem wp_mono {P Q : α → Prop} (h : ∀ x, P x → Q x) : ∀ g : G α, g.wp P → g.wp Q
  | ret x, p => h x p
  | fail, p => p
  | draw n k, p => ⟨p.1, fun r h1 h2 => wp_mono h (k r) (p.2 r h1 h2)⟩
theorem wp_bind {f : α → G β} {P : β → Prop} : ∀ g : G α, (g.bind f).wp P ↔ g.wp fun x => (f x).wp P
  | ret x => Iff.rfl
  | fail => Iff.rfl
  | draw n k => ⟨fun h => ⟨h.1, fun r h1 h2 => (wp_bind (k r)).mp (h.2 r h1 h2)⟩, fun h => ⟨h.1, fun r h1 h2 => (wp_bind (k r)).mpr (h.2 r h1 h2)⟩⟩
def ofO : Option α → G α
  | some x => ret x
  | none => fail
def pick (n : Int) : G Int := draw n ret
end G
def Wp.ofG {α : Type} (g : G α) : Wp α := ⟨g.wp, fun h p => G.wp_mono h g p⟩
namespace Wp
variable {α β : Type}
theorem ofG_bind {g : G α} {f : α → G β} : Le (ofG (g.bind f)) ((ofG g).bind fun x => ofG (f x)) := fun P h => (G.wp_bind g).mp h
theorem ofG_ret {x : α} : Le (ofG (G.ret x)) (pure x) := fun P h => h
theorem ofG_ofO {m : Option α} : Le (ofG (G.ofO m)) (ofO m) := fun P h => by
  cases m with
  | none => exact h.elim
  | some x => exact ⟨x, rfl, h⟩
end Wp

/-! ### the canonical readings -/
section
variable {α β γ : Type}
def tE (K : PySem.W.Frag) (mg : Str → Option Value) (M : Bool) (ρ : List Slot) (E : α → D) (w : Wp α) : TE := fun σ H Q =>
  ∃ sr O H0 ad, Env K mg sr O H0 H σ ρ ad ∧ w.run fun x => ∀ v H', Ext sr H H' → Rep K mg (OM M O ad) H' v (E x) → Q v H'
/-- a new list -/
def tL (K : PySem.W.Frag) (mg : Str → Option Value) (M : Bool) (ρ : List Slot) (E : α → D) (w : Wp (List α)) : TE := fun σ H Q =>
  ∃ sr O H0 ad, Env K mg sr O H0 H σ ρ ad ∧ w.run fun xs => ∀ p vs H', H p = none → Ext sr H H' → H' p = some (.lst vs) → Reps K mg (fun a => OM M O ad a ∨ a = p) H' vs (xs.map E) → Q (.ref p) H'
def tA (K : PySem.W.Frag) (mg : Str → Option Value) (M : Bool) (ρ : List Slot) (w : Wp (List D)) : TA := fun σ H Q =>
  ∃ sr O H0 ad, Env K mg sr O H0 H σ ρ ad ∧ w.run fun ds => ∀ vs H', Ext sr H H' → Reps K mg (OM M O ad) H' vs ds → Q vs H'
def tT (K : PySem.W.Frag) (mg : Str → Option Value) (ρ : List Slot) (w : Wp Bool) : TT := fun σ H Q =>
  ∃ sr O H0 ad, Env K mg sr O H0 H σ ρ ad ∧ w.run fun b => ∀ H', Ext sr H H' → Q b H'

structure BE (X : Cx) (M : Bool) (e : Expr) (ρ : List Slot) (E : α → D) (w : Wp α) : Prop where
  pe : PE X e (tE X.K X.mg M ρ E w)
structure BL (X : Cx) (M : Bool) (e : Expr) (ρ : List Slot) (E : α → D) (w : Wp (List α)) : Prop where
  pe : PE X e (tL X.K X.mg M ρ E w)
structure BA (X : Cx) (M : Bool) (es : List Expr) (ρ : List Slot) (w : Wp (List D)) : Prop where
  pa : PA X es (tA X.K X.mg M ρ w)
structure BT (X : Cx) (e : Expr) (ρ : List Slot) (w : Wp Bool) : Prop where
  pt : PT X e (tT X.K X.mg ρ w)
structure BW (X : Cx) (e : Expr) (ρ : List Slot) (w : Wp Bool) : Prop where
  pw : PW X e (tT X.K X.mg ρ w)

theorem pe_weak {X : Cx} {e : Expr} {t t' : TE} (h : PE X e t) (k : ∀ σ H Q, t' σ H Q → t σ H Q) : PE X e t' := ⟨fun pins s σ H Q I hw => h.run pins s σ H Q I (k σ H Q hw)⟩
theorem pa_weak {X : Cx} {e : List Expr} {t t' : TA} (h : PA X e t) (k : ∀ σ H Q, t' σ H Q → t σ H Q) : PA X e t' := ⟨fun po pins s σ H Q I hw => h.run po pins s σ H Q I (k σ H Q hw)⟩
theorem pt_weak {X : Cx} {e : Expr} {t t' : TT} (h : PT X e t) (k : ∀ σ H Q, t' σ H Q → t σ H Q) : PT X e t' := ⟨fun pins s σ H Q I hw => h.run pins s σ H Q I (k σ H Q hw)⟩
theorem pw_weak {X : Cx} {e : Expr} {t t' : TT} (h : PW X e t) (k : ∀ σ H Q, t' σ H Q → t σ H Q) : PW X e t' := ⟨fun wh pins s σ H Q I hw => h.run wh pins s σ H Q I (k σ H Q hw)⟩
variable {X : Cx} {M : Bool} {e a b c : Expr} {es : List Expr} {ρ : List Slot} {E : α → D} {F : β → D} {w w' : Wp α} {pos : Pos}
theorem BE.conv (h : BE X M e ρ E w) (k : Wp.Le w' w) : BE X M e ρ E w' := ⟨pe_weak h.pe fun σ H Q ⟨sr, O, H0, ad, he, hw⟩ => ⟨sr, O, H0, ad, he, k _ hw⟩⟩
theorem BL.conv {w w' : Wp (List α)} (h : BL X M e ρ E w) (k : Wp.Le w' w) : BL X M e ρ E w' := ⟨pe_weak h.pe fun σ H Q ⟨sr, O, H0, ad, he, hw⟩ => ⟨sr, O, H0, ad, he, k _ hw⟩⟩
theorem BA.conv {w w' : Wp (List D)} (h : BA X M es ρ w) (k : Wp.Le w' w) : BA X M es ρ w' := ⟨pa_weak h.pa fun σ H Q ⟨sr, O, H0, ad, he, hw⟩ => ⟨sr, O, H0, ad, he, k _ hw⟩⟩
theorem BT.conv {w w' : Wp Bool} (h : BT X e ρ w) (k : Wp.Le w' w) : BT X e ρ w' := ⟨pt_weak h.pt fun σ H Q ⟨sr, O, H0, ad, he, hw⟩ => ⟨sr, O, H0, ad, he, k _ hw⟩⟩
theorem BW.conv {w w' : Wp Bool} (h : BW X e ρ w) (k : Wp.Le w' w) : BW X e ρ w' := ⟨pw_weak h.pw fun σ H Q ⟨sr, O, H0, ad, he, hw⟩ => ⟨sr, O, H0, ad, he, k _ hw⟩⟩

/-! ### encoders -/
def eI : Int → D := .i
def eB : Bool → D := .b
def eS : Str → D := .s
def eN : Unit → D := fun _ => .n
/-- a list or a tuple of items of one kind -/
inductive Kd where
  | l
  | t
def eQ : Kd → (α → D) → List α → D
  | .l, E, xs => .l (xs.map E)
  | .t, E, xs => .t (xs.map E)
abbrev eT (E : α → D) : List α → D := eQ .t E
abbrev eL (E : α → D) : List α → D := eQ .l E
def eP (E : α → D) (F : β → D) : α × β → D := fun p => .t [E p.1, F p.2]
def eO (E : α → D) : Option α → D
  | none => .n
  | some x => E x
def eD : D → D := id

/-- data in which nothing can change -/
inductive PureD : D → Prop
  | n : PureD .n
  | b (x) : PureD (.b x)
  | i (x) : PureD (.i x)
  | s (x) : PureD (.s x)
  | t {xs} : (∀ x ∈ xs, PureD x) → PureD (.t xs)
mutual
theorem Rep.pure {K : PySem.W.Frag} {mg : Str → Option Value} {O O' : Addr → Prop} {H : Hp} : ∀ (d : D) (v : V), PureD d → Rep K mg O H v d → Rep K mg O' H v d
  | .n, _, _, h => by cases h; exact .n
  | .b x, _, _, h => by cases h; exact .b x
  | .i x, _, _, h => by cases h; exact .i x
  | .s x, _, _, h => by cases h; exact .s x
  | .t ds, _, p, h => by
    cases h with
    | t h1 h2 =>
      cases p with
      | t p => exact .t h1 (Reps.pure ds _ p h2)
  | .l ds, _, p, _ => by cases p
  | .o _ _ ds, _, p, _ => by cases p
  | .d _ ds, _, p, _ => by cases p
  | .e _ ds, _, p, _ => by cases p
theorem Reps.pure {K : PySem.W.Frag} {mg : Str → Option Value} {O O' : Addr → Prop} {H : Hp} : ∀ (ds : List D) (vs : List V), (∀ x ∈ ds, PureD x) → Reps K mg O H vs ds → Reps K mg O' H vs ds
  | [], _, _, h => by cases h; exact .nil
  | d :: ds, _, p, h => by
    cases h with
    | cons h1 h2 => exact .cons (Rep.pure d _ (p d List.mem_cons_self) h1) (Reps.pure ds _ (fun x hx => p x (List.mem_cons_of_mem _ hx)) h2)
end
def PureE (E : α → D) : Prop := ∀ x, PureD (E x)
theorem pure_I : PureE eI := fun x => .i x
theorem pure_B : PureE eB := fun x => .b x
theorem pure_S : PureE eS := fun x => .s x
theorem pure_N : PureE eN := fun _ => .n
theorem pure_T (h : PureE E) : PureE (eT E) := fun xs => .t fun x hx => by
  obtain ⟨y, _, e⟩ := List.mem_map.mp hx
  rw [← e]; exact h y
theorem pure_P (h : PureE E) (h' : PureE F) : PureE (eP E F) := fun p => .t fun x hx => by
  rcases List.mem_cons.mp hx with e | hx
  · rw [e]; exact h _
  · rcases List.mem_cons.mp hx with e | hx
    · rw [e]; exact h' _
    · cases hx
theorem pure_O (h : PureE E) : PureE (eO E) := fun x => by
  cases x with
  | none => exact .n
  | some x => exact h x

theorem BE.up (h : BE X false e ρ E w) (hp : PureE E) : BE X M e ρ E w := ⟨pe_weak h.pe fun σ H Q ⟨sr, O, H0, ad, he, hw⟩ =>
  ⟨sr, O, H0, ad, he, w.mono (fun x q v H' x1 r => q v H' x1 (r.pure _ _ (hp x))) hw⟩⟩
/-- data that may be kept serves for the moment -/
theorem BE.down (h : BE X true e ρ E w) : BE X M e ρ E w := ⟨pe_weak h.pe fun σ H Q ⟨sr, O, H0, ad, he, hw⟩ =>
  ⟨sr, O, H0, ad, he, w.mono (fun x q v H' x1 r => q v H' x1 (r.sub OM.le)) hw⟩⟩
/-- a new list as data -/
theorem BL.be {w : Wp (List α)} (h : BL X M e ρ E w) : BE X M e ρ (eL E) w := ⟨pe_weak h.pe fun σ H Q ⟨sr, O, H0, ad, he, hw⟩ =>
  ⟨sr, O, H0, ad, he, w.mono (fun xs q p vs H' hp x1 hp' r => q (.ref p) H' x1 (.l hp' (he.freshM hp M) (r.sub fun a h => .inl h))) hw⟩⟩

/-! ### names, constants -/
theorem BE.var (i : Nat) {n : Str} {x : α} (h : ρ[i]? = some (.d (E x))) (hN : X.N[i]? = some n := by rfl) (hv : Vis X.env.scope n := by first | exact Or.inl rfl | exact Or.inr (Or.inl rfl) | exact Or.inr (Or.inr rfl)) (hd : (n == ("__debug__" : Str)) = false := by decide) (hcd : (n == ("__classdict__" : Str)) = false := by decide) :
    BE X M (.Name n pos) ρ E (.pure x) := ⟨pe_weak (pv i hN hv hd hcd) fun σ H Q ⟨sr, O, H0, ad, he, hw⟩ => by
  have := he.at_ i
  rw [h] at this
  obtain ⟨_, v, e, r⟩ := this
  exact ⟨v, e, hw v H (Ext.refl he.srs) (r.sub OM.le)⟩⟩
theorem BE.varL (i : Nat) {n : Str} {xs : List α} (h : ρ[i]? = some (.l (xs.map E))) (hN : X.N[i]? = some n := by rfl) (hv : Vis X.env.scope n := by first | exact Or.inl rfl | exact Or.inr (Or.inl rfl) | exact Or.inr (Or.inr rfl)) (hd : (n == ("__debug__" : Str)) = false := by decide) (hcd : (n == ("__classdict__" : Str)) = false := by decide) :
    BE X false (.Name n pos) ρ (eL E) (.pure xs) := ⟨pe_weak (pv i hN hv hd hcd) fun σ H Q ⟨sr, O, H0, ad, he, hw⟩ => by
  have := he.at_ i
  rw [h] at this
  obtain ⟨p, vs, e, e2, e3, r⟩ := this
  exact ⟨.ref p, e2, hw _ H (Ext.refl he.srs) (.l e3 (he.dis i p e) (r.sub fun a h => .inl h))⟩⟩
theorem BE.int {i : Int} {j} : BE X M (.Constant (.int i) j pos) ρ eI (.pure i) := ⟨pe_weak pe_int fun σ H Q ⟨sr, O, H0, ad, he, hw⟩ => hw _ H (Ext.refl he.srs) (.i i)⟩
theorem BE.bl {i : Bool} {j} : BE X M (.Constant (.bool i) j pos) ρ eB (.pure i) := ⟨pe_weak pe_bl fun σ H Q ⟨sr, O, H0, ad, he, hw⟩ => hw _ H (Ext.refl he.srs) (.b i)⟩
theorem BE.str {i : Str} {j} : BE X M (.Constant (.str i) j pos) ρ eS (.pure i) := ⟨pe_weak pe_str fun σ H Q ⟨sr, O, H0, ad, he, hw⟩ => hw _ H (Ext.refl he.srs) (.s i)⟩
theorem BE.non {j} : BE X M (.Constant .none j pos) ρ eN (.pure ()) := ⟨pe_weak pe_non fun σ H Q ⟨sr, O, H0, ad, he, hw⟩ => hw _ H (Ext.refl he.srs) .n⟩
/-- the encoder changed -/
theorem BE.enc {f : α → β} (h : BE X M e ρ E w) (k : ∀ x, E x = F (f x)) : BE X M e ρ F (w.bind fun x => .pure (f x)) := ⟨pe_weak h.pe fun σ H Q ⟨sr, O, H0, ad, he, hw⟩ =>
  ⟨sr, O, H0, ad, he, w.mono (fun x q v H' x1 r => q v H' x1 (by rw [← k]; exact r)) hw⟩⟩

/-! ### operators -/
section
variable {wa wb : Wp Int}
theorem BE.opI {op : Operator} {C : Int → Int → Prop} {g : Int → Int → Int} (ho : OpR X (binaryOp op) (rI C fun i j => .int (g i j))) (ha : BE X false a ρ eI wa) (hb : BE X false b ρ eI wb) :
    BE X M (.BinOp a op b pos) ρ eI (wa.bind fun x => wb.bind fun y => .guard (C x y) (g x y)) := ⟨pe_weak (pe_op ho ha.pe hb.pe) fun σ H Q ⟨sr, O, H0, ad, he, hw⟩ =>
  ⟨sr, O, H0, ad, he, wa.mono (fun x q v H1 x1 r => ⟨sr, O, H0, ad, he.ext' x1, wb.mono (fun y q2 v2 H2 x2 r2 => by
    cases r; cases r2
    exact ⟨x, y, rfl, rfl, q2.1, q2.2 _ H2 (x1.trans x2) (.i _)⟩) q⟩) hw⟩⟩
theorem BE.opI0 {op : Operator} {g : Int → Int → Int} (ho : OpR X (binaryOp op) (rI0 fun i j => .int (g i j))) (ha : BE X false a ρ eI wa) (hb : BE X false b ρ eI wb) :
    BE X M (.BinOp a op b pos) ρ eI (wa.bind fun x => wb.bind fun y => .pure (g x y)) := ⟨pe_weak (pe_op ho ha.pe hb.pe) fun σ H Q ⟨sr, O, H0, ad, he, hw⟩ =>
  ⟨sr, O, H0, ad, he, wa.mono (fun x q v H1 x1 r => ⟨sr, O, H0, ad, he.ext' x1, wb.mono (fun y q2 v2 H2 x2 r2 => by
    cases r; cases r2
    exact ⟨x, y, rfl, rfl, q2 _ H2 (x1.trans x2) (.i _)⟩) q⟩) hw⟩⟩
theorem BE.neg (ha : BE X false a ρ eI wa) : BE X M (.UnaryOp .USub a pos) ρ eI (wa.bind fun x => .pure (-x)) := ⟨pe_weak (pe_un un_neg ha.pe) fun σ H Q ⟨sr, O, H0, ad, he, hw⟩ =>
  ⟨sr, O, H0, ad, he, wa.mono (fun x q v H1 x1 r => by
    cases r
    exact ⟨x, rfl, q _ H1 x1 (.i _)⟩) hw⟩⟩
/-- a comparison of ints -/
theorem BE.cmpI {op : CmpOp} {g : Int → Int → Bool} (ho : OpR X (compareOp op) (rI0 fun i j => .bl (g i j))) (ha : BE X false a ρ eI wa) (hb : BE X false b ρ eI wb) (hm : behindInMarks op b = false) :
    BE X M (.Compare a [op] [b] pos) ρ eB (wa.bind fun x => wb.bind fun y => .pure (g x y)) := ⟨pe_weak (pe_cmpR ho ha.pe hb.pe hm) fun σ H Q ⟨sr, O, H0, ad, he, hw⟩ =>
  ⟨sr, O, H0, ad, he, wa.mono (fun x q v H1 x1 r => ⟨sr, O, H0, ad, he.ext' x1, wb.mono (fun y q2 v2 H2 x2 r2 => by
    cases r; cases r2
    exact ⟨x, y, rfl, rfl, q2 _ H2 (x1.trans x2) (.b _)⟩) q⟩) hw⟩⟩
theorem BT.cmpI {op : CmpOp} {g : Int → Int → Bool} (ho : OpR X (compareOp op) (rI0 fun i j => .bl (g i j))) (ha : BE X false a ρ eI wa) (hb : BE X false b ρ eI wb) (hm : behindInMarks op b = false) :
    BT X (.Compare a [op] [b] pos) ρ (wa.bind fun x => wb.bind fun y => .pure (g x y)) := ⟨pt_weak (pt_cmpR ho ha.pe hb.pe hm) fun σ H Q ⟨sr, O, H0, ad, he, hw⟩ =>
  ⟨sr, O, H0, ad, he, wa.mono (fun x q v H1 x1 r => ⟨sr, O, H0, ad, he.ext' x1, wb.mono (fun y q2 v2 H2 x2 r2 => by
    cases r; cases r2
    exact ⟨x, y, rfl, rfl, _, rfl, q2 H2 (x1.trans x2)⟩) q⟩) hw⟩⟩
theorem op_eqI : OpR X (compareOp .Eq) (rI0 fun i j => .bl (decide (i = j))) := fun pins s σ H x y v u Q I rx ry h => by
  obtain ⟨i, j, rfl, rfl, q⟩ := h
  refine op_eq pins s σ H _ _ v u Q I rx ry ⟨rfl, ?_⟩
  rw [dec_int, Bool.beq_eq_decide_eq]; exact q
theorem op_neI : OpR X (compareOp .NotEq) (rI0 fun i j => .bl (!decide (i = j))) := fun pins s σ H x y v u Q I rx ry h => by
  obtain ⟨i, j, rfl, rfl, q⟩ := h
  refine op_ne pins s σ H _ _ v u Q I rx ry ⟨rfl, ?_⟩
  rw [dec_int, Bool.beq_eq_decide_eq]; exact q
end

/-! ### tests -/
theorem BT.val (h : BE X false e ρ eB w₁) (he : ∀ whole, isTrue e X.env whole = (do let v ← whole; standAt e.pos; holding [v] (truthy v)) := by intro _; rfl) : BT X e ρ w₁ := ⟨pt_weak (pt_val h.pe he) fun σ H Q ⟨sr, O, H0, ad, he, hw⟩ =>
  ⟨sr, O, H0, ad, he, w₁.mono (fun x q v H1 x1 r => by
    cases r
    exact ⟨x, rfl, q H1 x1⟩) hw⟩⟩
theorem BT.of_cmp {w : Wp Bool} (h : PT X e (tTest t)) (k : ∀ σ H Q, tT X.K X.mg ρ w σ H Q → tTest t σ H Q) : BT X e ρ w := ⟨pt_weak h k⟩
theorem BW.bt {w : Wp Bool} (h : BW X e ρ w) : BT X e ρ w := ⟨h.pw.pt⟩
variable {wa wb : Wp Bool} {rest : List Expr}
theorem BT.not (h : BT X a ρ wa) : BT X (.UnaryOp .Not a pos) ρ (wa.bind fun x => .pure (!x)) := ⟨pt_weak (pt_not h.pt) fun σ H Q ⟨sr, O, H0, ad, he, hw⟩ =>
  ⟨sr, O, H0, ad, he, wa.mono (fun x q H1 x1 => q H1 x1) hw⟩⟩
theorem BW.and1 (h : BT X a ρ wa) : BW X (.BoolOp .And [a] pos) ρ wa := ⟨pw_and1 h.pt⟩
theorem BW.or1 (h : BT X a ρ wa) : BW X (.BoolOp .Or [a] pos) ρ wa := ⟨pw_or1 h.pt⟩
theorem BW.and (ha : BT X a ρ wa) (hb : BW X (.BoolOp .And (b :: rest) pos) ρ wb) : BW X (.BoolOp .And (a :: b :: rest) pos) ρ (wa.bind fun x => .ite x wb (.pure false)) :=
  ⟨pw_weak (pw_and ha.pt hb.pw) fun σ H Q ⟨sr, O, H0, ad, he, hw⟩ => ⟨sr, O, H0, ad, he, wa.mono (fun x q H1 x1 => by
    cases x with
    | true => exact ⟨sr, O, H0, ad, he.ext' x1, wb.mono (fun y q2 H2 x2 => q2 H2 (x1.trans x2)) q⟩
    | false => exact q H1 x1) hw⟩⟩
theorem BW.or (ha : BT X a ρ wa) (hb : BW X (.BoolOp .Or (b :: rest) pos) ρ wb) : BW X (.BoolOp .Or (a :: b :: rest) pos) ρ (wa.bind fun x => .ite x (.pure true) wb) :=
  ⟨pw_weak (pw_or ha.pt hb.pw) fun σ H Q ⟨sr, O, H0, ad, he, hw⟩ => ⟨sr, O, H0, ad, he, wa.mono (fun x q H1 x1 => by
    cases x with
    | false => exact ⟨sr, O, H0, ad, he.ext' x1, wb.mono (fun y q2 H2 x2 => q2 H2 (x1.trans x2)) q⟩
    | true => exact q H1 x1) hw⟩⟩
theorem BE.not (h : BE X false a ρ eB wa) : BE X M (.UnaryOp .Not a pos) ρ eB (wa.bind fun x => .pure (!x)) := ⟨pe_weak (pe_not h.pe) fun σ H Q ⟨sr, O, H0, ad, he, hw⟩ =>
  ⟨sr, O, H0, ad, he, wa.mono (fun x q v H1 x1 r => by
    cases r
    exact ⟨x, rfl, q _ H1 x1 (.b _)⟩) hw⟩⟩
theorem BE.and1 (h : BE X M a ρ eB wa) : BE X M (.BoolOp .And [a] pos) ρ eB wa := ⟨pe_one h.pe⟩
theorem BE.or1 (h : BE X M a ρ eB wa) : BE X M (.BoolOp .Or [a] pos) ρ eB wa := ⟨pe_one h.pe⟩
theorem BE.and (ha : BE X false a ρ eB wa) (hb : BE X false (.BoolOp .And (b :: rest) pos) ρ eB wb) : BE X M (.BoolOp .And (a :: b :: rest) pos) ρ eB (wa.bind fun x => .ite x wb (.pure false)) :=
  ⟨pe_weak (pe_and ha.pe hb.pe) fun σ H Q ⟨sr, O, H0, ad, he, hw⟩ => ⟨sr, O, H0, ad, he, wa.mono (fun x q v H1 x1 r => by
    cases r
    refine ⟨x, rfl, ?_⟩
    cases x with
    | true => exact ⟨sr, O, H0, ad, he.ext' x1, wb.mono (fun y q2 v H2 x2 r2 => q2 v H2 (x1.trans x2) (r2.pure _ _ (.b _))) q⟩
    | false => exact q _ H1 x1 (.b _)) hw⟩⟩
theorem BE.or (ha : BE X false a ρ eB wa) (hb : BE X false (.BoolOp .Or (b :: rest) pos) ρ eB wb) : BE X M (.BoolOp .Or (a :: b :: rest) pos) ρ eB (wa.bind fun x => .ite x (.pure true) wb) :=
  ⟨pe_weak (pe_or ha.pe hb.pe) fun σ H Q ⟨sr, O, H0, ad, he, hw⟩ => ⟨sr, O, H0, ad, he, wa.mono (fun x q v H1 x1 r => by
    cases r
    refine ⟨x, rfl, ?_⟩
    cases x with
    | false => exact ⟨sr, O, H0, ad, he.ext' x1, wb.mono (fun y q2 v H2 x2 r2 => q2 v H2 (x1.trans x2) (r2.pure _ _ (.b _))) q⟩
    | true => exact q _ H1 x1 (.b _)) hw⟩⟩
theorem BE.ifExp {w1 w2 : Wp α} (hc : BT X c ρ wa) (h1 : BE X M a ρ E w1) (h2 : BE X M b ρ E w2) : BE X M (.IfExp c a b pos) ρ E (wa.bind fun x => .ite x w1 w2) :=
  ⟨pe_weak (pe_ifExp hc.pt h1.pe h2.pe) fun σ H Q ⟨sr, O, H0, ad, he, hw⟩ => ⟨sr, O, H0, ad, he, wa.mono (fun x q H1 x1 => by
    cases x with
    | true => exact ⟨sr, O, H0, ad, he.ext' x1, w1.mono (fun y q2 v H2 x2 r2 => q2 v H2 (x1.trans x2) r2) q⟩
    | false => exact ⟨sr, O, H0, ad, he.ext' x1, w2.mono (fun y q2 v H2 x2 r2 => q2 v H2 (x1.trans x2) r2) q⟩) hw⟩⟩
end
end Wk

namespace Wk
open PySem PySem.Spec PyProof.Rows L2

/-! ### the monads of the mirrors: Option, and draws -/
class Mn (m : Type → Type) where
  pure : {α : Type} → α → m α
  bind : {α β : Type} → m α → (α → m β) → m β
  lift : {α : Type} → Option α → m α
  wp : {α : Type} → m α → Wp α
  pure_le : ∀ {α : Type} (x : α), Wp.Le (wp (pure x)) (Wp.pure x)
  bind_le : ∀ {α β : Type} (a : m α) (f : α → m β), Wp.Le (wp (bind a f)) ((wp a).bind fun x => wp (f x))
  lift_le : ∀ {α : Type} (o : Option α), Wp.Le (wp (lift o)) (Wp.ofO o)
  pure_ge : ∀ {α : Type} (x : α), Wp.Le (Wp.pure x) (wp (pure x))
  bind_ge : ∀ {α β : Type} (a : m α) (f : α → m β), Wp.Le ((wp a).bind fun x => wp (f x)) (wp (bind a f))
instance : Mn Option where
  pure := some
  bind := Option.bind
  lift := id
  wp := Wp.ofO
  pure_le := fun _ => Wp.ofO_pure
  bind_le := fun _ _ => Wp.ofO_bind
  lift_le := fun _ => Wp.Le.refl _
  pure_ge := fun x P h => ⟨x, rfl, h⟩
  bind_ge := fun a f P ⟨x, e, y, e2, h⟩ => ⟨y, by rw [e]; exact e2, h⟩
instance : Mn G where
  pure := G.ret
  bind := G.bind
  lift := G.ofO
  wp := Wp.ofG
  pure_le := fun _ => Wp.ofG_ret
  bind_le := fun _ _ => Wp.ofG_bind
  lift_le := fun _ => Wp.ofG_ofO
  pure_ge := fun x P h => h
  bind_ge := fun a f P h => (G.wp_bind a).mpr h
section
variable {m : Type → Type} [Mn m] {α β γ δ : Type}
abbrev rt (x : α) : m α := Mn.pure x
abbrev bd (a : m α) (f : α → m β) : m β := Mn.bind a f
abbrev lf (o : Option α) : m α := Mn.lift o
theorem le1 {a : m α} {f : α → m β} {g : α → Wp β} (h : ∀ x, Wp.Le (Mn.wp (f x)) (g x)) : Wp.Le (Mn.wp (bd a f)) ((Mn.wp a).bind g) :=
  (Mn.bind_le a f).trans (Wp.Le.bind (Wp.Le.refl _) h)
theorem le2 {a : m α} {b : α → m β} {f : α → β → m γ} {g : α → β → Wp γ} (h : ∀ x y, Wp.Le (Mn.wp (f x y)) (g x y)) : Wp.Le (Mn.wp (bd a fun x => bd (b x) (f x))) ((Mn.wp a).bind fun x => (Mn.wp (b x)).bind (g x)) :=
  le1 fun x => le1 fun y => h x y
theorem lep {x : α} : Wp.Le (Mn.wp (rt (m := m) x)) (Wp.pure x) := Mn.pure_le x
theorem leg {C : Prop} [Decidable C] {x : α} : Wp.Le (Mn.wp (lf (m := m) (if C then some x else none))) (Wp.guard C x) := (Mn.lift_le _).trans Wp.ofO_guard

structure JE (X : Cx) (M : Bool) (e : Expr) (ρ : List Slot) (E : α → D) (a : m α) : Prop where
  b : BE X M e ρ E (Mn.wp a)
structure JL (X : Cx) (M : Bool) (e : Expr) (ρ : List Slot) (E : α → D) (a : m (List α)) : Prop where
  b : BL X M e ρ E (Mn.wp a)
structure JT (X : Cx) (e : Expr) (ρ : List Slot) (a : m Bool) : Prop where
  b : BT X e ρ (Mn.wp a)
structure JW (X : Cx) (e : Expr) (ρ : List Slot) (a : m Bool) : Prop where
  b : BW X e ρ (Mn.wp a)
/-- arguments of any kinds -/
structure JA (X : Cx) (M : Bool) (es : List Expr) (ρ : List Slot) (a : m (List D)) : Prop where
  b : BA X M es ρ (Mn.wp a)
/-- items of one kind -/
structure JH (X : Cx) (M : Bool) (es : List Expr) (ρ : List Slot) (E : α → D) (a : m (List α)) : Prop where
  b : BA X M es ρ ((Mn.wp a).bind fun xs => .pure (xs.map E))
  n : ∀ P, (Mn.wp a).run P → (Mn.wp a).run fun xs => P xs ∧ xs.length = es.length

variable {X : Cx} {M : Bool} {e a b c : Expr} {es : List Expr} {ρ : List Slot} {E : α → D} {F : β → D} {pos : Pos}

/-! ### names, constants -/
theorem JE.var (i : Nat) {n : Str} {x : α} (h : ρ[i]? = some (.d (E x))) (hN : X.N[i]? = some n := by rfl) (hv : Vis X.env.scope n := by first | exact Or.inl rfl | exact Or.inr (Or.inl rfl) | exact Or.inr (Or.inr rfl)) (hd : (n == ("__debug__" : Str)) = false := by decide) (hcd : (n == ("__classdict__" : Str)) = false := by decide) :
    JE X M (.Name n pos) ρ E (rt (m := m) x) := ⟨(BE.var i h hN hv hd hcd).conv lep⟩
theorem JE.varL (i : Nat) {n : Str} {xs : List α} (h : ρ[i]? = some (.l (xs.map E))) (hN : X.N[i]? = some n := by rfl) (hv : Vis X.env.scope n := by first | exact Or.inl rfl | exact Or.inr (Or.inl rfl) | exact Or.inr (Or.inr rfl)) (hd : (n == ("__debug__" : Str)) = false := by decide) (hcd : (n == ("__classdict__" : Str)) = false := by decide) :
    JE X false (.Name n pos) ρ (eL E) (rt (m := m) xs) := ⟨(BE.varL i h hN hv hd hcd).conv lep⟩
theorem JE.int {i : Int} {j} : JE X M (.Constant (.int i) j pos) ρ eI (rt (m := m) i) := ⟨BE.int.conv lep⟩
theorem JE.bl {i : Bool} {j} : JE X M (.Constant (.bool i) j pos) ρ eB (rt (m := m) i) := ⟨BE.bl.conv lep⟩
theorem JE.str {i : Str} {j} : JE X M (.Constant (.str i) j pos) ρ eS (rt (m := m) i) := ⟨BE.str.conv lep⟩
theorem JE.non {j} : JE X M (.Constant .none j pos) ρ eN (rt (m := m) ()) := ⟨BE.non.conv lep⟩
theorem JE.up {w : m α} (h : JE X false e ρ E w) (hp : PureE E) : JE X M e ρ E w := ⟨h.b.up hp⟩
theorem JE.down {w : m α} (h : JE X true e ρ E w) : JE X M e ρ E w := ⟨h.b.down⟩
theorem JL.je {w : m (List α)} (h : JL X M e ρ E w) : JE X M e ρ (eL E) w := ⟨h.b.be⟩
/-- another encoder -/
theorem JE.enc {w : m α} (f : α → β) (h : JE X M e ρ E w) (k : ∀ x, E x = F (f x)) : JE X M e ρ F (bd w fun x => rt (f x)) := ⟨(h.b.enc k).conv (le1 fun _ => lep)⟩

/-! ### operators on ints -/
def mulO (x y : Int) : Option Int := if (-(2 ^ 64) < x ∧ x < 2 ^ 64) ∨ (-(2 ^ 64) < y ∧ y < 2 ^ 64) then some (x * y) else none
def divO (x y : Int) : Option Int := if 0 < y ∧ y < 1073741824 then some (x / y) else none
def modO (x y : Int) : Option Int := if 0 < y then some (x % y) else none
def powO (x y : Int) : Option Int := if 0 ≤ y ∧ y ≤ 1000000 ∧ x.natAbs < 2 ^ 64 then some (x ^ y.toNat) else none
section
variable {wa wb : m Int}
theorem JE.add (ha : JE X false a ρ eI wa) (hb : JE X false b ρ eI wb) : JE X M (.BinOp a .Add b pos) ρ eI (bd wa fun x => bd wb fun y => rt (x + y)) := ⟨(BE.opI0 op_add ha.b hb.b).conv (le2 fun _ _ => lep)⟩
theorem JE.sub (ha : JE X false a ρ eI wa) (hb : JE X false b ρ eI wb) : JE X M (.BinOp a .Sub b pos) ρ eI (bd wa fun x => bd wb fun y => rt (x - y)) := ⟨(BE.opI0 op_sub ha.b hb.b).conv (le2 fun _ _ => lep)⟩
theorem JE.mul (ha : JE X false a ρ eI wa) (hb : JE X false b ρ eI wb) : JE X M (.BinOp a .Mult b pos) ρ eI (bd wa fun x => bd wb fun y => lf (mulO x y)) := ⟨(BE.opI op_mul ha.b hb.b).conv (le2 fun _ _ => leg)⟩
theorem JE.div (ha : JE X false a ρ eI wa) (hb : JE X false b ρ eI wb) : JE X M (.BinOp a .FloorDiv b pos) ρ eI (bd wa fun x => bd wb fun y => lf (divO x y)) := ⟨(BE.opI op_fdiv ha.b hb.b).conv (le2 fun _ _ => leg)⟩
theorem JE.mod (ha : JE X false a ρ eI wa) (hb : JE X false b ρ eI wb) : JE X M (.BinOp a .Mod b pos) ρ eI (bd wa fun x => bd wb fun y => lf (modO x y)) := ⟨(BE.opI op_mod ha.b hb.b).conv (le2 fun _ _ => leg)⟩
theorem JE.pow (ha : JE X false a ρ eI wa) (hb : JE X false b ρ eI wb) : JE X M (.BinOp a .Pow b pos) ρ eI (bd wa fun x => bd wb fun y => lf (powO x y)) := ⟨(BE.opI op_pow ha.b hb.b).conv (le2 fun _ _ => leg)⟩
/-- by a written factor, divisor -/
theorem JE.mulR {n : Int} {k p2} (hn : -(2 ^ 64) < n ∧ n < 2 ^ 64) (ha : JE X false a ρ eI wa) : JE X M (.BinOp a .Mult (.Constant (.int n) k p2) pos) ρ eI (bd wa fun x => rt (x * n)) := ⟨(BE.opI op_mul ha.b (BE.int (M := false))).conv (le1 fun x => lep.trans fun P h => ⟨.inr hn, h⟩)⟩
theorem JE.mulL {n : Int} {k p2} (hn : -(2 ^ 64) < n ∧ n < 2 ^ 64) (ha : JE X false a ρ eI wa) : JE X M (.BinOp (.Constant (.int n) k p2) .Mult a pos) ρ eI (bd wa fun x => rt (n * x)) := ⟨(BE.opI op_mul (BE.int (M := false)) ha.b).conv ((le1 fun x => lep).trans fun P h => (Mn.wp wa).mono (fun x q => ⟨.inl hn, q⟩) h)⟩
theorem JE.divR {n : Int} {k p2} (hn : 0 < n ∧ n < 1073741824) (ha : JE X false a ρ eI wa) : JE X M (.BinOp a .FloorDiv (.Constant (.int n) k p2) pos) ρ eI (bd wa fun x => rt (x / n)) := ⟨(BE.opI op_fdiv ha.b (BE.int (M := false))).conv (le1 fun x => lep.trans fun P h => ⟨hn, h⟩)⟩
theorem JE.modR {n : Int} {k p2} (hn : 0 < n) (ha : JE X false a ρ eI wa) : JE X M (.BinOp a .Mod (.Constant (.int n) k p2) pos) ρ eI (bd wa fun x => rt (x % n)) := ⟨(BE.opI op_mod ha.b (BE.int (M := false))).conv (le1 fun x => lep.trans fun P h => ⟨hn, h⟩)⟩
theorem JE.neg (ha : JE X false a ρ eI wa) : JE X M (.UnaryOp .USub a pos) ρ eI (bd wa fun x => rt (-x)) := ⟨(BE.neg ha.b).conv (le1 fun _ => lep)⟩
theorem JE.cmp {op : CmpOp} {g : Int → Int → Bool} (ho : OpR X (compareOp op) (rI0 fun i j => .bl (g i j))) (hm : behindInMarks op b = false) (ha : JE X false a ρ eI wa) (hb : JE X false b ρ eI wb) : JE X M (.Compare a [op] [b] pos) ρ eB (bd wa fun x => bd wb fun y => rt (g x y)) := ⟨(BE.cmpI ho ha.b hb.b hm).conv (le2 fun _ _ => lep)⟩
theorem JT.cmp {op : CmpOp} {g : Int → Int → Bool} (ho : OpR X (compareOp op) (rI0 fun i j => .bl (g i j))) (hm : behindInMarks op b = false) (ha : JE X false a ρ eI wa) (hb : JE X false b ρ eI wb) : JT X (.Compare a [op] [b] pos) ρ (bd wa fun x => bd wb fun y => rt (g x y)) := ⟨(BT.cmpI ho ha.b hb.b hm).conv (le2 fun _ _ => lep)⟩
theorem JE.eq (ha : JE X false a ρ eI wa) (hb : JE X false b ρ eI wb) : JE X M (.Compare a [.Eq] [b] pos) ρ eB (bd wa fun x => bd wb fun y => rt (decide (x = y))) := JE.cmp op_eqI (nomark _) ha hb
theorem JE.ne (ha : JE X false a ρ eI wa) (hb : JE X false b ρ eI wb) : JE X M (.Compare a [.NotEq] [b] pos) ρ eB (bd wa fun x => bd wb fun y => rt (!decide (x = y))) := JE.cmp op_neI (nomark _) ha hb
theorem JE.lt (ha : JE X false a ρ eI wa) (hb : JE X false b ρ eI wb) : JE X M (.Compare a [.Lt] [b] pos) ρ eB (bd wa fun x => bd wb fun y => rt (decide (x < y))) := JE.cmp op_lt (nomark _) ha hb
theorem JE.le (ha : JE X false a ρ eI wa) (hb : JE X false b ρ eI wb) : JE X M (.Compare a [.LtE] [b] pos) ρ eB (bd wa fun x => bd wb fun y => rt (decide (x ≤ y))) := JE.cmp op_le (nomark _) ha hb
theorem JE.gt (ha : JE X false a ρ eI wa) (hb : JE X false b ρ eI wb) : JE X M (.Compare a [.Gt] [b] pos) ρ eB (bd wa fun x => bd wb fun y => rt (decide (y < x))) := JE.cmp op_gt (nomark _) ha hb
theorem JE.ge (ha : JE X false a ρ eI wa) (hb : JE X false b ρ eI wb) : JE X M (.Compare a [.GtE] [b] pos) ρ eB (bd wa fun x => bd wb fun y => rt (decide (y ≤ x))) := JE.cmp op_ge (nomark _) ha hb
theorem JT.eq (ha : JE X false a ρ eI wa) (hb : JE X false b ρ eI wb) : JT X (.Compare a [.Eq] [b] pos) ρ (bd wa fun x => bd wb fun y => rt (decide (x = y))) := JT.cmp op_eqI (nomark _) ha hb
theorem JT.ne (ha : JE X false a ρ eI wa) (hb : JE X false b ρ eI wb) : JT X (.Compare a [.NotEq] [b] pos) ρ (bd wa fun x => bd wb fun y => rt (!decide (x = y))) := JT.cmp op_neI (nomark _) ha hb
theorem JT.lt (ha : JE X false a ρ eI wa) (hb : JE X false b ρ eI wb) : JT X (.Compare a [.Lt] [b] pos) ρ (bd wa fun x => bd wb fun y => rt (decide (x < y))) := JT.cmp op_lt (nomark _) ha hb
theorem JT.le (ha : JE X false a ρ eI wa) (hb : JE X false b ρ eI wb) : JT X (.Compare a [.LtE] [b] pos) ρ (bd wa fun x => bd wb fun y => rt (decide (x ≤ y))) := JT.cmp op_le (nomark _) ha hb
theorem JT.gt (ha : JE X false a ρ eI wa) (hb : JE X false b ρ eI wb) : JT X (.Compare a [.Gt] [b] pos) ρ (bd wa fun x => bd wb fun y => rt (decide (y < x))) := JT.cmp op_gt (nomark _) ha hb
theorem JT.ge (ha : JE X false a ρ eI wa) (hb : JE X false b ρ eI wb) : JT X (.Compare a [.GtE] [b] pos) ρ (bd wa fun x => bd wb fun y => rt (decide (y ≤ x))) := JT.cmp op_ge (nomark _) ha hb
/-- lo op x op' hi, ints -/
theorem BE.chain {op op' : CmpOp} {g g' : Int → Int → Bool} {wa wb wc : Wp Int} (ho : OpR X (compareOp op) (rI0 fun i j => .bl (g i j))) (ho' : OpR X (compareOp op') (rI0 fun i j => .bl (g' i j))) (ha : BE X false a ρ eI wa) (hb : BE X false b ρ eI wb) (hc : BE X false c ρ eI wc) (hm : lastMarks [op, op'] [b, c] = false) :
    BE X M (.Compare a [op, op'] [b, c] pos) ρ eB (wa.bind fun x => wb.bind fun y => .ite (g x y) (wc.bind fun z => .pure (g' y z)) (.pure false)) := ⟨pe_weak (pe_chain ho ho' ha.pe hb.pe hc.pe hm) fun σ H Q ⟨sr, O, H0, ad, he, hw⟩ =>
  ⟨sr, O, H0, ad, he, wa.mono (fun x q v H1 x1 r => ⟨sr, O, H0, ad, he.ext' x1, wb.mono (fun y q2 v2 H2 x2 r2 => by
    cases r; cases r2
    refine ⟨x, y, rfl, rfl, g x y, rfl, ?_⟩
    have q2 : (if g x y = true then _ else _) := q2
    cases hg : g x y with
    | true =>
      rw [hg, if_pos rfl] at q2
      exact ⟨sr, O, H0, ad, (he.ext' x1).ext' x2, wc.mono (fun z q3 v3 H3 x3 r3 => by
        cases r3
        exact ⟨y, z, rfl, rfl, q3 _ H3 ((x1.trans x2).trans x3) (.b _)⟩) q2⟩
    | false =>
      rw [hg, if_neg (by decide)] at q2
      exact q2 _ H2 (x1.trans x2) (.b _)) q⟩) hw⟩⟩
theorem BT.chain {op op' : CmpOp} {g g' : Int → Int → Bool} {wa wb wc : Wp Int} (ho : OpR X (compareOp op) (rI0 fun i j => .bl (g i j))) (ho' : OpR X (compareOp op') (rI0 fun i j => .bl (g' i j))) (ha : BE X false a ρ eI wa) (hb : BE X false b ρ eI wb) (hc : BE X false c ρ eI wc) (hm : lastMarks [op, op'] [b, c] = false) :
    BT X (.Compare a [op, op'] [b, c] pos) ρ (wa.bind fun x => wb.bind fun y => .ite (g x y) (wc.bind fun z => .pure (g' y z)) (.pure false)) := ⟨pt_weak (pt_chain ho ho' ha.pe hb.pe hc.pe hm) fun σ H Q ⟨sr, O, H0, ad, he, hw⟩ =>
  ⟨sr, O, H0, ad, he, wa.mono (fun x q v H1 x1 r => ⟨sr, O, H0, ad, he.ext' x1, wb.mono (fun y q2 v2 H2 x2 r2 => by
    cases r; cases r2
    refine ⟨x, y, rfl, rfl, g x y, rfl, ?_⟩
    have q2 : (if g x y = true then _ else _) := q2
    cases hg : g x y with
    | true =>
      rw [hg, if_pos rfl] at q2
      exact ⟨sr, O, H0, ad, (he.ext' x1).ext' x2, wc.mono (fun z q3 v3 H3 x3 r3 => by
        cases r3
        exact ⟨y, z, rfl, rfl, _, rfl, q3 H3 ((x1.trans x2).trans x3)⟩) q2⟩
    | false =>
      rw [hg, if_neg (by decide)] at q2
      exact ⟨_, rfl, q2 H2 (x1.trans x2)⟩) q⟩) hw⟩⟩
end
/-- the mirror's if -/
def ifM (b : Bool) (u v : m α) : m α := if b = true then u else v
theorem leI {b : Bool} {u v : m α} {u' v' : Wp α} (h1 : Wp.Le (Mn.wp u) u') (h2 : Wp.Le (Mn.wp v) v') : Wp.Le (Mn.wp (ifM b u v)) (.ite b u' v') := by
  cases b with
  | true => exact fun P h => h1 P h
  | false => exact fun P h => h2 P h
theorem JE.chain {op op' : CmpOp} {g g' : Int → Int → Bool} {wa wb wc : m Int} (ho : OpR X (compareOp op) (rI0 fun i j => .bl (g i j))) (ho' : OpR X (compareOp op') (rI0 fun i j => .bl (g' i j))) (hm : lastMarks [op, op'] [b, c] = false) (ha : JE X false a ρ eI wa) (hb : JE X false b ρ eI wb) (hc : JE X false c ρ eI wc) :
    JE X M (.Compare a [op, op'] [b, c] pos) ρ eB (bd wa fun x => bd wb fun y => ifM (g x y) (bd wc fun z => rt (g' y z)) (rt false)) := ⟨(BE.chain ho ho' ha.b hb.b hc.b hm).conv (le2 fun _ _ => leI (le1 fun _ => lep) lep)⟩
theorem JT.chain {op op' : CmpOp} {g g' : Int → Int → Bool} {wa wb wc : m Int} (ho : OpR X (compareOp op) (rI0 fun i j => .bl (g i j))) (ho' : OpR X (compareOp op') (rI0 fun i j => .bl (g' i j))) (hm : lastMarks [op, op'] [b, c] = false) (ha : JE X false a ρ eI wa) (hb : JE X false b ρ eI wb) (hc : JE X false c ρ eI wc) :
    JT X (.Compare a [op, op'] [b, c] pos) ρ (bd wa fun x => bd wb fun y => ifM (g x y) (bd wc fun z => rt (g' y z)) (rt false)) := ⟨(BT.chain ho ho' ha.b hb.b hc.b hm).conv (le2 fun _ _ => leI (le1 fun _ => lep) lep)⟩

/-! ### tests -/
section
variable {wa wb : m Bool} {rest : List Expr}
theorem JT.val (h : JE X false e ρ eB wa) (he : ∀ whole, isTrue e X.env whole = (do let v ← whole; standAt e.pos; holding [v] (truthy v)) := by intro _; rfl) : JT X e ρ wa := ⟨BT.val h.b he⟩
theorem JW.jt (h : JW X e ρ wa) : JT X e ρ wa := ⟨h.b.bt⟩
theorem JT.not (h : JT X a ρ wa) : JT X (.UnaryOp .Not a pos) ρ (bd wa fun x => rt (!x)) := ⟨(BT.not h.b).conv (le1 fun _ => lep)⟩
theorem JW.and1 (h : JT X a ρ wa) : JW X (.BoolOp .And [a] pos) ρ wa := ⟨BW.and1 h.b⟩
theorem JW.or1 (h : JT X a ρ wa) : JW X (.BoolOp .Or [a] pos) ρ wa := ⟨BW.or1 h.b⟩
theorem JW.and (ha : JT X a ρ wa) (hb : JW X (.BoolOp .And (b :: rest) pos) ρ wb) : JW X (.BoolOp .And (a :: b :: rest) pos) ρ (bd wa fun x => ifM x wb (rt false)) := ⟨(BW.and ha.b hb.b).conv (le1 fun _ => leI (Wp.Le.refl _) lep)⟩
theorem JW.or (ha : JT X a ρ wa) (hb : JW X (.BoolOp .Or (b :: rest) pos) ρ wb) : JW X (.BoolOp .Or (a :: b :: rest) pos) ρ (bd wa fun x => ifM x (rt true) wb) := ⟨(BW.or ha.b hb.b).conv (le1 fun _ => leI lep (Wp.Le.refl _))⟩
theorem JE.not (h : JE X false a ρ eB wa) : JE X M (.UnaryOp .Not a pos) ρ eB (bd wa fun x => rt (!x)) := ⟨(BE.not h.b).conv (le1 fun _ => lep)⟩
theorem JE.and1 (h : JE X M a ρ eB wa) : JE X M (.BoolOp .And [a] pos) ρ eB wa := ⟨BE.and1 h.b⟩
theorem JE.or1 (h : JE X M a ρ eB wa) : JE X M (.BoolOp .Or [a] pos) ρ eB wa := ⟨BE.or1 h.b⟩
theorem JE.and (ha : JE X false a ρ eB wa) (hb : JE X false (.BoolOp .And (b :: rest) pos) ρ eB wb) : JE X M (.BoolOp .And (a :: b :: rest) pos) ρ eB (bd wa fun x => ifM x wb (rt false)) := ⟨(BE.and ha.b hb.b).conv (le1 fun _ => leI (Wp.Le.refl _) lep)⟩
theorem JE.or (ha : JE X false a ρ eB wa) (hb : JE X false (.BoolOp .Or (b :: rest) pos) ρ eB wb) : JE X M (.BoolOp .Or (a :: b :: rest) pos) ρ eB (bd wa fun x => ifM x (rt true) wb) := ⟨(BE.or ha.b hb.b).conv (le1 fun _ => leI lep (Wp.Le.refl _))⟩
theorem JE.ifExp {w1 w2 : m α} (hc : JT X c ρ wa) (h1 : JE X M a ρ E w1) (h2 : JE X M b ρ E w2) : JE X M (.IfExp c a b pos) ρ E (bd wa fun x => ifM x w1 w2) := ⟨(BE.ifExp hc.b h1.b h2.b).conv (le1 fun _ => leI (Wp.Le.refl _) (Wp.Le.refl _))⟩
end

/-! ### displays, arguments -/
theorem JH.nil : JH X M [] ρ E (rt (m := m) []) := ⟨⟨pa_weak pa_nil fun σ H Q ⟨sr, O, H0, ad, he, hw⟩ => (lep _ hw) [] H (Ext.refl he.srs) .nil⟩,
  fun P h => Mn.pure_ge (m := m) [] _ ⟨lep _ h, rfl⟩⟩
theorem JH.cons {we : m α} {ws : m (List α)} (ha : JE X M e ρ E we) (hr : JH X M es ρ E ws) (hs : starEach (e :: es) X.env = (false, eval e X.env) :: starEach es X.env := by rfl) : JH X M (e :: es) ρ E (bd we fun x => bd ws fun xs => rt (x :: xs)) :=
  ⟨⟨pa_weak (pa_cons ha.b.pe hr.b.pa hs) fun σ H Q ⟨sr, O, H0, ad, he, hw⟩ => ⟨sr, O, H0, ad, he, by
      have hw := le2 (f := fun x xs => rt (m := m) (x :: xs)) (g := fun x xs => Wp.pure (x :: xs)) (fun _ _ => lep) _ hw
      refine (Mn.wp we).mono (fun x q v H1 x1 r => ⟨sr, O, H0, ad, he.ext' x1, (Mn.wp ws).mono (fun xs q2 vs H2 x2 r2 => q2 (v :: vs) H2 (x1.trans x2) (.cons (r.ext x2 (he.sOM M)) r2)) q⟩) hw⟩⟩,
   fun P h => by
    have h := le2 (f := fun x xs => rt (m := m) (x :: xs)) (g := fun x xs => Wp.pure (x :: xs)) (fun _ _ => lep) _ h
    refine Mn.bind_ge _ _ _ ((Mn.wp we).mono (fun x q => Mn.bind_ge _ _ _ ((Mn.wp ws).mono (fun xs q => Mn.pure_ge _ _ ⟨q.1, ?_⟩) (hr.n _ q))) h)
    rw [List.length_cons, List.length_cons, q.2]⟩
theorem JE.tup {w : m (List α)} {k} (h : JH X M es ρ E w) (hn : es.length ≤ 1000 := by decide) : JE X M (.Tuple es k pos) ρ (eT E) w := ⟨⟨pe_weak (pe_tup h.b.pa) fun σ H Q ⟨sr, O, H0, ad, he, hw⟩ =>
  ⟨sr, O, H0, ad, he, (Mn.wp w).mono (fun xs q vs H1 x1 r => ⟨by
    rw [r.length, List.length_map, q.2]; exact Nat.le_trans hn (by decide), fun p hp => q.1 _ _ (x1.trans (Ext.new x1.srs hp)) (.t upd_same (r.ext (Ext.new x1.srs hp) (he.sOM M)))⟩) (h.n _ hw)⟩⟩⟩
theorem JL.lst {w : m (List α)} (h : JH X M es ρ E w) (hn : es.length ≤ 1000 := by decide) : JL X M (.List es pos) ρ E w := ⟨⟨pe_weak (pe_lst h.b.pa) fun σ H Q ⟨sr, O, H0, ad, he, hw⟩ =>
  ⟨sr, O, H0, ad, he, (Mn.wp w).mono (fun xs q vs H1 x1 r => ⟨by
    rw [r.length, List.length_map, q.2]; exact Nat.le_trans hn (by decide), fun p hp => q.1 p vs _ (x1.back hp) (x1.trans (Ext.new x1.srs hp)) upd_same ((r.fresh hp).ext (Ext.new x1.srs hp) (fun S hS => .inl (he.sOM M S hS)))⟩) (h.n _ hw)⟩⟩⟩
theorem JA.nil : JA X M [] ρ (rt (m := m) []) := ⟨⟨pa_weak pa_nil fun σ H Q ⟨sr, O, H0, ad, he, hw⟩ => (lep _ hw) [] H (Ext.refl he.srs) .nil⟩⟩
theorem JA.cons {we : m α} {ws : m (List D)} (ha : JE X M e ρ E we) (hr : JA X M es ρ ws) (hs : starEach (e :: es) X.env = (false, eval e X.env) :: starEach es X.env := by rfl) : JA X M (e :: es) ρ (bd we fun x => bd ws fun xs => rt (E x :: xs)) :=
  ⟨⟨pa_weak (pa_cons ha.b.pe hr.b.pa hs) fun σ H Q ⟨sr, O, H0, ad, he, hw⟩ => ⟨sr, O, H0, ad, he, by
      have hw := le2 (f := fun x xs => rt (m := m) (E x :: xs)) (g := fun x xs => Wp.pure (E x :: xs)) (fun _ _ => lep) _ hw
      refine (Mn.wp we).mono (fun x q v H1 x1 r => ⟨sr, O, H0, ad, he.ext' x1, (Mn.wp ws).mono (fun xs q2 vs H2 x2 r2 => q2 (v :: vs) H2 (x1.trans x2) (.cons (r.ext x2 (he.sOM M)) r2)) q⟩) hw⟩⟩⟩
/-- a pair -/
theorem JE.pair {wa : m α} {wb : m β} {k} (ha : JE X M a ρ E wa) (hb : JE X M b ρ F wb) (hs : starEach [a, b] X.env = (false, eval a X.env) :: starEach [b] X.env := by rfl) (hs2 : starEach [b] X.env = (false, eval b X.env) :: starEach [] X.env := by rfl) : JE X M (.Tuple [a, b] k pos) ρ (eP E F) (bd wa fun x => bd wb fun y => rt (x, y)) :=
  ⟨⟨pe_weak (pe_tup (pa_cons ha.b.pe (pa_cons hb.b.pe pa_nil hs2) hs)) fun σ H Q ⟨sr, O, H0, ad, he, hw⟩ => ⟨sr, O, H0, ad, he, by
      have hw := le2 (f := fun x y => rt (m := m) (x, y)) (g := fun x y => Wp.pure (x, y)) (fun _ _ => lep) _ hw
      refine (Mn.wp wa).mono (fun x q v H1 x1 r => ⟨sr, O, H0, ad, he.ext' x1, (Mn.wp wb).mono (fun y q2 v2 H2 x2 r2 => ⟨by show 2 ≤ sizeLine; decide, fun p hp => q2 _ _ ((x1.trans x2).trans (Ext.new x2.srs hp)) (.t upd_same ((Reps.cons (r.ext x2 (he.sOM M)) (.cons r2 .nil)).ext (Ext.new x2.srs hp) (he.sOM M)))⟩) q⟩) hw⟩⟩⟩
/-- a tuple of unlike things -/
theorem JE.tupD {w : m (List D)} {k} (h : JA X M es ρ w) (hn : ∀ P, (Mn.wp w).run P → (Mn.wp w).run fun xs => P xs ∧ xs.length ≤ 1000) : JE X M (.Tuple es k pos) ρ D.t w := ⟨⟨pe_weak (pe_tup h.b.pa) fun σ H Q ⟨sr, O, H0, ad, he, hw⟩ =>
  ⟨sr, O, H0, ad, he, (Mn.wp w).mono (fun xs q vs H1 x1 r => ⟨by
    rw [r.length]; exact Nat.le_trans q.2 (by decide), fun p hp => q.1 _ _ (x1.trans (Ext.new x1.srs hp)) (.t upd_same (r.ext (Ext.new x1.srs hp) (he.sOM M)))⟩) (hn _ hw)⟩⟩⟩

/-! ### what is read as a list or a tuple -/
theorem Rep.seq {K : PySem.W.Frag} {mg : Str → Option Value} {O : Addr → Prop} {H : Hp} {v : V} {k : Kd} {xs : List α} (h : Rep K mg O H v (eQ k E xs)) :
    ∃ a vs, v = .ref a ∧ (SqL K H a vs ∨ SqT K H a vs) ∧ Reps K mg O H vs (xs.map E) := by
  cases k with
  | l => cases h with | l h1 h2 h3 => exact ⟨_, _, rfl, .inl (.inl (.inl h1)), h3⟩
  | t => cases h with | t h1 h2 => exact ⟨_, _, rfl, .inr (.inl (.inl h1)), h2⟩
theorem Rep.seqL {K : PySem.W.Frag} {mg : Str → Option Value} {O : Addr → Prop} {H : Hp} {v : V} {xs : List α} (h : Rep K mg O H v (eQ .l E xs)) :
    ∃ a vs, v = .ref a ∧ H a = some (.lst vs) ∧ ¬ O a ∧ Reps K mg O H vs (xs.map E) := by
  cases h with | l h1 h2 h3 => exact ⟨_, _, rfl, h1, h2, h3⟩
theorem Rep.seqT {K : PySem.W.Frag} {mg : Str → Option Value} {O : Addr → Prop} {H : Hp} {v : V} {xs : List α} (h : Rep K mg O H v (eQ .t E xs)) :
    ∃ a vs, v = .ref a ∧ SqT K H a vs ∧ Reps K mg O H vs (xs.map E) := by
  cases h with | t h1 h2 => exact ⟨_, _, rfl, .inl (.inl h1), h2⟩
theorem Rep.seqS {K : PySem.W.Frag} {mg : Str → Option Value} {O : Addr → Prop} {H : Hp} {v : V} {xs : List α} (h : Rep K mg O H v (eQ .t E xs)) :
    ∃ a vs, v = .ref a ∧ H a = some (.tup vs) ∧ Reps K mg O H vs (xs.map E) := by
  cases h with | t h1 h2 => exact ⟨_, _, rfl, h1, h2⟩

/-! ### subscripts, slices -/
def ixO (xs : List α) (i : Int) : Option α := atI xs i
theorem Reps.atI {K : PySem.W.Frag} {mg : Str → Option Value} {O : Addr → Prop} {H : Hp} {vs : List V} {xs : List α} {i : Int} {x : α} (r : Reps K mg O H vs (xs.map E)) (h : atI xs i = some x) : ∃ v, L2.atI vs i = some v ∧ Rep K mg O H v (E x) := by
  unfold L2.atI at h ⊢
  have hl : vs.length = xs.length := by rw [r.length, List.length_map]
  rw [hl]
  cases hj : ixN xs.length i with
  | none => rw [hj] at h; cases h
  | some j =>
    rw [hj] at h
    have h : xs[j]? = some x := h
    exact r.get (d := E x) (by rw [List.getElem?_map, h]; rfl)
theorem JE.ix {k : Kd} {wa : m (List α)} {wb : m Int} (hp : PlainIx b) (ha : JE X M a ρ (eQ k E) wa) (hb : JE X false b ρ eI wb) : JE X M (.Subscript a b pos) ρ E (bd wa fun xs => bd wb fun i => lf (ixO xs i)) :=
  ⟨⟨pe_weak (pe_ix ix_seq ha.b.pe hb.b.pe hp) fun σ H Q ⟨sr, O, H0, ad, he, hw⟩ => ⟨sr, O, H0, ad, he, by
      have hw := le2 (f := fun xs i => lf (m := m) (ixO xs i)) (g := fun xs i => Wp.ofO (ixO xs i)) (fun _ _ => Mn.lift_le _) _ hw
      refine (Mn.wp wa).mono (fun xs q v H1 x1 r => ⟨sr, O, H0, ad, he.ext' x1, (Mn.wp wb).mono (fun i q2 v2 H2 x2 r2 => ?_) q⟩) hw
      obtain ⟨y, hy, q2⟩ := q2
      cases r2
      obtain ⟨p, vs, rfl, hs, rs⟩ := (r.ext x2 (he.sOM M)).seq
      obtain ⟨u, hu, ru⟩ := rs.atI hy
      rcases hs with hs | hs
      · exact .inl ⟨p, vs, i, u, rfl, rfl, hs, hu, q2 u H2 (x1.trans x2) ru⟩
      · exact .inr (.inl ⟨p, vs, i, u, rfl, rfl, hs, hu, q2 u H2 (x1.trans x2) ru⟩)⟩⟩⟩
/-- of one's own list, what may be kept -/
theorem JE.ixV {wb : m Int} (i : Nat) {n : Str} {p2 : Pos} {xs : List α} (hp : PlainIx b) (h : ρ[i]? = some (.l (xs.map E))) (hb : JE X false b ρ eI wb) (hN : X.N[i]? = some n := by rfl) (hv : Vis X.env.scope n := by first | exact Or.inl rfl | exact Or.inr (Or.inl rfl) | exact Or.inr (Or.inr rfl)) (hd : (n == ("__debug__" : Str)) = false := by decide) (hcd : (n == ("__classdict__" : Str)) = false := by decide) :
    JE X M (.Subscript (.Name n p2) b pos) ρ E (bd (rt xs) fun xs => bd wb fun i => lf (ixO xs i)) :=
  ⟨⟨pe_weak (pe_ix ix_seq (pv i hN hv hd hcd) hb.b.pe hp) fun σ H Q ⟨sr, O, H0, ad, he, hw⟩ => by
      have hw := le2 (f := fun xs i => lf (m := m) (ixO xs i)) (g := fun xs i => Wp.ofO (ixO xs i)) (fun _ _ => Mn.lift_le _) _ hw
      have hw := lep _ hw
      have hi := he.at_ i
      rw [h] at hi
      obtain ⟨p, vs, e1, e2, e3, rs⟩ := hi
      refine ⟨.ref p, e2, sr, O, H0, ad, he, (Mn.wp wb).mono (fun i q2 v2 H2 x2 r2 => ?_) hw⟩
      obtain ⟨y, hy, q2⟩ := q2
      cases r2
      obtain ⟨u, hu, ru⟩ := (rs.ext x2 (fun S h => .inl (he.sO S h))).atI hy
      exact .inl ⟨p, vs, i, u, rfl, rfl, .inl (.inl (x2.1 p _ e3 fun z => he.dis _ p e1 (he.sO p z))), hu, q2 u H2 x2 (ru.sub OM.le)⟩⟩⟩
/-- a part of a slice -/
def tO' (K : PySem.W.Frag) (mg : Str → Option Value) (ρ : List Slot) (w : Wp (Option Int)) : TO := fun σ H Q =>
  ∃ sr O H0 ad, Env K mg sr O H0 H σ ρ ad ∧ w.run fun b => ∀ H', Ext sr H H' → Q b H'
structure JO (X : Cx) (e : Option Expr) (ρ : List Slot) (a : m (Option Int)) : Prop where
  b : PO X e (tO' X.K X.mg ρ (Mn.wp a))
theorem po_weak {e : Option Expr} {t t' : TO} (h : PO X e t) (k : ∀ σ H Q, t' σ H Q → t σ H Q) : PO X e t' := ⟨fun pins s σ H Q I hw => h.run pins s σ H Q I (k σ H Q hw)⟩
theorem JO.no : JO X none ρ (rt (m := m) none) := ⟨po_weak po_none fun σ H Q ⟨sr, O, H0, ad, he, hw⟩ => (lep _ hw) H (Ext.refl he.srs)⟩
theorem JO.of {w : m Int} (h : JE X false e ρ eI w) : JO X (some e) ρ (bd w fun i => rt (some i)) := ⟨po_weak (po_some h.b.pe) fun σ H Q ⟨sr, O, H0, ad, he, hw⟩ =>
  ⟨sr, O, H0, ad, he, (Mn.wp w).mono (fun i q v H1 x1 r => by
    cases r
    exact ⟨i, rfl, q H1 x1⟩) (le1 (f := fun i => rt (m := m) (some i)) (g := fun i => Wp.pure (some i)) (fun _ => lep) _ hw)⟩⟩
def cutL (xs : List α) (lo hi : Option Int) : List α := (xs.drop (HT.sIx xs.length 0 lo)).take (HT.sIx xs.length xs.length hi - HT.sIx xs.length 0 lo)
theorem Reps.cut {K : PySem.W.Frag} {mg : Str → Option Value} {O : Addr → Prop} {H : Hp} {vs : List V} {xs : List α} (r : Reps K mg O H vs (xs.map E)) (lo hi : Option Int) : Reps K mg O H (cutV vs lo hi) ((cutL xs lo hi).map E) := by
  have hl : vs.length = xs.length := by rw [r.length, List.length_map]
  unfold cutV cutL
  rw [hl, List.map_take, List.map_drop]
  exact (r.drop _).take _
variable {lo hi : Option Expr} {p2 : Pos}
theorem JL.sl {wa : m (List α)} {wl wh : m (Option Int)} (ha : JE X M a ρ (eL E) wa) (hl : JO X lo ρ wl) (hh : JO X hi ρ wh) : JL X M (.Subscript a (.Slice lo hi none p2) pos) ρ E (bd wa fun xs => bd wl fun i => bd wh fun j => rt (cutL xs i j)) :=
  ⟨⟨pe_weak (pe_slice sl_list ha.b.pe hl.b hh.b) fun σ H Q ⟨sr, O, H0, ad, he, hw⟩ => ⟨sr, O, H0, ad, he, by
      have hw := le1 (fun xs => le2 (f := fun i j => rt (m := m) (cutL xs i j)) (g := fun i j => Wp.pure (cutL xs i j)) (fun _ _ => lep)) _ hw
      refine (Mn.wp wa).mono (fun xs q v H1 x1 r => ⟨sr, O, H0, ad, he.ext' x1, (Mn.wp wl).mono (fun i q2 H2 x2 => ⟨sr, O, H0, ad, (he.ext' x1).ext' x2, (Mn.wp wh).mono (fun j q3 H3 x3 => ?_) q2⟩) q⟩) hw
      obtain ⟨p, vs, rfl, hs, _, rs⟩ := (r.ext (x2.trans x3) (he.sOM M)).seqL
      exact ⟨p, vs, rfl, .inl (.inl hs), fun p hp => q3 p _ _ ((x1.trans (x2.trans x3)).back hp) ((x1.trans (x2.trans x3)).trans (Ext.new x3.srs hp)) upd_same (((rs.cut i j).fresh hp).ext (Ext.new x3.srs hp) (fun S hS => .inl (he.sOM M S hS)))⟩⟩⟩⟩
theorem JE.slT {wa : m (List α)} {wl wh : m (Option Int)} (ha : JE X M a ρ (eT E) wa) (hl : JO X lo ρ wl) (hh : JO X hi ρ wh) : JE X M (.Subscript a (.Slice lo hi none p2) pos) ρ (eT E) (bd wa fun xs => bd wl fun i => bd wh fun j => rt (cutL xs i j)) :=
  ⟨⟨pe_weak (pe_slice sl_tupA ha.b.pe hl.b hh.b) fun σ H Q ⟨sr, O, H0, ad, he, hw⟩ => ⟨sr, O, H0, ad, he, by
      have hw := le1 (fun xs => le2 (f := fun i j => rt (m := m) (cutL xs i j)) (g := fun i j => Wp.pure (cutL xs i j)) (fun _ _ => lep)) _ hw
      refine (Mn.wp wa).mono (fun xs q v H1 x1 r => ⟨sr, O, H0, ad, he.ext' x1, (Mn.wp wl).mono (fun i q2 H2 x2 => ⟨sr, O, H0, ad, (he.ext' x1).ext' x2, (Mn.wp wh).mono (fun j q3 H3 x3 => ?_) q2⟩) q⟩) hw
      obtain ⟨p, vs, rfl, hs, rs⟩ := (r.ext (x2.trans x3) (he.sOM M)).seqS
      refine ⟨p, vs, rfl, .inl (.inl hs), fun z => q3 _ _ (x1.trans (x2.trans x3)) (.t hs ?_), fun _ p hp => q3 _ _ ((x1.trans (x2.trans x3)).trans (Ext.new x3.srs hp)) (.t upd_same ((rs.cut i j).ext (Ext.new x3.srs hp) (he.sOM M)))⟩
      have hc := rs.cut i j
      have : cutV vs i j = vs := by
        unfold cutV
        rw [z.1, z.2, List.drop_zero, Nat.sub_zero, List.take_length]
      rw [this] at hc
      exact hc⟩⟩⟩
/-! ### + and * of lists and tuples -/
def catO (xs ys : List α) : Option (List α) := if xs.length + ys.length ≤ 16777216 then some (xs ++ ys) else none
theorem JL.cat {wa wb : m (List α)} (ha : JE X M a ρ (eL E) wa) (hb : JE X M b ρ (eL E) wb) : JL X M (.BinOp a .Add b pos) ρ E (bd wa fun xs => bd wb fun ys => lf (catO xs ys)) :=
  ⟨⟨pe_weak (pe_op op_cat ha.b.pe hb.b.pe) fun σ H Q ⟨sr, O, H0, ad, he, hw⟩ => ⟨sr, O, H0, ad, he, by
      have hw := le2 (f := fun xs ys => lf (m := m) (catO xs ys)) (g := fun xs ys => Wp.guard (xs.length + ys.length ≤ 16777216) (xs ++ ys)) (fun _ _ => leg) _ hw
      refine (Mn.wp wa).mono (fun xs q v H1 x1 r => ⟨sr, O, H0, ad, he.ext' x1, (Mn.wp wb).mono (fun ys q2 v2 H2 x2 r2 => ?_) q⟩) hw
      obtain ⟨hz, q2⟩ := q2
      obtain ⟨p, vs, rfl, hs, _, rs⟩ := (r.ext x2 (he.sOM M)).seqL
      obtain ⟨p2, ws, rfl, hs2, _, rs2⟩ := r2.seqL
      refine ⟨p, p2, vs, ws, rfl, rfl, hs, hs2, by rw [rs.length, rs2.length, List.length_map, List.length_map]; exact hz, fun z hp => q2 z _ _ ((x1.trans x2).back hp) ((x1.trans x2).trans (Ext.new x2.srs hp)) upd_same ?_⟩
      rw [List.map_append]
      exact ((rs.append rs2).fresh hp).ext (Ext.new x2.srs hp) (fun S hS => .inl (he.sOM M S hS))⟩⟩⟩
theorem JE.catT {wa wb : m (List α)} (ha : JE X M a ρ (eT E) wa) (hb : JE X M b ρ (eT E) wb) : JE X M (.BinOp a .Add b pos) ρ (eT E) (bd wa fun xs => bd wb fun ys => lf (catO xs ys)) :=
  ⟨⟨pe_weak (pe_op op_catA ha.b.pe hb.b.pe) fun σ H Q ⟨sr, O, H0, ad, he, hw⟩ => ⟨sr, O, H0, ad, he, by
      have hw := le2 (f := fun xs ys => lf (m := m) (catO xs ys)) (g := fun xs ys => Wp.guard (xs.length + ys.length ≤ 16777216) (xs ++ ys)) (fun _ _ => leg) _ hw
      refine (Mn.wp wa).mono (fun xs q v H1 x1 r => ⟨sr, O, H0, ad, he.ext' x1, (Mn.wp wb).mono (fun ys q2 v2 H2 x2 r2 => ?_) q⟩) hw
      obtain ⟨hz, q2⟩ := q2
      obtain ⟨p, vs, rfl, hs, rs⟩ := (r.ext x2 (he.sOM M)).seqS
      obtain ⟨p2, ws, rfl, hs2, rs2⟩ := r2.seqS
      have rr := rs.append rs2
      rw [← List.map_append] at rr
      refine ⟨p, p2, vs, ws, rfl, rfl, .inl (.inl hs), .inl (.inl hs2), by rw [rs.length, rs2.length, List.length_map, List.length_map]; exact hz, fun z => ?_, fun _ z => ?_, fun _ _ z hp => ?_⟩
      · subst z
        exact q2 _ _ (x1.trans x2) (.t hs2 rr)
      · subst z
        rw [List.append_nil] at rr
        exact q2 _ _ (x1.trans x2) (.t hs rr)
      · exact q2 _ _ ((x1.trans x2).trans (Ext.new x2.srs hp)) (.t upd_same (rr.ext (Ext.new x2.srs hp) (he.sOM M)))⟩⟩⟩
def repO (xs : List α) (n : Int) : Option (List α) := if -(2 ^ 63) ≤ n ∧ n < 2 ^ 63 ∧ xs.length * n.toNat ≤ 16777216 then some (List.replicate n.toNat xs).flatten else none
theorem Reps.rep {K : PySem.W.Frag} {mg : Str → Option Value} {O : Addr → Prop} {H : Hp} {vs : List V} {ds : List D} (r : Reps K mg O H vs ds) : ∀ n, Reps K mg O H (List.replicate n vs).flatten (List.replicate n ds).flatten
  | 0 => .nil
  | n + 1 => by
    rw [List.replicate_succ, List.replicate_succ, List.flatten_cons, List.flatten_cons]
    exact r.append (Reps.rep r n)
theorem JL.rep {wa : m (List α)} {wb : m Int} (ha : JE X M a ρ (eL E) wa) (hb : JE X false b ρ eI wb) : JL X M (.BinOp a .Mult b pos) ρ E (bd wa fun xs => bd wb fun n => lf (repO xs n)) :=
  ⟨⟨pe_weak (pe_op op_rep ha.b.pe hb.b.pe) fun σ H Q ⟨sr, O, H0, ad, he, hw⟩ => ⟨sr, O, H0, ad, he, by
      have hw := le2 (f := fun xs n => lf (m := m) (repO xs n)) (g := fun xs n => Wp.guard (-(2 ^ 63) ≤ n ∧ n < 2 ^ 63 ∧ xs.length * n.toNat ≤ 16777216) (List.replicate n.toNat xs).flatten) (fun _ _ => leg) _ hw
      refine (Mn.wp wa).mono (fun xs q v H1 x1 r => ⟨sr, O, H0, ad, he.ext' x1, (Mn.wp wb).mono (fun n q2 v2 H2 x2 r2 => ?_) q⟩) hw
      obtain ⟨⟨h1, h2, h3⟩, q2⟩ := q2
      cases r2
      obtain ⟨p, vs, rfl, hs, _, rs⟩ := (r.ext x2 (he.sOM M)).seqL
      refine ⟨p, n, vs, rfl, rfl, hs, h1, h2, by rw [rs.length, List.length_map]; exact h3, fun z hp => q2 z _ _ ((x1.trans x2).back hp) ((x1.trans x2).trans (Ext.new x2.srs hp)) upd_same ?_⟩
      rw [List.map_flatten, List.map_replicate]
      exact ((rs.rep n.toNat).fresh hp).ext (Ext.new x2.srs hp) (fun S hS => .inl (he.sOM M S hS))⟩⟩⟩
end
end Wk

namespace Wk
open PySem PySem.Spec PyProof.Rows L2

/-! ### built-ins -/
/-- sorted, of ints -/
def insI (x : Int) : List Int → List Int
  | [] => [x]
  | y :: ys => if x ≤ y then x :: y :: ys else y :: insI x ys
def sortI : List Int → List Int
  | [] => []
  | x :: xs => insI x (sortI xs)
theorem insI_perm (x : Int) : ∀ ys, (insI x ys).Perm (x :: ys)
  | [] => .refl _
  | y :: ys => by
    unfold insI
    split
    · exact .refl _
    · exact ((insI_perm x ys).cons y).trans (.swap x y ys)
theorem sortI_perm : ∀ xs, (sortI xs).Perm xs
  | [] => .refl _
  | x :: xs => (insI_perm x _).trans ((sortI_perm xs).cons x)
theorem insI_sorted (x : Int) : ∀ ys : List Int, ys.Pairwise (· ≤ ·) → (insI x ys).Pairwise (· ≤ ·)
  | [], _ => by simp [insI]
  | y :: ys, h => by
    have h' := List.pairwise_cons.mp h
    unfold insI
    split
    · rename_i hxy
      refine List.pairwise_cons.mpr ⟨fun z hz => ?_, h⟩
      rcases List.mem_cons.mp hz with e | hz
      · rw [e]; exact hxy
      · exact Int.le_trans hxy (h'.1 z hz)
    · rename_i hxy
      refine List.pairwise_cons.mpr ⟨fun z hz => ?_, insI_sorted x ys h'.2⟩
      rcases List.mem_cons.mp ((insI_perm x ys).mem_iff.mp hz) with e | hz
      · rw [e]; omega
      · exact h'.1 z hz
theorem sortI_sorted : ∀ xs, (sortI xs).Pairwise (· ≤ ·)
  | [] => .nil
  | x :: xs => insI_sorted x _ (sortI_sorted xs)
theorem sorted_eq : ∀ {xs ys : List Int}, xs.Perm ys → xs.Pairwise (· ≤ ·) → ys.Pairwise (· ≤ ·) → xs = ys
  | [], ys, p, _, _ => p.nil_eq
  | x :: xs, [], p, _, _ => absurd p.length_eq (by simp)
  | x :: xs, y :: ys, p, hx, hy => by
    have hx' := List.pairwise_cons.mp hx
    have hy' := List.pairwise_cons.mp hy
    have e : x = y := by
      have h1 : x ∈ y :: ys := p.mem_iff.mp List.mem_cons_self
      have h2 : y ∈ x :: xs := p.mem_iff.mpr List.mem_cons_self
      rcases List.mem_cons.mp h1 with h1 | h1
      · exact h1
      · rcases List.mem_cons.mp h2 with h2 | h2
        · exact h2.symm
        · have := hx'.1 y h2
          have := hy'.1 x h1
          omega
    subst e
    rw [sorted_eq (List.Perm.cons_inv p) hx'.2 hy'.2]
/-- max, min of a list of ints -/
def maxO : List Int → Option Int
  | [] => none
  | x :: xs => some (xs.foldl (fun a y => if a < y then y else a) x)
def minO : List Int → Option Int
  | [] => none
  | x :: xs => some (xs.foldl (fun a y => if y < a then y else a) x)
theorem fold_max : ∀ (xs : List Int) (x : Int), (xs.foldl (fun a y => if a < y then y else a) x ∈ x :: xs) ∧ ∀ y ∈ x :: xs, y ≤ xs.foldl (fun a y => if a < y then y else a) x
  | [], x => by simp
  | z :: xs, x => by
    have ih := fold_max xs (if x < z then z else x)
    rw [List.foldl_cons]
    refine ⟨?_, fun y hy => ?_⟩
    · rcases List.mem_cons.mp ih.1 with h | h
      · rw [h]; split <;> simp
      · exact List.mem_cons_of_mem _ (List.mem_cons_of_mem _ h)
    · have h0 := ih.2 _ List.mem_cons_self
      rcases List.mem_cons.mp hy with e | hy
      · subst e; split at h0 <;> rename_i q
        · rw [if_pos q]; omega
        · rw [if_neg q]; exact h0
      · rcases List.mem_cons.mp hy with e | hy
        · subst e; split at h0 <;> rename_i q
          · rw [if_pos q]; exact h0
          · rw [if_neg q]; omega
        · exact ih.2 y (List.mem_cons_of_mem _ hy)
theorem fold_min : ∀ (xs : List Int) (x : Int), (xs.foldl (fun a y => if y < a then y else a) x ∈ x :: xs) ∧ ∀ y ∈ x :: xs, xs.foldl (fun a y => if y < a then y else a) x ≤ y
  | [], x => by simp
  | z :: xs, x => by
    have ih := fold_min xs (if z < x then z else x)
    rw [List.foldl_cons]
    refine ⟨?_, fun y hy => ?_⟩
    · rcases List.mem_cons.mp ih.1 with h | h
      · rw [h]; split <;> simp
      · exact List.mem_cons_of_mem _ (List.mem_cons_of_mem _ h)
    · have h0 := ih.2 _ List.mem_cons_self
      rcases List.mem_cons.mp hy with e | hy
      · subst e; split at h0 <;> rename_i q
        · rw [if_pos q]; omega
        · rw [if_neg q]; exact h0
      · rcases List.mem_cons.mp hy with e | hy
        · subst e; split at h0 <;> rename_i q
          · rw [if_pos q]; exact h0
          · rw [if_neg q]; omega
        · exact ih.2 y (List.mem_cons_of_mem _ hy)
theorem maxO_is {xs : List Int} {m : Int} (h : m ∈ xs) (k : ∀ y ∈ xs, y ≤ m) : maxO xs = some m := by
  cases xs with
  | nil => cases h
  | cons x xs =>
    have := fold_max xs x
    exact congrArg some (Int.le_antisymm (k _ this.1) (this.2 m h))
theorem minO_is {xs : List Int} {m : Int} (h : m ∈ xs) (k : ∀ y ∈ xs, m ≤ y) : minO xs = some m := by
  cases xs with
  | nil => cases h
  | cons x xs =>
    have := fold_min xs x
    exact congrArg some (Int.le_antisymm (this.2 m h) (k _ this.1))

abbrev St1 (X : Cx) (a : Expr) : Prop := starEach [a] X.env = (false, eval a X.env) :: starEach [] X.env
abbrev St2 (X : Cx) (a b : Expr) : Prop := starEach [a, b] X.env = (false, eval a X.env) :: starEach [b] X.env
section
variable {m : Type → Type} [Mn m] {α β γ δ : Type}
variable {X : Cx} {M : Bool} {e a b c : Expr} {es : List Expr} {ρ : List Slot} {E : α → D} {F : β → D} {p pos : Pos}
variable {wa : m α} {wb : m β}

/-- a call of one argument, by values: data out -/
theorem JE.fn1 {r : List V → Hp → VK → Prop} {call : Expr} (g : α → Option β) (hp : ∀ ta, PA X [a] ta → PE X call (tCB r ta))
    (k : ∀ O H v x y, g x = some y → Rep X.K X.mg O H v (E x) → ∀ Q : VK, (∀ v', Rep X.K X.mg O H v' (F y) → Q v' H) → r [v] H Q) (ha : JE X M a ρ E wa) (hs : starEach [a] X.env = (false, eval a X.env) :: starEach [] X.env := by rfl) :
    JE X M call ρ F (bd wa fun x => lf (g x)) :=
  ⟨⟨pe_weak (hp _ (pa_cons ha.b.pe pa_nil hs)) fun σ H Q ⟨sr, O, H0, ad, he, hw⟩ => ⟨sr, O, H0, ad, he, by
      have hw := le1 (f := fun x => lf (m := m) (g x)) (g := fun x => Wp.ofO (g x)) (fun _ => Mn.lift_le _) _ hw
      refine (Mn.wp wa).mono (fun x ⟨y, hy, q⟩ v H1 x1 r => k _ H1 v x y hy r Q fun v' r' => q v' H1 x1 r') hw⟩⟩⟩
theorem JE.fn1p {r : List V → Hp → VK → Prop} {call : Expr} (g : α → β) (hp : ∀ ta, PA X [a] ta → PE X call (tCB r ta))
    (k : ∀ O H v x, Rep X.K X.mg O H v (E x) → ∀ Q : VK, (∀ v', Rep X.K X.mg O H v' (F (g x)) → Q v' H) → r [v] H Q) (ha : JE X M a ρ E wa) (hs : starEach [a] X.env = (false, eval a X.env) :: starEach [] X.env := by rfl) :
    JE X M call ρ F (bd wa fun x => rt (g x)) :=
  ⟨⟨pe_weak (hp _ (pa_cons ha.b.pe pa_nil hs)) fun σ H Q ⟨sr, O, H0, ad, he, hw⟩ => ⟨sr, O, H0, ad, he, by
      have hw := le1 (f := fun x => rt (m := m) (g x)) (g := fun x => Wp.pure (g x)) (fun _ => lep) _ hw
      refine (Mn.wp wa).mono (fun x q v H1 x1 r => k _ H1 v x r Q fun v' r' => q v' H1 x1 r') hw⟩⟩⟩
/-- a call of one argument: a new list out -/
theorem JL.fn1p {r : List V → Hp → VK → Prop} {call : Expr} (g : α → List β) (hp : ∀ ta, PA X [a] ta → PE X call (tCB r ta))
    (k : ∀ O H v x, Rep X.K X.mg O H v (E x) → ∀ Q : VK, (∀ p vs, H p = none → Reps X.K X.mg O H vs ((g x).map F) → Q (.ref p) (upd H p (.lst vs))) → r [v] H Q) (ha : JE X M a ρ E wa) (hs : starEach [a] X.env = (false, eval a X.env) :: starEach [] X.env := by rfl) :
    JL X M call ρ F (bd wa fun x => rt (g x)) :=
  ⟨⟨pe_weak (hp _ (pa_cons ha.b.pe pa_nil hs)) fun σ H Q ⟨sr, O, H0, ad, he, hw⟩ => ⟨sr, O, H0, ad, he, by
      have hw := le1 (f := fun x => rt (m := m) (g x)) (g := fun x => Wp.pure (g x)) (fun _ => lep) _ hw
      refine (Mn.wp wa).mono (fun x q v H1 x1 r => k _ H1 v x r Q fun p vs hp r' => q p vs _ (x1.back hp) (x1.trans (Ext.new x1.srs hp)) upd_same ((r'.fresh hp).ext (Ext.new x1.srs hp) (fun S hS => .inl (he.sOM M S hS)))) hw⟩⟩⟩
/-- a call of two arguments: a value out -/
theorem JE.fn2p {r : List V → Hp → VK → Prop} {call : Expr} {G : γ → D} (g : α → β → γ) (hG : PureE G) (hp : ∀ ta, PA X [a, b] ta → PE X call (tCB r ta))
    (k : ∀ O H u v x y, Rep X.K X.mg O H u (E x) → Rep X.K X.mg O H v (F y) → ∀ Q : VK, (∀ v', Rep X.K X.mg O H v' (G (g x y)) → Q v' H) → r [u, v] H Q) (ha : JE X false a ρ E wa) (hb : JE X false b ρ F wb) (hs : starEach [a, b] X.env = (false, eval a X.env) :: starEach [b] X.env := by rfl) (hs2 : starEach [b] X.env = (false, eval b X.env) :: starEach [] X.env := by rfl) :
    JE X M call ρ G (bd wa fun x => bd wb fun y => rt (g x y)) :=
  ⟨⟨pe_weak (hp _ (pa_cons ha.b.pe (pa_cons hb.b.pe pa_nil hs2) hs)) fun σ H Q ⟨sr, O, H0, ad, he, hw⟩ => ⟨sr, O, H0, ad, he, by
      have hw := le2 (f := fun x y => rt (m := m) (g x y)) (g := fun x y => Wp.pure (g x y)) (fun _ _ => lep) _ hw
      refine (Mn.wp wa).mono (fun x q v H1 x1 r => ⟨sr, O, H0, ad, he.ext' x1, (Mn.wp wb).mono (fun y q2 v2 H2 x2 r2 => k O H2 v v2 x y (r.ext x2 he.sO) r2 Q fun v' r' => q2 v' H2 (x1.trans x2) (r'.pure _ _ (hG _))) q⟩) hw⟩⟩⟩

theorem JE.len {k : Kd} {wa : m (List α)} (hg : Gl X "len") (hm : X.mg "len" = none) (ha : JE X false a ρ (eQ k E) wa) (hs : St1 X a := by rfl) : JE X M (.Call (.Name "len" p) [a] [] pos) ρ eI (bd wa fun xs => rt (xs.length : Int)) :=
  (JE.fn1p (M := false) (E := eQ k E) (fun xs : List α => (xs.length : Int)) (fun ta hta => pe_callB call_len_seq hg hm PySem.boot_len hta (by decide) (by decide) hs rfl) (fun O H v xs r Q q => by
    obtain ⟨p, vs, rfl, hs, rs⟩ := r.seq
    refine ⟨p, vs, rfl, hs, ?_⟩
    rw [rs.length, List.length_map]
    exact q _ (.i _) ) ha hs).up pure_I
theorem JE.sum {wa : m (List Int)} (hc : X.calm = true) (hg : Gl X "sum") (hm : X.mg "sum" = none) (ha : JE X false a ρ (eL eI) wa) (hs : St1 X a := by rfl) : JE X M (.Call (.Name "sum" p) [a] [] pos) ρ eI (bd wa fun xs => rt xs.sum) :=
  (JE.fn1p (M := false) (E := eL eI) (fun xs : List Int => xs.sum) (fun ta hta => pe_callB (cr_sum hc) hg hm (by decide +kernel) hta (by decide) (by decide) hs rfl) (fun O H v xs r Q q => by
    obtain ⟨p, vs, rfl, hs, _, rs⟩ := r.seqL
    have rs : Reps X.K X.mg O H vs (xs.map D.i) := rs
    rw [rs.ints] at hs
    exact ⟨p, xs, rfl, .inl (.inl hs), q _ (.i _)⟩ ) ha hs).up pure_I
theorem JE.maxL {wa : m (List Int)} (hc : X.calm = true) (hg : Gl X "max") (hm : X.mg "max" = none) (ha : JE X false a ρ (eL eI) wa) (hs : St1 X a := by rfl) : JE X M (.Call (.Name "max" p) [a] [] pos) ρ eI (bd wa fun xs => lf (maxO xs)) :=
  (JE.fn1 (M := false) (E := eL eI) maxO (fun ta hta => pe_callB (cr_max hc) hg hm (by decide +kernel) hta (by decide) (by decide) hs rfl) (fun O H v xs y hy r Q q => by
    obtain ⟨p, vs, rfl, hs, _, rs⟩ := r.seqL
    have rs : Reps X.K X.mg O H vs (xs.map D.i) := rs
    rw [rs.ints] at hs
    refine ⟨p, xs, rfl, .inl (.inl hs), ?_, fun n hn hle => ?_⟩
    · cases xs with
      | nil => cases hy
      | cons x xs => simp
    · have : n = y := Option.some.inj ((maxO_is hn hle).symm.trans hy)
      rw [this]; exact q _ (.i _) ) ha hs).up pure_I
theorem JE.minL {wa : m (List Int)} (hc : X.calm = true) (hg : Gl X "min") (hm : X.mg "min" = none) (ha : JE X false a ρ (eL eI) wa) (hs : St1 X a := by rfl) : JE X M (.Call (.Name "min" p) [a] [] pos) ρ eI (bd wa fun xs => lf (minO xs)) :=
  (JE.fn1 (M := false) (E := eL eI) minO (fun ta hta => pe_callB (cr_min hc) hg hm (by decide +kernel) hta (by decide) (by decide) hs rfl) (fun O H v xs y hy r Q q => by
    obtain ⟨p, vs, rfl, hs, _, rs⟩ := r.seqL
    have rs : Reps X.K X.mg O H vs (xs.map D.i) := rs
    rw [rs.ints] at hs
    refine ⟨p, xs, rfl, .inl (.inl hs), ?_, fun n hn hle => ?_⟩
    · cases xs with
      | nil => cases hy
      | cons x xs => simp
    · have : n = y := Option.some.inj ((minO_is hn hle).symm.trans hy)
      rw [this]; exact q _ (.i _) ) ha hs).up pure_I
theorem JE.max2 {wa wb : m Int} (hc : X.calm = true) (hg : Gl X "max") (hm : X.mg "max" = none) (ha : JE X false a ρ eI wa) (hb : JE X false b ρ eI wb) (hs : St2 X a b := by rfl) (hs2 : St1 X b := by rfl) : JE X M (.Call (.Name "max" p) [a, b] [] pos) ρ eI (bd wa fun x => bd wb fun y => rt (if y > x then y else x)) :=
  JE.fn2p (E := eI) (F := eI) (G := eI) (fun x y : Int => if y > x then y else x) pure_I (fun ta hta => pe_callB (call_max2 hc) hg hm (by decide +kernel) hta (by decide) (by decide) hs (by rw [hs2]; rfl)) (fun O H u v x y r1 r2 Q q => by
    cases r1; cases r2
    exact ⟨x, y, rfl, q _ (.i _)⟩) ha hb hs hs2
theorem JE.min2 {wa wb : m Int} (hc : X.calm = true) (hg : Gl X "min") (hm : X.mg "min" = none) (ha : JE X false a ρ eI wa) (hb : JE X false b ρ eI wb) (hs : St2 X a b := by rfl) (hs2 : St1 X b := by rfl) : JE X M (.Call (.Name "min" p) [a, b] [] pos) ρ eI (bd wa fun x => bd wb fun y => rt (if y < x then y else x)) :=
  JE.fn2p (E := eI) (F := eI) (G := eI) (fun x y : Int => if y < x then y else x) pure_I (fun ta hta => pe_callB (call_min2 hc) hg hm (by decide +kernel) hta (by decide) (by decide) hs (by rw [hs2]; rfl)) (fun O H u v x y r1 r2 Q q => by
    cases r1; cases r2
    exact ⟨x, y, rfl, q _ (.i _)⟩) ha hb hs hs2
theorem JE.abs {wa : m Int} (hg : Gl X "abs") (hm : X.mg "abs" = none) (ha : JE X false a ρ eI wa) (hs : St1 X a := by rfl) : JE X M (.Call (.Name "abs" p) [a] [] pos) ρ eI (bd wa fun x => rt (if x < 0 then -x else x)) :=
  (JE.fn1p (M := false) (E := eI) (fun x : Int => if x < 0 then -x else x) (fun ta hta => pe_callB call_abs hg hm (by decide +kernel) hta (by decide) (by decide) hs rfl) (fun O H v x r Q q => by
    cases r
    exact ⟨x, rfl, q _ (.i _)⟩ ) ha hs).up pure_I
theorem JE.intI {wa : m Int} (hg : Gl X "int") (hm : X.mg "int" = none) (ha : JE X false a ρ eI wa) (hs : St1 X a := by rfl) : JE X M (.Call (.Name "int" p) [a] [] pos) ρ eI (bd wa fun x => rt x) :=
  (JE.fn1p (M := false) (E := eI) (fun x : Int => x) (fun ta hta => pe_callTy call_int1 hg hm (by decide +kernel) hta (by decide) (by decide) hs rfl) (fun O H v x r Q q => by
    cases r
    exact .inl ⟨x, rfl, q _ (.i _)⟩ ) ha hs).up pure_I
theorem JE.intB {wa : m Bool} (hg : Gl X "int") (hm : X.mg "int" = none) (ha : JE X false a ρ eB wa) (hs : St1 X a := by rfl) : JE X M (.Call (.Name "int" p) [a] [] pos) ρ eI (bd wa fun x => rt (if x then 1 else 0)) :=
  (JE.fn1p (M := false) (E := eB) (fun x : Bool => if x then (1 : Int) else 0) (fun ta hta => pe_callTy call_int1 hg hm (by decide +kernel) hta (by decide) (by decide) hs rfl) (fun O H v x r Q q => by
    cases r
    exact .inr ⟨x, rfl, q _ (.i _)⟩ ) ha hs).up pure_I
theorem JE.any {wa : m (List Bool)} (hc : X.calm = true) (hg : Gl X "any") (hm : X.mg "any" = none) (ha : JE X false a ρ (eL eB) wa) (hs : St1 X a := by rfl) : JE X M (.Call (.Name "any" p) [a] [] pos) ρ eB (bd wa fun xs => rt (xs.any id)) :=
  (JE.fn1p (M := false) (E := eL eB) (fun xs : List Bool => xs.any id) (fun ta hta => pe_callB (cr_any hc) hg hm (by decide +kernel) hta (by decide) (by decide) hs rfl) (fun O H v xs r Q q => by
    obtain ⟨p, vs, rfl, hs, _, rs⟩ := r.seqL
    have rs : Reps X.K X.mg O H vs (xs.map D.b) := rs
    rw [rs.bls] at hs
    exact ⟨p, xs, rfl, .inl (.inl hs), q _ (.b _)⟩ ) ha hs).up pure_B
theorem JE.all {wa : m (List Bool)} (hc : X.calm = true) (hg : Gl X "all") (hm : X.mg "all" = none) (ha : JE X false a ρ (eL eB) wa) (hs : St1 X a := by rfl) : JE X M (.Call (.Name "all" p) [a] [] pos) ρ eB (bd wa fun xs => rt (xs.all id)) :=
  (JE.fn1p (M := false) (E := eL eB) (fun xs : List Bool => xs.all id) (fun ta hta => pe_callB (cr_all hc) hg hm (by decide +kernel) hta (by decide) (by decide) hs rfl) (fun O H v xs r Q q => by
    obtain ⟨p, vs, rfl, hs, _, rs⟩ := r.seqL
    have rs : Reps X.K X.mg O H vs (xs.map D.b) := rs
    rw [rs.bls] at hs
    exact ⟨p, xs, rfl, .inl (.inl hs), q _ (.b _)⟩ ) ha hs).up pure_B
/-- any of ints, by their truth -/
def rAnyI (K : PySem.W.Frag) : List V → Hp → VK → Prop := fun vs H Q => ∃ (a : Addr) (ns : List Int), vs = [V.ref a] ∧ SqL K H a (ns.map V.int) ∧ Q (.bl (ns.any fun x => x != 0)) H
theorem truth_ints {prog : Program} {w : World} {A : Around} {ns : List Int} {its : List Value} (e : IntsAre its ns) :
    TruthOf prog w A (fun i v => its.toArray[i]? = some v) (fun i => (ns.map fun x => x != 0).getD i false) := by
  intro i v s Q E hv hq
  have hq : Q ((ns.map fun x => x != 0).getD i false) s := hq
  have hv : its[i]? = some v := by simpa using hv
  have : ∀ {its : List Value} {ns : List Int} (i : Nat) (v : Value), IntsAre its ns → its[i]? = some v → ∃ n t, v = .int n t ∧ ns[i]? = some n := by
    intro its ns i v h
    induction h generalizing i with
    | nil => intro h; simp at h
    | cons n t r ih =>
      cases i with
      | zero => intro h; simp at h; exact ⟨n, t, h.symm, rfl⟩
      | succ i => intro h; exact ih i (by simpa using h)
  obtain ⟨n, t, rfl, hn⟩ := this i v e hv
  rw [List.getD_eq_getElem?_getD, List.getElem?_map, hn] at hq
  exact PyProof.Rows.truthy_int hq
theorem cr_anyI (hc : X.calm = true) : CallR X (.builtin "any") (rAnyI X.K) := by
  intro pins s σ H vs us Q I r h
  obtain ⟨a, ns, rfl, hs, q⟩ := h
  obtain ⟨its, rv, hl, _⟩ := I.list hs
  rw [Vals.ref1 r]
  have hb := rv.ints
  refine call_any_walk (iter_any hl.isList fun s₂ e2 st hne => ?_)
  subst e2
  refine ⟨_, _, _, _, _, _, _, rfl, Walks.list (A := X.A.in1) (I.ok.hd hc) _ a hne its.toArray, st, truth_ints hb, fun h' tk hk => ?_⟩
  refine ⟨.bl _, H, I.kept fun b o eo => hk b o (fun hmem => ?_) (Heap.get?_push_of_some _ eo), ?_, q⟩
  · rcases List.mem_cons.mp hmem with e1 | hmem
    · exact absurd (e1 ▸ Heap.lt_size eo) (Nat.lt_irrefl _)
    · cases hmem
  · show Value.bool _ = Value.bool _
    have hlen : its.length = (ns.map fun x => x != 0).length := by
      rw [List.length_map, ← rv.length, List.length_map]
    rw [List.size_toArray, hlen, L2.any_range, List.any_map]
    rfl
theorem JE.anyI {wa : m (List Int)} (hc : X.calm = true) (hg : Gl X "any") (hm : X.mg "any" = none) (ha : JE X false a ρ (eL eI) wa) (hs : St1 X a := by rfl) : JE X M (.Call (.Name "any" p) [a] [] pos) ρ eB (bd wa fun xs => rt (xs.any fun x => x != 0)) :=
  (JE.fn1p (M := false) (E := eL eI) (fun xs : List Int => xs.any fun x => x != 0) (fun ta hta => pe_callB (cr_anyI hc) hg hm (by decide +kernel) hta (by decide) (by decide) hs rfl) (fun O H v xs r Q q => by
    obtain ⟨p, vs, rfl, hs, _, rs⟩ := r.seqL
    have rs : Reps X.K X.mg O H vs (xs.map D.i) := rs
    rw [rs.ints] at hs
    exact ⟨p, xs, rfl, .inl (.inl hs), q _ (.b _)⟩ ) ha hs).up pure_B
theorem JL.sortedI {wa : m (List Int)} (hg : Gl X "sorted") (hm : X.mg "sorted" = none) (ha : JE X M a ρ (eL eI) wa) (hs : St1 X a := by rfl) : JL X M (.Call (.Name "sorted" p) [a] [] pos) ρ eI (bd wa fun xs => rt (sortI xs)) :=
  JL.fn1p (E := eL eI) sortI (fun ta hta => pe_callB cr_sortedI hg hm (by decide +kernel) hta (by decide) (by decide) hs rfl) (fun O H v xs r Q q => by
    obtain ⟨p, vs, rfl, hs, _, rs⟩ := r.seqL
    have rs : Reps X.K X.mg O H vs (xs.map D.i) := rs
    rw [rs.ints] at hs
    refine ⟨p, xs, rfl, .inl (.inl hs), fun ns' z hp hw hz => ?_⟩
    have : ns' = sortI xs := sorted_eq (hp.trans (sortI_perm xs).symm) hw (sortI_sorted xs)
    subst this
    exact q z _ hz (Reps.of_ints _)) ha hs
theorem JL.list {k : Kd} {wa : m (List α)} (hg : Gl X "list") (hm : X.mg "list" = none) (ha : JE X M a ρ (eQ k E) wa) (hs : St1 X a := by rfl) : JL X M (.Call (.Name "list" p) [a] [] pos) ρ E (bd wa fun xs => rt xs) :=
  JL.fn1p (E := eQ k E) (fun xs => xs) (fun ta hta => pe_callTy call_list_of hg hm (by decide +kernel) hta (by decide) (by decide) hs rfl) (fun O H v xs r Q q => by
    obtain ⟨p, vs, rfl, hs, rs⟩ := r.seq
    exact ⟨p, vs, rfl, hs, fun l hl => q l vs hl rs⟩) ha hs
theorem JE.tupleT {wa : m (List α)} (hg : Gl X "tuple") (hm : X.mg "tuple" = none) (ha : JE X M a ρ (eT E) wa) (hs : St1 X a := by rfl) : JE X M (.Call (.Name "tuple" p) [a] [] pos) ρ (eT E) (bd wa fun xs => rt xs) :=
  JE.fn1p (E := eT E) (F := eT E) (fun xs => xs) (fun ta hta => pe_callTy call_tupleT hg hm (by decide +kernel) hta (by decide) (by decide) hs rfl) (fun O H v xs r Q q => by
    obtain ⟨p, vs, rfl, hs, rs⟩ := r.seqS
    exact ⟨p, vs, rfl, .inl (.inl hs), q _ (.t hs rs)⟩) ha hs
theorem JE.tupleL {wa : m (List α)} (hg : Gl X "tuple") (hm : X.mg "tuple" = none) (ha : JE X M a ρ (eL E) wa) (hs : starEach [a] X.env = (false, eval a X.env) :: starEach [] X.env := by rfl) : JE X M (.Call (.Name "tuple" p) [a] [] pos) ρ (eT E) (bd wa fun xs => rt xs) :=
  ⟨⟨pe_weak (pe_callTy call_tuple_of hg hm (by decide +kernel) (pa_cons ha.b.pe pa_nil hs) (by decide) (by decide) hs rfl) fun σ H Q ⟨sr, O, H0, ad, he, hw⟩ => ⟨sr, O, H0, ad, he, by
      have hw := le1 (f := fun x => rt (m := m) x) (g := fun x => Wp.pure x) (fun _ => lep) _ hw
      refine (Mn.wp wa).mono (fun x q v H1 x1 r => ?_) hw
      obtain ⟨p, vs, rfl, hs, _, rs⟩ := r.seqL
      exact ⟨p, vs, rfl, .inl ⟨.inl (.inl hs), fun l hl => q _ _ (x1.trans (Ext.new x1.srs hl)) (.t upd_same (rs.ext (Ext.new x1.srs hl) (he.sOM M)))⟩⟩⟩⟩⟩

/-! ### == of data -/
mutual
def toPy : D → PyData
  | .n => .none
  | .b x => .bool x
  | .i x => .int x
  | .s x => .str x
  | .t xs => .tuple (toPys xs)
  | .l xs => .list (toPys xs)
  | .o _ _ _ => .dict []
  | .d _ _ => .dict []
  | .e _ _ => .dict []
def toPys : List D → List PyData
  | [] => []
  | x :: xs => toPy x :: toPys xs
end
mutual
def flatD : D → Bool
  | .n => true
  | .b _ => true
  | .i _ => true
  | .s _ => true
  | .t xs => flatDs xs
  | .l xs => flatDs xs
  | .o _ _ _ => false
  | .d _ _ => false
  | .e _ _ => false
def flatDs : List D → Bool
  | [] => true
  | x :: xs => flatD x && flatDs xs
end
theorem toPys_map : ∀ xs : List D, toPys xs = xs.map toPy
  | [] => rfl
  | x :: xs => by rw [toPys, toPys_map xs]; rfl
section
variable {K : PySem.W.Frag} {mg : Str → Option Value} {O : Addr → Prop} {H : Hp}
mutual
theorem Rep.dp : ∀ (d : D) (v : V), flatD d = true → Rep K mg O H v d → Dp K H v (toPy d)
  | .n, _, _, h => by cases h; exact .non
  | .b x, _, _, h => by cases h; exact .bl x
  | .i x, _, _, h => by cases h; exact .int x
  | .s x, _, _, h => by cases h; exact .str x
  | .t ds, _, f, h => by
    cases h with
    | t h1 h2 => exact .tup (.inl (.inl h1)) (Reps.dp ds _ f h2)
  | .l ds, _, f, h => by
    cases h with
    | l h1 h2 h3 => exact .lst (.inl (.inl h1)) (Reps.dp ds _ f h3)
  | .o _ _ _, _, f, _ => by cases f
  | .d _ _, _, f, _ => by cases f
  | .e _ _, _, f, _ => by cases f
theorem Reps.dp : ∀ (ds : List D) (vs : List V), flatDs ds = true → Reps K mg O H vs ds → DpAll K H vs (toPys ds)
  | [], _, _, h => by cases h; exact .nil
  | d :: ds, _, f, h => by
    cases h with
    | cons h1 h2 =>
      have f := Bool.and_eq_true_iff.mp f
      exact .cons (Rep.dp d _ f.1 h1) (Reps.dp ds _ f.2 h2)
end
end
/-- data that == can lay: of a depth below n -/
structure Shp (E : α → D) (n : Nat) : Prop where
  flat : ∀ x, flatD (E x) = true
  lay : ∀ x, (toPy (E x)).canLay0 = true
  dep : ∀ x, (toPy (E x)).depth ≤ n
theorem Shp.shaped {n : Nat} (h : Shp E n) (hn : n ≤ 64) (x : α) : SeqAt.shaped (toPy (E x)) = true := by
  unfold SeqAt.shaped
  rw [h.lay, decide_eq_true (Nat.le_trans (h.dep x) hn)]
  rfl
theorem shp_I : Shp eI 0 := ⟨fun _ => rfl, fun _ => rfl, fun _ => Nat.le_refl _⟩
theorem shp_B : Shp eB 0 := ⟨fun _ => rfl, fun _ => rfl, fun _ => Nat.le_refl _⟩
theorem shp_N : Shp eN 0 := ⟨fun _ => rfl, fun _ => rfl, fun _ => Nat.le_refl _⟩
theorem depth_all {n : Nat} : ∀ xs : List PyData, (∀ x ∈ xs, x.depth ≤ n) → PyData.depthAll xs ≤ n
  | [], _ => Nat.zero_le _
  | x :: xs, h => by
    rw [PyData.depthAll]
    exact Nat.max_le.mpr ⟨h x List.mem_cons_self, depth_all xs fun y hy => h y (List.mem_cons_of_mem _ hy)⟩
theorem lay_all : ∀ xs : List PyData, (∀ x ∈ xs, x.canLay0 = true) → PyData.canLayAll0 xs = true
  | [], _ => rfl
  | x :: xs, h => by
    rw [PyData.canLayAll0, h x List.mem_cons_self, lay_all xs fun y hy => h y (List.mem_cons_of_mem _ hy)]
    rfl
theorem flat_all : ∀ xs : List D, (∀ x ∈ xs, flatD x = true) → flatDs xs = true
  | [], _ => rfl
  | x :: xs, h => by
    rw [flatDs, h x List.mem_cons_self, flat_all xs fun y hy => h y (List.mem_cons_of_mem _ hy)]
    rfl
theorem shp_Q {n : Nat} {k : Kd} (h : Shp E n) : Shp (eQ k E) (n + 1) := by
  have m1 : ∀ xs : List α, ∀ d ∈ xs.map E, flatD d = true := fun xs d hd => by
    obtain ⟨x, _, rfl⟩ := List.mem_map.mp hd; exact h.flat x
  have m2 : ∀ xs : List α, ∀ d ∈ toPys (xs.map E), d.canLay0 = true := fun xs d hd => by
    rw [toPys_map] at hd
    obtain ⟨x, hx, rfl⟩ := List.mem_map.mp hd
    obtain ⟨y, _, rfl⟩ := List.mem_map.mp hx; exact h.lay y
  have m3 : ∀ xs : List α, ∀ d ∈ toPys (xs.map E), d.depth ≤ n := fun xs d hd => by
    rw [toPys_map] at hd
    obtain ⟨x, hx, rfl⟩ := List.mem_map.mp hd
    obtain ⟨y, _, rfl⟩ := List.mem_map.mp hx; exact h.dep y
  cases k with
  | l => exact ⟨fun xs => flat_all _ (m1 xs), fun xs => lay_all _ (m2 xs), fun xs => by
      show PyData.depth (.list _) ≤ n + 1
      rw [PyData.depth]; have := depth_all _ (m3 xs); omega⟩
  | t => exact ⟨fun xs => flat_all _ (m1 xs), fun xs => lay_all _ (m2 xs), fun xs => by
      show PyData.depth (.tuple _) ≤ n + 1
      rw [PyData.depth]; have := depth_all _ (m3 xs); omega⟩
theorem shp_P {n n' : Nat} (h : Shp E n) (h' : Shp F n') : Shp (eP E F) (max n n' + 1) := ⟨fun x => by
    show flatDs [E x.1, F x.2] = true
    simp [flatDs, h.flat, h'.flat], fun x => by
    show PyData.canLayAll0 [toPy (E x.1), toPy (F x.2)] = true
    simp [PyData.canLayAll0, h.lay, h'.lay], fun x => by
    show PyData.depth (.tuple [toPy (E x.1), toPy (F x.2)]) ≤ _
    have h1 := h.dep x.1
    have h2 := h'.dep x.2
    simp only [PyData.depth, PyData.depthAll]
    omega⟩
theorem shp_O {n : Nat} (h : Shp E n) : Shp (eO E) n := ⟨fun x => by cases x; exact rfl; exact h.flat _, fun x => by cases x; exact rfl; exact h.lay _, fun x => by cases x; exact Nat.zero_le _; exact h.dep _⟩
/-- == is = of what it stands for -/
structure Fth (E : α → D) [DecidableEq α] : Prop where
  eq : ∀ x y, PyData.eqv (toPy (E x)) (toPy (E y)) = decide (x = y)
theorem fth_I : Fth eI := ⟨fun x y => by show (x == y) = _; rw [Bool.beq_eq_decide_eq]⟩
theorem fth_B : Fth eB := ⟨fun x y => by show (x == y) = _; rw [Bool.beq_eq_decide_eq]⟩
theorem fth_S : Fth eS := ⟨fun x y => by show (x == y) = _; rw [Bool.beq_eq_decide_eq]⟩
theorem fth_all [DecidableEq α] (h : Fth E) : ∀ xs ys : List α, PyData.eqvAll (toPys (xs.map E)) (toPys (ys.map E)) = decide (xs = ys)
  | [], [] => rfl
  | [], _ :: _ => by simp [toPys, PyData.eqvAll]
  | _ :: _, [] => by simp [toPys, PyData.eqvAll]
  | x :: xs, y :: ys => by
    rw [List.map_cons, List.map_cons, toPys, toPys, PyData.eqvAll, h.eq, fth_all h xs ys]
    by_cases h1 : x = y
    · by_cases h2 : xs = ys <;> simp [h1, h2]
    · simp [h1]
theorem fth_Q [DecidableEq α] {k : Kd} (h : Fth E) : Fth (eQ k E) := by
  cases k with
  | l => exact ⟨fun x y => fth_all h x y⟩
  | t => exact ⟨fun x y => fth_all h x y⟩
theorem fth_P [DecidableEq α] [DecidableEq β] (h : Fth E) (h' : Fth F) : Fth (eP E F) := ⟨fun x y => by
  show PyData.eqvAll [toPy (E x.1), toPy (F x.2)] [toPy (E y.1), toPy (F y.2)] = _
  obtain ⟨x1, x2⟩ := x
  obtain ⟨y1, y2⟩ := y
  simp only [PyData.eqvAll, h.eq, h'.eq]
  by_cases h1 : x1 = y1
  · by_cases h2 : x2 = y2 <;> simp [h1, h2]
  · simp [h1]⟩
/-- == by what it stands for as data -/
def eqD (x y : D) : Bool := PyData.eqv (toPy x) (toPy y)
theorem JE.cmpD {op : CmpOp} {rr : PySem.W.Frag → R2} {g : Bool → Bool} (ho : OpR X (compareOp op) (rr X.K)) (hr : ∀ K x y H Q d e', Dp K H x d → Dp K H y e' → SeqAt.shaped d = true → SeqAt.shaped e' = true → Q (.bl (g (PyData.eqv d e'))) H → rr K x y H Q) (hm : behindInMarks op b = false) {n n' : Nat} (sE : Shp E n) (sF : Shp F n') (hn : n ≤ 64) (hn' : n' ≤ 64) (ha : JE X false a ρ E wa) (hb : JE X false b ρ F wb) :
    JE X M (.Compare a [op] [b] pos) ρ eB (bd wa fun x => bd wb fun y => rt (g (eqD (E x) (F y)))) :=
  ⟨⟨pe_weak (pe_cmpR ho ha.b.pe hb.b.pe hm) fun σ H Q ⟨sr, O, H0, ad, he, hw⟩ => ⟨sr, O, H0, ad, he, by
      have hw := le2 (f := fun x y => rt (m := m) (g (eqD (E x) (F y)))) (g := fun x y => Wp.pure (g (eqD (E x) (F y)))) (fun _ _ => lep) _ hw
      refine (Mn.wp wa).mono (fun x q v H1 x1 r => ⟨sr, O, H0, ad, he.ext' x1, (Mn.wp wb).mono (fun y q2 v2 H2 x2 r2 => hr _ _ _ _ _ _ _ ((r.ext x2 he.sO).dp _ _ (sE.flat x)) (r2.dp _ _ (sF.flat y)) (sE.shaped hn x) (sF.shaped hn' y) (q2 _ H2 (x1.trans x2) (.b _))) q⟩) hw⟩⟩⟩
theorem JT.cmpD {op : CmpOp} {rr : PySem.W.Frag → R2} {g : Bool → Bool} (ho : OpR X (compareOp op) (rr X.K)) (hr : ∀ K x y H Q d e', Dp K H x d → Dp K H y e' → SeqAt.shaped d = true → SeqAt.shaped e' = true → Q (.bl (g (PyData.eqv d e'))) H → rr K x y H Q) (hm : behindInMarks op b = false) {n n' : Nat} (sE : Shp E n) (sF : Shp F n') (hn : n ≤ 64) (hn' : n' ≤ 64) (ha : JE X false a ρ E wa) (hb : JE X false b ρ F wb) :
    JT X (.Compare a [op] [b] pos) ρ (bd wa fun x => bd wb fun y => rt (g (eqD (E x) (F y)))) :=
  ⟨⟨pt_weak (pt_cmpR ho ha.b.pe hb.b.pe hm) fun σ H Q ⟨sr, O, H0, ad, he, hw⟩ => ⟨sr, O, H0, ad, he, by
      have hw := le2 (f := fun x y => rt (m := m) (g (eqD (E x) (F y)))) (g := fun x y => Wp.pure (g (eqD (E x) (F y)))) (fun _ _ => lep) _ hw
      refine (Mn.wp wa).mono (fun x q v H1 x1 r => ⟨sr, O, H0, ad, he.ext' x1, (Mn.wp wb).mono (fun y q2 v2 H2 x2 r2 => hr _ _ _ _ _ _ _ ((r.ext x2 he.sO).dp _ _ (sE.flat x)) (r2.dp _ _ (sF.flat y)) (sE.shaped hn x) (sF.shaped hn' y) ⟨_, rfl, q2 H2 (x1.trans x2)⟩) q⟩) hw⟩⟩⟩
theorem JE.eqD {n n' : Nat} (hu : X.A.units + 64 < cLine) (sE : Shp E n) (sF : Shp F n') (hn : n ≤ 64) (hn' : n' ≤ 64) (ha : JE X false a ρ E wa) (hb : JE X false b ρ F wb) : JE X M (.Compare a [.Eq] [b] pos) ρ eB (bd wa fun x => bd wb fun y => rt (eqD (E x) (F y))) :=
  JE.cmpD (g := id) (op_eqD hu) (fun K x y H Q d e' h1 h2 h3 h4 q => ⟨d, e', h1, h2, h3, h4, q⟩) (nomark _) sE sF hn hn' ha hb
theorem JE.neD {n n' : Nat} (hu : X.A.units + 64 < cLine) (sE : Shp E n) (sF : Shp F n') (hn : n ≤ 64) (hn' : n' ≤ 64) (ha : JE X false a ρ E wa) (hb : JE X false b ρ F wb) : JE X M (.Compare a [.NotEq] [b] pos) ρ eB (bd wa fun x => bd wb fun y => rt (!(Wk.eqD (E x) (F y)))) :=
  JE.cmpD (g := fun b => !b) (op_neD hu) (fun K x y H Q d e' h1 h2 h3 h4 q => ⟨d, e', h1, h2, h3, h4, q⟩) (nomark _) sE sF hn hn' ha hb
/-- .. of one kind -/
theorem JE.eqF [DecidableEq α] {wb : m α} {n : Nat} (hu : X.A.units + 64 < cLine) (f : Fth E) (sE : Shp E n) (hn : n ≤ 64) (ha : JE X false a ρ E wa) (hb : JE X false b ρ E wb) : JE X M (.Compare a [.Eq] [b] pos) ρ eB (bd wa fun x => bd wb fun y => rt (decide (x = y))) := by
  have h := JE.eqD (M := M) (pos := pos) hu sE sE hn hn ha hb
  have e : (fun x y => rt (m := m) (Wk.eqD (E x) (E y))) = fun x y => rt (decide (x = y)) := funext fun x => funext fun y => congrArg _ (f.eq x y)
  have e2 : (fun x => bd wb fun y => rt (m := m) (Wk.eqD (E x) (E y))) = fun x => bd wb fun y => rt (decide (x = y)) := funext fun x => by rw [show (fun y => rt (m := m) (Wk.eqD (E x) (E y))) = _ from congrFun e x]
  rw [e2] at h
  exact h
theorem JE.neF [DecidableEq α] {wb : m α} {n : Nat} (hu : X.A.units + 64 < cLine) (f : Fth E) (sE : Shp E n) (hn : n ≤ 64) (ha : JE X false a ρ E wa) (hb : JE X false b ρ E wb) : JE X M (.Compare a [.NotEq] [b] pos) ρ eB (bd wa fun x => bd wb fun y => rt (!decide (x = y))) := by
  have h := JE.neD (M := M) (pos := pos) hu sE sE hn hn ha hb
  have e : (fun x y => rt (m := m) (!(Wk.eqD (E x) (E y)))) = fun x y => rt (!decide (x = y)) := funext fun x => funext fun y => congrArg (fun z => rt (!z)) (f.eq x y)
  have e2 : (fun x => bd wb fun y => rt (m := m) (!(Wk.eqD (E x) (E y)))) = fun x => bd wb fun y => rt (!decide (x = y)) := funext fun x => by rw [show (fun y => rt (m := m) (!(Wk.eqD (E x) (E y)))) = _ from congrFun e x]
  rw [e2] at h
  exact h
theorem JT.eqD {n n' : Nat} (hu : X.A.units + 64 < cLine) (sE : Shp E n) (sF : Shp F n') (hn : n ≤ 64) (hn' : n' ≤ 64) (ha : JE X false a ρ E wa) (hb : JE X false b ρ F wb) : JT X (.Compare a [.Eq] [b] pos) ρ (bd wa fun x => bd wb fun y => rt (eqD (E x) (F y))) :=
  JT.cmpD (g := id) (op_eqD hu) (fun K x y H Q d e' h1 h2 h3 h4 q => ⟨d, e', h1, h2, h3, h4, q⟩) (nomark _) sE sF hn hn' ha hb
theorem JT.neD {n n' : Nat} (hu : X.A.units + 64 < cLine) (sE : Shp E n) (sF : Shp F n') (hn : n ≤ 64) (hn' : n' ≤ 64) (ha : JE X false a ρ E wa) (hb : JE X false b ρ F wb) : JT X (.Compare a [.NotEq] [b] pos) ρ (bd wa fun x => bd wb fun y => rt (!(Wk.eqD (E x) (F y)))) :=
  JT.cmpD (g := fun b => !b) (op_neD hu) (fun K x y H Q d e' h1 h2 h3 h4 q => ⟨d, e', h1, h2, h3, h4, q⟩) (nomark _) sE sF hn hn' ha hb
/-- .. of one kind -/
theorem JT.eqF [DecidableEq α] {wb : m α} {n : Nat} (hu : X.A.units + 64 < cLine) (f : Fth E) (sE : Shp E n) (hn : n ≤ 64) (ha : JE X false a ρ E wa) (hb : JE X false b ρ E wb) : JT X (.Compare a [.Eq] [b] pos) ρ (bd wa fun x => bd wb fun y => rt (decide (x = y))) := by
  have h := JT.eqD (pos := pos) hu sE sE hn hn ha hb
  have e : (fun x y => rt (m := m) (Wk.eqD (E x) (E y))) = fun x y => rt (decide (x = y)) := funext fun x => funext fun y => congrArg _ (f.eq x y)
  have e2 : (fun x => bd wb fun y => rt (m := m) (Wk.eqD (E x) (E y))) = fun x => bd wb fun y => rt (decide (x = y)) := funext fun x => by rw [show (fun y => rt (m := m) (Wk.eqD (E x) (E y))) = _ from congrFun e x]
  rw [e2] at h
  exact h
theorem JT.neF [DecidableEq α] {wb : m α} {n : Nat} (hu : X.A.units + 64 < cLine) (f : Fth E) (sE : Shp E n) (hn : n ≤ 64) (ha : JE X false a ρ E wa) (hb : JE X false b ρ E wb) : JT X (.Compare a [.NotEq] [b] pos) ρ (bd wa fun x => bd wb fun y => rt (!decide (x = y))) := by
  have h := JT.neD (pos := pos) hu sE sE hn hn ha hb
  have e : (fun x y => rt (m := m) (!(Wk.eqD (E x) (E y)))) = fun x y => rt (!decide (x = y)) := funext fun x => funext fun y => congrArg (fun z => rt (!z)) (f.eq x y)
  have e2 : (fun x => bd wb fun y => rt (m := m) (!(Wk.eqD (E x) (E y)))) = fun x => bd wb fun y => rt (!decide (x = y)) := funext fun x => by rw [show (fun y => rt (m := m) (!(Wk.eqD (E x) (E y)))) = _ from congrFun e x]
  rw [e2] at h
  exact h
end
end Wk

namespace Wk
open PySem PySem.Spec PyProof.Rows L2

/-! ### what is walked -/
def Keep (K : PySem.W.Frag) (P : Addr → Prop) (H H' : Hp) : Prop := (∀ a o, H a = some o → ¬ P a → H' a = some o) ∧ ∀ a vs, (SqT K H a vs → SqT K H' a vs) ∧ (H a = some (.tup vs) → H' a = some (.tup vs))
section
variable {K : PySem.W.Frag} {mg : Str → Option Value} {P O : Addr → Prop} {H H' H1 H2 : Hp} {sr : Option Addr}
theorem Keep.refl : Keep K P H H := ⟨fun _ _ e _ => e, fun _ _ => ⟨fun e => e, fun e => e⟩⟩
theorem Keep.trans (a : Keep K P H H1) (b : Keep K P H1 H2) : Keep K P H H2 := ⟨fun x o e n => b.1 x o (a.1 x o e n) n, fun x vs => ⟨fun e => (b.2 x vs).1 ((a.2 x vs).1 e), fun e => (b.2 x vs).2 ((a.2 x vs).2 e)⟩⟩
theorem Rep.keep {v : V} {d : D} (h : Rep K mg P H v d) (k : Keep K P H H') : Rep K mg P H' v d := h.gen (fun a o e n => ⟨k.1 a o e n, n⟩) fun a vs => (k.2 a vs).2
theorem Reps.keep {v : List V} {d : List D} (h : Reps K mg P H v d) (k : Keep K P H H') : Reps K mg P H' v d := Reps.gen (fun a o e n => ⟨k.1 a o e n, n⟩) (fun a vs => (k.2 a vs).2) _ _ h
theorem DkOk.keep {u : HO} {d : D} (h : DkOk K mg P H u d) (k : Keep K P H H') : DkOk K mg P H' u d := h.map fun _ _ r => r.keep k
theorem Ext.keep (e : Ext sr H H') (h : ∀ S, sr = some S → P S) : Keep K P H H' := ⟨fun a o q n => e.1 a o q fun z => n (h a z), fun _ _ => ⟨fun q => e.sqT q, fun q => e.tup q⟩⟩
/-- all is kept -/
def All (H H' : Hp) : Prop := ∀ a o, H a = some o → H' a = some o
theorem All.refl : All H H := fun _ _ e => e
theorem All.ext (h : All H H') (s : Srs sr H) : Ext sr H H' := Ext.same s h
theorem All.new {p : Addr} {o : HO} (hp : H p = none) : All H (upd H p o) := fun a u e => by rw [upd_ne (ne_of_none e hp)]; exact e
theorem All.sqT (h : All H H') {a : Addr} {vs : List V} (q : SqT K H a vs) : SqT K H' a vs := by
  rcases q with (q | ⟨o, q⟩) | q
  · exact .inl (.inl (h a _ q))
  · exact .inl (.inr ⟨o, h a _ q⟩)
  · exact .inr q
theorem All.keep (h : All H H') : Keep K P H H' := ⟨fun a o e _ => h a o e, fun _ _ => ⟨fun q => h.sqT q, fun q => h _ _ q⟩⟩
end
section
variable {m : Type → Type} [Mn m] {α β γ δ : Type}
variable {X : Cx} {M : Bool} {e a b c iter tg : Expr} {es : List Expr} {ρ : List Slot} {E : α → D} {F : β → D} {p pos : Pos}
/-- .. or new to the heap -/
def Out (P : Addr → Prop) (H1 : Hp) : Addr → Prop := fun a => P a ∨ H1 a = none
theorem Reps.out {K : PySem.W.Frag} {mg : Str → Option Value} {P : Addr → Prop} {H : Hp} {vs : List V} {ds : List D} (r : Reps K mg P H vs ds) : Reps K mg (Out P H) H vs ds :=
  Reps.gen (fun a o e n => ⟨e, fun z => z.elim n fun z => by rw [e] at z; cases z⟩) (fun _ _ q => q) _ _ r
/-- a walk over xs: the items are data that may be kept, while what is not left out stands -/
def Wkn (K : PySem.W.Frag) (mg : Str → Option Value) (P Pi : Addr → Prop) (H1 : Hp) (E : α → D) (xs : List α) (J : It) : Prop :=
  Walk J xs.length (fun H => Keep K P H1 H) (fun i H v H' => All H H' ∧ ∃ x, xs[i]? = some x ∧ Rep K mg Pi H' v (E x))
def tI (K : PySem.W.Frag) (mg : Str → Option Value) (M : Bool) (ρ : List Slot) (E : α → D) (w : Wp (List α)) : TI := fun σ H R =>
  ∃ sr O H0 ad, Env K mg sr O H0 H σ ρ ad ∧ w.run fun xs => ∀ J H1, Ext sr H H1 → Wkn K mg (OM M O ad) (Out (OO O ad) H1) H1 E xs J → R J H1
structure JI (X : Cx) (M : Bool) (tg iter : Expr) (ρ : List Slot) (E : α → D) (a : m (List α)) : Prop where
  b : PI X tg iter (tI X.K X.mg M ρ E (Mn.wp a))
theorem pi_weak {X : Cx} {tg e : Expr} {t t' : TI} (h : PI X tg e t) (k : ∀ σ H Q, t' σ H Q → t σ H Q) : PI X tg e t' := ⟨fun pins s σ H Q I hw => h.run pins s σ H Q I (k σ H Q hw)⟩
theorem wkn_list {K : PySem.W.Frag} {mg : Str → Option Value} {P Pi : Addr → Prop} {H1 : Hp} {xs : List α} {p : Addr} {vs : List V} (hs : ∀ H, Keep K P H1 H → SqL K H p vs) (r : ∀ H, Keep K P H1 H → Reps K mg Pi H vs (xs.map E)) : Wkn K mg P Pi H1 E xs (Itl K p) where
  goes := fun i H hi g => by
    have hl : vs.length = xs.length := by rw [(r H g).length, List.length_map]
    exact ⟨vs, vs[i]'(by omega), hs H g, List.getElem?_eq_getElem (by omega)⟩
  stops := fun H g => by
    have hl : vs.length = xs.length := by rw [(r H g).length, List.length_map]
    exact ⟨vs, hs H g, by omega⟩
  yields := fun i H v H' hi g y => by
    obtain ⟨rfl, y⟩ := y
    obtain ⟨d, hd, rd⟩ := (r _ g).get' (y vs (hs _ g))
    rw [List.getElem?_map] at hd
    obtain ⟨x, hx, rfl⟩ := Option.map_eq_some_iff.mp hd
    exact ⟨All.refl, x, hx, rd⟩
theorem wkn_tup {K : PySem.W.Frag} {mg : Str → Option Value} {P Pi : Addr → Prop} {H1 : Hp} {xs : List α} {p : Addr} {vs : List V} (hs : ∀ H, Keep K P H1 H → SqT K H p vs) (r : ∀ H, Keep K P H1 H → Reps K mg Pi H vs (xs.map E)) : Wkn K mg P Pi H1 E xs (Itt K p) where
  goes := fun i H hi g => by
    have hl : vs.length = xs.length := by rw [(r H g).length, List.length_map]
    exact ⟨vs, vs[i]'(by omega), hs H g, List.getElem?_eq_getElem (by omega)⟩
  stops := fun H g => by
    have hl : vs.length = xs.length := by rw [(r H g).length, List.length_map]
    exact ⟨vs, hs H g, by omega⟩
  yields := fun i H v H' hi g y => by
    obtain ⟨rfl, y⟩ := y
    obtain ⟨d, hd, rd⟩ := (r _ g).get' (y vs (hs _ g))
    rw [List.getElem?_map] at hd
    obtain ⟨x, hx, rfl⟩ := Option.map_eq_some_iff.mp hd
    exact ⟨All.refl, x, hx, rd⟩
theorem Keep.le {K : PySem.W.Frag} {P P' : Addr → Prop} {H H' : Hp} (k : Keep K P H H') (h : ∀ a, P a → P' a) : Keep K P' H H' := ⟨fun a o e n => k.1 a o e fun z => n (h a z), k.2⟩
theorem JI.list {wa : m (List α)} (ha : JE X true a ρ (eL E) wa) : JI X M tg a ρ E wa := ⟨pi_weak (pi_list ha.b.pe) fun σ H R ⟨sr, O, H0, ad, he, hw⟩ =>
  ⟨sr, O, H0, ad, he, (Mn.wp wa).mono (fun xs q v H1 x1 r => by
    obtain ⟨p, vs, rfl, hs, hn, rs⟩ := r.seqL
    exact ⟨p, rfl, ⟨vs, .inl (.inl hs)⟩, q _ H1 x1 (wkn_list (fun H k => .inl (.inl ((k.le OM.le).1 p _ hs hn))) (fun H k => rs.out.keep (k.le fun a h => .inl (OM.le a h))))⟩) hw⟩⟩
theorem JI.tup {wa : m (List α)} (ha : JE X true a ρ (eT E) wa) : JI X M tg a ρ E wa := ⟨pi_weak (pi_tup ha.b.pe) fun σ H R ⟨sr, O, H0, ad, he, hw⟩ =>
  ⟨sr, O, H0, ad, he, (Mn.wp wa).mono (fun xs q v H1 x1 r => by
    obtain ⟨p, vs, rfl, hs, rs⟩ := r.seqT
    exact ⟨p, rfl, ⟨vs, hs⟩, q _ H1 x1 (wkn_tup (fun H k => (k.2 _ _).1 hs) (fun H k => rs.out.keep (k.le fun a h => .inl (OM.le a h))))⟩) hw⟩⟩
theorem Reps.pureE {K : PySem.W.Frag} {mg : Str → Option Value} {O O' : Addr → Prop} {H : Hp} {vs : List V} {xs : List α} (h : PureE E) (r : Reps K mg O H vs (xs.map E)) : Reps K mg O' H vs (xs.map E) :=
  Reps.pure _ _ (fun x hx => by obtain ⟨y, _, rfl⟩ := List.mem_map.mp hx; exact h y) r
/-- a list of the moment, of items that can't change -/
theorem JI.listP {wa : m (List α)} (hp : PureE E) (ha : JE X false a ρ (eL E) wa) : JI X false tg a ρ E wa := ⟨pi_weak (pi_list ha.b.pe) fun σ H R ⟨sr, O, H0, ad, he, hw⟩ =>
  ⟨sr, O, H0, ad, he, (Mn.wp wa).mono (fun xs q v H1 x1 r => by
    obtain ⟨p, vs, rfl, hs, hn, rs⟩ := r.seqL
    exact ⟨p, rfl, ⟨vs, .inl (.inl hs)⟩, q _ H1 x1 (wkn_list (fun H k => .inl (.inl (k.1 p _ hs hn))) (fun H k => (rs.pureE (O' := Out (OO O ad) H1) hp).keep (k.le fun a h => .inl (OM.le a h))))⟩) hw⟩⟩
/-- one's own list, in an expression -/
theorem JI.var (i : Nat) {n : Str} {xs : List α} (h : ρ[i]? = some (.l (xs.map E))) (hN : X.N[i]? = some n := by rfl) (hv : Vis X.env.scope n := by first | exact Or.inl rfl | exact Or.inr (Or.inl rfl) | exact Or.inr (Or.inr rfl)) (hd : (n == ("__debug__" : Str)) = false := by decide) (hcd : (n == ("__classdict__" : Str)) = false := by decide) :
    JI X false tg (.Name n pos) ρ E (rt (m := m) xs) := ⟨pi_weak (pi_list (pv i hN hv hd hcd)) fun σ H R ⟨sr, O, H0, ad, he, hw⟩ => by
  have hw := lep _ hw
  have hi := he.at_ i
  rw [h] at hi
  obtain ⟨p, vs, e1, e2, e3, rs⟩ := hi
  exact ⟨.ref p, e2, p, rfl, ⟨vs, .inl (.inl e3)⟩, hw _ H (Ext.refl he.srs) (wkn_list (fun H k => .inl (.inl (k.1 p _ e3 (he.dis _ p e1)))) (fun H k => rs.out.keep (k.le fun a h => .inl (OM.le a h))))⟩⟩

/-! ### ranges -/
def upFrom (a c : Int) : Nat → List Int
  | 0 => []
  | n + 1 => a :: upFrom (a + c) c n
theorem upFrom_len (c : Int) : ∀ (n : Nat) (a : Int), (upFrom a c n).length = n
  | 0, _ => rfl
  | n + 1, a => by rw [upFrom, List.length_cons, upFrom_len c n]
theorem upFrom_get (c : Int) : ∀ (n : Nat) (a : Int) (i : Nat), i < n → (upFrom a c n)[i]? = some (a + i * c)
  | n + 1, a, 0, _ => by simp [upFrom]
  | n + 1, a, i + 1, h => by
    rw [upFrom, List.getElem?_cons_succ, upFrom_get c n _ i (by omega)]
    congr 1
    rw [Int.natCast_add, Int.add_mul]
    omega
def bdd (x : Int) : Bool := decide (-4611686018427387904 ≤ x) && decide (x < 4611686018427387904)
theorem bdd_is {x : Int} (h : bdd x = true) : -(2 ^ 62) ≤ x ∧ x < 2 ^ 62 := by
  have h := Bool.and_eq_true_iff.mp h
  have h1 := of_decide_eq_true h.1
  have h2 := of_decide_eq_true h.2
  omega
def rangeO (a b : Int) : Option (List Int) := if (bdd a && bdd b) = true then some (upFrom a 1 (b - a).toNat) else none
def range1O (b : Int) : Option (List Int) := if bdd b = true then some (upFrom 0 1 b.toNat) else none
/-- range(a, b, -1) -/
def rangeDO (a b : Int) : Option (List Int) := if (bdd a && bdd b) = true then some (upFrom a (-1) (a - b).toNat) else none
theorem wkn_range {K : PySem.W.Frag} {mg : Str → Option Value} {P Pi : Addr → Prop} {H1 : Hp} {lo : Int} {n : Nat} : Wkn K mg P Pi H1 eI (upFrom lo 1 n) (Itr lo n) where
  goes := fun i H hi _ => by rw [upFrom_len] at hi; exact hi
  stops := fun H _ => by rw [upFrom_len]; exact Nat.le_refl _
  yields := fun i H v H' hi _ y => by
    obtain ⟨rfl, rfl⟩ := y
    rw [upFrom_len] at hi
    exact ⟨All.refl, lo + i, by rw [upFrom_get 1 n lo i hi, Int.mul_one], .i _⟩
theorem wkn_rangeC {K : PySem.W.Frag} {mg : Str → Option Value} {P Pi : Addr → Prop} {H1 : Hp} {lo c : Int} {n : Nat} : Wkn K mg P Pi H1 eI (upFrom lo c n) (Itc lo c n) where
  goes := fun i H hi _ => by rw [upFrom_len] at hi; exact hi
  stops := fun H _ => by rw [upFrom_len]; exact Nat.le_refl _
  yields := fun i H v H' hi _ y => by
    obtain ⟨rfl, rfl⟩ := y
    rw [upFrom_len] at hi
    exact ⟨All.refl, lo + (i : Nat) * c, upFrom_get c n lo i hi, .i _⟩
variable {wa wb : m Int}
theorem JI.range1 (hg : Gl X "range") (hm : X.mg "range" = none) (ha : JE X false a ρ eI wa) (hs : starEach [a] X.env = [(false, eval a X.env)] := by rfl) : JI X M tg (.Call (.Name "range" p) [a] [] pos) ρ eI (bd wa fun x => lf (range1O x)) :=
  ⟨pi_weak (pi_range1 hg hm (pa_cons ha.b.pe pa_nil hs) hs) fun σ H R ⟨sr, O, H0, ad, he, hw⟩ => ⟨sr, O, H0, ad, he, by
      have hw := le1 (f := fun x => lf (m := m) (range1O x)) (g := fun x => Wp.guard (bdd x = true) (upFrom 0 1 x.toNat)) (fun _ => leg) _ hw
      refine (Mn.wp wa).mono (fun x ⟨h, q⟩ v H1 x1 r => ?_) hw
      cases r
      obtain ⟨h1, h2⟩ := bdd_is h
      exact ⟨x, rfl, h1, h2, q _ H1 x1 wkn_range⟩⟩⟩
theorem JI.range2 (hg : Gl X "range") (hm : X.mg "range" = none) (ha : JE X false a ρ eI wa) (hb : JE X false b ρ eI wb) (hs : starEach [a, b] X.env = [(false, eval a X.env), (false, eval b X.env)] := by rfl) (hs2 : starEach [b] X.env = [(false, eval b X.env)] := by rfl) : JI X M tg (.Call (.Name "range" p) [a, b] [] pos) ρ eI (bd wa fun x => bd wb fun y => lf (rangeO x y)) :=
  ⟨pi_weak (pi_range2 hg hm (pa_cons ha.b.pe (pa_cons hb.b.pe pa_nil hs2) (by rw [hs, hs2])) hs hs2) fun σ H R ⟨sr, O, H0, ad, he, hw⟩ => ⟨sr, O, H0, ad, he, by
      have hw := le2 (f := fun x y => lf (m := m) (rangeO x y)) (g := fun x y => Wp.guard ((bdd x && bdd y) = true) (upFrom x 1 (y - x).toNat)) (fun _ _ => leg) _ hw
      refine (Mn.wp wa).mono (fun x q v H1 x1 r => ⟨sr, O, H0, ad, he.ext' x1, (Mn.wp wb).mono (fun y ⟨h, q⟩ v2 H2 x2 r2 => ?_) q⟩) hw
      cases r; cases r2
      have h := Bool.and_eq_true_iff.mp h
      obtain ⟨h1, h2⟩ := bdd_is h.1
      obtain ⟨h3, h4⟩ := bdd_is h.2
      exact ⟨x, y, rfl, ⟨h1, h2, h3, h4⟩, q _ H2 (x1.trans x2) wkn_range⟩⟩⟩
/-- range(a, b, -1) -/
theorem JI.rangeD {k p1 p2} (hg : Gl X "range") (hm : X.mg "range" = none) (ha : JE X false a ρ eI wa) (hb : JE X false b ρ eI wb) (hs : starEach [a, b, .UnaryOp .USub (.Constant (.int 1) k p1) p2] X.env = (false, eval a X.env) :: starEach [b, .UnaryOp .USub (.Constant (.int 1) k p1) p2] X.env := by rfl)
    (hs2 : starEach [b, .UnaryOp .USub (.Constant (.int 1) k p1) p2] X.env = (false, eval b X.env) :: starEach [.UnaryOp .USub (.Constant (.int 1) k p1) p2] X.env := by rfl) : JI X M tg (.Call (.Name "range" p) [a, b, .UnaryOp .USub (.Constant (.int 1) k p1) p2] [] pos) ρ eI (bd wa fun x => bd wb fun y => lf (rangeDO x y)) :=
  ⟨pi_weak (pi_range3 hg hm (pa_cons ha.b.pe (pa_cons hb.b.pe (pa_cons (pe_un un_neg pe_int) pa_nil) hs2) hs) hs (by rw [hs2]; rfl)) fun σ H R ⟨sr, O, H0, ad, he, hw⟩ => ⟨sr, O, H0, ad, he, by
      have hw := le2 (f := fun x y => lf (m := m) (rangeDO x y)) (g := fun x y => Wp.guard ((bdd x && bdd y) = true) (upFrom x (-1) (x - y).toNat)) (fun _ _ => leg) _ hw
      refine (Mn.wp wa).mono (fun x q v H1 x1 r => ⟨sr, O, H0, ad, he.ext' x1, (Mn.wp wb).mono (fun y ⟨h, q⟩ v2 H2 x2 r2 => ?_) q⟩) hw
      cases r; cases r2
      have h := Bool.and_eq_true_iff.mp h
      obtain ⟨h1, h2⟩ := bdd_is h.1
      obtain ⟨h3, h4⟩ := bdd_is h.2
      exact ⟨1, rfl, x, y, -1, (x - y).toNat, rfl, RgC.neg h1 h2 h3 h4, q _ H2 (x1.trans x2) wkn_rangeC⟩⟩⟩
/-! ### reversed, zip, enumerate -/
theorem rev_at {xs : List α} {i : Nat} (hi : i < xs.length) : xs.reverse[i]? = xs[xs.length - 1 - i]? := by
  rw [List.getElem?_reverse hi]
theorem JI.rev {k : Kd} {wa : m (List α)} (hg : Gl X "reversed") (hm : X.mg "reversed" = none) (ha : JE X true a ρ (eQ k E) wa) (hs : starEach [a] X.env = (false, eval a X.env) :: starEach [] X.env := by rfl) : JI X M tg (.Call (.Name "reversed" p) [a] [] pos) ρ E (bd wa fun xs => rt xs.reverse) :=
  ⟨pi_weak (RT.pi_revA hg hm ha.b.pe hs) fun σ H R ⟨sr, O, H0, ad, he, hw⟩ => ⟨sr, O, H0, ad, he, by
      have hw := le1 (f := fun x : List α => rt (m := m) x.reverse) (g := fun x : List α => Wp.pure x.reverse) (fun _ => lep) _ hw
      refine (Mn.wp wa).mono (fun xs q v H1 x1 r => ?_) hw
      cases k with
      | l =>
        obtain ⟨p, vs, rfl, hs, hn, rs⟩ := r.seqL
        have hl : vs.length = xs.length := by rw [rs.length, List.length_map]
        refine ⟨p, vs, rfl, .inl ⟨.inl (.inl hs), q _ H1 x1 ⟨fun i H hi g => ?_, fun H g => ?_, fun i H v H' hi g y => ?_⟩⟩⟩
        · rw [List.length_reverse] at hi
          exact ⟨by omega, vs, vs[vs.length - 1 - i]'(by omega), .inl (.inl ((g.le OM.le).1 p _ hs hn)), List.getElem?_eq_getElem (by omega)⟩
        · rw [List.length_reverse, ← hl]; exact Nat.le_refl _
        · obtain ⟨rfl, y⟩ := y
          rw [List.length_reverse] at hi
          obtain ⟨d, hd, rd⟩ := (rs.out.keep (g.le fun a h => .inl (OM.le a h))).get' (y vs (.inl (.inl ((g.le OM.le).1 p _ hs hn))))
          rw [List.getElem?_map] at hd
          obtain ⟨x, hx, rfl⟩ := Option.map_eq_some_iff.mp hd
          exact ⟨All.refl, x, by rw [rev_at hi, ← hl]; exact hx, rd⟩
      | t =>
        obtain ⟨p, vs, rfl, hs, rs⟩ := r.seqT
        have hl : vs.length = xs.length := by rw [rs.length, List.length_map]
        refine ⟨p, vs, rfl, .inr ⟨hs, q _ H1 x1 ⟨fun i H hi g => ?_, fun H g => ?_, fun i H v H' hi g y => ?_⟩⟩⟩
        · rw [List.length_reverse] at hi
          exact ⟨by omega, vs, vs[vs.length - 1 - i]'(by omega), (g.2 _ _).1 hs, List.getElem?_eq_getElem (by omega)⟩
        · rw [List.length_reverse, ← hl]; exact Nat.le_refl _
        · obtain ⟨rfl, y⟩ := y
          rw [List.length_reverse] at hi
          obtain ⟨d, hd, rd⟩ := (rs.out.keep (g.le fun a h => .inl (OM.le a h))).get' (y vs ((g.2 _ _).1 hs))
          rw [List.getElem?_map] at hd
          obtain ⟨x, hx, rfl⟩ := Option.map_eq_some_iff.mp hd
          exact ⟨All.refl, x, by rw [rev_at hi, ← hl]; exact hx, rd⟩⟩⟩
def enumL (i : Int) : List α → List (Int × α)
  | [] => []
  | x :: xs => (i, x) :: enumL (i + 1) xs
theorem enumL_len : ∀ (xs : List α) (i : Int), (enumL i xs).length = xs.length
  | [], _ => rfl
  | x :: xs, i => by rw [enumL, List.length_cons, List.length_cons, enumL_len xs]
theorem enumL_get : ∀ (xs : List α) (i : Int) (j : Nat) (x : α), xs[j]? = some x → (enumL i xs)[j]? = some (i + j, x)
  | [], _, _, _, h => by simp at h
  | y :: xs, i, 0, x, h => by simp at h; subst h; simp [enumL]
  | y :: xs, i, j + 1, x, h => by
    rw [enumL, List.getElem?_cons_succ, enumL_get xs (i + 1) j x (by simpa using h)]
    congr 2
    omega
variable {elts : List Expr} {kk : Nat} {tpos : Pos}
theorem JI.enum {wa : m (List α)} (hg : Gl X "enumerate") (hm : X.mg "enumerate" = none) (ha : JE X true a ρ (eL E) wa) (hs : starEach [a] X.env = [(false, eval a X.env)] := by rfl) : JI X M (.Tuple elts kk tpos) (.Call (.Name "enumerate" p) [a] [] pos) ρ (eP eI E) (bd wa fun xs => rt (enumL 0 xs)) :=
  ⟨pi_weak (pi_enum hg hm (pa_cons ha.b.pe pa_nil hs) hs) fun σ H R ⟨sr, O, H0, ad, he, hw⟩ => ⟨sr, O, H0, ad, he, by
      have hw := le1 (f := fun x => rt (m := m) (enumL 0 x)) (g := fun x => Wp.pure (enumL 0 x)) (fun _ => lep) _ hw
      refine (Mn.wp wa).mono (fun xs q v H1 x1 r => ?_) hw
      obtain ⟨p, vs, rfl, hs, hn, rs⟩ := r.seqL
      have hl : vs.length = xs.length := by rw [rs.length, List.length_map]
      refine ⟨p, vs, rfl, .inl (.inl hs), q _ H1 x1 ⟨fun i H hi g => ?_, fun H g => ?_, fun i H v H' hi g y => ?_⟩⟩
      · rw [enumL_len] at hi
        exact ⟨vs, vs[i]'(by omega), .inl (.inl ((g.le OM.le).1 p _ hs hn)), List.getElem?_eq_getElem (by omega)⟩
      · rw [enumL_len]; exact ⟨vs, .inl (.inl ((g.le OM.le).1 p _ hs hn)), by omega⟩
      · obtain ⟨T, z, rfl, hT, rfl, y⟩ := y
        obtain ⟨d, hd, rd⟩ := (rs.out.keep (g.le fun a h => .inl (OM.le a h))).get' (y vs (.inl (.inl ((g.le OM.le).1 p _ hs hn))))
        rw [List.getElem?_map] at hd
        obtain ⟨x, hx, rfl⟩ := Option.map_eq_some_iff.mp hd
        refine ⟨All.new hT, ((i : Nat) : Int) |> fun j => (j, x), by rw [enumL_get xs 0 i x hx]; simp, .t upd_same (.cons (.i _) (.cons (rd.keep (All.new hT).keep) .nil))⟩⟩⟩
theorem zip_get : ∀ {xs : List α} {ys : List β} {i : Nat} {x : α} {y : β}, xs[i]? = some x → ys[i]? = some y → (xs.zip ys)[i]? = some (x, y)
  | [], _, _, _, _, h, _ => by simp at h
  | _ :: _, [], _, _, _, _, h => by simp at h
  | x :: xs, y :: ys, 0, _, _, h, h' => by simp at h h'; subst h; subst h'; rfl
  | x :: xs, y :: ys, i + 1, _, _, h, h' => by
    rw [List.zip_cons_cons, List.getElem?_cons_succ]
    exact zip_get (by simpa using h) (by simpa using h')
theorem JI.zip {k : Kd} {wa : m (List α)} {wb : m (List β)} (hg : Gl X "zip") (hm : X.mg "zip" = none) (ha : JE X true a ρ (eQ k E) wa) (hb : JE X true b ρ (eQ k F) wb) (hs : St2 X a b := by rfl) (hs2 : St1 X b := by rfl) : JI X M (.Tuple elts kk tpos) (.Call (.Name "zip" p) [a, b] [] pos) ρ (eP E F) (bd wa fun xs => bd wb fun ys => rt (xs.zip ys)) :=
  ⟨pi_weak (RZ.pi_zipA hg hm (pa_cons ha.b.pe (pa_cons hb.b.pe pa_nil hs2) hs) hs (by rw [hs2]; rfl)) fun σ H R ⟨sr, O, H0, ad, he, hw⟩ => ⟨sr, O, H0, ad, he, by
      have hw := le2 (f := fun (x : List α) (y : List β) => rt (m := m) (x.zip y)) (g := fun (x : List α) (y : List β) => Wp.pure (x.zip y)) (fun _ _ => lep) _ hw
      refine (Mn.wp wa).mono (fun xs q v H1 x1 r => ⟨sr, O, H0, ad, he.ext' x1, (Mn.wp wb).mono (fun ys q v2 H2 x2 r2 => ?_) q⟩) hw
      have r := r.ext x2 (he.sOM true)
      cases k with
      | l =>
        obtain ⟨p1, vs, rfl, hs, hn, rs⟩ := r.seqL
        obtain ⟨p2, us, rfl, hs2, hn2, rs2⟩ := r2.seqL
        have hl : vs.length = xs.length := by rw [rs.length, List.length_map]
        have hl2 : us.length = ys.length := by rw [rs2.length, List.length_map]
        refine ⟨p1, p2, vs, us, rfl, .inl ⟨.inl (.inl hs), .inl (.inl hs2), q _ H2 (x1.trans x2) ⟨fun i H hi g => ?_, fun H g => ?_, fun i H v H' hi g y => ?_⟩⟩⟩
        · rw [List.length_zip] at hi
          exact ⟨vs, us, vs[i]'(by omega), us[i]'(by omega), .inl (.inl ((g.le OM.le).1 p1 _ hs hn)), .inl (.inl ((g.le OM.le).1 p2 _ hs2 hn2)), List.getElem?_eq_getElem (by omega), List.getElem?_eq_getElem (by omega)⟩
        · refine ⟨vs, us, .inl (.inl ((g.le OM.le).1 p1 _ hs hn)), .inl (.inl ((g.le OM.le).1 p2 _ hs2 hn2)), ?_⟩
          rw [List.length_zip]; omega
        · obtain ⟨T, z1, z2, rfl, hT, rfl, y, y2⟩ := y
          obtain ⟨d, hd, rd⟩ := (rs.out.keep (g.le fun a h => .inl (OM.le a h))).get' (y vs (.inl (.inl ((g.le OM.le).1 p1 _ hs hn))))
          obtain ⟨d2, hd2, rd2⟩ := (rs2.out.keep (g.le fun a h => .inl (OM.le a h))).get' (y2 us (.inl (.inl ((g.le OM.le).1 p2 _ hs2 hn2))))
          rw [List.getElem?_map] at hd hd2
          obtain ⟨x, hx, rfl⟩ := Option.map_eq_some_iff.mp hd
          obtain ⟨x2, hx2, rfl⟩ := Option.map_eq_some_iff.mp hd2
          exact ⟨All.new hT, (x, x2), zip_get hx hx2, .t upd_same (.cons (rd.keep (All.new hT).keep) (.cons (rd2.keep (All.new hT).keep) .nil))⟩
      | t =>
        obtain ⟨p1, vs, rfl, hs, rs⟩ := r.seqT
        obtain ⟨p2, us, rfl, hs2, rs2⟩ := r2.seqT
        have hl : vs.length = xs.length := by rw [rs.length, List.length_map]
        have hl2 : us.length = ys.length := by rw [rs2.length, List.length_map]
        refine ⟨p1, p2, vs, us, rfl, .inr ⟨hs, hs2, q _ H2 (x1.trans x2) ⟨fun i H hi g => ?_, fun H g => ?_, fun i H v H' hi g y => ?_⟩⟩⟩
        · rw [List.length_zip] at hi
          exact ⟨vs, us, vs[i]'(by omega), us[i]'(by omega), (g.2 _ _).1 hs, (g.2 _ _).1 hs2, List.getElem?_eq_getElem (by omega), List.getElem?_eq_getElem (by omega)⟩
        · refine ⟨vs, us, (g.2 _ _).1 hs, (g.2 _ _).1 hs2, ?_⟩
          rw [List.length_zip]; omega
        · obtain ⟨T, z1, z2, rfl, hT, rfl, y, y2⟩ := y
          obtain ⟨d, hd, rd⟩ := (rs.out.keep (g.le fun a h => .inl (OM.le a h))).get' (y vs ((g.2 _ _).1 hs))
          obtain ⟨d2, hd2, rd2⟩ := (rs2.out.keep (g.le fun a h => .inl (OM.le a h))).get' (y2 us ((g.2 _ _).1 hs2))
          rw [List.getElem?_map] at hd hd2
          obtain ⟨x, hx, rfl⟩ := Option.map_eq_some_iff.mp hd
          obtain ⟨x2, hx2, rfl⟩ := Option.map_eq_some_iff.mp hd2
          exact ⟨All.new hT, (x, x2), zip_get hx hx2, .t upd_same (.cons (rd.keep (All.new hT).keep) (.cons (rd2.keep (All.new hT).keep) .nil))⟩⟩⟩
end
end Wk

namespace Wk
open PySem PySem.Spec PyProof.Rows L2

/-! ### targets -/
def unads (ad : Nat → Option Addr) (js : List Nat) : Nat → Option Addr := fun j => if j ∈ js then none else ad j
theorem unads_nil {ad : Nat → Option Addr} : unads ad [] = ad := funext fun j => by unfold unads; rw [if_neg (by simp)]
theorem unads_cons {ad : Nat → Option Addr} {i : Nat} {js : List Nat} : unads ad (i :: js) = unad (unads ad js) i := funext fun j => by
  unfold unads unad
  by_cases h : j = i
  · subst h; simp
  · by_cases h2 : j ∈ js <;> simp [h, h2]
theorem unads_comm {ad : Nat → Option Addr} {i : Nat} {js : List Nat} : unads (unad ad i) js = unad (unads ad js) i := funext fun j => by
  unfold unads unad
  by_cases h : j = i
  · subst h; simp
  · by_cases h2 : j ∈ js <;> simp [h, h2]
def Off (js : List Nat) (σ σ' : L2.St) : Prop := σ'.length = σ.length ∧ ∀ i, i ∉ js → σ'[i]? = σ[i]?
section
variable {m : Type → Type} [Mn m] {α β γ δ : Type}
variable {X : Cx} {M : Bool} {e a b c iter tg : Expr} {es : List Expr} {ρ : List Slot} {E : α → D} {F : β → D} {p pos : Pos}
def tG (K : PySem.W.Frag) (mg : Str → Option Value) (js : List Nat) (E : α → D) (up : List Slot → α → List Slot) : TG := fun v σ H Q =>
  ∃ sr O H0 ad ρ x, Env K mg sr O H0 H σ ρ ad ∧ Rep K mg (OO O ad) H v (E x) ∧ ∀ σ', Env K mg sr O H0 H σ' (up ρ x) (unads ad js) → Off js σ σ' → Q σ' H
structure JG (X : Cx) (tg : Expr) (js : List Nat) (E : α → D) (up : List Slot → α → List Slot) : Prop where
  pg : PG X tg (tG X.K X.mg js E up)
theorem pg_weak {X : Cx} {tg : Expr} {t t' : TG} (h : PG X tg t) (k : ∀ v σ H Q, t' v σ H Q → t v σ H Q) : PG X tg t' := ⟨fun pins s σ H v u Q I r hw => h.run pins s σ H v u Q I r (k v σ H Q hw)⟩
theorem off_set {σ : L2.St} {j : Nat} {v : Option V} : Off [j] σ (σ.set j v) := ⟨by simp, fun i h => by
  rw [List.getElem?_set_ne]
  intro z; exact h (by simp [z])⟩
theorem JG.name (j : Nat) {n : Str} (hN : X.N.Nodup) (hi : X.N[j]? = some n) (hx : Loc X.env.scope n) (hf : X.fn n = true ∨ X.env.scope.names.lookup n = some .local) : JG X (.Name n pos) [j] E fun ρ x => ρ.set j (.d (E x)) :=
  ⟨pg_weak (pg_name hN hi hx hf) fun v σ H Q ⟨sr, O, H0, ad, ρ, x, he, r, k⟩ => k _ (by
    rw [unads_cons, unads_nil]
    exact he.put j v (E x) r) off_set⟩
theorem JG.pair (i j : Nat) {n n2 : Str} {p2 : Pos} {kk : Nat} (hc : X.calm = true) (hN : X.N.Nodup) (hi : X.N[i]? = some n) (hx : Loc X.env.scope n) (hf : X.fn n = true ∨ X.env.scope.names.lookup n = some .local) (hi2 : X.N[j]? = some n2) (hx2 : Loc X.env.scope n2) (hf2 : X.fn n2 = true ∨ X.env.scope.names.lookup n2 = some .local) :
    JG X (.Tuple [.Name n p, .Name n2 p2] kk pos) [i, j] (eP E F) fun ρ x => (ρ.set i (.d (E x.1))).set j (.d (F x.2)) :=
  ⟨pg_weak (pg_tup hc (pgs_cons (pg_name hN hi hx hf) (pgs_cons (pg_name hN hi2 hx2 hf2) pgs_nil (by rfl)) (by rfl)) (by rfl) (by rfl)) fun v σ H Q ⟨sr, O, H0, ad, ρ, x, he, r, k⟩ => by
    cases r with
    | t h1 h2 =>
      cases h2 with
      | cons r1 h2 =>
        cases h2 with
        | cons r2 h2 =>
          cases h2
          refine ⟨_, _, rfl, .inl (.inl h1), rfl, _, _, rfl, _, _, rfl, rfl, k _ ?_ ⟨by simp, fun l hl => ?_⟩⟩
          · have := (he.put i _ (E x.1) r1).put j _ (F x.2) (r2.sub unad_le)
            rw [unads_cons, unads_cons, unads_nil]
            have e2 : unad (unad ad j) i = unad (unad ad i) j := funext fun l => by
              unfold unad
              by_cases h : l = i <;> by_cases h2 : l = j <;> simp [h, h2]
            rw [e2]
            exact this
          · rw [List.getElem?_set_ne (fun z => hl (by simp [z])), List.getElem?_set_ne (fun z => hl (by simp [z]))]⟩

/-! ### comprehensions -/
def wipeS (ρ : List Slot) : List Nat → List Slot
  | [] => ρ
  | v :: vs => (wipeS ρ vs).set v .u
theorem Env.wipe {K : PySem.W.Frag} {mg : Str → Option Value} {sr : Option Addr} {O : Addr → Prop} {H0 H : Hp} {σ : L2.St} {ad : Nat → Option Addr} (e : Env K mg sr O H0 H σ ρ ad) : ∀ vs : List Nat, Env K mg sr O H0 H (L2.wipe σ vs) (wipeS ρ vs) (unads ad vs)
  | [] => by rw [unads_nil]; exact e
  | v :: vs => by
    rw [unads_cons]
    exact (Env.wipe e vs).forget v none
theorem wipe_at (σ : L2.St) (i : Nat) : ∀ vs : List Nat, (L2.wipe σ vs)[i]? = if i ∈ vs ∧ i < σ.length then some none else σ[i]?
  | [] => by rw [if_neg (by simp)]; rfl
  | v :: vs => by
    unfold L2.wipe
    by_cases h : v = i
    · subst h
      by_cases hl : v < σ.length
      · rw [List.getElem?_set_self (by rw [wipe_length]; exact hl), if_pos ⟨by simp, hl⟩]
      · rw [List.getElem?_eq_none (by rw [List.length_set, wipe_length]; omega), if_neg (fun z => hl z.2), List.getElem?_eq_none (by omega)]
    · rw [List.getElem?_set_ne h, wipe_at σ i vs]
      have : (i ∈ v :: vs ∧ i < σ.length) ↔ (i ∈ vs ∧ i < σ.length) := by
        rw [List.mem_cons]
        exact ⟨fun z => ⟨z.1.resolve_left (fun q => h q.symm), z.2⟩, fun z => ⟨.inr z.1, z.2⟩⟩
      simp only [this]
theorem wipe_off {σ σ' : L2.St} {js vs : List Nat} (h : Off js (L2.wipe σ vs) σ') (hj : ∀ j ∈ js, j ∈ vs) : L2.wipe σ' vs = L2.wipe σ vs := by
  apply List.ext_getElem?
  intro i
  have hl : σ'.length = σ.length := by rw [h.1, wipe_length]
  rw [wipe_at, wipe_at, hl]
  by_cases hi : i ∈ vs
  · by_cases h2 : i < σ.length
    · rw [if_pos ⟨hi, h2⟩, if_pos ⟨hi, h2⟩]
    · rw [if_neg (fun z => h2 z.2), if_neg (fun z => h2 z.2), List.getElem?_eq_none (by omega), List.getElem?_eq_none (by omega)]
  · rw [if_neg (fun z => hi z.1), if_neg (fun z => hi z.1), h.2 i (fun z => hi (hj i z)), wipe_at, if_neg (fun z => hi z.1)]
/-- no list of one's own stands at these slots -/
def ownFree (ρ : List Slot) (vs : List Nat) : Bool := vs.all fun j => match ρ[j]? with
  | some (.l _) => false
  | some (.w _) => false
  | some (.ob _ _ _ _) => false
  | _ => true
theorem ownFree_ad {K : PySem.W.Frag} {mg : Str → Option Value} {sr : Option Addr} {O : Addr → Prop} {H0 H : Hp} {σ : L2.St} {ad : Nat → Option Addr} (e : Env K mg sr O H0 H σ ρ ad) {vs : List Nat} (h : ownFree ρ vs = true) : unads ad vs = ad := funext fun j => by
  unfold unads
  split
  · rename_i hj
    have := List.all_eq_true.mp h j hj
    have ej := e.at_ j
    revert ej this
    generalize ρ[j]? = s
    intro this ej
    match s, this, ej with
    | none, _, ej => exact ej.symm
    | some .u, _, ej => exact ej.symm
    | some (.d x), _, ej => exact ej.1.symm
    | some .src, _, ej => exact ej.1.symm
    | some (.l _), this, _ => cases this
    | some (.w _), this, _ => cases this
    | some (.ob _ _ _ _), this, _ => cases this
  · rfl
/-- the outer heap with a new list at D, left out -/
theorem Env.more {K : PySem.W.Frag} {mg : Str → Option Value} {sr : Option Addr} {O : Addr → Prop} {H0 H H' : Hp} {σ : L2.St} {ad : Nat → Option Addr} (e : Env K mg sr O H0 H σ ρ ad) {d : Addr} (hd : H d = none) (x : Ext sr H H') (hm : Mut (H' d)) : Env K mg sr (fun a => O a ∨ a = d) H0 H' σ ρ ad := by
  have e' := e.ext' x
  have le : ∀ a, OO (fun a => O a ∨ a = d) ad a → OO O ad a ∨ a = d := fun a h => by
    rcases h with (h | h) | h
    · exact .inl (.inl h)
    · exact .inr h
    · exact .inl (.inr h)
  refine ⟨e.len, fun j => ?_, e.inj, e.frs, e'.mu, fun S h => ⟨.inl (e'.sO S h), e'.srs S h⟩, fun p h => h.elim (e'.dom p) (fun z => by rw [z]; exact hm), fun j p h z => z.elim (e.dis j p h) (fun z => by
    have := e.mu j p h; rw [z, hd] at this; exact this), e'.ext⟩
  have q : SlotOk K mg (fun a => OO O ad a ∨ a = d) sr H σ[j]? (ad j) ρ[j]? := by
    have := e.at_ j
    revert this
    generalize ρ[j]? = s
    generalize σ[j]? = v
    generalize ad j = a
    intro h
    match s, h with
    | none, h => exact h
    | some .u, h => exact h
    | some (.d x), ⟨h1, w, h2, h3⟩ => exact ⟨h1, w, h2, h3.fresh hd⟩
    | some (.l xs), ⟨p, vs, h1, h2, h3, h4⟩ => exact ⟨p, vs, h1, h2, h3, h4.fresh hd⟩
    | some (.w d), ⟨p, u, h1, h2, h3, h4⟩ => exact ⟨p, u, h1, h2, h3, h4.fresh hd⟩
    | some (.ob p c ns ds), ⟨C, dx, fs, h1, h2, h3, h4, h5, h6⟩ => exact ⟨C, dx, fs, h1, h2, h3, h4, h5, h6.fresh hd⟩
    | some .src, h => exact h
  exact (q.ext x (fun S h => .inl (.inl (e.sO S h))) (fun p h z => e.dis j p h (e.sO p z))).sub le
def lcM (c : α → m Bool) (f : α → m β) : List α → m (List β)
  | [] => rt []
  | x :: xs => bd (c x) fun b => ifM b (bd (f x) fun y => bd (lcM c f xs) fun ys => rt (y :: ys)) (lcM c f xs)
/-- no more than a list may hold -/
def szO (xs : List α) : Option (List α) := if xs.length ≤ 16777216 then some xs else none
structure JTs (X : Cx) (ifs : List Expr) (ρ : List Slot) (a : m Bool) : Prop where
  pt : PTs X ifs (tT X.K X.mg ρ (Mn.wp a))
theorem JTs.nil : JTs X [] ρ (rt (m := m) true) := ⟨⟨fun pins s σ H Q I ⟨sr, O, H0, ad, he, hw⟩ => pts_nil.run pins s σ H Q I ((lep _ hw) H (Ext.refl he.srs))⟩⟩
theorem JTs.one {w : m Bool} (h : JT X c ρ w) : JTs X [c] ρ w := ⟨pts_one h.b.pt⟩
theorem pe_ex {X : Cx} {e : Expr} {t : α → TE} (h : ∀ x, PE X e (t x)) : PE X e (fun σ H Q => ∃ x, t x σ H Q) := ⟨fun pins s σ H Q I ⟨x, hw⟩ => (h x).run pins s σ H Q I hw⟩
theorem pts_ex {X : Cx} {e : List Expr} {t : α → TT} (h : ∀ x, PTs X e (t x)) : PTs X e (fun σ H Q => ∃ x, t x σ H Q) := ⟨fun pins s σ H Q I ⟨x, hw⟩ => (h x).run pins s σ H Q I hw⟩
theorem get_drop {xs : List α} {i : Nat} {x : α} (h : xs[i]? = some x) : xs.drop i = x :: xs.drop (i + 1) := by
  obtain ⟨hi, e⟩ := List.getElem?_eq_some_iff.mp h
  rw [List.drop_eq_getElem_cons hi, e]
theorem leM {c : α → m Bool} {f : α → m β} {x : α} {xs : List α} : Wp.Le (Mn.wp (lcM c f (x :: xs))) ((Mn.wp (c x)).bind fun b => .ite b ((Mn.wp (f x)).bind fun y => (Mn.wp (lcM c f xs)).bind fun ys => .pure (y :: ys)) (Mn.wp (lcM c f xs))) :=
  le1 fun b => leI (le1 fun y => le1 fun ys => lep) (Wp.Le.refl _)
variable {elt : Expr} {ifs : List Expr} {scope : Scope} {own : List (Str × Nat)} {js : List Nat} {up : List Slot → α → List Slot} {cM : α → m Bool} {f : α → m β} {wx : m (List α)} {M0 : Bool}
theorem Ext.updNew {sr : Option Addr} {H H' : Hp} {d : Addr} {o : HO} (x : Ext sr H H') (hd : H d = none) : Ext sr H (upd H' d o) := by
  refine ⟨fun a u e n => ?_, fun S hS => ⟨x.srs0 S hS, ?_⟩⟩
  · rw [upd_ne (ne_of_none e hd)]; exact x.1 a u e n
  · obtain ⟨i, j, e⟩ := x.srs S hS
    obtain ⟨i', j', e'⟩ := x.srs0 S hS
    exact ⟨i, j, by rw [upd_ne (ne_of_none e' hd)]; exact e⟩
theorem JL.lc_core (hi : JI X M0 tg iter ρ E wx) (hj : ∀ j ∈ js, j ∈ own.map (·.2)) (ho : ownFree ρ (own.map (·.2)) = true) {σ : L2.St} {H : Hp} {Q : VK}
    (h : tL X.K X.mg M ρ F (Mn.wp (bd wx fun xs => bd (lf (szO xs)) fun xs => lcM cM f xs)) σ H Q) :
    tLc (tI X.K X.mg M0 ρ E (Mn.wp wx)) (tG X.K X.mg js E up) (fun σ H Q => ∃ x, tT X.K X.mg (up (wipeS ρ (own.map (·.2))) x) (Mn.wp (cM x)) σ H Q) (fun σ H Q => ∃ x, tE X.K X.mg M (up (wipeS ρ (own.map (·.2))) x) F (Mn.wp (f x)) σ H Q) (own.map (·.2)) σ H Q := by
  obtain ⟨sr, O, H0, ad, he, hw⟩ := h
  have hw := le1 (fun xs => le1 (f := fun xs => lcM cM f xs) (g := fun xs => Mn.wp (lcM cM f xs)) (fun _ => Wp.Le.refl _)) _ hw
  generalize hvs : own.map (·.2) = vs at *
  refine ⟨sr, O, H0, ad, he, (Mn.wp wx).mono (fun xs q J H1 x1 wk D hD => ?_) hw⟩
  obtain ⟨xs', exs, q⟩ := Mn.lift_le _ _ q
  unfold szO at exs
  split at exs
  · rename_i hsz
    cases exs
    have e1 := he.ext' x1
    have nsr : sr ≠ some D := fun z => by obtain ⟨i, j, w⟩ := x1.srs D z; rw [hD] at w; cases w
    refine lc_it wk (g := tG X.K X.mg js E up) (tt := fun σ H Q => ∃ x, tT X.K X.mg (up (wipeS ρ vs) x) (Mn.wp (cM x)) σ H Q) (te := fun σ H Q => ∃ x, tE X.K X.mg M (up (wipeS ρ vs) x) F (Mn.wp (f x)) σ H Q) (vs := vs) (σ := σ) (Qd := fun H => Q (.ref D) H) (fun i H' => ∃ ys acc, H' D = some (.lst acc) ∧ acc.length ≤ i ∧ Reps X.K X.mg (fun a => OM M O ad a ∨ a = D) H' acc (ys.map F) ∧ Ext sr H1 H' ∧ (Mn.wp (lcM cM f (xs.drop i))).run fun zs => ∀ p vs H', H p = none → Ext sr H H' → H' p = some (.lst vs) → Reps X.K X.mg (fun a => OM M O ad a ∨ a = p) H' vs ((ys ++ zs).map F) → Q (.ref p) H')
      ⟨[], [], upd_same, Nat.le_refl _, .nil, Ext.new x1.srs hD, by rw [List.drop_zero]; exact q⟩ (fun i H' _ ⟨ys, acc, _, _, _, x2, _⟩ => x2.keep fun S hS => OM.of _ (he.sO S hS)) ?_ ?_
    · rintro i v H2 H3 hi ⟨ys, acc, h1, h2, h3, x2, hr⟩ ⟨ha, x, hx, rx⟩
      have x3 : Ext sr H1 H3 := x2.trans (ha.ext x2.srs)
      have hD3 : H3 D = some (.lst acc) := ha D _ h1
      rw [get_drop hx] at hr
      have hr := leM _ hr
      have e3 := (e1.more hD x3 (by rw [hD3]; trivial)).wipe vs
      have ead : unads ad vs = ad := ownFree_ad he ho
      rw [ead] at e3
      refine ⟨sr, _, H0, ad, _, x, e3, rx.sub (fun a z => ?_), fun σ' e4 off => ⟨wipe_off off hj, x, sr, _, H0, _, e4, (Mn.wp (cM x)).mono (fun b hb H4 x4 => ?_) hr⟩⟩
      · rcases z with (z | z) | z
        · exact .inl (.inl z)
        · rw [z]; exact .inr hD
        · exact .inl (.inr z)
      have eads : unads ad js = ad := funext fun j => by
        unfold unads
        split
        · rename_i hjj
          have := congrFun ead j
          unfold unads at this
          rw [if_pos (hj j hjj)] at this
          exact this
        · rfl
      rw [eads] at e4
      have hD4 : H4 D = some (.lst acc) := x4.1 D _ hD3 nsr
      have r4 : Reps X.K X.mg (fun a => OM M O ad a ∨ a = D) H4 acc (ys.map F) := h3.ext ((ha.ext x2.srs).trans x4) (fun S hS => .inl (he.sOM M S hS))
      cases b with
      | true =>
        dsimp only
        rw [if_pos rfl]
        have hb : ((Mn.wp (f x)).bind _).run _ := hb
        refine ⟨x, sr, _, H0, ad, e4.ext' x4, (Mn.wp (f x)).mono (fun y hy v H5 x5 ry => ?_) hb⟩
        have hD5 : H5 D = some (.lst acc) := x5.1 D _ hD4 nsr
        refine ⟨acc, hD5, ?_, ys ++ [y], acc ++ [v], upd_same, by simp; omega, ?_, ?_, (Mn.wp _).mono (fun zs hz => ?_) hy⟩
        · have := (List.getElem?_eq_some_iff.mp hx).1
          have : sizeLine = 16777216 := rfl
          omega
        · rw [List.map_append]
          refine Reps.append ((r4.ext x5 (fun S hS => .inl (he.sOM M S hS))).upd (.inr rfl) hD5 trivial) (.cons ?_ .nil)
          have ry : Rep X.K X.mg (fun a => OM M O ad a ∨ a = D) H5 v (F y) := ry.sub fun a z => by
            cases M with
            | true =>
              rcases z with (z | z) | z
              · exact .inl (.inl z)
              · exact .inr z
              · exact .inl (.inr z)
            | false => exact z
          exact ry.upd (.inr rfl) hD5 trivial
        · exact (x3.trans (x4.trans x5)).updNew hD
        · have hz : ∀ p vs H', H p = none → Ext sr H H' → H' p = some (.lst vs) → Reps X.K X.mg (fun a => OM M O ad a ∨ a = p) H' vs ((ys ++ y :: zs).map F) → Q (.ref p) H' := hz
          rw [List.append_assoc]
          exact hz
      | false =>
        dsimp only
        rw [if_neg Bool.false_ne_true]
        exact ⟨ys, acc, hD4, by omega, r4, x3.trans x4, hb⟩
    · rintro H' ⟨ys, acc, h1, h2, h3, x2, hr⟩
      rw [List.drop_length] at hr
      have hr := lep (m := m) _ hr
      have hr : ∀ p vs H', H p = none → Ext sr H H' → H' p = some (.lst vs) → Reps X.K X.mg (fun a => OM M O ad a ∨ a = p) H' vs ((ys ++ []).map F) → Q (.ref p) H' := hr
      rw [List.append_nil] at hr
      exact hr D acc H' (x1.back hD) (x1.trans x2) h1 h3
  · cases exs

abbrev Blk (X : Cx) (s : Shared) (H : Hp) (scope : Scope) (C : Addr) (cl : List (Str × Addr)) (fp : List Addr) : Cx := X.blk s H scope (compEnvC scope cl C X.env) fp
theorem JL.lc (hc : X.calm = true) (hN : X.N.Nodup) (hi : JI X M0 tg iter ρ E wx) (ok : BlkOk X.N X.env.scope scope own) (hj : ∀ j ∈ js, j ∈ own.map (·.2)) (ho : ownFree ρ (own.map (·.2)) = true)
    (hg : ∀ s H C cl fp, JG (Blk X s H scope C cl fp) tg js E up) (ht : ∀ s H C cl fp x, JTs (Blk X s H scope C cl fp) ifs (up (wipeS ρ (own.map (·.2))) x) (cM x)) (he : ∀ s H C cl fp x, JE (Blk X s H scope C cl fp) M elt (up (wipeS ρ (own.map (·.2))) x) F (f x)) (hs : ∀ x, foldedSetIterable iter X.env x = pure x := by intro _; rfl) :
    JL X M (.ListComp elt [⟨tg, iter, ifs, 0⟩] scope pos) ρ F (bd wx fun xs => bd (lf (szO xs)) fun xs => lcM cM f xs) :=
  ⟨⟨pe_weak (pe_lc hc hN hi.b ok (fun s H C cl fp => (hg s H C cl fp).pg) (fun s H C cl fp => pts_ex fun x => (ht s H C cl fp x).pt) (fun s H C cl fp => pe_ex fun x => (he s H C cl fp x).b.pe) hs) fun σ H Q h => JL.lc_core hi hj ho h⟩⟩
/-- .. no if -/
def mapM' (f : α → m β) : List α → m (List β)
  | [] => rt []
  | x :: xs => bd (f x) fun y => bd (mapM' f xs) fun ys => rt (y :: ys)
theorem mapM_le (f : α → m β) : ∀ xs, Wp.Le (Mn.wp (mapM' f xs)) (Mn.wp (lcM (fun _ => rt true) f xs))
  | [] => Wp.Le.refl _
  | x :: xs => by
    intro P h
    have h := le1 (f := fun y => bd (mapM' f xs) fun ys => rt (m := m) (y :: ys)) (g := fun y => (Mn.wp (mapM' f xs)).bind fun ys => .pure (y :: ys)) (fun y => le1 fun ys => lep) _ h
    refine Mn.bind_ge _ _ _ (Mn.pure_ge _ _ ?_)
    show (Mn.wp (ifM true _ _)).run P
    unfold ifM
    rw [if_pos rfl]
    exact Mn.bind_ge _ _ _ ((Mn.wp (f x)).mono (fun y q => Mn.bind_ge _ _ _ ((mapM_le f xs _ ((Mn.wp _).mono (fun ys z => Mn.pure_ge _ _ z) q)))) h)
theorem JL.lc0 (hc : X.calm = true) (hN : X.N.Nodup) (hi : JI X M0 tg iter ρ E wx) (ok : BlkOk X.N X.env.scope scope own) (hj : ∀ j ∈ js, j ∈ own.map (·.2)) (ho : ownFree ρ (own.map (·.2)) = true)
    (hg : ∀ s H C cl fp, JG (Blk X s H scope C cl fp) tg js E up) (he : ∀ s H C cl fp x, JE (Blk X s H scope C cl fp) M elt (up (wipeS ρ (own.map (·.2))) x) F (f x)) (hs : ∀ x, foldedSetIterable iter X.env x = pure x := by intro _; rfl) :
    JL X M (.ListComp elt [⟨tg, iter, [], 0⟩] scope pos) ρ F (bd wx fun xs => bd (lf (szO xs)) fun xs => mapM' f xs) :=
  ⟨(JL.lc hc hN hi ok hj ho hg (fun s H C cl fp x => JTs.nil) he hs).b.conv (fun P h => Mn.bind_ge _ _ _ ((Mn.wp wx).mono (fun xs q => Mn.bind_ge _ _ _ ((Mn.wp _).mono (fun ys q => mapM_le f ys _ q) (Mn.bind_le _ _ _ q))) (Mn.bind_le _ _ _ h)))⟩

/-! ### two clauses -/
def sz4 (xs : List α) : Option (List α) := if xs.length ≤ 4000 then some xs else none
def lc2M (c : α → m Bool) (g : α → m (List β)) (c1 : α → β → m Bool) (f : α → β → m γ) : List α → m (List γ)
  | [] => rt []
  | x :: xs => bd (c x) fun b => ifM b (bd (g x) fun ys => bd (lf (sz4 ys)) fun ys => bd (lcM (c1 x) (f x) ys) fun zs => bd (lc2M c g c1 f xs) fun ws => rt (zs ++ ws)) (lc2M c g c1 f xs)
variable {g2 : α → m (List β)} {c2 : α → β → m Bool} {f2 : α → β → m γ} {G : γ → D} {F2 : β → D} {tg1 iter1 : Expr} {ifs1 : List Expr} {vs1 js1 : List Nat} {up1 : List Slot → β → List Slot} {M1 : Bool}
theorem leM2 {x : α} {xs : List α} : Wp.Le (Mn.wp (lc2M cM g2 c2 f2 (x :: xs))) ((Mn.wp (cM x)).bind fun b => .ite b ((Mn.wp (g2 x)).bind fun ys => (Wp.ofO (sz4 ys)).bind fun ys => (Mn.wp (lcM (c2 x) (f2 x) ys)).bind fun zs => (Mn.wp (lc2M cM g2 c2 f2 xs)).bind fun ws => .pure (zs ++ ws)) (Mn.wp (lc2M cM g2 c2 f2 xs))) :=
  le1 fun b => leI (le1 fun ys => (Mn.bind_le _ _).trans (Wp.Le.bind (Mn.lift_le _) fun ys => le1 fun zs => le1 fun ws => lep)) (Wp.Le.refl _)
theorem Wp.ofO_run {o : Option α} {P : α → Prop} (h : (Wp.ofO o).run P) : ∃ x, o = some x ∧ P x := h
theorem walk_gen {J : It} {n : Nat} {Gd : Hp → Prop} {Y : Nat → Hp → V → Hp → Prop} (w : Walk J n Gd Y) (Pv : Nat → Hp → Prop) (body : V → Hp → (Hp → Prop) → Prop) {Hs : Hp} {Qd : Hp → Prop} (h0 : Pv 0 Hs) (hG : ∀ i H, i ≤ n → Pv i H → Gd H)
    (hs : ∀ i x H H', i < n → Pv i H → Y i H x H' → body x H' (Pv (i + 1))) (hd : ∀ H, Pv n H → Qd H) :
    ∃ W : Nat → Nat → Hp → Prop, (∃ m, W 0 m Hs) ∧ ∀ i m H, W i m H → (J.stop i H ∧ Qd H) ∨ (J.go i H ∧ ∃ Nx : Hp → Prop, (∀ H', Nx H' → ∃ m', m' < m ∧ W (i + 1) m' H') ∧ ∀ x H', J.yld i H x H' → body x H' Nx) := by
  refine ⟨fun i m H => m = n - i ∧ i ≤ n ∧ Pv i H, ⟨n, by simp, Nat.zero_le _, h0⟩, ?_⟩
  rintro i m H ⟨rfl, hi, p⟩
  have q := hG i H hi p
  by_cases hlt : i < n
  · refine .inr ⟨w.goes i H hlt q, Pv (i + 1), fun H' p' => ⟨n - (i + 1), by omega, rfl, hlt, p'⟩, fun x H' y => hs i x H H' hlt p (w.yields i H x H' hlt q y)⟩
  · have e : i = n := by omega
    subst e
    exact .inl ⟨w.stops H q, hd H p⟩
/-- all but the list at d is kept -/
structure ExtD (d : Addr) (sr : Option Addr) (H H' : Hp) : Prop where
  k : ∀ a o, H a = some o → a ≠ d → sr ≠ some a → H' a = some o
  s : ∀ S, sr = some S → SrcAt H S ∧ SrcAt H' S
  m : ∃ xs, H d = some (.lst xs)
  m' : ∃ xs, H' d = some (.lst xs)
theorem ExtD.sqT {K : PySem.W.Frag} {d : Addr} {sr : Option Addr} {H H' : Hp} (x : ExtD d sr H H') {a : Addr} {vs : List V} (h : SqT K H a vs) : SqT K H' a vs := by
  have ne : ∀ u, H a = some u → (∀ xs, u ≠ .lst xs) → sr ≠ some a := fun u h1 h2 z => by
    obtain ⟨⟨i, j, q⟩, _⟩ := x.s a z
    rw [h1] at q; cases q; exact h2 _ rfl
  have ne2 : ∀ u, H a = some u → (∀ xs, u ≠ .lst xs) → a ≠ d := fun u h1 h2 z => by
    obtain ⟨xs, q⟩ := x.m
    rw [← z, h1] at q; cases q; exact h2 _ rfl
  rcases h with (h | ⟨o, h⟩) | h
  · exact .inl (.inl (x.k a _ h (ne2 _ h fun _ z => nomatch z) (ne _ h fun _ z => nomatch z)))
  · exact .inl (.inr ⟨o, x.k a _ h (ne2 _ h fun _ z => nomatch z) (ne _ h fun _ z => nomatch z)⟩)
  · exact .inr h
theorem ExtD.tup {d : Addr} {sr : Option Addr} {H H' : Hp} (x : ExtD d sr H H') {a : Addr} {vs : List V} (h : H a = some (.tup vs)) : H' a = some (.tup vs) := x.k a _ h (fun z => by
    obtain ⟨xs, q⟩ := x.m
    rw [← z, h] at q; cases q) fun z => by
    obtain ⟨⟨i, j, q⟩, _⟩ := x.s a z
    rw [h] at q; cases q
theorem ExtD.keep {K : PySem.W.Frag} {P : Addr → Prop} {d : Addr} {sr : Option Addr} {H H' : Hp} (x : ExtD d sr H H') (hd : P d) (hs : ∀ S, sr = some S → P S) : Keep K P H H' :=
  ⟨fun a o e n => x.k a o e (fun z => n (by rw [z]; exact hd)) fun z => n (hs a z), fun _ _ => ⟨fun q => x.sqT q, fun q => x.tup q⟩⟩
theorem ExtD.ext {d : Addr} {sr : Option Addr} {H H1 H2 : Hp} (x : ExtD d sr H H1) (y : Ext sr H1 H2) (n : sr ≠ some d) : ExtD d sr H H2 :=
  ⟨fun a o e ne ns => y.1 a o (x.k a o e ne ns) ns, fun S hS => ⟨(x.s S hS).1, y.srs S hS⟩, x.m, let ⟨xs, e⟩ := x.m'; ⟨xs, y.1 d _ e n⟩⟩
theorem ExtD.upd {d : Addr} {sr : Option Addr} {H H1 : Hp} (x : ExtD d sr H H1) (ys : List V) (n : sr ≠ some d) : ExtD d sr H (L2.upd H1 d (.lst ys)) :=
  ⟨fun a o e ne ns => by rw [upd_ne ne]; exact x.k a o e ne ns, fun S hS => ⟨(x.s S hS).1, let ⟨i, j, e⟩ := (x.s S hS).2; ⟨i, j, by rw [upd_ne (fun z => n (by rw [hS, z]))]; exact e⟩⟩, x.m, ⟨ys, upd_same⟩⟩
theorem SlotOk.chg {K : PySem.W.Frag} {mg : Str → Option Value} {sr : Option Addr} {H H' : Hp} {Q : Addr → Prop} {v : Option (Option V)} {a : Option Addr} {s : Option Slot} (h : SlotOk K mg Q sr H v a s) (k : Keep K Q H H') (ka : ∀ p o, a = some p → H p = some o → H' p = some o) : SlotOk K mg Q sr H' v a s := by
  match s, h with
  | none, h => exact h
  | some .u, h => exact h
  | some (.d x), ⟨h1, w, h2, h3⟩ => exact ⟨h1, w, h2, h3.keep k⟩
  | some (.l xs), ⟨p, vs, h1, h2, h3, h4⟩ => exact ⟨p, vs, h1, h2, ka p _ h1 h3, h4.keep k⟩
  | some (.w d), ⟨p, u, h1, h2, h3, h4⟩ => exact ⟨p, u, h1, h2, ka p _ h1 h3, h4.keep k⟩
  | some (.ob p c ns ds), ⟨C, dx, fs, h1, h2, h3, h4, h5, h6⟩ => exact ⟨C, dx, fs, h1, h2, ka p _ h1 h3, h4, h5, h6.keep k⟩
  | some .src, h => exact h
theorem Env.extD {K : PySem.W.Frag} {mg : Str → Option Value} {sr : Option Addr} {O : Addr → Prop} {H0 H H' : Hp} {σ : L2.St} {ad : Nat → Option Addr} (e : Env K mg sr O H0 H σ ρ ad) {d : Addr} (hd : O d) (x : ExtD d sr H H') (h0 : H0 d = none) : Env K mg sr O H0 H' σ ρ ad := by
  have nd : ∀ j p, ad j = some p → p ≠ d := fun j p h z => e.dis j p h (by rw [z]; exact hd)
  have ns : ∀ j p, ad j = some p → sr ≠ some p := fun j p h z => e.dis j p h (e.sO p z)
  have mtt : ∀ p, Mut (H p) → p ≠ d → sr ≠ some p → Mut (H' p) := fun p h n1 n2 => by
    obtain ⟨o, q⟩ := mut_some h
    rw [x.k p o q n1 n2, ← q]; exact h
  refine ⟨e.len, fun j => (e.at_ j).chg (x.keep (.inl hd) fun S h => .inl (e.sO S h)) fun p o h q => x.k p o q (nd j p h) (ns j p h), e.inj, e.frs, fun j p h => mtt p (e.mu j p h) (nd j p h) (ns j p h), fun S h => ⟨e.sO S h, (x.s S h).2⟩, fun p h => ?_, e.dis, fun a o h n => x.k a o (e.ext a o h n) (fun z => by rw [z, h0] at h; cases h) n⟩
  by_cases h1 : p = d
  · obtain ⟨xs, q⟩ := x.m'
    rw [h1, q]; trivial
  · by_cases h2 : sr = some p
    · obtain ⟨_, i, j, q⟩ := x.s p h2
      rw [q]; trivial
    · exact mtt p (e.dom p h) h1 h2
theorem JL.lc2_core (hi : JI X M0 tg iter ρ E wx) (hj : ∀ j ∈ js, j ∈ own.map (·.2)) (ho : ownFree ρ (own.map (·.2)) = true) (hj1 : ∀ j ∈ js1, j ∈ vs1) (hv1 : ∀ j ∈ vs1, j ∈ own.map (·.2)) {σ : L2.St} {H : Hp} {Q : VK}
    (h : tL X.K X.mg M ρ G (Mn.wp (bd wx fun xs => bd (lf (sz4 xs)) fun xs => lc2M cM g2 c2 f2 xs)) σ H Q) :
    tLc2 (tI X.K X.mg M0 ρ E (Mn.wp wx)) (tG X.K X.mg js E up) (fun σ H Q => ∃ x, tT X.K X.mg (up (wipeS ρ (own.map (·.2))) x) (Mn.wp (cM x)) σ H Q)
      (fun σ H Q => ∃ x, tI X.K X.mg M1 (up (wipeS ρ (own.map (·.2))) x) F2 (Mn.wp (g2 x)) σ H Q) (tG X.K X.mg js1 F2 up1)
      (fun σ H Q => ∃ x : α × β, tT X.K X.mg (up1 (wipeS (up (wipeS ρ (own.map (·.2))) x.1) vs1) x.2) (Mn.wp (c2 x.1 x.2)) σ H Q)
      (fun σ H Q => ∃ x : α × β, tE X.K X.mg M (up1 (wipeS (up (wipeS ρ (own.map (·.2))) x.1) vs1) x.2) G (Mn.wp (f2 x.1 x.2)) σ H Q) (own.map (·.2)) vs1 σ H Q := by
  obtain ⟨sr, O, H0, ad, he, hw⟩ := h
  have hw := le1 (fun xs => le1 (f := fun xs => lc2M cM g2 c2 f2 xs) (g := fun xs => Mn.wp (lc2M cM g2 c2 f2 xs)) (fun _ => Wp.Le.refl _)) _ hw
  generalize hvs : own.map (·.2) = vs at *
  refine ⟨sr, O, H0, ad, he, (Mn.wp wx).mono (fun xs q J H1 x1 wk D hD => ?_) hw⟩
  obtain ⟨xs', exs, q⟩ := Mn.lift_le _ _ q
  unfold sz4 at exs
  split at exs
  · rename_i hsz
    cases exs
    have e1 := he.ext' x1
    have nsr : sr ≠ some D := fun z => by obtain ⟨i, j, w⟩ := x1.srs D z; rw [hD] at w; cases w
    have ead : unads ad vs = ad := ownFree_ad he ho
    have eadj : ∀ l : List Nat, (∀ j ∈ l, j ∈ vs) → unads ad l = ad := fun l hl => funext fun j => by
      unfold unads
      split
      · rename_i hjj
        have := congrFun ead j
        unfold unads at this
        rw [if_pos (hl j hjj)] at this
        exact this
      · rfl
    let Inv0 : Nat → List γ → Hp → Prop := fun n ys H' => ∃ acc, H' D = some (.lst acc) ∧ acc.length ≤ n ∧ Reps X.K X.mg (fun a => OM M O ad a ∨ a = D) H' acc (ys.map G) ∧ Ext sr H1 H'
    let Post : List γ → Prop := fun zs => ∀ p vs H', H p = none → Ext sr H H' → H' p = some (.lst vs) → Reps X.K X.mg (fun a => OM M O ad a ∨ a = p) H' vs (zs.map G) → Q (.ref p) H'
    have inv_ext : ∀ {n ys Ha Hb}, Inv0 n ys Ha → Ext sr Ha Hb → Inv0 n ys Hb := fun {n ys Ha Hb} ⟨acc, a1, a2, a3, a4⟩ xx => ⟨acc, xx.1 D _ a1 nsr, a2, a3.ext xx (fun S hS => .inl (he.sOM M S hS)), a4.trans xx⟩
    have inv_ext1 : ∀ {n ys Ha}, Inv0 n ys Ha → Ext sr H1 Ha := fun {n ys Ha} ⟨acc, a1, a2, a3, a4⟩ => a4
    have inv_app : ∀ {n ys Ha v y}, Inv0 n ys Ha → Rep X.K X.mg (OM M (fun a => O a ∨ a = D) ad) Ha v (G y) → n < sizeLine → ∃ acc, Ha D = some (.lst acc) ∧ acc.length < sizeLine ∧ Inv0 (n + 1) (ys ++ [y]) (upd Ha D (.lst (acc ++ [v]))) := fun {n ys Ha v y} ⟨acc, a1, a2, a3, a4⟩ ry hn => by
      refine ⟨acc, a1, by omega, acc ++ [v], upd_same, by simp; omega, ?_, a4.updNew hD⟩
      rw [List.map_append]
      refine Reps.append (a3.upd (.inr rfl) a1 trivial) (.cons ?_ .nil)
      have ry : Rep X.K X.mg (fun a => OM M O ad a ∨ a = D) Ha v (G y) := ry.sub fun a z => by
        cases M with
        | true =>
          rcases z with (z | z) | z
          · exact .inl (.inl z)
          · exact .inr z
          · exact .inl (.inr z)
        | false => exact z
      exact ry.upd (.inr rfl) a1 trivial
    have more : ∀ {n ys Ha}, Inv0 n ys Ha → Env X.K X.mg sr (fun a => O a ∨ a = D) H0 Ha σ ρ ad := fun {n ys Ha} ⟨acc, a1, a2, a3, a4⟩ => e1.more hD a4 (by rw [a1]; trivial)
    refine walk_gen wk (fun i H' => ∃ ys, Inv0 (i * 4000) ys H' ∧ (Mn.wp (lc2M cM g2 c2 f2 (xs.drop i))).run fun zs => Post (ys ++ zs)) _
      ⟨[], ⟨[], upd_same, by simp, .nil, Ext.new x1.srs hD⟩, by rw [List.drop_zero]; exact q⟩ (fun i H' _ ⟨ys, hI, _⟩ => (inv_ext1 hI).keep fun S hS => OM.of _ (he.sO S hS)) ?_ ?_
    · rintro i v H2 H3 hi ⟨ys, hI, hr⟩ ⟨ha, x, hx, rx⟩
      rw [get_drop hx] at hr
      have hr := leM2 _ hr
      have hI3 := inv_ext hI (ha.ext (inv_ext1 hI).srs)
      have e3 := (more hI3).wipe vs
      rw [ead] at e3
      refine ⟨sr, _, H0, ad, _, x, e3, rx.sub (fun a z => ?_), fun σ' e4 off => ⟨wipe_off off hj, x, sr, _, H0, _, e4, (Mn.wp (cM x)).mono (fun b hb H4 x4 => ?_) hr⟩⟩
      · rcases z with (z | z) | z
        · exact .inl (.inl z)
        · rw [z]; exact .inr hD
        · exact .inl (.inr z)
      rw [eadj js hj] at e4
      have hI4 := inv_ext hI3 x4
      cases b with
      | true =>
        dsimp only
        rw [if_pos rfl]
        have hb : ((Mn.wp (g2 x)).bind _).run _ := hb
        refine ⟨x, sr, _, H0, ad, e4.ext' x4, (Mn.wp (g2 x)).mono (fun us hu J1 H5 x5 wk1 => ?_) hb⟩
        obtain ⟨us', eus, hu⟩ := Wp.ofO_run hu
        unfold sz4 at eus
        split at eus
        · rename_i hsz1
          cases eus
          have hI5 := inv_ext hI4 x5
          have e5 := (e4.ext' x4).ext' x5
          have hD5 : ∃ xs, H5 D = some (.lst xs) := let ⟨acc, a1, _⟩ := hI5; ⟨acc, a1⟩
          have h0D : H0 D = none := by
            cases z : H0 D with
            | none => rfl
            | some o => rw [e1.ext D o z nsr] at hD; cases hD
          refine walk_gen wk1 (fun j H' => ∃ zs, Inv0 (i * 4000 + j) (ys ++ zs) H' ∧ ExtD D sr H5 H' ∧ (Mn.wp (lcM (c2 x) (f2 x) (us.drop j))).run fun ts => (Mn.wp (lc2M cM g2 c2 f2 (xs.drop (i + 1)))).run fun ws => Post (ys ++ ((zs ++ ts) ++ ws))) _
            ⟨[], by rw [List.append_nil]; exact hI5, ⟨fun _ _ e _ _ => e, fun S hS => ⟨x5.srs S hS, x5.srs S hS⟩, hD5, hD5⟩, by rw [List.drop_zero]; exact hu⟩ (fun j H' _ ⟨zs, hJ, xj, _⟩ => xj.keep (OM.of _ (.inr rfl)) fun S hS => OM.of _ (.inl (he.sO S hS))) ?_ ?_
          · rintro j v1 H6 H7 hj' ⟨zs, hJ, xj, hr1⟩ ⟨ha1, y, hy, ry⟩
            rw [get_drop hy] at hr1
            have hr1 := leM _ hr1
            have sr6 : Srs sr H6 := fun S hS => (xj.s S hS).2
            have x57 := xj.ext (ha1.ext sr6) nsr
            have hJ7 := inv_ext hJ (ha1.ext sr6)
            have e7 := (e5.extD (.inr rfl) x57 h0D).wipe vs1
            rw [eadj vs1 hv1] at e7
            refine ⟨sr, _, H0, ad, _, y, e7, ry.sub (fun a z => ?_), fun σ3 e8 off1 => ⟨wipe_off off1 hj1, (x, y), sr, _, H0, _, e8, (Mn.wp (c2 x y)).mono (fun b1 hb1 H8 x8 => ?_) hr1⟩⟩
            · exact .inl z
            rw [eadj js1 (fun j h => hv1 j (hj1 j h))] at e8
            have hJ8 := inv_ext hJ7 x8
            cases b1 with
            | true =>
              dsimp only
              rw [if_pos rfl]
              have hb1 : ((Mn.wp (f2 x y)).bind _).run _ := hb1
              refine ⟨(x, y), sr, _, H0, ad, e8.ext' x8, (Mn.wp (f2 x y)).mono (fun z hz v9 H9 x9 rz => ?_) hb1⟩
              have hJ9 := inv_ext hJ8 x9
              obtain ⟨acc, a1, a2, a3⟩ := inv_app hJ9 rz (by have : sizeLine = 16777216 := rfl; omega)
              refine ⟨acc, a1, a2, zs ++ [z], by rw [← List.append_assoc]; exact a3, ?_, (Mn.wp _).mono (fun ts hts => ?_) hz⟩
              · exact ((x57.ext x8 nsr).ext x9 nsr).upd _ nsr
              · have hts : (Mn.wp (lc2M cM g2 c2 f2 (xs.drop (i + 1)))).run fun ws => Post (ys ++ ((zs ++ z :: ts) ++ ws)) := hts
                rw [List.append_assoc]
                exact hts
            | false =>
              dsimp only
              rw [if_neg Bool.false_ne_true]
              obtain ⟨acc, a1, a2, a3⟩ := hJ8
              exact ⟨zs, ⟨acc, a1, by omega, a3⟩, x57.ext x8 nsr, hb1⟩
          · rintro H6 ⟨zs, ⟨acc, a1, a2, a3⟩, xj, hr1⟩
            rw [List.drop_length] at hr1
            have hr1 := lep (m := m) _ hr1
            have hr1 : (Mn.wp (lc2M cM g2 c2 f2 (xs.drop (i + 1)))).run fun ws => Post (ys ++ ((zs ++ []) ++ ws)) := hr1
            rw [List.append_nil] at hr1
            refine ⟨ys ++ zs, ⟨acc, a1, by omega, a3⟩, (Mn.wp _).mono (fun ws h => ?_) hr1⟩
            rw [List.append_assoc]; exact h
        · cases eus
      | false =>
        dsimp only
        rw [if_neg Bool.false_ne_true]
        obtain ⟨acc, a1, a2, a3⟩ := hI4
        exact ⟨ys, ⟨acc, a1, by omega, a3⟩, hb⟩
    · rintro H' ⟨ys, ⟨acc, a1, a2, a3, a4⟩, hr⟩
      rw [List.drop_length] at hr
      have hr := lep (m := m) _ hr
      have hr : Post (ys ++ []) := hr
      rw [List.append_nil] at hr
      exact hr D acc H' (x1.back hD) (x1.trans a4) a1 a3
  · cases exs
theorem pi_ex {X : Cx} {tg e : Expr} {t : α → TI} (h : ∀ x, PI X tg e (t x)) : PI X tg e (fun σ H Q => ∃ x, t x σ H Q) := ⟨fun pins s σ H Q I ⟨x, hw⟩ => (h x).run pins s σ H Q I hw⟩
theorem JL.lc2 (hc : X.calm = true) (hN : X.N.Nodup) (hi : JI X M0 tg iter ρ E wx) (ok : BlkOk X.N X.env.scope scope own) (hj : ∀ j ∈ js, j ∈ own.map (·.2)) (ho : ownFree ρ (own.map (·.2)) = true) (hj1 : ∀ j ∈ js1, j ∈ vs1) (hv1 : ∀ j ∈ vs1, j ∈ own.map (·.2))
    (hg : ∀ s H C cl fp, JG (Blk X s H scope C cl fp) tg js E up) (ht : ∀ s H C cl fp x, JTs (Blk X s H scope C cl fp) ifs (up (wipeS ρ (own.map (·.2))) x) (cM x))
    (hi1 : ∀ s H C cl fp x, JI (Blk X s H scope C cl fp) M1 tg1 iter1 (up (wipeS ρ (own.map (·.2))) x) F2 (g2 x)) (hg1 : ∀ s H C cl fp, JG (Blk X s H scope C cl fp) tg1 js1 F2 up1)
    (ht1 : ∀ s H C cl fp x y, JTs (Blk X s H scope C cl fp) ifs1 (up1 (wipeS (up (wipeS ρ (own.map (·.2))) x) vs1) y) (c2 x y)) (he : ∀ s H C cl fp x y, JE (Blk X s H scope C cl fp) M elt (up1 (wipeS (up (wipeS ρ (own.map (·.2))) x) vs1) y) G (f2 x y))
    (hs : ∀ x, foldedSetIterable iter X.env x = pure x := by intro _; rfl) (hs1 : ∀ env x, foldedSetIterable iter1 env x = pure x := by intro _ _; rfl) :
    JL X M (.ListComp elt [⟨tg, iter, ifs, 0⟩, ⟨tg1, iter1, ifs1, 0⟩] scope pos) ρ G (bd wx fun xs => bd (lf (sz4 xs)) fun xs => lc2M cM g2 c2 f2 xs) :=
  ⟨⟨pe_weak (pe_lc2 hc hN hi.b ok hv1 (fun s H C cl fp => (hg s H C cl fp).pg) (fun s H C cl fp => pts_ex fun x => (ht s H C cl fp x).pt) (fun s H C cl fp => pi_ex fun x => (hi1 s H C cl fp x).b) (fun s H C cl fp => (hg1 s H C cl fp).pg)
    (fun s H C cl fp => pts_ex fun x : α × β => (ht1 s H C cl fp x.1 x.2).pt) (fun s H C cl fp => pe_ex fun x : α × β => (he s H C cl fp x.1 x.2).b.pe) hs hs1) fun σ H Q h => JL.lc2_core hi hj ho hj1 hv1 h⟩⟩
/-- .. no if -/
def flat2 (g : α → m (List β)) (f : α → β → m γ) : List α → m (List γ)
  | [] => rt []
  | x :: xs => bd (g x) fun ys => bd (lf (sz4 ys)) fun ys => bd (mapM' (f x) ys) fun zs => bd (flat2 g f xs) fun ws => rt (zs ++ ws)
theorem bd_le {a a' : m α} {f f' : α → m β} (h : Wp.Le (Mn.wp a) (Mn.wp a')) (k : ∀ x, Wp.Le (Mn.wp (f x)) (Mn.wp (f' x))) : Wp.Le (Mn.wp (bd a f)) (Mn.wp (bd a' f')) := fun P q =>
  Mn.bind_ge _ _ _ (h _ ((Mn.wp a).mono (fun x z => k x P z) (Mn.bind_le _ _ _ q)))
theorem flat2_le (g : α → m (List β)) (f : α → β → m γ) : ∀ xs, Wp.Le (Mn.wp (flat2 g f xs)) (Mn.wp (lc2M (fun _ => rt true) g (fun _ _ => rt true) f xs))
  | [] => Wp.Le.refl _
  | x :: xs => by
    intro P h
    refine Mn.bind_ge _ _ _ (Mn.pure_ge _ _ ?_)
    show (Mn.wp (ifM true _ _)).run P
    unfold ifM
    rw [if_pos rfl]
    exact bd_le (Wp.Le.refl _) (fun ys => bd_le (Wp.Le.refl _) fun ys => bd_le (mapM_le (f x) ys) fun zs => bd_le (flat2_le g f xs) fun ws => Wp.Le.refl _) P h
theorem JL.lc20 (hc : X.calm = true) (hN : X.N.Nodup) (hi : JI X M0 tg iter ρ E wx) (ok : BlkOk X.N X.env.scope scope own) (hj : ∀ j ∈ js, j ∈ own.map (·.2)) (ho : ownFree ρ (own.map (·.2)) = true) (hj1 : ∀ j ∈ js1, j ∈ vs1) (hv1 : ∀ j ∈ vs1, j ∈ own.map (·.2))
    (hg : ∀ s H C cl fp, JG (Blk X s H scope C cl fp) tg js E up)
    (hi1 : ∀ s H C cl fp x, JI (Blk X s H scope C cl fp) M1 tg1 iter1 (up (wipeS ρ (own.map (·.2))) x) F2 (g2 x)) (hg1 : ∀ s H C cl fp, JG (Blk X s H scope C cl fp) tg1 js1 F2 up1)
    (he : ∀ s H C cl fp x y, JE (Blk X s H scope C cl fp) M elt (up1 (wipeS (up (wipeS ρ (own.map (·.2))) x) vs1) y) G (f2 x y))
    (hs : ∀ x, foldedSetIterable iter X.env x = pure x := by intro _; rfl) (hs1 : ∀ env x, foldedSetIterable iter1 env x = pure x := by intro _ _; rfl) :
    JL X M (.ListComp elt [⟨tg, iter, [], 0⟩, ⟨tg1, iter1, [], 0⟩] scope pos) ρ G (bd wx fun xs => bd (lf (sz4 xs)) fun xs => flat2 g2 f2 xs) :=
  ⟨(JL.lc2 hc hN hi ok hj ho hj1 hv1 hg (fun s H C cl fp x => JTs.nil) hi1 hg1 (fun s H C cl fp x y => JTs.nil) he hs hs1).b.conv (bd_le (Wp.Le.refl _) fun xs => bd_le (Wp.Le.refl _) fun ys => flat2_le _ _ ys)⟩
end
end Wk

namespace Wk
open PySem PySem.Spec PyProof.Rows L2

/-! ### a def's promise -/
def FreshL (K : PySem.W.Frag) (mg : Str → Option Value) (O : Addr → Prop) (H H' : Hp) (v : V) : D → Prop
  | .l ds => ∃ p vs, v = .ref p ∧ H p = none ∧ H' p = some (.lst vs) ∧ Reps K mg (fun a => O a ∨ a = p) H' vs ds
  | _ => True
def RetOk (K : PySem.W.Frag) (mg : Str → Option Value) (O : Addr → Prop) (H H' : Hp) (v : V) (r : D) : Prop := Rep K mg O H' v r ∧ FreshL K mg O H H' v r
/-- arguments and the wish for the answer -/
def spF (K : PySem.W.Frag) (mg : Str → Option Value) (F : List D → (D → Prop) → Prop) : Sp := fun vs H Q _ => ∃ O ds, (∀ p, O p → Mut (H p)) ∧ Reps K mg O H vs ds ∧ F ds fun r => ∀ v H', All H H' → RetOk K mg O H H' v r → Q v H'
/-- no list -/
def NotL : D → Prop
  | .l _ => False
  | _ => True
def NL {α : Type} (E : α → D) : Prop := ∀ x, NotL (E x)
theorem nl_I : NL eI := fun _ => trivial
theorem nl_B : NL eB := fun _ => trivial
theorem nl_S : NL eS := fun _ => trivial
theorem nl_N : NL eN := fun _ => trivial
theorem nl_T {α : Type} {E : α → D} : NL (eT E) := fun _ => trivial
theorem nl_P {α β : Type} {E : α → D} {F : β → D} : NL (eP E F) := fun _ => trivial
theorem nl_O {α : Type} {E : α → D} (h : NL E) : NL (eO E) := fun x => by cases x; exact trivial; exact h _
theorem freshL_of {K : PySem.W.Frag} {mg : Str → Option Value} {O : Addr → Prop} {H H' : Hp} {v : V} {d : D} (h : NotL d) : FreshL K mg O H H' v d := by
  cases d <;> first | exact trivial | exact h.elim

/-! ### statements -/
inductive Fl (α τ β : Type) where
  | nx (t : α)
  | rt (b : β)
  | bk (t : τ)
  | ct (t : τ)
def Fin (sr : Option Addr) (H H' : Hp) : Prop := (∀ a o, H a = some o → sr ≠ some a → H' a = some o) ∧ Srs sr H'
section
variable {m : Type → Type} [Mn m] {α β γ δ κ τ ω : Type}
/-- what is wanted behind a block: ρx where it falls through (none: it doesn't), ρl at break and continue -/
def endOk (K : PySem.W.Frag) (mg : Str → Option Value) (sr : Option Addr) (O : Addr → Prop) (H0 : Hp) (E : β → D) (ρx : Option (α → List Slot)) (ρl : τ → List Slot) (Dd : Ends) : Fl α τ β → Prop
  | .nx t => match ρx with
    | none => False
    | some f => ∀ σ' H' ad', Env K mg sr O H0 H' σ' (f t) ad' → Dd.nx σ' H'
  | .bk t => ∀ σ' H' ad', Env K mg sr O H0 H' σ' (ρl t) ad' → Dd.bk σ' H'
  | .ct t => ∀ σ' H' ad', Env K mg sr O H0 H' σ' (ρl t) ad' → Dd.ct σ' H'
  | .rt b => ∀ v H', Fin sr H0 H' → RetOk K mg O H0 H' v (E b) → Dd.rt v H'
def tB (K : PySem.W.Frag) (mg : Str → Option Value) (ρ : List Slot) (E : β → D) (ρx : Option (α → List Slot)) (ρl : τ → List Slot) (w : Wp (Fl α τ β)) : TS := fun Dd σ H =>
  ∃ sr O H0 ad, Env K mg sr O H0 H σ ρ ad ∧ w.run (endOk K mg sr O H0 E ρx ρl Dd)
def notNx : Fl α τ β → Prop
  | .nx _ => False
  | _ => True
/-- it never falls through -/
def NN (w : Wp (Fl α τ β)) : Prop := ∀ P, w.run P → w.run fun fl => P fl ∧ notNx fl
/-- a block: e tells the ends by what a hands back -/
structure JS (X : Cx) (sts : List Stmt) (ρ : List Slot) (E : β → D) (ρx : Option (α → List Slot)) (ρl : τ → List Slot) (e : κ → Fl α τ β) (a : m κ) : Prop where
  ps : PSs X sts (tB X.K X.mg ρ E ρx ρl ((Mn.wp a).bind fun k => .pure (e k)))
  nn : ρx.isNone = true → NN ((Mn.wp a).bind fun k => .pure (e k))
variable {X : Cx} {M : Bool} {ρ : List Slot} {E : β → D} {ρx : Option (α → List Slot)} {ρl : τ → List Slot} {e : κ → Fl α τ β} {rest : List Stmt} {pos p2 p3 : Pos}
theorem pss_weak {X : Cx} {sts : List Stmt} {t t' : TS} (h : PSs X sts t) (k : ∀ Dd σ H, t' Dd σ H → t Dd σ H) : PSs X sts t' := ⟨fun pins s σ H Dd I hw => h.run pins s σ H Dd I (k Dd σ H hw)⟩
theorem ps_weak {X : Cx} {st : Stmt} {t t' : TS} (h : PS X st t) (k : ∀ Dd σ H, t' Dd σ H → t Dd σ H) : PS X st t' := ⟨fun pins s σ H Dd I hw => h.run pins s σ H Dd I (k Dd σ H hw)⟩
theorem pss_ex {X : Cx} {sts : List Stmt} {t : γ → TS} (h : ∀ x, PSs X sts (t x)) : PSs X sts (fun Dd σ H => ∃ x, t x Dd σ H) := ⟨fun pins s σ H Dd I ⟨x, hw⟩ => (h x).run pins s σ H Dd I hw⟩
theorem bdk {a : m γ} {f : γ → m κ} {P : Fl α τ β → Prop} (h : ((Mn.wp (bd a f)).bind fun k => .pure (e k)).run P) : (Mn.wp a).run fun x => ((Mn.wp (f x)).bind fun k => .pure (e k)).run P := Mn.bind_le a f _ h

theorem kdb {a : m γ} {f : γ → m κ} {P : Fl α τ β → Prop} (h : (Mn.wp a).run fun x => ((Mn.wp (f x)).bind fun k => .pure (e k)).run P) : ((Mn.wp (bd a f)).bind fun k => .pure (e k)).run P := Mn.bind_ge a f _ h
theorem rtk {k : κ} {P : Fl α τ β → Prop} (h : ((Mn.wp (rt (m := m) k)).bind fun k => .pure (e k)).run P) : P (e k) := Mn.pure_le (m := m) k _ h
theorem nn_bd {a : m γ} {f : γ → m κ} (h : ∀ x, NN ((Mn.wp (f x)).bind fun k => Wp.pure (e k))) : NN ((Mn.wp (bd a f)).bind fun k => Wp.pure (e k)) := fun P q => kdb ((Mn.wp a).mono (fun x z => h x P z) (bdk q))
theorem nn_rt {k : κ} (h : notNx (e k)) : NN ((Mn.wp (rt (m := m) k)).bind fun k => Wp.pure (e k)) := fun P q => Mn.pure_ge (m := m) k _ ⟨rtk q, h⟩
theorem nn_if {b : Bool} {u v : m κ} (h1 : NN ((Mn.wp u).bind fun k => Wp.pure (e k))) (h2 : NN ((Mn.wp v).bind fun k => Wp.pure (e k))) : NN ((Mn.wp (ifM b u v)).bind fun k => Wp.pure (e k)) := by
  cases b with
  | true => exact h1
  | false => exact h2

/-! ### the end of a block -/
/-- slots forgotten; lists of one's own that change no more -/
inductive Lw : List Slot → List Slot → Prop
  | nil : Lw [] []
  | same {s r r'} : Lw r r' → Lw (s :: r) (s :: r')
  | drop {s r r'} : Lw r r' → Lw (s :: r) (.u :: r')
  | frz {xs r r'} : Lw r r' → Lw (.l xs :: r) (.d (.l xs) :: r')
theorem Lw.refl : ∀ r, Lw r r
  | [] => .nil
  | _ :: r => .same (Lw.refl r)
theorem Lw.at_ : ∀ {r r' : List Slot}, Lw r r' → ∀ j : Nat, r'[j]? = r[j]? ∨ r'[j]? = some .u ∨ ∃ xs, r[j]? = some (.l xs) ∧ r'[j]? = some (.d (.l xs))
  | _, _, .nil, _ => .inl rfl
  | _, _, .same _, 0 => .inl rfl
  | _, _, .drop _, 0 => .inr (.inl rfl)
  | _, _, .frz _, 0 => .inr (.inr ⟨_, rfl, rfl⟩)
  | _, _, .same h, j + 1 => by simpa using h.at_ j
  | _, _, .drop h, j + 1 => by simpa using h.at_ j
  | _, _, .frz h, j + 1 => by simpa using h.at_ j
theorem Lw.len : ∀ {r r' : List Slot}, Lw r r' → r'.length = r.length
  | _, _, .nil => rfl
  | _, _, .same h => by simp [h.len]
  | _, _, .drop h => by simp [h.len]
  | _, _, .frz h => by simp [h.len]
def isOwn : Option Slot → Bool
  | some (.l _) => true
  | some (.w _) => true
  | some (.ob _ _ _ _) => true
  | _ => false
theorem Env.lw {K : PySem.W.Frag} {mg : Str → Option Value} {sr : Option Addr} {O : Addr → Prop} {H0 H : Hp} {σ : L2.St} {ρ ρ' : List Slot} {ad : Nat → Option Addr} (he : Env K mg sr O H0 H σ ρ ad) (l : Lw ρ ρ') : ∃ ad', Env K mg sr O H0 H σ ρ' ad' ∧ ∀ j p, ad' j = some p → ad j = some p := by
  let ad' : Nat → Option Addr := fun j => if isOwn ρ'[j]? = true then ad j else none
  have some_ : ∀ {j p}, ad' j = some p → ad j = some p ∧ isOwn ρ'[j]? = true := fun {j p} h => by
    show _
    by_cases q : isOwn ρ'[j]? = true
    · simp only [ad', q, if_true] at h; exact ⟨h, q⟩
    · simp only [ad', q] at h; cases h
  have le : ∀ a, OO O ad' a → OO O ad a := fun a h => h.elim .inl fun ⟨j, z⟩ => .inr ⟨j, (some_ z).1⟩
  refine ⟨ad', ⟨by rw [he.len, l.len], fun j => ?_, fun j k p h1 h2 => he.inj j k p (some_ h1).1 (some_ h2).1, fun j p h => he.frs j p (some_ h).1, fun j p h => he.mu j p (some_ h).1, he.src, he.dom, fun j p h => he.dis j p (some_ h).1, he.ext⟩, fun j p h => (some_ h).1⟩
  have none_ : isOwn ρ'[j]? = false → ad' j = none := fun q => by simp only [ad', q]; rfl
  have own_ : isOwn ρ'[j]? = true → ad' j = ad j := fun q => by simp only [ad', q, if_true]
  have ej := he.at_ j
  rcases l.at_ j with q | q | ⟨xs, q1, q2⟩
  · cases hs : ρ[j]? with
    | none => rw [q, hs]; exact none_ (by rw [q, hs]; rfl)
    | some s =>
      rw [hs] at ej
      rw [q, hs]
      cases s with
      | u => exact none_ (by rw [q, hs]; rfl)
      | d x =>
        obtain ⟨_, w, h2, h3⟩ := ej
        exact ⟨none_ (by rw [q, hs]; rfl), w, h2, h3.sub le⟩
      | l xs =>
        obtain ⟨p, vs, h1, h2, h3, h4⟩ := ej
        exact ⟨p, vs, by rw [own_ (by rw [q, hs]; rfl)]; exact h1, h2, h3, h4.sub le⟩
      | w x =>
        obtain ⟨p, u, h1, h2, h3, h4⟩ := ej
        exact ⟨p, u, by rw [own_ (by rw [q, hs]; rfl)]; exact h1, h2, h3, h4.sub le⟩
      | ob p c ns ds =>
        obtain ⟨C, dx, fs, h1, h2, h3, h4, h5, h6⟩ := ej
        exact ⟨C, dx, fs, by rw [own_ (by rw [q, hs]; rfl)]; exact h1, h2, h3, h4, h5, h6.sub le⟩
      | src => exact ⟨none_ (by rw [q, hs]; rfl), ej.2⟩
  · rw [q]; exact none_ (by rw [q]; rfl)
  · rw [q1] at ej
    rw [q2]
    obtain ⟨p, vs, h1, h2, h3, h4⟩ := ej
    refine ⟨none_ (by rw [q2]; rfl), _, h2, .l h3 (fun z => ?_) (h4.sub le)⟩
    rcases z with z | ⟨k, z⟩
    · exact he.dis j p h1 z
    · obtain ⟨z1, z2⟩ := some_ z
      have := he.inj j k p h1 z1
      rw [← this, q2] at z2
      cases z2
theorem JS.nil {f : α → List Slot} (k : κ) {t : α} (hk : e k = .nx t) (l : Lw ρ (f t)) : JS X [] ρ E (some f) ρl e (rt (m := m) k) := ⟨pss_weak pss_nil fun Dd σ H ⟨sr, O, H0, ad, he, hw⟩ => (by
  have hw : endOk X.K X.mg sr O H0 E (some f) ρl Dd (e k) := rtk hw
  rw [hk] at hw
  obtain ⟨ad', he', _⟩ := he.lw l
  exact hw σ H ad' he'), fun z => by cases z⟩
/-- slots forgotten, lists given free -/
theorem JS.lw {sts : List Stmt} {ρ' : List Slot} {a : m κ} (l : Lw ρ ρ') (h : JS X sts ρ' E ρx ρl e a) : JS X sts ρ E ρx ρl e a := ⟨pss_weak h.ps fun Dd σ H ⟨sr, O, H0, ad, he, hw⟩ => by
  obtain ⟨ad', he', _⟩ := he.lw l
  exact ⟨sr, O, H0, ad', he', hw⟩, h.nn⟩
theorem JS.brk (k : κ) {t : τ} (hk : e k = .bk t) (l : Lw ρ (ρl t)) : JS X (.Break pos :: rest) ρ E ρx ρl e (rt (m := m) k) := ⟨pss_weak (pss_cons ps_break pss_never) fun Dd σ H ⟨sr, O, H0, ad, he, hw⟩ => (by
  have hw : endOk X.K X.mg sr O H0 E ρx ρl Dd (e k) := rtk hw
  rw [hk] at hw
  obtain ⟨ad', he', _⟩ := he.lw l
  exact hw σ H ad' he'), fun _ => nn_rt (by rw [hk]; trivial)⟩
theorem JS.cont (k : κ) {t : τ} (hk : e k = .ct t) (l : Lw ρ (ρl t)) : JS X (.Continue pos :: rest) ρ E ρx ρl e (rt (m := m) k) := ⟨pss_weak (pss_cons ps_continue pss_never) fun Dd σ H ⟨sr, O, H0, ad, he, hw⟩ => (by
  have hw : endOk X.K X.mg sr O H0 E ρx ρl Dd (e k) := rtk hw
  rw [hk] at hw
  obtain ⟨ad', he', _⟩ := he.lw l
  exact hw σ H ad' he'), fun _ => nn_rt (by rw [hk]; trivial)⟩
/-- never come to -/
theorem JS.never {sts : List Stmt} : JS X sts ρ E ρx ρl e (lf (m := m) none) := ⟨pss_weak pss_never fun Dd σ H ⟨sr, O, H0, ad, he, hw⟩ => (by
  obtain ⟨x, z, _⟩ := Mn.lift_le _ _ hw
  cases z), fun _ P q => (by
  obtain ⟨x, z, _⟩ := Mn.lift_le _ _ q
  cases z)⟩
theorem JS.pass {a : m κ} (h : JS X rest ρ E ρx ρl e a) : JS X (.Pass pos :: rest) ρ E ρx ρl e a := ⟨pss_weak (pss_cons ps_pass h.ps) fun Dd σ H hw => hw, h.nn⟩
theorem Env.fin {K : PySem.W.Frag} {mg : Str → Option Value} {sr : Option Addr} {O : Addr → Prop} {H0 H H' : Hp} {σ : L2.St} {ρ : List Slot} {ad : Nat → Option Addr} (he : Env K mg sr O H0 H σ ρ ad) (x : Ext sr H H') : Fin sr H0 H' := ⟨fun a o h n => x.1 a o (he.ext a o h n) n, x.srs⟩
theorem Env.fresh0 {K : PySem.W.Frag} {mg : Str → Option Value} {sr : Option Addr} {O : Addr → Prop} {H0 H : Hp} {σ : L2.St} {ρ : List Slot} {ad : Nat → Option Addr} (he : Env K mg sr O H0 H σ ρ ad) {p : Addr} (h : H p = none) : H0 p = none := by
  cases z : H0 p with
  | none => rfl
  | some o =>
    by_cases hs : sr = some p
    · obtain ⟨i, j, q⟩ := he.srs p hs
      rw [h] at q; cases q
    · rw [he.ext p o z hs] at h; cases h
/-- return e -/
theorem JS.ret {c : β → κ} {ex : Expr} {w : m β} (hc : ∀ b, e (c b) = .rt b) (nl : NL E) (h : JE X true ex ρ E w) : JS X (.Return (some ex) pos :: rest) ρ E ρx ρl e (bd w fun b => rt (c b)) := ⟨pss_weak (pss_cons (ps_ret h.b.pe) pss_never) fun Dd σ H ⟨sr, O, H0, ad, he, hw⟩ => (by
  refine ⟨sr, O, H0, ad, he, (Mn.wp w).mono (fun b q v H1 x1 r => ?_) (bdk hw)⟩
  have q : endOk X.K X.mg sr O H0 E ρx ρl Dd (e (c b)) := rtk q
  rw [hc b] at q
  exact q v H1 (he.fin x1) ⟨r.sub fun a z => .inl z, freshL_of (nl b)⟩), fun _ => nn_bd fun b => nn_rt (by rw [hc]; trivial)⟩
theorem JS.retL {E : β → D} {e : κ → Fl α τ (List β)} {c : List β → κ} {ex : Expr} {w : m (List β)} (hc : ∀ b, e (c b) = .rt b) (h : JL X true ex ρ E w) : JS X (.Return (some ex) pos :: rest) ρ (eL E) ρx ρl e (bd w fun b => rt (c b)) := ⟨pss_weak (pss_cons (ps_ret h.b.pe) pss_never) fun Dd σ H ⟨sr, O, H0, ad, he, hw⟩ => (by
  refine ⟨sr, O, H0, ad, he, (Mn.wp w).mono (fun b q p vs H1 hp x1 hp' r => ?_) (bdk hw)⟩
  have q : endOk X.K X.mg sr O H0 (eL E) ρx ρl Dd (e (c b)) := rtk q
  rw [hc b] at q
  refine q (.ref p) H1 (he.fin x1) ⟨.l hp' (fun z => he.fresh hp (.inl z)) (r.sub fun a z => .inl (.inl z)), p, vs, rfl, he.fresh0 hp, hp', r.sub fun a z => z.elim (fun z => .inl (.inl z)) .inr⟩), fun _ => nn_bd fun b => nn_rt (by rw [hc]; trivial)⟩
/-- return of one's own list -/
theorem JS.retV {E : β → D} {e : κ → Fl α τ (List β)} {c : List β → κ} (i : Nat) {n : Str} {xs : List β} (hc : ∀ b, e (c b) = .rt b) (h : ρ[i]? = some (.l (xs.map E))) (hN : X.N[i]? = some n := by rfl) (hv : Vis X.env.scope n := by first | exact Or.inl rfl | exact Or.inr (Or.inl rfl) | exact Or.inr (Or.inr rfl)) (hd : (n == ("__debug__" : Str)) = false := by decide) (hcd : (n == ("__classdict__" : Str)) = false := by decide) :
    JS X (.Return (some (.Name n p2)) pos :: rest) ρ (eL E) ρx ρl e (rt (m := m) (c xs)) := ⟨pss_weak (pss_cons (ps_ret (pv i hN hv hd hcd)) pss_never) fun Dd σ H ⟨sr, O, H0, ad, he, hw⟩ => (by
  have q : endOk X.K X.mg sr O H0 (eL E) ρx ρl Dd (e (c xs)) := rtk hw
  rw [hc] at q
  have hi := he.at_ i
  rw [h] at hi
  obtain ⟨p, vs, e1, e2, e3, rs⟩ := hi
  exact ⟨.ref p, e2, q _ H (he.fin (Ext.refl he.srs)) ⟨.l e3 (he.dis i p e1) (rs.sub fun a z => .inl z), p, vs, rfl, he.frs i p e1, e3, rs.sub fun a z => z.elim .inl fun z => .inr ⟨i, by rw [z]; exact e1⟩⟩⟩), fun _ => nn_rt (by rw [hc]; trivial)⟩
theorem JS.retN {E : Unit → D} (hE : E () = .n) {e : κ → Fl α τ Unit} {c : κ} (hc : e c = .rt ()) : JS X (.Return none pos :: rest) ρ E ρx ρl e (rt (m := m) c) := ⟨pss_weak (pss_cons ps_retN pss_never) fun Dd σ H ⟨sr, O, H0, ad, he, hw⟩ => (by
  have q : endOk X.K X.mg sr O H0 E ρx ρl Dd (e c) := rtk hw
  rw [hc] at q
  exact q .non H (he.fin (Ext.refl he.srs)) ⟨by rw [hE]; exact .n, by rw [hE]; trivial⟩), fun _ => nn_rt (by rw [hc]; trivial)⟩

/-! ### assignments -/
structure JAsE (X : Cx) (st : Stmt) (i : Nat) (ρ : List Slot) (F : γ → D) (w : m γ) : Prop where
  ps : PS X st (tAsg (tE X.K X.mg true ρ F (Mn.wp w)) (gName i))
structure JAsL (X : Cx) (st : Stmt) (i : Nat) (ρ : List Slot) (F : γ → D) (w : m (List γ)) : Prop where
  ps : PS X st (tAsg (tL X.K X.mg true ρ F (Mn.wp w)) (gName i))
variable {F : γ → D} {n : Str} {ex : Expr}
theorem JAsE.of {i : Nat} {w : m γ} (hN : X.N.Nodup) (hi : X.N[i]? = some n) (hx : Loc X.env.scope n) (hf : X.fn n = true ∨ X.env.scope.names.lookup n = some .local) (h : JE X true ex ρ F w) (hs : swapsWith ex (some (.Name n p2)) pos.line X.env = pure false := by rfl) : JAsE X (.Assign [.Name n p2] ex pos) i ρ F w := ⟨ps_set hN hi hx h.b.pe hs hf⟩
theorem JAsL.of {i : Nat} {w : m (List γ)} (hN : X.N.Nodup) (hi : X.N[i]? = some n) (hx : Loc X.env.scope n) (hf : X.fn n = true ∨ X.env.scope.names.lookup n = some .local) (h : JL X true ex ρ F w) (hs : swapsWith ex (some (.Name n p2)) pos.line X.env = pure false := by rfl) : JAsL X (.Assign [.Name n p2] ex pos) i ρ F w := ⟨ps_set hN hi hx h.b.pe hs hf⟩
theorem JAsL.ofL {st : Stmt} {i : Nat} {w : m (List γ)} (h : JAsL X st i ρ F w) : JAsE X st i ρ (eL F) w := ⟨ps_weak h.ps fun Dd σ H ⟨sr, O, H0, ad, he, hw⟩ =>
  ⟨sr, O, H0, ad, he, (Mn.wp w).mono (fun xs q p vs H' hp x1 hp' r => q (.ref p) H' x1 (.l hp' (he.freshM hp true) (r.sub fun a h => .inl h))) hw⟩⟩
theorem JS.asg {i : Nat} {st : Stmt} {w : m γ} {k : γ → m κ} (h : JAsE X st i ρ F w) (hr : ∀ x, JS X rest (ρ.set i (.d (F x))) E ρx ρl e (k x)) : JS X (st :: rest) ρ E ρx ρl e (bd w k) :=
  ⟨pss_weak (pss_cons h.ps (pss_ex fun x => (hr x).ps)) fun Dd σ H ⟨sr, O, H0, ad, he, hw⟩ => ⟨sr, O, H0, ad, he, (Mn.wp w).mono (fun x q v H1 x1 r => ⟨x, sr, O, H0, _, (he.ext' x1).put i v _ r, q⟩) (bdk hw)⟩, fun z => nn_bd fun x => (hr x).nn z⟩
/-- .. a list of one's own -/
theorem JS.asgL {i : Nat} {st : Stmt} {w : m (List γ)} {k : List γ → m κ} (h : JAsL X st i ρ F w) (hi : i < ρ.length) (hr : ∀ x, JS X rest (ρ.set i (.l (x.map F))) E ρx ρl e (k x)) : JS X (st :: rest) ρ E ρx ρl e (bd w k) :=
  ⟨pss_weak (pss_cons h.ps (pss_ex fun x => (hr x).ps)) fun Dd σ H ⟨sr, O, H0, ad, he, hw⟩ => ⟨sr, O, H0, ad, he, (Mn.wp w).mono (fun x q p vs H1 hp x1 hp' r => ⟨x, sr, O, H0, _, he.own x1 hi hp hp' (r.sub fun a z => .inl z) r, q⟩) (bdk hw)⟩, fun z => nn_bd fun x => (hr x).nn z⟩
/-- a target of any form -/
theorem JS.asgG {tg : Expr} {js : List Nat} {up : List Slot → γ → List Slot} {w : m γ} {k : γ → m κ} (h : JE X true ex ρ F w) (hg : JG X tg js F up) (hr : ∀ x, JS X rest (up ρ x) E ρx ρl e (k x))
    (hs : swapsWithSole [tg] ex pos.line X.env = pure false := by rfl) (hw : swappedStores [tg] ex X.env = pure none := by rfl) (h1 : (assignEach [tg] X.env).map (·.2) = [assign tg X.env] := by rfl) : JS X (.Assign [tg] ex pos :: rest) ρ E ρx ρl e (bd w k) :=
  ⟨pss_weak (pss_cons (ps_asg h.b.pe hg.pg hs hw h1) (pss_ex fun x => (hr x).ps)) fun Dd σ H ⟨sr, O, H0, ad, he, hw⟩ => ⟨sr, O, H0, ad, he, (Mn.wp w).mono (fun x q v H1 x1 r => ⟨sr, O, H0, ad, ρ, x, he.ext' x1, r, fun σ' e2 _ => ⟨x, sr, O, H0, _, e2, q⟩⟩) (bdk hw)⟩, fun z => nn_bd fun x => (hr x).nn z⟩

/-! ### if -/
theorem endOk_none {K : PySem.W.Frag} {mg : Str → Option Value} {sr : Option Addr} {O : Addr → Prop} {H0 : Hp} {nx : L2.St → Hp → Prop} {Dd : Ends} {fl : Fl α τ β} (h : endOk K mg sr O H0 E ρx ρl Dd fl ∧ notNx fl) : endOk K mg sr O H0 E (none : Option (α → List Slot)) ρl { Dd with nx := nx } fl := by
  cases fl with
  | nx t => exact h.2
  | rt b => exact h.1
  | bk t => exact h.1
  | ct t => exact h.1
theorem JS.ifT {c : Expr} {A : List Stmt} {wc : m Bool} {a b : m κ} (hc : JT X c ρ wc) (hA : JS X A ρ E (none : Option (α → List Slot)) ρl e a) (hr : JS X rest ρ E ρx ρl e b) : JS X (.If c A [] pos :: rest) ρ E ρx ρl e (bd wc fun x => ifM x a b) :=
  ⟨pss_weak (pss_cons (ps_if hc.b.pt hA.ps pss_nil) hr.ps) fun Dd σ H ⟨sr, O, H0, ad, he, hw⟩ => ⟨sr, O, H0, ad, he, (Mn.wp wc).mono (fun x q H1 x1 => by
    cases x with
    | true =>
      rw [if_pos rfl]
      exact ⟨sr, O, H0, ad, he.ext' x1, Wp.mono _ (fun fl z => endOk_none z) (hA.nn rfl _ q)⟩
    | false =>
      rw [if_neg Bool.false_ne_true]
      exact ⟨sr, O, H0, ad, he.ext' x1, q⟩) (bdk hw)⟩, fun z => nn_bd fun x => nn_if (hA.nn rfl) (hr.nn z)⟩
/-- both ends, nothing behind -/
theorem JS.ifE {c : Expr} {A B : List Stmt} {wc : m Bool} {a b : m κ} (hc : JT X c ρ wc) (hA : JS X A ρ E (none : Option (α → List Slot)) ρl e a) (hB : JS X B ρ E (none : Option (α → List Slot)) ρl e b) : JS X (.If c A B pos :: rest) ρ E ρx ρl e (bd wc fun x => ifM x a b) :=
  ⟨pss_weak (pss_cons (ps_if hc.b.pt hA.ps hB.ps) pss_never) fun Dd σ H ⟨sr, O, H0, ad, he, hw⟩ => ⟨sr, O, H0, ad, he, (Mn.wp wc).mono (fun x q H1 x1 => by
    cases x with
    | true =>
      rw [if_pos rfl]
      exact ⟨sr, O, H0, ad, he.ext' x1, Wp.mono _ (fun fl z => endOk_none z) (hA.nn rfl _ q)⟩
    | false =>
      rw [if_neg Bool.false_ne_true]
      exact ⟨sr, O, H0, ad, he.ext' x1, Wp.mono _ (fun fl z => endOk_none z) (hB.nn rfl _ q)⟩) (bdk hw)⟩, fun z => nn_bd fun x => nn_if (hA.nn rfl) (hB.nn rfl)⟩
/-- the state behind either way, both fall through -/
theorem JS.ifJ {c : Expr} {A B : List Stmt} {wc : m Bool} {f : ω → List Slot} {a b : m ω} {k : ω → m κ} (hc : JT X c ρ wc) (hA : JS X A ρ E (some f) ρl (Fl.nx (τ := τ) (β := β)) a) (hB : JS X B ρ E (some f) ρl (Fl.nx (τ := τ) (β := β)) b) (hr : ∀ t, JS X rest (f t) E ρx ρl e (k t)) :
    JS X (.If c A B pos :: rest) ρ E ρx ρl e (bd (bd wc fun x => ifM x a b) k) :=
  ⟨pss_weak (pss_cons (ps_if hc.b.pt hA.ps hB.ps) (pss_ex fun t => (hr t).ps)) fun Dd σ H ⟨sr, O, H0, ad, he, hw⟩ => ⟨sr, O, H0, ad, he, (Mn.wp wc).mono (fun x q H1 x1 => by
    cases x with
    | true =>
      rw [if_pos rfl]
      exact ⟨sr, O, H0, ad, he.ext' x1, (Mn.wp a).mono (fun t q σ' H' ad' he' => ⟨t, sr, O, H0, ad', he', q⟩) q⟩
    | false =>
      rw [if_neg Bool.false_ne_true]
      exact ⟨sr, O, H0, ad, he.ext' x1, (Mn.wp b).mono (fun t q σ' H' ad' he' => ⟨t, sr, O, H0, ad', he', q⟩) q⟩) (Mn.bind_le _ _ _ (bdk hw))⟩, fun z => nn_bd fun x => (hr x).nn z⟩
/-- .. some ways end -/
def seqF (e : κ → Fl α τ β) (c : Fl Empty τ β → κ) (k : ω → m κ) : Fl ω τ β → m κ
  | .nx t => k t
  | .rt b => rt (c (.rt b))
  | .bk t => rt (c (.bk t))
  | .ct t => rt (c (.ct t))
def upF : Fl Empty τ β → Fl α τ β
  | .nx t => t.elim
  | .rt b => .rt b
  | .bk t => .bk t
  | .ct t => .ct t
theorem seqF_run {c : Fl Empty τ β → κ} {k : ω → m κ} (hc : ∀ x, e (c x) = upF x) {K : PySem.W.Frag} {mg : Str → Option Value} {sr : Option Addr} {O : Addr → Prop} {H0 : Hp} {Dd : Ends} {f : ω → List Slot} {fl : Fl ω τ β} (q : ((Mn.wp (seqF e c k fl)).bind fun k => Wp.pure (e k)).run (endOk K mg sr O H0 E ρx ρl Dd)) :
    endOk K mg sr O H0 E (some f) ρl { Dd with nx := fun σ H => ∃ t, tB K mg (f t) E ρx ρl ((Mn.wp (k t)).bind fun k => .pure (e k)) Dd σ H } fl := by
  cases fl with
  | nx t => exact fun σ' H' ad' he' => ⟨t, sr, O, H0, ad', he', q⟩
  | rt b => have q := rtk q; rw [hc] at q; exact q
  | bk t => have q := rtk q; rw [hc] at q; exact q
  | ct t => have q := rtk q; rw [hc] at q; exact q
theorem nn_seqF {c : Fl Empty τ β → κ} {k : ω → m κ} (hc : ∀ x, e (c x) = upF x) (h : ∀ t, NN ((Mn.wp (k t)).bind fun k => Wp.pure (e k))) (fl : Fl ω τ β) : NN ((Mn.wp (seqF e c k fl)).bind fun k => Wp.pure (e k)) := by
  cases fl with
  | nx t => exact h t
  | rt b => exact nn_rt (by rw [hc]; trivial)
  | bk t => exact nn_rt (by rw [hc]; trivial)
  | ct t => exact nn_rt (by rw [hc]; trivial)
theorem JS.ifF {c : Expr} {A B : List Stmt} {wc : m Bool} {f : ω → List Slot} {a b : m (Fl ω τ β)} {k : ω → m κ} (c' : Fl Empty τ β → κ) (hc' : ∀ x, e (c' x) = upF x) (hc : JT X c ρ wc) (hA : JS X A ρ E (some f) ρl id a) (hB : JS X B ρ E (some f) ρl id b) (hr : ∀ t, JS X rest (f t) E ρx ρl e (k t)) :
    JS X (.If c A B pos :: rest) ρ E ρx ρl e (bd (bd wc fun x => ifM x a b) (seqF e c' k)) :=
  ⟨pss_weak (pss_cons (ps_if hc.b.pt hA.ps hB.ps) (pss_ex fun t => (hr t).ps)) fun Dd σ H ⟨sr, O, H0, ad, he, hw⟩ => ⟨sr, O, H0, ad, he, (Mn.wp wc).mono (fun x q H1 x1 => by
    cases x with
    | true =>
      rw [if_pos rfl]
      exact ⟨sr, O, H0, ad, he.ext' x1, (Mn.wp a).mono (fun t q => seqF_run hc' q) q⟩
    | false =>
      rw [if_neg Bool.false_ne_true]
      exact ⟨sr, O, H0, ad, he.ext' x1, (Mn.wp b).mono (fun t q => seqF_run hc' q) q⟩) (Mn.bind_le _ _ _ (bdk hw))⟩, fun z => nn_bd fun x => nn_seqF hc' (fun t => (hr t).nn z) x⟩
end
end Wk

namespace Wk
open PySem PySem.Spec PyProof.Rows L2

/-! ### loops -/
section
variable {m : Type → Type} [Mn m] {α β γ δ κ τ ω : Type}
def loopM (f : γ → τ → m (Fl τ τ β)) : List γ → τ → m (Sum τ β)
  | [], t => rt (.inl t)
  | x :: xs, t => bd (f x t) fun fl => match fl with
    | .nx t' => loopM f xs t'
    | .ct t' => loopM f xs t'
    | .bk t' => rt (.inl t')
    | .rt b => rt (.inr b)
def foldM' (f : γ → τ → m τ) : List γ → τ → m τ
  | [], t => rt t
  | x :: xs, t => bd (f x t) fun t' => foldM' f xs t'
def outM (c : β → κ) (k : τ → m κ) : Sum τ β → m κ
  | .inl t => k t
  | .inr b => rt (c b)
variable {X : Cx} {M : Bool} {ρ : List Slot} {E : β → D} {ρx : Option (α → List Slot)} {ρl : ω → List Slot} {e : κ → Fl α ω β} {rest : List Stmt} {pos p2 p3 : Pos}
section
variable {K : PySem.W.Frag} {mg : Str → Option Value} {sr : Option Addr} {O : Addr → Prop} {H0 H H' : Hp} {σ : L2.St} {ad : Nat → Option Addr}
open Classical in
/-- the heap at a loop's start, less one's own lists -/
noncomputable def less (H : Hp) (ad : Nat → Option Addr) : Hp := fun a => if ∃ j, ad j = some a then none else H a
theorem less_some {a : Addr} {o : HO} (h : less H ad a = some o) : H a = some o := by
  unfold less at h
  split at h
  · cases h
  · exact h
theorem less_of {a : Addr} {o : HO} (h : H a = some o) (n : ∀ j, ad j ≠ some a) : less H ad a = some o := by
  unfold less
  rw [if_neg (fun ⟨j, z⟩ => n j z)]; exact h
theorem less_own {j : Nat} {p : Addr} (h : ad j = some p) : less H ad p = none := by
  unfold less
  rw [if_pos ⟨j, h⟩]
theorem less_none {p : Addr} (h : less H ad p = none) : H p = none ∨ ∃ j, ad j = some p := by
  unfold less at h
  split at h
  · exact .inr (by assumption)
  · exact .inl h
theorem Env.base {ρ : List Slot} (he : Env K mg sr O H0 H σ ρ ad) : Env K mg sr O (less H ad) H σ ρ ad :=
  ⟨he.len, he.at_, he.inj, fun j p h => less_own h, he.mu, he.src, he.dom, he.dis, fun a o h _ => less_some h⟩
theorem Env.rebase {ρ ρ' : List Slot} {H1 : Hp} {σ' : L2.St} {ad' : Nat → Option Addr} (he : Env K mg sr O H0 H σ ρ ad) (hb : Env K mg sr O (less H ad) H1 σ' ρ' ad') : Env K mg sr O H0 H1 σ' ρ' ad' := by
  have up : ∀ a o, H0 a = some o → sr ≠ some a → less H ad a = some o := fun a o h n => less_of (he.ext a o h n) fun j z => by rw [he.frs j a z] at h; cases h
  refine ⟨hb.len, hb.at_, hb.inj, fun j p h => ?_, hb.mu, hb.src, hb.dom, hb.dis, fun a o h n => hb.ext a o (up a o h n) n⟩
  have h1 := hb.frs j p h
  cases z : H0 p with
  | none => rfl
  | some o =>
    by_cases hs : sr = some p
    · exact absurd (hb.sO p hs) (hb.dis j p h)
    · rw [up p o z hs] at h1; cases h1
theorem Fin.rebase {ρ : List Slot} {H1 : Hp} (he : Env K mg sr O H0 H σ ρ ad) (h : Fin sr (less H ad) H1) : Fin sr H0 H1 :=
  ⟨fun a o q n => h.1 a o (less_of (he.ext a o q n) fun j z => by rw [he.frs j a z] at q; cases q) n, h.2⟩
theorem less_fresh {ρ : List Slot} (he : Env K mg sr O H0 H σ ρ ad) {p : Addr} (h : less H ad p = none) : H0 p = none := by
  cases z : H0 p with
  | none => rfl
  | some o =>
    by_cases hs : sr = some p
    · obtain ⟨i, j, q⟩ := he.srs p hs
      rcases less_none h with h | ⟨j, h⟩
      · rw [h] at q; cases q
      · exact absurd (he.sO p hs) (he.dis j p h)
    · rw [less_of (he.ext p o z hs) fun j z' => by rw [he.frs j p z'] at z; cases z] at h; cases h
theorem RetOk.rebase {ρ : List Slot} {H1 : Hp} {v : V} {r : D} (he : Env K mg sr O H0 H σ ρ ad) (h : RetOk K mg O (less H ad) H1 v r) : RetOk K mg O H0 H1 v r := by
  refine ⟨h.1, ?_⟩
  have h2 := h.2
  cases r <;> first | exact trivial | skip
  obtain ⟨p, vs, h3, h4, h5, h6⟩ := h2
  exact ⟨p, vs, h3, less_fresh he h4, h5, h6⟩
end
theorem pureRun {x : γ} (P : γ → Prop) (h : (Mn.wp (rt (m := m) x)).run P) : P x := Mn.pure_le (m := m) x P h
theorem loop_run {f : γ → τ → m (Fl τ τ β)} {x : γ} {xs : List γ} {t : τ} {P : Sum τ β → Prop} (h : (Mn.wp (loopM f (x :: xs) t)).run P) : (Mn.wp (f x t)).run fun fl => match fl with
    | .nx t' => (Mn.wp (loopM f xs t')).run P
    | .ct t' => (Mn.wp (loopM f xs t')).run P
    | .bk t' => P (.inl t')
    | .rt b => P (.inr b) := by
  refine (Mn.wp (f x t)).mono (fun fl q => ?_) (Mn.bind_le _ _ _ h)
  cases fl with
  | nx t' => exact q
  | ct t' => exact q
  | bk t' => exact Mn.pure_le (m := m) _ _ q
  | rt b => exact Mn.pure_le (m := m) _ _ q
variable {Ei : γ → D} {tg iter : Expr} {body : List Stmt} {js : List Nat} {up : List Slot → γ → List Slot}
theorem JS.for {wx : m (List γ)} {f : γ → τ → m (Fl τ τ β)} {k : τ → m κ} (ρh : τ → List Slot) (t0 : τ) (c : β → κ) (hc : ∀ b, e (c b) = .rt b) (hp : PassesOwn (model X.prog X.w) X.A X.env X.xe) (hcalm : X.calm = true)
    (hi : JI X true tg iter ρ Ei wx) (hg : JG X tg js Ei up) (l : Lw ρ (ρh t0)) (hb : ∀ x t, JS X body (up (ρh t) x) E (some ρh) ρh (id : Fl τ τ β → Fl τ τ β) (f x t)) (hr : ∀ t, JS X rest (ρh t) E ρx ρl e (k t))
    (hs : ∀ x, foldedSetIterable iter X.env x = pure x := by intro _; rfl) : JS X (.For tg iter body [] pos :: rest) ρ E ρx ρl e (bd wx fun xs => bd (loopM f xs t0) (outM c k)) :=
  ⟨pss_weak (pss_cons (ps_for hp hcalm hi.b hg.pg (pss_ex fun q : γ × τ => (hb q.1 q.2).ps) hs) (pss_ex fun t => (hr t).ps)) fun Dd σ H ⟨sr, O, H0, ad, he, hw⟩ =>
    ⟨sr, O, H0, ad, he, (Mn.wp wx).mono (fun xs q J H1 x1 wk => by
      have e1 := he.ext' x1
      obtain ⟨adh, eh, sub⟩ := e1.lw l
      have eb := eh.base
      have q := bdk q
      let Post : Sum τ β → Prop := fun r => ((Mn.wp (outM c k r)).bind fun k => Wp.pure (e k)).run (endOk X.K X.mg sr O H0 E ρx ρl Dd)
      have keep : ∀ {H' σ' ρ' ad'}, Env X.K X.mg sr O (less H1 adh) H' σ' ρ' ad' → Keep X.K (OM true O ad) H1 H' := fun {H' σ' ρ' ad'} e' => by
        refine ⟨fun a o h n => e'.ext a o (less_of h fun j z => n (.inr ⟨j, sub j a z⟩)) fun z => n (.inl (he.sO a z)), fun a vs => ?_⟩
        have mv : ∀ u, H1 a = some u → ¬ Mut (some u) → H' a = some u := fun u h n => e'.ext a u (less_of h fun j z => by
          have := eh.mu j a z; rw [h] at this; exact n this) fun z => by
          obtain ⟨i, j, w⟩ := e1.srs a z; rw [h] at w; cases w; exact n trivial
        refine ⟨fun h => ?_, fun h => mv _ h fun z => z⟩
        rcases h with (h | ⟨o, h⟩) | h
        · exact .inl (.inl (mv _ h fun z => z))
        · exact .inl (.inr ⟨o, mv _ h fun z => z⟩)
        · exact .inr h
      have done : ∀ {t H' σ' ad'}, Env X.K X.mg sr O (less H1 adh) H' σ' (ρh t) ad' → Post (.inl t) → ∃ t, tB X.K X.mg (ρh t) E ρx ρl ((Mn.wp (k t)).bind fun k => .pure (e k)) Dd σ' H' := fun {t H' σ' ad'} e' h => ⟨t, sr, O, H0, ad', eh.rebase e', h⟩
      refine for_it wk (g := tG X.K X.mg js Ei up) (tb := fun Dd σ H => ∃ q : γ × τ, tB X.K X.mg (up (ρh q.2) q.1) E (some ρh) ρh ((Mn.wp (f q.1 q.2)).bind fun k => .pure ((id : Fl τ τ β → Fl τ τ β) k)) Dd σ H) (D := { Dd with nx := fun σ H => ∃ t, tB X.K X.mg (ρh t) E ρx ρl ((Mn.wp (k t)).bind fun k => .pure (e k)) Dd σ H }) (fun i σ' H' => ∃ t ad', Env X.K X.mg sr O (less H1 adh) H' σ' (ρh t) ad' ∧ (Mn.wp (loopM f (xs.drop i) t)).run Post)
        ⟨t0, adh, eb, by rw [List.drop_zero]; exact q⟩ (fun i σ' H' _ ⟨t, ad', e', _⟩ => keep e') ?_ ?_
      · rintro i v σ' H2 H3 hi' ⟨t, ad', e', hl⟩ ⟨ha, x, hx, rx⟩
        rw [get_drop hx] at hl
        have e3 := e'.ext' (ha.ext e'.srs)
        refine ⟨sr, O, less H1 adh, ad', _, x, e3, rx.sub (fun a z => ?_), fun σ2 e4 _ => ⟨(x, t), sr, O, less H1 adh, _, e4, ?_⟩⟩
        · rcases z with z | ⟨j, z⟩
          · exact .inl (.inl z)
          · rcases less_none (e'.frs j a z) with h | ⟨j', h⟩
            · exact .inr h
            · exact .inl (.inr ⟨j', sub j' a h⟩)
        · refine (Mn.wp (f x t)).mono (fun fl z => ?_) (loop_run hl)
          show endOk X.K X.mg sr O (less H1 adh) E (some ρh) ρh _ (id fl)
          cases fl with
          | nx t' => exact fun σ' H' ad' e' => ⟨t', ad', e', z⟩
          | ct t' => exact fun σ' H' ad' e' => ⟨t', ad', e', z⟩
          | bk t' => exact fun σ' H' ad' e' => done e' z
          | rt b =>
            intro v H' hf hr'
            have z : Post (.inr b) := z
            have z := rtk z
            rw [hc] at z
            exact z v H' (hf.rebase eh) (hr'.rebase eh)
      · rintro σ' H' ⟨t, ad', e', hl⟩
        rw [List.drop_length] at hl
        have hl : Post (.inl t) := pureRun Post hl
        exact done e' hl) (bdk hw)⟩, fun z => nn_bd fun xs => nn_bd fun r => by
    cases r with
    | inl t => exact (hr t).nn z
    | inr b => exact nn_rt (by rw [hc]; trivial)⟩
theorem fold_run {f : γ → τ → m τ} {x : γ} {xs : List γ} {t : τ} {P : τ → Prop} (h : (Mn.wp (foldM' f (x :: xs) t)).run P) : (Mn.wp (f x t)).run fun t' => (Mn.wp (foldM' f xs t')).run P := Mn.bind_le _ _ _ h
/-- .. that neither breaks nor returns -/
theorem JS.forS {wx : m (List γ)} {f : γ → τ → m τ} {k : τ → m κ} (ρh : τ → List Slot) (t0 : τ) (hp : PassesOwn (model X.prog X.w) X.A X.env X.xe) (hcalm : X.calm = true)
    (hi : JI X true tg iter ρ Ei wx) (hg : JG X tg js Ei up) (l : Lw ρ (ρh t0)) (hb : ∀ x t, JS X body (up (ρh t) x) E (some ρh) ρh (Fl.nx : τ → Fl τ τ β) (f x t)) (hr : ∀ t, JS X rest (ρh t) E ρx ρl e (k t))
    (hs : ∀ x, foldedSetIterable iter X.env x = pure x := by intro _; rfl) : JS X (.For tg iter body [] pos :: rest) ρ E ρx ρl e (bd wx fun xs => bd (foldM' f xs t0) k) :=
  ⟨pss_weak (pss_cons (ps_for hp hcalm hi.b hg.pg (pss_ex fun q : γ × τ => (hb q.1 q.2).ps) hs) (pss_ex fun t => (hr t).ps)) fun Dd σ H ⟨sr, O, H0, ad, he, hw⟩ =>
    ⟨sr, O, H0, ad, he, (Mn.wp wx).mono (fun xs q J H1 x1 wk => by
      have e1 := he.ext' x1
      obtain ⟨adh, eh, sub⟩ := e1.lw l
      have eb := eh.base
      have q := bdk q
      let Post : τ → Prop := fun r => ((Mn.wp (k r)).bind fun k => Wp.pure (e k)).run (endOk X.K X.mg sr O H0 E ρx ρl Dd)
      have keep : ∀ {H' σ' ρ' ad'}, Env X.K X.mg sr O (less H1 adh) H' σ' ρ' ad' → Keep X.K (OM true O ad) H1 H' := fun {H' σ' ρ' ad'} e' => by
        refine ⟨fun a o h n => e'.ext a o (less_of h fun j z => n (.inr ⟨j, sub j a z⟩)) fun z => n (.inl (he.sO a z)), fun a vs => ?_⟩
        have mv : ∀ u, H1 a = some u → ¬ Mut (some u) → H' a = some u := fun u h n => e'.ext a u (less_of h fun j z => by
          have := eh.mu j a z; rw [h] at this; exact n this) fun z => by
          obtain ⟨i, j, w⟩ := e1.srs a z; rw [h] at w; cases w; exact n trivial
        refine ⟨fun h => ?_, fun h => mv _ h fun z => z⟩
        rcases h with (h | ⟨o, h⟩) | h
        · exact .inl (.inl (mv _ h fun z => z))
        · exact .inl (.inr ⟨o, mv _ h fun z => z⟩)
        · exact .inr h
      refine for_it wk (g := tG X.K X.mg js Ei up) (tb := fun Dd σ H => ∃ q : γ × τ, tB X.K X.mg (up (ρh q.2) q.1) E (some ρh) ρh ((Mn.wp (f q.1 q.2)).bind fun k => .pure ((Fl.nx : τ → Fl τ τ β) k)) Dd σ H) (D := { Dd with nx := fun σ H => ∃ t, tB X.K X.mg (ρh t) E ρx ρl ((Mn.wp (k t)).bind fun k => .pure (e k)) Dd σ H }) (fun i σ' H' => ∃ t ad', Env X.K X.mg sr O (less H1 adh) H' σ' (ρh t) ad' ∧ (Mn.wp (foldM' f (xs.drop i) t)).run Post)
        ⟨t0, adh, eb, by rw [List.drop_zero]; exact q⟩ (fun i σ' H' _ ⟨t, ad', e', _⟩ => keep e') ?_ ?_
      · rintro i v σ' H2 H3 hi' ⟨t, ad', e', hl⟩ ⟨ha, x, hx, rx⟩
        rw [get_drop hx] at hl
        have e3 := e'.ext' (ha.ext e'.srs)
        refine ⟨sr, O, less H1 adh, ad', _, x, e3, rx.sub (fun a z => ?_), fun σ2 e4 _ => ⟨(x, t), sr, O, less H1 adh, _, e4, ?_⟩⟩
        · rcases z with z | ⟨j, z⟩
          · exact .inl (.inl z)
          · rcases less_none (e'.frs j a z) with h | ⟨j', h⟩
            · exact .inr h
            · exact .inl (.inr ⟨j', sub j' a h⟩)
        · exact (Mn.wp (f x t)).mono (fun t' z σ' H' ad' e' => ⟨t', ad', e', z⟩) (fold_run hl)
      · rintro σ' H' ⟨t, ad', e', hl⟩
        rw [List.drop_length] at hl
        have hl : Post t := pureRun Post hl
        exact ⟨t, sr, O, H0, ad', eh.rebase e', hl⟩) (bdk hw)⟩, fun z => nn_bd fun xs => nn_bd fun r => (hr r).nn z⟩

/-! ### while, with a bound for its turns -/
def whileM (c : τ → m Bool) (f : τ → m (Fl τ τ β)) : Nat → τ → m (Sum τ β)
  | 0, _ => lf none
  | n + 1, t => bd (c t) fun b => ifM b (bd (f t) fun fl => match fl with
    | .nx t' => whileM c f n t'
    | .ct t' => whileM c f n t'
    | .bk t' => rt (.inl t')
    | .rt b => rt (.inr b)) (rt (.inl t))
def whileS (c : τ → m Bool) (f : τ → m τ) : Nat → τ → m τ
  | 0, _ => lf none
  | n + 1, t => bd (c t) fun b => ifM b (bd (f t) fun t' => whileS c f n t') (rt t)
theorem pt_ex {X : Cx} {e : Expr} {t : γ → TT} (h : ∀ x, PT X e (t x)) : PT X e (fun σ H Q => ∃ x, t x σ H Q) := ⟨fun pins s σ H Q I ⟨x, hw⟩ => (h x).run pins s σ H Q I hw⟩
theorem ifM_run {b : Bool} {u v : m κ} {P : κ → Prop} (h : (Mn.wp (ifM b u v)).run P) : if b = true then (Mn.wp u).run P else (Mn.wp v).run P := by
  cases b with
  | true => exact h
  | false => exact h
theorem JS.whileS {c : Expr} {cM : τ → m Bool} {f : τ → m τ} {k : τ → m κ} (ρh : τ → List Slot) (t0 : τ) (N : Nat) (hp : PassesOwn (model X.prog X.w) X.A X.env X.xe)
    (l : Lw ρ (ρh t0)) (hc : ∀ t, JT X c (ρh t) (cM t)) (hb : ∀ t, JS X body (ρh t) E (some ρh) ρh (Fl.nx : τ → Fl τ τ β) (f t)) (hr : ∀ t, JS X rest (ρh t) E ρx ρl e (k t)) :
    JS X (.While c body [] pos :: rest) ρ E ρx ρl e (bd (Wk.whileS cM f N t0) k) :=
  ⟨pss_weak (pss_cons (ps_while hp (pt_ex fun t => (hc t).b.pt) (pss_ex fun t => (hb t).ps)) (pss_ex fun t => (hr t).ps)) fun Dd σ H ⟨sr, O, H0, ad, he, hw⟩ => (by
    obtain ⟨adh, eh, sub⟩ := he.lw l
    let Post : τ → Prop := fun r => ((Mn.wp (k r)).bind fun k => Wp.pure (e k)).run (endOk X.K X.mg sr O H0 E ρx ρl Dd)
    refine ⟨fun n σ' H' => ∃ t ad', Env X.K X.mg sr O H0 H' σ' (ρh t) ad' ∧ (Mn.wp (Wk.whileS cM f n t)).run Post, ⟨N, t0, adh, eh, bdk hw⟩, fun n σ' H' ⟨t, ad', e', hl⟩ => ?_⟩
    cases n with
    | zero =>
      obtain ⟨x, z, _⟩ := Mn.lift_le _ _ hl
      cases z
    | succ n =>
      refine ⟨t, sr, O, H0, ad', e', (Mn.wp (cM t)).mono (fun b q H1 x1 => ?_) (Mn.bind_le _ _ _ hl)⟩
      have q := ifM_run q
      cases b with
      | true =>
        rw [if_pos rfl] at q
        dsimp only
        rw [if_pos rfl]
        exact ⟨fun σ' H' => ∃ t ad', Env X.K X.mg sr O H0 H' σ' (ρh t) ad' ∧ (Mn.wp (Wk.whileS cM f n t)).run Post, fun σ2 H2 h => ⟨n, Nat.lt_succ_self n, h⟩, t, sr, O, H0, ad', e'.ext' x1, (Mn.wp (f t)).mono (fun t' z σ' H' ad' e' => ⟨t', ad', e', z⟩) (Mn.bind_le _ _ _ q)⟩
      | false =>
        rw [if_neg Bool.false_ne_true] at q
        dsimp only
        rw [if_neg Bool.false_ne_true]
        exact ⟨t, sr, O, H0, ad', e'.ext' x1, pureRun Post q⟩), fun z => nn_bd fun r => (hr r).nn z⟩
theorem JS.while {c : Expr} {cM : τ → m Bool} {f : τ → m (Fl τ τ β)} {k : τ → m κ} (ρh : τ → List Slot) (t0 : τ) (N : Nat) (c' : β → κ) (hc' : ∀ b, e (c' b) = .rt b) (hp : PassesOwn (model X.prog X.w) X.A X.env X.xe)
    (l : Lw ρ (ρh t0)) (hc : ∀ t, JT X c (ρh t) (cM t)) (hb : ∀ t, JS X body (ρh t) E (some ρh) ρh (id : Fl τ τ β → Fl τ τ β) (f t)) (hr : ∀ t, JS X rest (ρh t) E ρx ρl e (k t)) :
    JS X (.While c body [] pos :: rest) ρ E ρx ρl e (bd (whileM cM f N t0) (outM c' k)) :=
  ⟨pss_weak (pss_cons (ps_while hp (pt_ex fun t => (hc t).b.pt) (pss_ex fun t => (hb t).ps)) (pss_ex fun t => (hr t).ps)) fun Dd σ H ⟨sr, O, H0, ad, he, hw⟩ => (by
    obtain ⟨adh, eh, sub⟩ := he.lw l
    let Post : Sum τ β → Prop := fun r => ((Mn.wp (outM c' k r)).bind fun k => Wp.pure (e k)).run (endOk X.K X.mg sr O H0 E ρx ρl Dd)
    refine ⟨fun n σ' H' => ∃ t ad', Env X.K X.mg sr O H0 H' σ' (ρh t) ad' ∧ (Mn.wp (whileM cM f n t)).run Post, ⟨N, t0, adh, eh, bdk hw⟩, fun n σ' H' ⟨t, ad', e', hl⟩ => ?_⟩
    cases n with
    | zero =>
      obtain ⟨x, z, _⟩ := Mn.lift_le _ _ hl
      cases z
    | succ n =>
      refine ⟨t, sr, O, H0, ad', e', (Mn.wp (cM t)).mono (fun b q H1 x1 => ?_) (Mn.bind_le _ _ _ hl)⟩
      have q := ifM_run q
      cases b with
      | true =>
        rw [if_pos rfl] at q
        dsimp only
        rw [if_pos rfl]
        refine ⟨fun σ' H' => ∃ t ad', Env X.K X.mg sr O H0 H' σ' (ρh t) ad' ∧ (Mn.wp (whileM cM f n t)).run Post, fun σ2 H2 h => ⟨n, Nat.lt_succ_self n, h⟩, t, sr, O, H0, ad', e'.ext' x1, (Mn.wp (f t)).mono (fun fl z => ?_) (Mn.bind_le _ _ _ q)⟩
        show endOk X.K X.mg sr O H0 E (some ρh) ρh _ (id fl)
        cases fl with
        | nx t' => exact fun σ' H' ad' e' => ⟨t', ad', e', z⟩
        | ct t' => exact fun σ' H' ad' e' => ⟨t', ad', e', z⟩
        | bk t' =>
          have z : Post (.inl t') := pureRun Post z
          exact fun σ' H' ad' e' => ⟨t', sr, O, H0, ad', e', z⟩
        | rt b =>
          have z : Post (.inr b) := pureRun Post z
          have z := rtk z
          rw [hc'] at z
          exact z
      | false =>
        rw [if_neg Bool.false_ne_true] at q
        dsimp only
        rw [if_neg Bool.false_ne_true]
        exact ⟨t, sr, O, H0, ad', e'.ext' x1, pureRun Post q⟩), fun z => nn_bd fun r => by
    cases r with
    | inl t => exact (hr t).nn z
    | inr b => exact nn_rt (by rw [hc']; trivial)⟩

/-! ### one's own lists, changed -/
theorem own_at {K : PySem.W.Frag} {mg : Str → Option Value} {sr : Option Addr} {O : Addr → Prop} {H0 H : Hp} {σ : L2.St} {ad : Nat → Option Addr} {ρ : List Slot} (he : Env K mg sr O H0 H σ ρ ad) {i : Nat} {xs : List D} (h : ρ[i]? = some (.l xs)) : ∃ p vs, ad i = some p ∧ σ[i]? = some (some (.ref p)) ∧ H p = some (.lst vs) ∧ Reps K mg (OO O ad) H vs xs := by
  have := he.at_ i
  rw [h] at this
  exact this
def appO (xs : List γ) (y : γ) : Option (List γ) := if xs.length < 16777216 then some (xs ++ [y]) else none
variable {F : γ → D} {n : Str} {apos cpos : Pos} {ex : Expr}
/-- xs.append(e) -/
theorem JS.append (i : Nat) {xs : List γ} {w : m γ} {k : List γ → m κ} (h : ρ[i]? = some (.l (xs.map F))) (ha : JE X true ex ρ F w) (hr : ∀ ys, JS X rest (ρ.set i (.l (ys.map F))) E ρx ρl e (k ys)) (hN : X.N[i]? = some n := by rfl) (hv : Vis X.env.scope n := by first | exact Or.inl rfl | exact Or.inr (Or.inl rfl) | exact Or.inr (Or.inr rfl)) (hd : (n == ("__debug__" : Str)) = false := by decide) (hcd : (n == ("__classdict__" : Str)) = false := by decide)
    (hbase : attributeBase (.Name n p2) "append" X.env (eval (.Name n p2) X.env) = eval (.Name n p2) X.env := by rfl)
    (hfew : ((backTo cpos (starEach [ex] X.env)).all (fun x => !x.1) && (backToKw cpos (keywordEach [] X.env)).all (fun x => x.1.isSome) && decide ([ex].length + ([] : List Keyword).length + (if ([] : List Keyword).isEmpty then 0 else 1) < 30)) = true := by rfl)
    (hline : (apos.endLine == cpos.line) = true := by rfl) (hs : starEach [ex] X.env = (false, eval ex X.env) :: starEach [] X.env := by rfl) (hsw : swapsWith (.Call (.Attribute (.Name n p2) "append" apos) [ex] [] cpos) none pos.line X.env = pure false := by rfl) :
    JS X (.Expr (.Call (.Attribute (.Name n p2) "append" apos) [ex] [] cpos) pos :: rest) ρ E ρx ρl e (bd w fun y => bd (lf (appO xs y)) k) :=
  ⟨pss_weak (pss_cons (ps_expr (pe_bm PySem.F.plainAttrs_list PySem.F.slot_list_append PySem.F.type_list_append mt_append (pv i hN hv hd hcd) (pa_cons ha.b.pe pa_nil hs) hbase hfew hline hs rfl) hsw) (pss_ex fun x => (hr x).ps)) fun Dd σ H ⟨sr, O, H0, ad, he, hw⟩ => (by
    obtain ⟨p, vs, e1, e2, e3, rs⟩ := own_at he h
    refine ⟨.ref p, e2, .inl ⟨rfl, vs, .inl (.inl e3)⟩, sr, O, H0, ad, he, (Mn.wp w).mono (fun y q v H1 x1 r => ?_) (bdk hw)⟩
    obtain ⟨ys, hy, q⟩ := Mn.lift_le _ _ (bdk q)
    have he1 := he.ext' x1
    obtain ⟨p', vs', e1', e2', e3', rs'⟩ := own_at he1 h
    have : p' = p := Option.some.inj (e1'.symm.trans e1)
    subst this
    unfold appO at hy
    split at hy
    · rename_i hz
      cases hy
      refine ⟨p', vs', v, rfl, rfl, e3', by rw [rs'.length, List.length_map]; exact hz, xs ++ [y], sr, O, H0, ad, ?_, q⟩
      refine he1.write (vs := vs') h e1 ?_
      rw [List.map_append]
      exact rs'.append (.cons r .nil)
    · cases hy), fun z => nn_bd fun x => nn_bd fun y => (hr y).nn z⟩
def setO (xs : List γ) (i : Int) (y : γ) : Option (List γ) := (ixN xs.length i).map fun j => xs.set j y
/-- xs[i] = e -/
theorem JS.seti (i : Nat) {b : Expr} {p1 : Pos} {xs : List γ} {w : m γ} {wb : m Int} {k : List γ → m κ} (h : ρ[i]? = some (.l (xs.map F))) (ha : JE X true ex ρ F w) (hb : JE X false b ρ eI wb) (hr : ∀ ys, JS X rest (ρ.set i (.l (ys.map F))) E ρx ρl e (k ys)) (hN : X.N[i]? = some n := by rfl) (hv : Vis X.env.scope n := by first | exact Or.inl rfl | exact Or.inr (Or.inl rfl) | exact Or.inr (Or.inr rfl)) (hd : (n == ("__debug__" : Str)) = false := by decide) (hcd : (n == ("__classdict__" : Str)) = false := by decide)
    (hsub : ∀ v, assign (.Subscript (.Name n p2) b p1) X.env v = (do
      let ov ← holding [v] (eval (.Name n p2) X.env)
      let iv ← holding [v, ov] (eval b X.env)
      standAt p1
      holding [v, ov, iv] (setItem ov iv v)
      release [v, ov, iv] []) := by intro _; rfl)
    (hs : swapsWithSole [.Subscript (.Name n p2) b p1] ex pos.line X.env = pure false := by rfl) (hw : swappedStores [.Subscript (.Name n p2) b p1] ex X.env = pure none := by rfl) (h1 : (assignEach [.Subscript (.Name n p2) b p1] X.env).map (·.2) = [assign (.Subscript (.Name n p2) b p1) X.env] := by rfl) :
    JS X (.Assign [.Subscript (.Name n p2) b p1] ex pos :: rest) ρ E ρx ρl e (bd w fun y => bd wb fun j => bd (lf (setO xs j y)) k) :=
  ⟨pss_weak (pss_cons (ps_asg ha.b.pe (pg_sub (pv i hN hv hd hcd) hb.b.pe set_list hsub) hs hw h1) (pss_ex fun x => (hr x).ps)) fun Dd σ H ⟨sr, O, H0, ad, he, hw⟩ => (by
    refine ⟨sr, O, H0, ad, he, (Mn.wp w).mono (fun y q v H1 x1 r => ?_) (bdk hw)⟩
    have he1 := he.ext' x1
    obtain ⟨p, vs, e1, e2, e3, rs⟩ := own_at he1 h
    refine ⟨.ref p, e2, sr, O, H0, ad, he1, (Mn.wp wb).mono (fun j q v2 H2 x2 r2 => ?_) (bdk q)⟩
    cases r2
    obtain ⟨ys, hy, q⟩ := Mn.lift_le _ _ (bdk q)
    have he2 := he1.ext' x2
    obtain ⟨p', vs', e1', e2', e3', rs'⟩ := own_at he2 h
    have : p' = p := Option.some.inj (e1'.symm.trans e1)
    subst this
    obtain ⟨jj, hj, rfl⟩ := Option.map_eq_some_iff.mp hy
    have hl : vs'.length = xs.length := by rw [rs'.length, List.length_map]
    refine ⟨p', vs', j, jj, rfl, rfl, e3', by rw [hl]; exact hj, xs.set jj y, sr, O, H0, ad, he2.write (vs := vs') h e1 ?_, q⟩
    rw [List.map_set]
    exact rs'.set (r.ext x2 (he.sOM true)) jj), fun z => nn_bd fun x => nn_bd fun y => nn_bd fun z' => (hr z').nn z⟩
end
end Wk

namespace Wk
open PySem PySem.Spec PyProof.Rows L2

/-! ### calls of the text's defs -/
/-- the def by the name n may be called here -/
def CallOk (X : Cx) (n : Str) (F : List D → (D → Prop) → Prop) : Prop := ∃ (k : Nat) (fa : Addr) (fd : FuncData) (ps : List Str),
  FnOk X.prog X.w X.K X.mg X.base CX0 k fa fd ps (spF X.K X.mg F) ∧ Room k X.A ∧ X.mg n = some (.ref fa) ∧ PySem.W.keepIn X.K (.ref fa) = true ∧ Binds X.K fd ps []
/-- the method of the class c -/
def MethOk (X : Cx) (c n : Str) (F : List D → (D → Prop) → Prop) : Prop := ∃ (k : Nat) (C fa : Addr) (fd : FuncData) (ps : List Str),
  FnOk X.prog X.w X.K X.mg X.base CX0 k fa fd ps (spF X.K X.mg F) ∧ Room k X.A ∧ X.mg c = some (.ref C) ∧ Cls X.K C ∧ Meth X.K C n fa ∧ Binds X.K fd ps []
/-- __init__: the object's attributes behind it -/
def spI (K : PySem.W.Frag) (mg : Str → Option Value) (c : Str) (ns : List Str) (F : List D → (List D → Prop) → Prop) : Sp := fun vs H Q _ => ∃ (x C dx : Addr) (rest : List V) (O : Addr → Prop) (ds : List D),
  vs = .ref x :: rest ∧ H x = some (.ins C dx []) ∧ mg c = some (.ref C) ∧ (∀ p, O p → Mut (H p)) ∧ O x ∧ Reps K mg O H rest ds ∧
  F ds fun fds => ∀ H' dx' fs', (∀ a o, H a = some o → a ≠ x → H' a = some o) → H' x = some (.ins C dx' fs') → fs'.map (·.1) = ns → Reps K mg O H' (fs'.map (·.2)) fds → Q .non H'
def MakeOk (X : Cx) (c : Str) (ns : List Str) (F : List D → (List D → Prop) → Prop) : Prop := ∃ (k : Nat) (C fa : Addr) (fd : FuncData) (ps : List Str),
  FnOk X.prog X.w X.K X.mg X.base CX0 k fa fd ps (spI X.K X.mg c ns F) ∧ Room (k + 1) X.A ∧ X.mg c = some (.ref C) ∧ Mk X.K C fa ∧ Binds X.K fd ps []
theorem lookup_none : ∀ {fs : List (Str × V)} {m : Str}, (fs.map (·.1)).contains m = false → fs.lookup m = none
  | [], _, _ => rfl
  | (k, v) :: r, m, h => by
    rw [List.map_cons, List.contains_cons, Bool.or_eq_false_iff] at h
    rw [List.lookup_cons, h.1]
    exact lookup_none h.2
theorem lookup_at : ∀ {fs : List (Str × V)} {f : Str} {i : Nat}, (fs.map (·.1)).findIdx? (fun x => f == x) = some i → ∃ v, fs.lookup f = some v ∧ (fs.map (·.2))[i]? = some v
  | [], _, _, h => by simp at h
  | (k, v) :: r, f, i, h => by
    rw [List.map_cons, List.findIdx?_cons] at h
    rw [List.lookup_cons]
    cases hb : f == k with
    | true =>
      rw [hb] at h
      simp at h
      subst h
      exact ⟨v, rfl, rfl⟩
    | false =>
      rw [hb] at h
      simp at h
      obtain ⟨j, hj, rfl⟩ := h
      obtain ⟨w, h1, h2⟩ := lookup_at (fs := r) (f := f) (i := j) (by rw [List.findIdx?_map]; exact hj)
      exact ⟨w, h1, by rw [List.map_cons, List.getElem?_cons_succ]; exact h2⟩
section
variable {m : Type → Type} [Mn m] {α β γ δ κ τ ω : Type}
variable {X : Cx} {M : Bool} {ρ : List Slot} {pos p apos : Pos} {n c : Str} {ns : List Str}
theorem Env.domM {K : PySem.W.Frag} {mg : Str → Option Value} {sr : Option Addr} {O : Addr → Prop} {H0 H : Hp} {σ : L2.St} {ad : Nat → Option Addr} (he : Env K mg sr O H0 H σ ρ ad) (M : Bool) : ∀ p, OM M O ad p → Mut (H p) := fun p h => by
  rcases OM.le _ h with h | ⟨j, h⟩
  · exact he.dom p h
  · exact he.mu j p h
/-- o.f -/
theorem JE.fld {E : α → D} {F : β → D} {a : Expr} {f : Str} {wa : m α} (g : α → β) (i : Nat) (hi : ns.findIdx? (fun x => f == x) = some i) (hx : ∀ x, ∃ ds, E x = .o c ns ds ∧ ds[i]? = some (F (g x))) (hc : ∀ C, X.mg c = some (.ref C) → Cls X.K C ∧ NoAttr X.K C f) (ha : JE X M a ρ E wa)
    (hb : attributeBase a f X.env (eval a X.env) = eval a X.env := by rfl) : JE X M (.Attribute a f pos) ρ F (bd wa fun x => rt (g x)) :=
  ⟨⟨pe_weak (pe_fld ha.b.pe hb) fun σ H Q ⟨sr, O, H0, ad, he, hw⟩ => ⟨sr, O, H0, ad, he, by
      have hw := le1 (f := fun x => rt (m := m) (g x)) (g := fun x => Wp.pure (g x)) (fun _ => lep) _ hw
      refine (Mn.wp wa).mono (fun x q v H1 x1 r => ?_) hw
      obtain ⟨ds, e1, e2⟩ := hx x
      rw [e1] at r
      cases r with
      | o h1 h2 h3 h4 h5 =>
        rw [← h4] at hi
        obtain ⟨u, l1, l2⟩ := lookup_at hi
        obtain ⟨d, d1, d2⟩ := h5.get' l2
        rw [e2] at d1
        cases d1
        exact ⟨_, _, _, _, u, rfl, h1, (hc _ h3).1, (hc _ h3).2, l1, q u H1 x1 d2⟩⟩⟩⟩

theorem le3 {β1 : Type} {β2 : Type} {β3 : Type} {a1 : m β1} {a2 : β1 → m β2} {a3 : β1 → β2 → m β3} {f : β1 → β2 → β3 → m γ} {g : β1 → β2 → β3 → Wp γ} (h : ∀ x1 x2 x3, Wp.Le (Mn.wp (f x1 x2 x3)) (g x1 x2 x3)) : Wp.Le (Mn.wp (bd a1 fun x1 => (bd (a2 x1) fun x2 => (bd (a3 x1 x2) fun x3 => f x1 x2 x3)))) ((Mn.wp a1).bind fun x1 => ((Mn.wp (a2 x1)).bind fun x2 => ((Mn.wp (a3 x1 x2)).bind fun x3 => g x1 x2 x3))) :=
  le1 fun x1 => le1 fun x2 => le1 fun x3 => h x1 x2 x3

theorem le4 {β1 : Type} {β2 : Type} {β3 : Type} {β4 : Type} {a1 : m β1} {a2 : β1 → m β2} {a3 : β1 → β2 → m β3} {a4 : β1 → β2 → β3 → m β4} {f : β1 → β2 → β3 → β4 → m γ} {g : β1 → β2 → β3 → β4 → Wp γ} (h : ∀ x1 x2 x3 x4, Wp.Le (Mn.wp (f x1 x2 x3 x4)) (g x1 x2 x3 x4)) : Wp.Le (Mn.wp (bd a1 fun x1 => (bd (a2 x1) fun x2 => (bd (a3 x1 x2) fun x3 => (bd (a4 x1 x2 x3) fun x4 => f x1 x2 x3 x4))))) ((Mn.wp a1).bind fun x1 => ((Mn.wp (a2 x1)).bind fun x2 => ((Mn.wp (a3 x1 x2)).bind fun x3 => ((Mn.wp (a4 x1 x2 x3)).bind fun x4 => g x1 x2 x3 x4)))) :=
  le1 fun x1 => le1 fun x2 => le1 fun x3 => le1 fun x4 => h x1 x2 x3 x4

theorem le5 {β1 : Type} {β2 : Type} {β3 : Type} {β4 : Type} {β5 : Type} {a1 : m β1} {a2 : β1 → m β2} {a3 : β1 → β2 → m β3} {a4 : β1 → β2 → β3 → m β4} {a5 : β1 → β2 → β3 → β4 → m β5} {f : β1 → β2 → β3 → β4 → β5 → m γ} {g : β1 → β2 → β3 → β4 → β5 → Wp γ} (h : ∀ x1 x2 x3 x4 x5, Wp.Le (Mn.wp (f x1 x2 x3 x4 x5)) (g x1 x2 x3 x4 x5)) : Wp.Le (Mn.wp (bd a1 fun x1 => (bd (a2 x1) fun x2 => (bd (a3 x1 x2) fun x3 => (bd (a4 x1 x2 x3) fun x4 => (bd (a5 x1 x2 x3 x4) fun x5 => f x1 x2 x3 x4 x5)))))) ((Mn.wp a1).bind fun x1 => ((Mn.wp (a2 x1)).bind fun x2 => ((Mn.wp (a3 x1 x2)).bind fun x3 => ((Mn.wp (a4 x1 x2 x3)).bind fun x4 => ((Mn.wp (a5 x1 x2 x3 x4)).bind fun x5 => g x1 x2 x3 x4 x5))))) :=
  le1 fun x1 => le1 fun x2 => le1 fun x3 => le1 fun x4 => le1 fun x5 => h x1 x2 x3 x4 x5

theorem le6 {β1 : Type} {β2 : Type} {β3 : Type} {β4 : Type} {β5 : Type} {β6 : Type} {a1 : m β1} {a2 : β1 → m β2} {a3 : β1 → β2 → m β3} {a4 : β1 → β2 → β3 → m β4} {a5 : β1 → β2 → β3 → β4 → m β5} {a6 : β1 → β2 → β3 → β4 → β5 → m β6} {f : β1 → β2 → β3 → β4 → β5 → β6 → m γ} {g : β1 → β2 → β3 → β4 → β5 → β6 → Wp γ} (h : ∀ x1 x2 x3 x4 x5 x6, Wp.Le (Mn.wp (f x1 x2 x3 x4 x5 x6)) (g x1 x2 x3 x4 x5 x6)) : Wp.Le (Mn.wp (bd a1 fun x1 => (bd (a2 x1) fun x2 => (bd (a3 x1 x2) fun x3 => (bd (a4 x1 x2 x3) fun x4 => (bd (a5 x1 x2 x3 x4) fun x5 => (bd (a6 x1 x2 x3 x4 x5) fun x6 => f x1 x2 x3 x4 x5 x6))))))) ((Mn.wp a1).bind fun x1 => ((Mn.wp (a2 x1)).bind fun x2 => ((Mn.wp (a3 x1 x2)).bind fun x3 => ((Mn.wp (a4 x1 x2 x3)).bind fun x4 => ((Mn.wp (a5 x1 x2 x3 x4)).bind fun x5 => ((Mn.wp (a6 x1 x2 x3 x4 x5)).bind fun x6 => g x1 x2 x3 x4 x5 x6)))))) :=
  le1 fun x1 => le1 fun x2 => le1 fun x3 => le1 fun x4 => le1 fun x5 => le1 fun x6 => h x1 x2 x3 x4 x5 x6

theorem le7 {β1 : Type} {β2 : Type} {β3 : Type} {β4 : Type} {β5 : Type} {β6 : Type} {β7 : Type} {a1 : m β1} {a2 : β1 → m β2} {a3 : β1 → β2 → m β3} {a4 : β1 → β2 → β3 → m β4} {a5 : β1 → β2 → β3 → β4 → m β5} {a6 : β1 → β2 → β3 → β4 → β5 → m β6} {a7 : β1 → β2 → β3 → β4 → β5 → β6 → m β7} {f : β1 → β2 → β3 → β4 → β5 → β6 → β7 → m γ} {g : β1 → β2 → β3 → β4 → β5 → β6 → β7 → Wp γ} (h : ∀ x1 x2 x3 x4 x5 x6 x7, Wp.Le (Mn.wp (f x1 x2 x3 x4 x5 x6 x7)) (g x1 x2 x3 x4 x5 x6 x7)) : Wp.Le (Mn.wp (bd a1 fun x1 => (bd (a2 x1) fun x2 => (bd (a3 x1 x2) fun x3 => (bd (a4 x1 x2 x3) fun x4 => (bd (a5 x1 x2 x3 x4) fun x5 => (bd (a6 x1 x2 x3 x4 x5) fun x6 => (bd (a7 x1 x2 x3 x4 x5 x6) fun x7 => f x1 x2 x3 x4 x5 x6 x7)))))))) ((Mn.wp a1).bind fun x1 => ((Mn.wp (a2 x1)).bind fun x2 => ((Mn.wp (a3 x1 x2)).bind fun x3 => ((Mn.wp (a4 x1 x2 x3)).bind fun x4 => ((Mn.wp (a5 x1 x2 x3 x4)).bind fun x5 => ((Mn.wp (a6 x1 x2 x3 x4 x5)).bind fun x6 => ((Mn.wp (a7 x1 x2 x3 x4 x5 x6)).bind fun x7 => g x1 x2 x3 x4 x5 x6 x7))))))) :=
  le1 fun x1 => le1 fun x2 => le1 fun x3 => le1 fun x4 => le1 fun x5 => le1 fun x6 => le1 fun x7 => h x1 x2 x3 x4 x5 x6 x7

theorem JE.call0     {f : Option (δ)} {G : δ → D} {Fs : List D → (D → Prop) → Prop} (hF : ∀  r P, f  = some r → P (G r) → Fs [] P) (C : CallOk X n Fs)  (hg : Gl X n := by rfl) (hdb : (n == ("__debug__" : Str)) = false := by decide)   :
    JE X M (.Call (.Name n p) [] [] pos) ρ G (lf (m := m) f) := by
  obtain ⟨k, fa, fd, ps, F, hr, hm, hk, hb⟩ := C
  refine ⟨⟨pe_weak (pe_call0 F hr hg hm hk hb .nil pass0 hdb) fun σ H Q ⟨sr, O, H0, ad, he, hw⟩ => ?_⟩⟩
  have hw := Mn.lift_le _ _ hw
  obtain ⟨z, hz, q⟩ := hw
  exact ⟨OM M O ad, [], he.domM M, .nil, hF  z _ hz fun v' H' al rk => q v' H' (al.ext he.srs) rk.1⟩

theorem JL.call0     {f : Option (List δ)} {G : δ → D} {Fs : List D → (D → Prop) → Prop} (hF : ∀  r P, f  = some r → P ((eL G) r) → Fs [] P) (C : CallOk X n Fs)  (hg : Gl X n := by rfl) (hdb : (n == ("__debug__" : Str)) = false := by decide)   :
    JL X M (.Call (.Name n p) [] [] pos) ρ G (lf (m := m) f) := by
  obtain ⟨k, fa, fd, ps, F, hr, hm, hk, hb⟩ := C
  refine ⟨⟨pe_weak (pe_call0 F hr hg hm hk hb .nil pass0 hdb) fun σ H Q ⟨sr, O, H0, ad, he, hw⟩ => ?_⟩⟩
  have hw := Mn.lift_le _ _ hw
  obtain ⟨z, hz, q⟩ := hw
  exact ⟨OM M O ad, [], he.domM M, .nil, hF  z _ hz fun v' H' al rk => (by
    obtain ⟨rk1, p, vs, rfl, hp, hp', rs⟩ := rk
    exact q p vs H' (hp) (al.ext he.srs) hp' rs)⟩

theorem JE.call1 {α1 : Type} {E1 : α1 → D} {w1 : m α1} {e1 : Expr} {f : α1 → Option (δ)} {G : δ → D} {Fs : List D → (D → Prop) → Prop} (hF : ∀ x1 r P, f x1 = some r → P (G r) → Fs [E1 x1] P) (C : CallOk X n Fs) (ha1 : JE X M e1 ρ E1 w1) (hg : Gl X n := by rfl) (hdb : (n == ("__debug__" : Str)) = false := by decide) (hs1 : starEach [e1] X.env = (false, eval e1 X.env) :: starEach [] X.env := by rfl) (hpl : (backTo pos (starEach [] X.env)).any (·.1) = false := by rfl) :
    JE X M (.Call (.Name n p) [e1] [] pos) ρ G (bd w1 fun x1 => lf (f x1)) := by
  obtain ⟨k, fa, fd, ps, F, hr, hm, hk, hb⟩ := C
  refine ⟨⟨pe_weak (pe_call F hr hg hm hk hb .nil pass0 (pa_cons ha1.b.pe pa_nil hs1) hdb hs1 hpl) fun σ H Q ⟨sr, O, H0, ad, he, hw⟩ => ?_⟩⟩
  have hw := le1 (f := fun x1 => lf (m := m) (f x1)) (g := fun x1 => Wp.ofO (f x1)) (fun _ => Mn.lift_le _) _ hw
  refine ⟨sr, O, H0, ad, he, (Mn.wp w1).mono (fun x1 q1 v_1 H_1 x_1 r_1 => ?_) hw⟩
  obtain ⟨z, hz, q⟩ := q1
  exact ⟨OM M O ad, [E1 x1], (he.ext' x_1).domM M, (.cons r_1 .nil), hF x1 z _ hz fun v' H' al rk => q v' H' (x_1.trans (al.ext x_1.srs)) rk.1⟩

theorem JL.call1 {α1 : Type} {E1 : α1 → D} {w1 : m α1} {e1 : Expr} {f : α1 → Option (List δ)} {G : δ → D} {Fs : List D → (D → Prop) → Prop} (hF : ∀ x1 r P, f x1 = some r → P ((eL G) r) → Fs [E1 x1] P) (C : CallOk X n Fs) (ha1 : JE X M e1 ρ E1 w1) (hg : Gl X n := by rfl) (hdb : (n == ("__debug__" : Str)) = false := by decide) (hs1 : starEach [e1] X.env = (false, eval e1 X.env) :: starEach [] X.env := by rfl) (hpl : (backTo pos (starEach [] X.env)).any (·.1) = false := by rfl) :
    JL X M (.Call (.Name n p) [e1] [] pos) ρ G (bd w1 fun x1 => lf (f x1)) := by
  obtain ⟨k, fa, fd, ps, F, hr, hm, hk, hb⟩ := C
  refine ⟨⟨pe_weak (pe_call F hr hg hm hk hb .nil pass0 (pa_cons ha1.b.pe pa_nil hs1) hdb hs1 hpl) fun σ H Q ⟨sr, O, H0, ad, he, hw⟩ => ?_⟩⟩
  have hw := le1 (f := fun x1 => lf (m := m) (f x1)) (g := fun x1 => Wp.ofO (f x1)) (fun _ => Mn.lift_le _) _ hw
  refine ⟨sr, O, H0, ad, he, (Mn.wp w1).mono (fun x1 q1 v_1 H_1 x_1 r_1 => ?_) hw⟩
  obtain ⟨z, hz, q⟩ := q1
  exact ⟨OM M O ad, [E1 x1], (he.ext' x_1).domM M, (.cons r_1 .nil), hF x1 z _ hz fun v' H' al rk => (by
    obtain ⟨rk1, p, vs, rfl, hp, hp', rs⟩ := rk
    exact q p vs H' (x_1.back hp) (x_1.trans (al.ext x_1.srs)) hp' rs)⟩

theorem JE.call2 {α1 : Type} {α2 : Type} {E1 : α1 → D} {E2 : α2 → D} {w1 : m α1} {w2 : m α2} {e1 e2 : Expr} {f : α1 → α2 → Option (δ)} {G : δ → D} {Fs : List D → (D → Prop) → Prop} (hF : ∀ x1 x2 r P, f x1 x2 = some r → P (G r) → Fs [E1 x1, E2 x2] P) (C : CallOk X n Fs) (ha1 : JE X M e1 ρ E1 w1) (ha2 : JE X M e2 ρ E2 w2) (hg : Gl X n := by rfl) (hdb : (n == ("__debug__" : Str)) = false := by decide) (hs1 : starEach [e1, e2] X.env = (false, eval e1 X.env) :: starEach [e2] X.env := by rfl) (hs2 : starEach [e2] X.env = (false, eval e2 X.env) :: starEach [] X.env := by rfl) (hpl : (backTo pos (starEach [e2] X.env)).any (·.1) = false := by rfl) :
    JE X M (.Call (.Name n p) [e1, e2] [] pos) ρ G (bd w1 fun x1 => (bd w2 fun x2 => lf (f x1 x2))) := by
  obtain ⟨k, fa, fd, ps, F, hr, hm, hk, hb⟩ := C
  refine ⟨⟨pe_weak (pe_call F hr hg hm hk hb .nil pass0 (pa_cons ha1.b.pe (pa_cons ha2.b.pe pa_nil hs2) hs1) hdb hs1 hpl) fun σ H Q ⟨sr, O, H0, ad, he, hw⟩ => ?_⟩⟩
  have hw := le2 (f := fun x1 x2 => lf (m := m) (f x1 x2)) (g := fun x1 x2 => Wp.ofO (f x1 x2)) (fun _ _ => Mn.lift_le _) _ hw
  refine ⟨sr, O, H0, ad, he, (Mn.wp w1).mono (fun x1 q1 v_1 H_1 x_1 r_1 => ?_) hw⟩
  refine ⟨sr, O, H0, ad, (he.ext' x_1), (Mn.wp w2).mono (fun x2 q2 v_2 H_2 x_2 r_2 => ?_) q1⟩
  obtain ⟨z, hz, q⟩ := q2
  exact ⟨OM M O ad, [E1 x1, E2 x2], (he.ext' (x_1.trans x_2)).domM M, (.cons (r_1.ext x_2 (he.sOM M)) (.cons r_2 .nil)), hF x1 x2 z _ hz fun v' H' al rk => q v' H' ((x_1.trans x_2).trans (al.ext x_2.srs)) rk.1⟩

theorem JL.call2 {α1 : Type} {α2 : Type} {E1 : α1 → D} {E2 : α2 → D} {w1 : m α1} {w2 : m α2} {e1 e2 : Expr} {f : α1 → α2 → Option (List δ)} {G : δ → D} {Fs : List D → (D → Prop) → Prop} (hF : ∀ x1 x2 r P, f x1 x2 = some r → P ((eL G) r) → Fs [E1 x1, E2 x2] P) (C : CallOk X n Fs) (ha1 : JE X M e1 ρ E1 w1) (ha2 : JE X M e2 ρ E2 w2) (hg : Gl X n := by rfl) (hdb : (n == ("__debug__" : Str)) = false := by decide) (hs1 : starEach [e1, e2] X.env = (false, eval e1 X.env) :: starEach [e2] X.env := by rfl) (hs2 : starEach [e2] X.env = (false, eval e2 X.env) :: starEach [] X.env := by rfl) (hpl : (backTo pos (starEach [e2] X.env)).any (·.1) = false := by rfl) :
    JL X M (.Call (.Name n p) [e1, e2] [] pos) ρ G (bd w1 fun x1 => (bd w2 fun x2 => lf (f x1 x2))) := by
  obtain ⟨k, fa, fd, ps, F, hr, hm, hk, hb⟩ := C
  refine ⟨⟨pe_weak (pe_call F hr hg hm hk hb .nil pass0 (pa_cons ha1.b.pe (pa_cons ha2.b.pe pa_nil hs2) hs1) hdb hs1 hpl) fun σ H Q ⟨sr, O, H0, ad, he, hw⟩ => ?_⟩⟩
  have hw := le2 (f := fun x1 x2 => lf (m := m) (f x1 x2)) (g := fun x1 x2 => Wp.ofO (f x1 x2)) (fun _ _ => Mn.lift_le _) _ hw
  refine ⟨sr, O, H0, ad, he, (Mn.wp w1).mono (fun x1 q1 v_1 H_1 x_1 r_1 => ?_) hw⟩
  refine ⟨sr, O, H0, ad, (he.ext' x_1), (Mn.wp w2).mono (fun x2 q2 v_2 H_2 x_2 r_2 => ?_) q1⟩
  obtain ⟨z, hz, q⟩ := q2
  exact ⟨OM M O ad, [E1 x1, E2 x2], (he.ext' (x_1.trans x_2)).domM M, (.cons (r_1.ext x_2 (he.sOM M)) (.cons r_2 .nil)), hF x1 x2 z _ hz fun v' H' al rk => (by
    obtain ⟨rk1, p, vs, rfl, hp, hp', rs⟩ := rk
    exact q p vs H' ((x_1.trans x_2).back hp) ((x_1.trans x_2).trans (al.ext x_2.srs)) hp' rs)⟩

theorem JE.call3 {α1 : Type} {α2 : Type} {α3 : Type} {E1 : α1 → D} {E2 : α2 → D} {E3 : α3 → D} {w1 : m α1} {w2 : m α2} {w3 : m α3} {e1 e2 e3 : Expr} {f : α1 → α2 → α3 → Option (δ)} {G : δ → D} {Fs : List D → (D → Prop) → Prop} (hF : ∀ x1 x2 x3 r P, f x1 x2 x3 = some r → P (G r) → Fs [E1 x1, E2 x2, E3 x3] P) (C : CallOk X n Fs) (ha1 : JE X M e1 ρ E1 w1) (ha2 : JE X M e2 ρ E2 w2) (ha3 : JE X M e3 ρ E3 w3) (hg : Gl X n := by rfl) (hdb : (n == ("__debug__" : Str)) = false := by decide) (hs1 : starEach [e1, e2, e3] X.env = (false, eval e1 X.env) :: starEach [e2, e3] X.env := by rfl) (hs2 : starEach [e2, e3] X.env = (false, eval e2 X.env) :: starEach [e3] X.env := by rfl) (hs3 : starEach [e3] X.env = (false, eval e3 X.env) :: starEach [] X.env := by rfl) (hpl : (backTo pos (starEach [e2, e3] X.env)).any (·.1) = false := by rfl) :
    JE X M (.Call (.Name n p) [e1, e2, e3] [] pos) ρ G (bd w1 fun x1 => (bd w2 fun x2 => (bd w3 fun x3 => lf (f x1 x2 x3)))) := by
  obtain ⟨k, fa, fd, ps, F, hr, hm, hk, hb⟩ := C
  refine ⟨⟨pe_weak (pe_call F hr hg hm hk hb .nil pass0 (pa_cons ha1.b.pe (pa_cons ha2.b.pe (pa_cons ha3.b.pe pa_nil hs3) hs2) hs1) hdb hs1 hpl) fun σ H Q ⟨sr, O, H0, ad, he, hw⟩ => ?_⟩⟩
  have hw := le3 (f := fun x1 x2 x3 => lf (m := m) (f x1 x2 x3)) (g := fun x1 x2 x3 => Wp.ofO (f x1 x2 x3)) (fun _ _ _ => Mn.lift_le _) _ hw
  refine ⟨sr, O, H0, ad, he, (Mn.wp w1).mono (fun x1 q1 v_1 H_1 x_1 r_1 => ?_) hw⟩
  refine ⟨sr, O, H0, ad, (he.ext' x_1), (Mn.wp w2).mono (fun x2 q2 v_2 H_2 x_2 r_2 => ?_) q1⟩
  refine ⟨sr, O, H0, ad, (he.ext' (x_1.trans x_2)), (Mn.wp w3).mono (fun x3 q3 v_3 H_3 x_3 r_3 => ?_) q2⟩
  obtain ⟨z, hz, q⟩ := q3
  exact ⟨OM M O ad, [E1 x1, E2 x2, E3 x3], (he.ext' ((x_1.trans x_2).trans x_3)).domM M, (.cons ((r_1.ext x_2 (he.sOM M)).ext x_3 (he.sOM M)) (.cons (r_2.ext x_3 (he.sOM M)) (.cons r_3 .nil))), hF x1 x2 x3 z _ hz fun v' H' al rk => q v' H' (((x_1.trans x_2).trans x_3).trans (al.ext x_3.srs)) rk.1⟩

theorem JL.call3 {α1 : Type} {α2 : Type} {α3 : Type} {E1 : α1 → D} {E2 : α2 → D} {E3 : α3 → D} {w1 : m α1} {w2 : m α2} {w3 : m α3} {e1 e2 e3 : Expr} {f : α1 → α2 → α3 → Option (List δ)} {G : δ → D} {Fs : List D → (D → Prop) → Prop} (hF : ∀ x1 x2 x3 r P, f x1 x2 x3 = some r → P ((eL G) r) → Fs [E1 x1, E2 x2, E3 x3] P) (C : CallOk X n Fs) (ha1 : JE X M e1 ρ E1 w1) (ha2 : JE X M e2 ρ E2 w2) (ha3 : JE X M e3 ρ E3 w3) (hg : Gl X n := by rfl) (hdb : (n == ("__debug__" : Str)) = false := by decide) (hs1 : starEach [e1, e2, e3] X.env = (false, eval e1 X.env) :: starEach [e2, e3] X.env := by rfl) (hs2 : starEach [e2, e3] X.env = (false, eval e2 X.env) :: starEach [e3] X.env := by rfl) (hs3 : starEach [e3] X.env = (false, eval e3 X.env) :: starEach [] X.env := by rfl) (hpl : (backTo pos (starEach [e2, e3] X.env)).any (·.1) = false := by rfl) :
    JL X M (.Call (.Name n p) [e1, e2, e3] [] pos) ρ G (bd w1 fun x1 => (bd w2 fun x2 => (bd w3 fun x3 => lf (f x1 x2 x3)))) := by
  obtain ⟨k, fa, fd, ps, F, hr, hm, hk, hb⟩ := C
  refine ⟨⟨pe_weak (pe_call F hr hg hm hk hb .nil pass0 (pa_cons ha1.b.pe (pa_cons ha2.b.pe (pa_cons ha3.b.pe pa_nil hs3) hs2) hs1) hdb hs1 hpl) fun σ H Q ⟨sr, O, H0, ad, he, hw⟩ => ?_⟩⟩
  have hw := le3 (f := fun x1 x2 x3 => lf (m := m) (f x1 x2 x3)) (g := fun x1 x2 x3 => Wp.ofO (f x1 x2 x3)) (fun _ _ _ => Mn.lift_le _) _ hw
  refine ⟨sr, O, H0, ad, he, (Mn.wp w1).mono (fun x1 q1 v_1 H_1 x_1 r_1 => ?_) hw⟩
  refine ⟨sr, O, H0, ad, (he.ext' x_1), (Mn.wp w2).mono (fun x2 q2 v_2 H_2 x_2 r_2 => ?_) q1⟩
  refine ⟨sr, O, H0, ad, (he.ext' (x_1.trans x_2)), (Mn.wp w3).mono (fun x3 q3 v_3 H_3 x_3 r_3 => ?_) q2⟩
  obtain ⟨z, hz, q⟩ := q3
  exact ⟨OM M O ad, [E1 x1, E2 x2, E3 x3], (he.ext' ((x_1.trans x_2).trans x_3)).domM M, (.cons ((r_1.ext x_2 (he.sOM M)).ext x_3 (he.sOM M)) (.cons (r_2.ext x_3 (he.sOM M)) (.cons r_3 .nil))), hF x1 x2 x3 z _ hz fun v' H' al rk => (by
    obtain ⟨rk1, p, vs, rfl, hp, hp', rs⟩ := rk
    exact q p vs H' (((x_1.trans x_2).trans x_3).back hp) (((x_1.trans x_2).trans x_3).trans (al.ext x_3.srs)) hp' rs)⟩

theorem JE.call4 {α1 : Type} {α2 : Type} {α3 : Type} {α4 : Type} {E1 : α1 → D} {E2 : α2 → D} {E3 : α3 → D} {E4 : α4 → D} {w1 : m α1} {w2 : m α2} {w3 : m α3} {w4 : m α4} {e1 e2 e3 e4 : Expr} {f : α1 → α2 → α3 → α4 → Option (δ)} {G : δ → D} {Fs : List D → (D → Prop) → Prop} (hF : ∀ x1 x2 x3 x4 r P, f x1 x2 x3 x4 = some r → P (G r) → Fs [E1 x1, E2 x2, E3 x3, E4 x4] P) (C : CallOk X n Fs) (ha1 : JE X M e1 ρ E1 w1) (ha2 : JE X M e2 ρ E2 w2) (ha3 : JE X M e3 ρ E3 w3) (ha4 : JE X M e4 ρ E4 w4) (hg : Gl X n := by rfl) (hdb : (n == ("__debug__" : Str)) = false := by decide) (hs1 : starEach [e1, e2, e3, e4] X.env = (false, eval e1 X.env) :: starEach [e2, e3, e4] X.env := by rfl) (hs2 : starEach [e2, e3, e4] X.env = (false, eval e2 X.env) :: starEach [e3, e4] X.env := by rfl) (hs3 : starEach [e3, e4] X.env = (false, eval e3 X.env) :: starEach [e4] X.env := by rfl) (hs4 : starEach [e4] X.env = (false, eval e4 X.env) :: starEach [] X.env := by rfl) (hpl : (backTo pos (starEach [e2, e3, e4] X.env)).any (·.1) = false := by rfl) :
    JE X M (.Call (.Name n p) [e1, e2, e3, e4] [] pos) ρ G (bd w1 fun x1 => (bd w2 fun x2 => (bd w3 fun x3 => (bd w4 fun x4 => lf (f x1 x2 x3 x4))))) := by
  obtain ⟨k, fa, fd, ps, F, hr, hm, hk, hb⟩ := C
  refine ⟨⟨pe_weak (pe_call F hr hg hm hk hb .nil pass0 (pa_cons ha1.b.pe (pa_cons ha2.b.pe (pa_cons ha3.b.pe (pa_cons ha4.b.pe pa_nil hs4) hs3) hs2) hs1) hdb hs1 hpl) fun σ H Q ⟨sr, O, H0, ad, he, hw⟩ => ?_⟩⟩
  have hw := le4 (f := fun x1 x2 x3 x4 => lf (m := m) (f x1 x2 x3 x4)) (g := fun x1 x2 x3 x4 => Wp.ofO (f x1 x2 x3 x4)) (fun _ _ _ _ => Mn.lift_le _) _ hw
  refine ⟨sr, O, H0, ad, he, (Mn.wp w1).mono (fun x1 q1 v_1 H_1 x_1 r_1 => ?_) hw⟩
  refine ⟨sr, O, H0, ad, (he.ext' x_1), (Mn.wp w2).mono (fun x2 q2 v_2 H_2 x_2 r_2 => ?_) q1⟩
  refine ⟨sr, O, H0, ad, (he.ext' (x_1.trans x_2)), (Mn.wp w3).mono (fun x3 q3 v_3 H_3 x_3 r_3 => ?_) q2⟩
  refine ⟨sr, O, H0, ad, (he.ext' ((x_1.trans x_2).trans x_3)), (Mn.wp w4).mono (fun x4 q4 v_4 H_4 x_4 r_4 => ?_) q3⟩
  obtain ⟨z, hz, q⟩ := q4
  exact ⟨OM M O ad, [E1 x1, E2 x2, E3 x3, E4 x4], (he.ext' (((x_1.trans x_2).trans x_3).trans x_4)).domM M, (.cons (((r_1.ext x_2 (he.sOM M)).ext x_3 (he.sOM M)).ext x_4 (he.sOM M)) (.cons ((r_2.ext x_3 (he.sOM M)).ext x_4 (he.sOM M)) (.cons (r_3.ext x_4 (he.sOM M)) (.cons r_4 .nil)))), hF x1 x2 x3 x4 z _ hz fun v' H' al rk => q v' H' ((((x_1.trans x_2).trans x_3).trans x_4).trans (al.ext x_4.srs)) rk.1⟩

theorem JL.call4 {α1 : Type} {α2 : Type} {α3 : Type} {α4 : Type} {E1 : α1 → D} {E2 : α2 → D} {E3 : α3 → D} {E4 : α4 → D} {w1 : m α1} {w2 : m α2} {w3 : m α3} {w4 : m α4} {e1 e2 e3 e4 : Expr} {f : α1 → α2 → α3 → α4 → Option (List δ)} {G : δ → D} {Fs : List D → (D → Prop) → Prop} (hF : ∀ x1 x2 x3 x4 r P, f x1 x2 x3 x4 = some r → P ((eL G) r) → Fs [E1 x1, E2 x2, E3 x3, E4 x4] P) (C : CallOk X n Fs) (ha1 : JE X M e1 ρ E1 w1) (ha2 : JE X M e2 ρ E2 w2) (ha3 : JE X M e3 ρ E3 w3) (ha4 : JE X M e4 ρ E4 w4) (hg : Gl X n := by rfl) (hdb : (n == ("__debug__" : Str)) = false := by decide) (hs1 : starEach [e1, e2, e3, e4] X.env = (false, eval e1 X.env) :: starEach [e2, e3, e4] X.env := by rfl) (hs2 : starEach [e2, e3, e4] X.env = (false, eval e2 X.env) :: starEach [e3, e4] X.env := by rfl) (hs3 : starEach [e3, e4] X.env = (false, eval e3 X.env) :: starEach [e4] X.env := by rfl) (hs4 : starEach [e4] X.env = (false, eval e4 X.env) :: starEach [] X.env := by rfl) (hpl : (backTo pos (starEach [e2, e3, e4] X.env)).any (·.1) = false := by rfl) :
    JL X M (.Call (.Name n p) [e1, e2, e3, e4] [] pos) ρ G (bd w1 fun x1 => (bd w2 fun x2 => (bd w3 fun x3 => (bd w4 fun x4 => lf (f x1 x2 x3 x4))))) := by
  obtain ⟨k, fa, fd, ps, F, hr, hm, hk, hb⟩ := C
  refine ⟨⟨pe_weak (pe_call F hr hg hm hk hb .nil pass0 (pa_cons ha1.b.pe (pa_cons ha2.b.pe (pa_cons ha3.b.pe (pa_cons ha4.b.pe pa_nil hs4) hs3) hs2) hs1) hdb hs1 hpl) fun σ H Q ⟨sr, O, H0, ad, he, hw⟩ => ?_⟩⟩
  have hw := le4 (f := fun x1 x2 x3 x4 => lf (m := m) (f x1 x2 x3 x4)) (g := fun x1 x2 x3 x4 => Wp.ofO (f x1 x2 x3 x4)) (fun _ _ _ _ => Mn.lift_le _) _ hw
  refine ⟨sr, O, H0, ad, he, (Mn.wp w1).mono (fun x1 q1 v_1 H_1 x_1 r_1 => ?_) hw⟩
  refine ⟨sr, O, H0, ad, (he.ext' x_1), (Mn.wp w2).mono (fun x2 q2 v_2 H_2 x_2 r_2 => ?_) q1⟩
  refine ⟨sr, O, H0, ad, (he.ext' (x_1.trans x_2)), (Mn.wp w3).mono (fun x3 q3 v_3 H_3 x_3 r_3 => ?_) q2⟩
  refine ⟨sr, O, H0, ad, (he.ext' ((x_1.trans x_2).trans x_3)), (Mn.wp w4).mono (fun x4 q4 v_4 H_4 x_4 r_4 => ?_) q3⟩
  obtain ⟨z, hz, q⟩ := q4
  exact ⟨OM M O ad, [E1 x1, E2 x2, E3 x3, E4 x4], (he.ext' (((x_1.trans x_2).trans x_3).trans x_4)).domM M, (.cons (((r_1.ext x_2 (he.sOM M)).ext x_3 (he.sOM M)).ext x_4 (he.sOM M)) (.cons ((r_2.ext x_3 (he.sOM M)).ext x_4 (he.sOM M)) (.cons (r_3.ext x_4 (he.sOM M)) (.cons r_4 .nil)))), hF x1 x2 x3 x4 z _ hz fun v' H' al rk => (by
    obtain ⟨rk1, p, vs, rfl, hp, hp', rs⟩ := rk
    exact q p vs H' ((((x_1.trans x_2).trans x_3).trans x_4).back hp) ((((x_1.trans x_2).trans x_3).trans x_4).trans (al.ext x_4.srs)) hp' rs)⟩

theorem JE.call5 {α1 : Type} {α2 : Type} {α3 : Type} {α4 : Type} {α5 : Type} {E1 : α1 → D} {E2 : α2 → D} {E3 : α3 → D} {E4 : α4 → D} {E5 : α5 → D} {w1 : m α1} {w2 : m α2} {w3 : m α3} {w4 : m α4} {w5 : m α5} {e1 e2 e3 e4 e5 : Expr} {f : α1 → α2 → α3 → α4 → α5 → Option (δ)} {G : δ → D} {Fs : List D → (D → Prop) → Prop} (hF : ∀ x1 x2 x3 x4 x5 r P, f x1 x2 x3 x4 x5 = some r → P (G r) → Fs [E1 x1, E2 x2, E3 x3, E4 x4, E5 x5] P) (C : CallOk X n Fs) (ha1 : JE X M e1 ρ E1 w1) (ha2 : JE X M e2 ρ E2 w2) (ha3 : JE X M e3 ρ E3 w3) (ha4 : JE X M e4 ρ E4 w4) (ha5 : JE X M e5 ρ E5 w5) (hg : Gl X n := by rfl) (hdb : (n == ("__debug__" : Str)) = false := by decide) (hs1 : starEach [e1, e2, e3, e4, e5] X.env = (false, eval e1 X.env) :: starEach [e2, e3, e4, e5] X.env := by rfl) (hs2 : starEach [e2, e3, e4, e5] X.env = (false, eval e2 X.env) :: starEach [e3, e4, e5] X.env := by rfl) (hs3 : starEach [e3, e4, e5] X.env = (false, eval e3 X.env) :: starEach [e4, e5] X.env := by rfl) (hs4 : starEach [e4, e5] X.env = (false, eval e4 X.env) :: starEach [e5] X.env := by rfl) (hs5 : starEach [e5] X.env = (false, eval e5 X.env) :: starEach [] X.env := by rfl) (hpl : (backTo pos (starEach [e2, e3, e4, e5] X.env)).any (·.1) = false := by rfl) :
    JE X M (.Call (.Name n p) [e1, e2, e3, e4, e5] [] pos) ρ G (bd w1 fun x1 => (bd w2 fun x2 => (bd w3 fun x3 => (bd w4 fun x4 => (bd w5 fun x5 => lf (f x1 x2 x3 x4 x5)))))) := by
  obtain ⟨k, fa, fd, ps, F, hr, hm, hk, hb⟩ := C
  refine ⟨⟨pe_weak (pe_call F hr hg hm hk hb .nil pass0 (pa_cons ha1.b.pe (pa_cons ha2.b.pe (pa_cons ha3.b.pe (pa_cons ha4.b.pe (pa_cons ha5.b.pe pa_nil hs5) hs4) hs3) hs2) hs1) hdb hs1 hpl) fun σ H Q ⟨sr, O, H0, ad, he, hw⟩ => ?_⟩⟩
  have hw := le5 (f := fun x1 x2 x3 x4 x5 => lf (m := m) (f x1 x2 x3 x4 x5)) (g := fun x1 x2 x3 x4 x5 => Wp.ofO (f x1 x2 x3 x4 x5)) (fun _ _ _ _ _ => Mn.lift_le _) _ hw
  refine ⟨sr, O, H0, ad, he, (Mn.wp w1).mono (fun x1 q1 v_1 H_1 x_1 r_1 => ?_) hw⟩
  refine ⟨sr, O, H0, ad, (he.ext' x_1), (Mn.wp w2).mono (fun x2 q2 v_2 H_2 x_2 r_2 => ?_) q1⟩
  refine ⟨sr, O, H0, ad, (he.ext' (x_1.trans x_2)), (Mn.wp w3).mono (fun x3 q3 v_3 H_3 x_3 r_3 => ?_) q2⟩
  refine ⟨sr, O, H0, ad, (he.ext' ((x_1.trans x_2).trans x_3)), (Mn.wp w4).mono (fun x4 q4 v_4 H_4 x_4 r_4 => ?_) q3⟩
  refine ⟨sr, O, H0, ad, (he.ext' (((x_1.trans x_2).trans x_3).trans x_4)), (Mn.wp w5).mono (fun x5 q5 v_5 H_5 x_5 r_5 => ?_) q4⟩
  obtain ⟨z, hz, q⟩ := q5
  exact ⟨OM M O ad, [E1 x1, E2 x2, E3 x3, E4 x4, E5 x5], (he.ext' ((((x_1.trans x_2).trans x_3).trans x_4).trans x_5)).domM M, (.cons ((((r_1.ext x_2 (he.sOM M)).ext x_3 (he.sOM M)).ext x_4 (he.sOM M)).ext x_5 (he.sOM M)) (.cons (((r_2.ext x_3 (he.sOM M)).ext x_4 (he.sOM M)).ext x_5 (he.sOM M)) (.cons ((r_3.ext x_4 (he.sOM M)).ext x_5 (he.sOM M)) (.cons (r_4.ext x_5 (he.sOM M)) (.cons r_5 .nil))))), hF x1 x2 x3 x4 x5 z _ hz fun v' H' al rk => q v' H' (((((x_1.trans x_2).trans x_3).trans x_4).trans x_5).trans (al.ext x_5.srs)) rk.1⟩

theorem JL.call5 {α1 : Type} {α2 : Type} {α3 : Type} {α4 : Type} {α5 : Type} {E1 : α1 → D} {E2 : α2 → D} {E3 : α3 → D} {E4 : α4 → D} {E5 : α5 → D} {w1 : m α1} {w2 : m α2} {w3 : m α3} {w4 : m α4} {w5 : m α5} {e1 e2 e3 e4 e5 : Expr} {f : α1 → α2 → α3 → α4 → α5 → Option (List δ)} {G : δ → D} {Fs : List D → (D → Prop) → Prop} (hF : ∀ x1 x2 x3 x4 x5 r P, f x1 x2 x3 x4 x5 = some r → P ((eL G) r) → Fs [E1 x1, E2 x2, E3 x3, E4 x4, E5 x5] P) (C : CallOk X n Fs) (ha1 : JE X M e1 ρ E1 w1) (ha2 : JE X M e2 ρ E2 w2) (ha3 : JE X M e3 ρ E3 w3) (ha4 : JE X M e4 ρ E4 w4) (ha5 : JE X M e5 ρ E5 w5) (hg : Gl X n := by rfl) (hdb : (n == ("__debug__" : Str)) = false := by decide) (hs1 : starEach [e1, e2, e3, e4, e5] X.env = (false, eval e1 X.env) :: starEach [e2, e3, e4, e5] X.env := by rfl) (hs2 : starEach [e2, e3, e4, e5] X.env = (false, eval e2 X.env) :: starEach [e3, e4, e5] X.env := by rfl) (hs3 : starEach [e3, e4, e5] X.env = (false, eval e3 X.env) :: starEach [e4, e5] X.env := by rfl) (hs4 : starEach [e4, e5] X.env = (false, eval e4 X.env) :: starEach [e5] X.env := by rfl) (hs5 : starEach [e5] X.env = (false, eval e5 X.env) :: starEach [] X.env := by rfl) (hpl : (backTo pos (starEach [e2, e3, e4, e5] X.env)).any (·.1) = false := by rfl) :
    JL X M (.Call (.Name n p) [e1, e2, e3, e4, e5] [] pos) ρ G (bd w1 fun x1 => (bd w2 fun x2 => (bd w3 fun x3 => (bd w4 fun x4 => (bd w5 fun x5 => lf (f x1 x2 x3 x4 x5)))))) := by
  obtain ⟨k, fa, fd, ps, F, hr, hm, hk, hb⟩ := C
  refine ⟨⟨pe_weak (pe_call F hr hg hm hk hb .nil pass0 (pa_cons ha1.b.pe (pa_cons ha2.b.pe (pa_cons ha3.b.pe (pa_cons ha4.b.pe (pa_cons ha5.b.pe pa_nil hs5) hs4) hs3) hs2) hs1) hdb hs1 hpl) fun σ H Q ⟨sr, O, H0, ad, he, hw⟩ => ?_⟩⟩
  have hw := le5 (f := fun x1 x2 x3 x4 x5 => lf (m := m) (f x1 x2 x3 x4 x5)) (g := fun x1 x2 x3 x4 x5 => Wp.ofO (f x1 x2 x3 x4 x5)) (fun _ _ _ _ _ => Mn.lift_le _) _ hw
  refine ⟨sr, O, H0, ad, he, (Mn.wp w1).mono (fun x1 q1 v_1 H_1 x_1 r_1 => ?_) hw⟩
  refine ⟨sr, O, H0, ad, (he.ext' x_1), (Mn.wp w2).mono (fun x2 q2 v_2 H_2 x_2 r_2 => ?_) q1⟩
  refine ⟨sr, O, H0, ad, (he.ext' (x_1.trans x_2)), (Mn.wp w3).mono (fun x3 q3 v_3 H_3 x_3 r_3 => ?_) q2⟩
  refine ⟨sr, O, H0, ad, (he.ext' ((x_1.trans x_2).trans x_3)), (Mn.wp w4).mono (fun x4 q4 v_4 H_4 x_4 r_4 => ?_) q3⟩
  refine ⟨sr, O, H0, ad, (he.ext' (((x_1.trans x_2).trans x_3).trans x_4)), (Mn.wp w5).mono (fun x5 q5 v_5 H_5 x_5 r_5 => ?_) q4⟩
  obtain ⟨z, hz, q⟩ := q5
  exact ⟨OM M O ad, [E1 x1, E2 x2, E3 x3, E4 x4, E5 x5], (he.ext' ((((x_1.trans x_2).trans x_3).trans x_4).trans x_5)).domM M, (.cons ((((r_1.ext x_2 (he.sOM M)).ext x_3 (he.sOM M)).ext x_4 (he.sOM M)).ext x_5 (he.sOM M)) (.cons (((r_2.ext x_3 (he.sOM M)).ext x_4 (he.sOM M)).ext x_5 (he.sOM M)) (.cons ((r_3.ext x_4 (he.sOM M)).ext x_5 (he.sOM M)) (.cons (r_4.ext x_5 (he.sOM M)) (.cons r_5 .nil))))), hF x1 x2 x3 x4 x5 z _ hz fun v' H' al rk => (by
    obtain ⟨rk1, p, vs, rfl, hp, hp', rs⟩ := rk
    exact q p vs H' (((((x_1.trans x_2).trans x_3).trans x_4).trans x_5).back hp) (((((x_1.trans x_2).trans x_3).trans x_4).trans x_5).trans (al.ext x_5.srs)) hp' rs)⟩

theorem JE.call6 {α1 : Type} {α2 : Type} {α3 : Type} {α4 : Type} {α5 : Type} {α6 : Type} {E1 : α1 → D} {E2 : α2 → D} {E3 : α3 → D} {E4 : α4 → D} {E5 : α5 → D} {E6 : α6 → D} {w1 : m α1} {w2 : m α2} {w3 : m α3} {w4 : m α4} {w5 : m α5} {w6 : m α6} {e1 e2 e3 e4 e5 e6 : Expr} {f : α1 → α2 → α3 → α4 → α5 → α6 → Option (δ)} {G : δ → D} {Fs : List D → (D → Prop) → Prop} (hF : ∀ x1 x2 x3 x4 x5 x6 r P, f x1 x2 x3 x4 x5 x6 = some r → P (G r) → Fs [E1 x1, E2 x2, E3 x3, E4 x4, E5 x5, E6 x6] P) (C : CallOk X n Fs) (ha1 : JE X M e1 ρ E1 w1) (ha2 : JE X M e2 ρ E2 w2) (ha3 : JE X M e3 ρ E3 w3) (ha4 : JE X M e4 ρ E4 w4) (ha5 : JE X M e5 ρ E5 w5) (ha6 : JE X M e6 ρ E6 w6) (hg : Gl X n := by rfl) (hdb : (n == ("__debug__" : Str)) = false := by decide) (hs1 : starEach [e1, e2, e3, e4, e5, e6] X.env = (false, eval e1 X.env) :: starEach [e2, e3, e4, e5, e6] X.env := by rfl) (hs2 : starEach [e2, e3, e4, e5, e6] X.env = (false, eval e2 X.env) :: starEach [e3, e4, e5, e6] X.env := by rfl) (hs3 : starEach [e3, e4, e5, e6] X.env = (false, eval e3 X.env) :: starEach [e4, e5, e6] X.env := by rfl) (hs4 : starEach [e4, e5, e6] X.env = (false, eval e4 X.env) :: starEach [e5, e6] X.env := by rfl) (hs5 : starEach [e5, e6] X.env = (false, eval e5 X.env) :: starEach [e6] X.env := by rfl) (hs6 : starEach [e6] X.env = (false, eval e6 X.env) :: starEach [] X.env := by rfl) (hpl : (backTo pos (starEach [e2, e3, e4, e5, e6] X.env)).any (·.1) = false := by rfl) :
    JE X M (.Call (.Name n p) [e1, e2, e3, e4, e5, e6] [] pos) ρ G (bd w1 fun x1 => (bd w2 fun x2 => (bd w3 fun x3 => (bd w4 fun x4 => (bd w5 fun x5 => (bd w6 fun x6 => lf (f x1 x2 x3 x4 x5 x6))))))) := by
  obtain ⟨k, fa, fd, ps, F, hr, hm, hk, hb⟩ := C
  refine ⟨⟨pe_weak (pe_call F hr hg hm hk hb .nil pass0 (pa_cons ha1.b.pe (pa_cons ha2.b.pe (pa_cons ha3.b.pe (pa_cons ha4.b.pe (pa_cons ha5.b.pe (pa_cons ha6.b.pe pa_nil hs6) hs5) hs4) hs3) hs2) hs1) hdb hs1 hpl) fun σ H Q ⟨sr, O, H0, ad, he, hw⟩ => ?_⟩⟩
  have hw := le6 (f := fun x1 x2 x3 x4 x5 x6 => lf (m := m) (f x1 x2 x3 x4 x5 x6)) (g := fun x1 x2 x3 x4 x5 x6 => Wp.ofO (f x1 x2 x3 x4 x5 x6)) (fun _ _ _ _ _ _ => Mn.lift_le _) _ hw
  refine ⟨sr, O, H0, ad, he, (Mn.wp w1).mono (fun x1 q1 v_1 H_1 x_1 r_1 => ?_) hw⟩
  refine ⟨sr, O, H0, ad, (he.ext' x_1), (Mn.wp w2).mono (fun x2 q2 v_2 H_2 x_2 r_2 => ?_) q1⟩
  refine ⟨sr, O, H0, ad, (he.ext' (x_1.trans x_2)), (Mn.wp w3).mono (fun x3 q3 v_3 H_3 x_3 r_3 => ?_) q2⟩
  refine ⟨sr, O, H0, ad, (he.ext' ((x_1.trans x_2).trans x_3)), (Mn.wp w4).mono (fun x4 q4 v_4 H_4 x_4 r_4 => ?_) q3⟩
  refine ⟨sr, O, H0, ad, (he.ext' (((x_1.trans x_2).trans x_3).trans x_4)), (Mn.wp w5).mono (fun x5 q5 v_5 H_5 x_5 r_5 => ?_) q4⟩
  refine ⟨sr, O, H0, ad, (he.ext' ((((x_1.trans x_2).trans x_3).trans x_4).trans x_5)), (Mn.wp w6).mono (fun x6 q6 v_6 H_6 x_6 r_6 => ?_) q5⟩
  obtain ⟨z, hz, q⟩ := q6
  exact ⟨OM M O ad, [E1 x1, E2 x2, E3 x3, E4 x4, E5 x5, E6 x6], (he.ext' (((((x_1.trans x_2).trans x_3).trans x_4).trans x_5).trans x_6)).domM M, (.cons (((((r_1.ext x_2 (he.sOM M)).ext x_3 (he.sOM M)).ext x_4 (he.sOM M)).ext x_5 (he.sOM M)).ext x_6 (he.sOM M)) (.cons ((((r_2.ext x_3 (he.sOM M)).ext x_4 (he.sOM M)).ext x_5 (he.sOM M)).ext x_6 (he.sOM M)) (.cons (((r_3.ext x_4 (he.sOM M)).ext x_5 (he.sOM M)).ext x_6 (he.sOM M)) (.cons ((r_4.ext x_5 (he.sOM M)).ext x_6 (he.sOM M)) (.cons (r_5.ext x_6 (he.sOM M)) (.cons r_6 .nil)))))), hF x1 x2 x3 x4 x5 x6 z _ hz fun v' H' al rk => q v' H' ((((((x_1.trans x_2).trans x_3).trans x_4).trans x_5).trans x_6).trans (al.ext x_6.srs)) rk.1⟩

theorem JL.call6 {α1 : Type} {α2 : Type} {α3 : Type} {α4 : Type} {α5 : Type} {α6 : Type} {E1 : α1 → D} {E2 : α2 → D} {E3 : α3 → D} {E4 : α4 → D} {E5 : α5 → D} {E6 : α6 → D} {w1 : m α1} {w2 : m α2} {w3 : m α3} {w4 : m α4} {w5 : m α5} {w6 : m α6} {e1 e2 e3 e4 e5 e6 : Expr} {f : α1 → α2 → α3 → α4 → α5 → α6 → Option (List δ)} {G : δ → D} {Fs : List D → (D → Prop) → Prop} (hF : ∀ x1 x2 x3 x4 x5 x6 r P, f x1 x2 x3 x4 x5 x6 = some r → P ((eL G) r) → Fs [E1 x1, E2 x2, E3 x3, E4 x4, E5 x5, E6 x6] P) (C : CallOk X n Fs) (ha1 : JE X M e1 ρ E1 w1) (ha2 : JE X M e2 ρ E2 w2) (ha3 : JE X M e3 ρ E3 w3) (ha4 : JE X M e4 ρ E4 w4) (ha5 : JE X M e5 ρ E5 w5) (ha6 : JE X M e6 ρ E6 w6) (hg : Gl X n := by rfl) (hdb : (n == ("__debug__" : Str)) = false := by decide) (hs1 : starEach [e1, e2, e3, e4, e5, e6] X.env = (false, eval e1 X.env) :: starEach [e2, e3, e4, e5, e6] X.env := by rfl) (hs2 : starEach [e2, e3, e4, e5, e6] X.env = (false, eval e2 X.env) :: starEach [e3, e4, e5, e6] X.env := by rfl) (hs3 : starEach [e3, e4, e5, e6] X.env = (false, eval e3 X.env) :: starEach [e4, e5, e6] X.env := by rfl) (hs4 : starEach [e4, e5, e6] X.env = (false, eval e4 X.env) :: starEach [e5, e6] X.env := by rfl) (hs5 : starEach [e5, e6] X.env = (false, eval e5 X.env) :: starEach [e6] X.env := by rfl) (hs6 : starEach [e6] X.env = (false, eval e6 X.env) :: starEach [] X.env := by rfl) (hpl : (backTo pos (starEach [e2, e3, e4, e5, e6] X.env)).any (·.1) = false := by rfl) :
    JL X M (.Call (.Name n p) [e1, e2, e3, e4, e5, e6] [] pos) ρ G (bd w1 fun x1 => (bd w2 fun x2 => (bd w3 fun x3 => (bd w4 fun x4 => (bd w5 fun x5 => (bd w6 fun x6 => lf (f x1 x2 x3 x4 x5 x6))))))) := by
  obtain ⟨k, fa, fd, ps, F, hr, hm, hk, hb⟩ := C
  refine ⟨⟨pe_weak (pe_call F hr hg hm hk hb .nil pass0 (pa_cons ha1.b.pe (pa_cons ha2.b.pe (pa_cons ha3.b.pe (pa_cons ha4.b.pe (pa_cons ha5.b.pe (pa_cons ha6.b.pe pa_nil hs6) hs5) hs4) hs3) hs2) hs1) hdb hs1 hpl) fun σ H Q ⟨sr, O, H0, ad, he, hw⟩ => ?_⟩⟩
  have hw := le6 (f := fun x1 x2 x3 x4 x5 x6 => lf (m := m) (f x1 x2 x3 x4 x5 x6)) (g := fun x1 x2 x3 x4 x5 x6 => Wp.ofO (f x1 x2 x3 x4 x5 x6)) (fun _ _ _ _ _ _ => Mn.lift_le _) _ hw
  refine ⟨sr, O, H0, ad, he, (Mn.wp w1).mono (fun x1 q1 v_1 H_1 x_1 r_1 => ?_) hw⟩
  refine ⟨sr, O, H0, ad, (he.ext' x_1), (Mn.wp w2).mono (fun x2 q2 v_2 H_2 x_2 r_2 => ?_) q1⟩
  refine ⟨sr, O, H0, ad, (he.ext' (x_1.trans x_2)), (Mn.wp w3).mono (fun x3 q3 v_3 H_3 x_3 r_3 => ?_) q2⟩
  refine ⟨sr, O, H0, ad, (he.ext' ((x_1.trans x_2).trans x_3)), (Mn.wp w4).mono (fun x4 q4 v_4 H_4 x_4 r_4 => ?_) q3⟩
  refine ⟨sr, O, H0, ad, (he.ext' (((x_1.trans x_2).trans x_3).trans x_4)), (Mn.wp w5).mono (fun x5 q5 v_5 H_5 x_5 r_5 => ?_) q4⟩
  refine ⟨sr, O, H0, ad, (he.ext' ((((x_1.trans x_2).trans x_3).trans x_4).trans x_5)), (Mn.wp w6).mono (fun x6 q6 v_6 H_6 x_6 r_6 => ?_) q5⟩
  obtain ⟨z, hz, q⟩ := q6
  exact ⟨OM M O ad, [E1 x1, E2 x2, E3 x3, E4 x4, E5 x5, E6 x6], (he.ext' (((((x_1.trans x_2).trans x_3).trans x_4).trans x_5).trans x_6)).domM M, (.cons (((((r_1.ext x_2 (he.sOM M)).ext x_3 (he.sOM M)).ext x_4 (he.sOM M)).ext x_5 (he.sOM M)).ext x_6 (he.sOM M)) (.cons ((((r_2.ext x_3 (he.sOM M)).ext x_4 (he.sOM M)).ext x_5 (he.sOM M)).ext x_6 (he.sOM M)) (.cons (((r_3.ext x_4 (he.sOM M)).ext x_5 (he.sOM M)).ext x_6 (he.sOM M)) (.cons ((r_4.ext x_5 (he.sOM M)).ext x_6 (he.sOM M)) (.cons (r_5.ext x_6 (he.sOM M)) (.cons r_6 .nil)))))), hF x1 x2 x3 x4 x5 x6 z _ hz fun v' H' al rk => (by
    obtain ⟨rk1, p, vs, rfl, hp, hp', rs⟩ := rk
    exact q p vs H' ((((((x_1.trans x_2).trans x_3).trans x_4).trans x_5).trans x_6).back hp) ((((((x_1.trans x_2).trans x_3).trans x_4).trans x_5).trans x_6).trans (al.ext x_6.srs)) hp' rs)⟩

theorem JE.meth0 {α0 : Type} {E0 : α0 → D} {w0 : m α0} {e0 : Expr} {pl : Sem Bool} {f : α0 → Option (δ)} {G : δ → D} {Fs : List D → (D → Prop) → Prop} (hE : ∀ x, ∃ ds, E0 x = .o c ns ds) (hn : ns.contains n = false) (hF : ∀ x0 r P, f x0 = some r → P (G r) → Fs [E0 x0] P) (C : MethOk X c n Fs) (ha0 : JE X M e0 ρ E0 w0)  
    (ht : eval (.Call (.Attribute e0 n apos) [] [] pos) X.env = (do
      let ov ← eval e0 X.env
      standAt apos.atName
      let (f, first) ← holding [ov] (getMethod ov n pl)
      callWith pos f first (backTo pos (starEach [] X.env)) (backToKw pos (keywordEach [] X.env))) := by rfl) :
    JE X M (.Call (.Attribute e0 n apos) [] [] pos) ρ G (bd w0 fun x0 => lf (f x0)) := by
  obtain ⟨k, C, fa, fd, ps, F, hr, hm, cl, me, hb⟩ := C
  refine ⟨⟨pe_weak (pe_meth0 ha0.b.pe cl me F hr hb .nil pass0 ht) fun σ H Q ⟨sr, O, H0, ad, he, hw⟩ => ?_⟩⟩
  have hw := le1 (f := fun x0 => lf (m := m) (f x0)) (g := fun x0 => Wp.ofO (f x0)) (fun _ => Mn.lift_le _) _ hw
  refine ⟨sr, O, H0, ad, he, (Mn.wp w0).mono (fun x0 q0 v_1 H_1 x_1 r_1 => ?_) hw⟩
  have robj := r_1
  obtain ⟨ods, oe⟩ := hE x0
  rw [oe] at robj
  cases robj with
  | o h1 h2 h3 h4 h5 =>
    have eC := h3.symm.trans hm
    cases eC
    refine ⟨_, _, _, rfl, h1, lookup_none (by rw [h4]; exact hn), ?_⟩
    obtain ⟨z, hz, q⟩ := q0
    exact ⟨OM M O ad, [E0 x0], (he.ext' x_1).domM M, (.cons r_1 .nil), hF x0 z _ hz fun v' H' al rk => q v' H' (x_1.trans (al.ext x_1.srs)) rk.1⟩

theorem JL.meth0 {α0 : Type} {E0 : α0 → D} {w0 : m α0} {e0 : Expr} {pl : Sem Bool} {f : α0 → Option (List δ)} {G : δ → D} {Fs : List D → (D → Prop) → Prop} (hE : ∀ x, ∃ ds, E0 x = .o c ns ds) (hn : ns.contains n = false) (hF : ∀ x0 r P, f x0 = some r → P ((eL G) r) → Fs [E0 x0] P) (C : MethOk X c n Fs) (ha0 : JE X M e0 ρ E0 w0)  
    (ht : eval (.Call (.Attribute e0 n apos) [] [] pos) X.env = (do
      let ov ← eval e0 X.env
      standAt apos.atName
      let (f, first) ← holding [ov] (getMethod ov n pl)
      callWith pos f first (backTo pos (starEach [] X.env)) (backToKw pos (keywordEach [] X.env))) := by rfl) :
    JL X M (.Call (.Attribute e0 n apos) [] [] pos) ρ G (bd w0 fun x0 => lf (f x0)) := by
  obtain ⟨k, C, fa, fd, ps, F, hr, hm, cl, me, hb⟩ := C
  refine ⟨⟨pe_weak (pe_meth0 ha0.b.pe cl me F hr hb .nil pass0 ht) fun σ H Q ⟨sr, O, H0, ad, he, hw⟩ => ?_⟩⟩
  have hw := le1 (f := fun x0 => lf (m := m) (f x0)) (g := fun x0 => Wp.ofO (f x0)) (fun _ => Mn.lift_le _) _ hw
  refine ⟨sr, O, H0, ad, he, (Mn.wp w0).mono (fun x0 q0 v_1 H_1 x_1 r_1 => ?_) hw⟩
  have robj := r_1
  obtain ⟨ods, oe⟩ := hE x0
  rw [oe] at robj
  cases robj with
  | o h1 h2 h3 h4 h5 =>
    have eC := h3.symm.trans hm
    cases eC
    refine ⟨_, _, _, rfl, h1, lookup_none (by rw [h4]; exact hn), ?_⟩
    obtain ⟨z, hz, q⟩ := q0
    exact ⟨OM M O ad, [E0 x0], (he.ext' x_1).domM M, (.cons r_1 .nil), hF x0 z _ hz fun v' H' al rk => (by
      obtain ⟨rk1, p, vs, rfl, hp, hp', rs⟩ := rk
      exact q p vs H' (x_1.back hp) (x_1.trans (al.ext x_1.srs)) hp' rs)⟩

theorem JE.meth1 {α0 : Type} {α1 : Type} {E0 : α0 → D} {E1 : α1 → D} {w0 : m α0} {w1 : m α1} {e0 e1 : Expr} {pl : Sem Bool} {f : α0 → α1 → Option (δ)} {G : δ → D} {Fs : List D → (D → Prop) → Prop} (hE : ∀ x, ∃ ds, E0 x = .o c ns ds) (hn : ns.contains n = false) (hF : ∀ x0 x1 r P, f x0 x1 = some r → P (G r) → Fs [E0 x0, E1 x1] P) (C : MethOk X c n Fs) (ha0 : JE X M e0 ρ E0 w0) (ha1 : JE X M e1 ρ E1 w1) (hs1 : starEach [e1] X.env = (false, eval e1 X.env) :: starEach [] X.env := by rfl) (hpl : (backTo pos (starEach [] X.env)).any (·.1) = false := by rfl)
    (ht : eval (.Call (.Attribute e0 n apos) [e1] [] pos) X.env = (do
      let ov ← eval e0 X.env
      standAt apos.atName
      let (f, first) ← holding [ov] (getMethod ov n pl)
      callWith pos f first (backTo pos (starEach [e1] X.env)) (backToKw pos (keywordEach [] X.env))) := by rfl) :
    JE X M (.Call (.Attribute e0 n apos) [e1] [] pos) ρ G (bd w0 fun x0 => (bd w1 fun x1 => lf (f x0 x1))) := by
  obtain ⟨k, C, fa, fd, ps, F, hr, hm, cl, me, hb⟩ := C
  refine ⟨⟨pe_weak (pe_meth ha0.b.pe cl me F hr hb .nil pass0 (pa_cons ha1.b.pe pa_nil hs1) hs1 hpl ht) fun σ H Q ⟨sr, O, H0, ad, he, hw⟩ => ?_⟩⟩
  have hw := le2 (f := fun x0 x1 => lf (m := m) (f x0 x1)) (g := fun x0 x1 => Wp.ofO (f x0 x1)) (fun _ _ => Mn.lift_le _) _ hw
  refine ⟨sr, O, H0, ad, he, (Mn.wp w0).mono (fun x0 q0 v_1 H_1 x_1 r_1 => ?_) hw⟩
  have robj := r_1
  obtain ⟨ods, oe⟩ := hE x0
  rw [oe] at robj
  cases robj with
  | o h1 h2 h3 h4 h5 =>
    have eC := h3.symm.trans hm
    cases eC
    refine ⟨_, _, _, rfl, h1, lookup_none (by rw [h4]; exact hn), ?_⟩
    refine ⟨sr, O, H0, ad, (he.ext' x_1), (Mn.wp w1).mono (fun x1 q1 v_2 H_2 x_2 r_2 => ?_) q0⟩
    obtain ⟨z, hz, q⟩ := q1
    exact ⟨OM M O ad, [E0 x0, E1 x1], (he.ext' (x_1.trans x_2)).domM M, (.cons (r_1.ext x_2 (he.sOM M)) (.cons r_2 .nil)), hF x0 x1 z _ hz fun v' H' al rk => q v' H' ((x_1.trans x_2).trans (al.ext x_2.srs)) rk.1⟩

theorem JL.meth1 {α0 : Type} {α1 : Type} {E0 : α0 → D} {E1 : α1 → D} {w0 : m α0} {w1 : m α1} {e0 e1 : Expr} {pl : Sem Bool} {f : α0 → α1 → Option (List δ)} {G : δ → D} {Fs : List D → (D → Prop) → Prop} (hE : ∀ x, ∃ ds, E0 x = .o c ns ds) (hn : ns.contains n = false) (hF : ∀ x0 x1 r P, f x0 x1 = some r → P ((eL G) r) → Fs [E0 x0, E1 x1] P) (C : MethOk X c n Fs) (ha0 : JE X M e0 ρ E0 w0) (ha1 : JE X M e1 ρ E1 w1) (hs1 : starEach [e1] X.env = (false, eval e1 X.env) :: starEach [] X.env := by rfl) (hpl : (backTo pos (starEach [] X.env)).any (·.1) = false := by rfl)
    (ht : eval (.Call (.Attribute e0 n apos) [e1] [] pos) X.env = (do
      let ov ← eval e0 X.env
      standAt apos.atName
      let (f, first) ← holding [ov] (getMethod ov n pl)
      callWith pos f first (backTo pos (starEach [e1] X.env)) (backToKw pos (keywordEach [] X.env))) := by rfl) :
    JL X M (.Call (.Attribute e0 n apos) [e1] [] pos) ρ G (bd w0 fun x0 => (bd w1 fun x1 => lf (f x0 x1))) := by
  obtain ⟨k, C, fa, fd, ps, F, hr, hm, cl, me, hb⟩ := C
  refine ⟨⟨pe_weak (pe_meth ha0.b.pe cl me F hr hb .nil pass0 (pa_cons ha1.b.pe pa_nil hs1) hs1 hpl ht) fun σ H Q ⟨sr, O, H0, ad, he, hw⟩ => ?_⟩⟩
  have hw := le2 (f := fun x0 x1 => lf (m := m) (f x0 x1)) (g := fun x0 x1 => Wp.ofO (f x0 x1)) (fun _ _ => Mn.lift_le _) _ hw
  refine ⟨sr, O, H0, ad, he, (Mn.wp w0).mono (fun x0 q0 v_1 H_1 x_1 r_1 => ?_) hw⟩
  have robj := r_1
  obtain ⟨ods, oe⟩ := hE x0
  rw [oe] at robj
  cases robj with
  | o h1 h2 h3 h4 h5 =>
    have eC := h3.symm.trans hm
    cases eC
    refine ⟨_, _, _, rfl, h1, lookup_none (by rw [h4]; exact hn), ?_⟩
    refine ⟨sr, O, H0, ad, (he.ext' x_1), (Mn.wp w1).mono (fun x1 q1 v_2 H_2 x_2 r_2 => ?_) q0⟩
    obtain ⟨z, hz, q⟩ := q1
    exact ⟨OM M O ad, [E0 x0, E1 x1], (he.ext' (x_1.trans x_2)).domM M, (.cons (r_1.ext x_2 (he.sOM M)) (.cons r_2 .nil)), hF x0 x1 z _ hz fun v' H' al rk => (by
      obtain ⟨rk1, p, vs, rfl, hp, hp', rs⟩ := rk
      exact q p vs H' ((x_1.trans x_2).back hp) ((x_1.trans x_2).trans (al.ext x_2.srs)) hp' rs)⟩

theorem JE.meth2 {α0 : Type} {α1 : Type} {α2 : Type} {E0 : α0 → D} {E1 : α1 → D} {E2 : α2 → D} {w0 : m α0} {w1 : m α1} {w2 : m α2} {e0 e1 e2 : Expr} {pl : Sem Bool} {f : α0 → α1 → α2 → Option (δ)} {G : δ → D} {Fs : List D → (D → Prop) → Prop} (hE : ∀ x, ∃ ds, E0 x = .o c ns ds) (hn : ns.contains n = false) (hF : ∀ x0 x1 x2 r P, f x0 x1 x2 = some r → P (G r) → Fs [E0 x0, E1 x1, E2 x2] P) (C : MethOk X c n Fs) (ha0 : JE X M e0 ρ E0 w0) (ha1 : JE X M e1 ρ E1 w1) (ha2 : JE X M e2 ρ E2 w2) (hs1 : starEach [e1, e2] X.env = (false, eval e1 X.env) :: starEach [e2] X.env := by rfl) (hs2 : starEach [e2] X.env = (false, eval e2 X.env) :: starEach [] X.env := by rfl) (hpl : (backTo pos (starEach [e2] X.env)).any (·.1) = false := by rfl)
    (ht : eval (.Call (.Attribute e0 n apos) [e1, e2] [] pos) X.env = (do
      let ov ← eval e0 X.env
      standAt apos.atName
      let (f, first) ← holding [ov] (getMethod ov n pl)
      callWith pos f first (backTo pos (starEach [e1, e2] X.env)) (backToKw pos (keywordEach [] X.env))) := by rfl) :
    JE X M (.Call (.Attribute e0 n apos) [e1, e2] [] pos) ρ G (bd w0 fun x0 => (bd w1 fun x1 => (bd w2 fun x2 => lf (f x0 x1 x2)))) := by
  obtain ⟨k, C, fa, fd, ps, F, hr, hm, cl, me, hb⟩ := C
  refine ⟨⟨pe_weak (pe_meth ha0.b.pe cl me F hr hb .nil pass0 (pa_cons ha1.b.pe (pa_cons ha2.b.pe pa_nil hs2) hs1) hs1 hpl ht) fun σ H Q ⟨sr, O, H0, ad, he, hw⟩ => ?_⟩⟩
  have hw := le3 (f := fun x0 x1 x2 => lf (m := m) (f x0 x1 x2)) (g := fun x0 x1 x2 => Wp.ofO (f x0 x1 x2)) (fun _ _ _ => Mn.lift_le _) _ hw
  refine ⟨sr, O, H0, ad, he, (Mn.wp w0).mono (fun x0 q0 v_1 H_1 x_1 r_1 => ?_) hw⟩
  have robj := r_1
  obtain ⟨ods, oe⟩ := hE x0
  rw [oe] at robj
  cases robj with
  | o h1 h2 h3 h4 h5 =>
    have eC := h3.symm.trans hm
    cases eC
    refine ⟨_, _, _, rfl, h1, lookup_none (by rw [h4]; exact hn), ?_⟩
    refine ⟨sr, O, H0, ad, (he.ext' x_1), (Mn.wp w1).mono (fun x1 q1 v_2 H_2 x_2 r_2 => ?_) q0⟩
    refine ⟨sr, O, H0, ad, (he.ext' (x_1.trans x_2)), (Mn.wp w2).mono (fun x2 q2 v_3 H_3 x_3 r_3 => ?_) q1⟩
    obtain ⟨z, hz, q⟩ := q2
    exact ⟨OM M O ad, [E0 x0, E1 x1, E2 x2], (he.ext' ((x_1.trans x_2).trans x_3)).domM M, (.cons ((r_1.ext x_2 (he.sOM M)).ext x_3 (he.sOM M)) (.cons (r_2.ext x_3 (he.sOM M)) (.cons r_3 .nil))), hF x0 x1 x2 z _ hz fun v' H' al rk => q v' H' (((x_1.trans x_2).trans x_3).trans (al.ext x_3.srs)) rk.1⟩

theorem JL.meth2 {α0 : Type} {α1 : Type} {α2 : Type} {E0 : α0 → D} {E1 : α1 → D} {E2 : α2 → D} {w0 : m α0} {w1 : m α1} {w2 : m α2} {e0 e1 e2 : Expr} {pl : Sem Bool} {f : α0 → α1 → α2 → Option (List δ)} {G : δ → D} {Fs : List D → (D → Prop) → Prop} (hE : ∀ x, ∃ ds, E0 x = .o c ns ds) (hn : ns.contains n = false) (hF : ∀ x0 x1 x2 r P, f x0 x1 x2 = some r → P ((eL G) r) → Fs [E0 x0, E1 x1, E2 x2] P) (C : MethOk X c n Fs) (ha0 : JE X M e0 ρ E0 w0) (ha1 : JE X M e1 ρ E1 w1) (ha2 : JE X M e2 ρ E2 w2) (hs1 : starEach [e1, e2] X.env = (false, eval e1 X.env) :: starEach [e2] X.env := by rfl) (hs2 : starEach [e2] X.env = (false, eval e2 X.env) :: starEach [] X.env := by rfl) (hpl : (backTo pos (starEach [e2] X.env)).any (·.1) = false := by rfl)
    (ht : eval (.Call (.Attribute e0 n apos) [e1, e2] [] pos) X.env = (do
      let ov ← eval e0 X.env
      standAt apos.atName
      let (f, first) ← holding [ov] (getMethod ov n pl)
      callWith pos f first (backTo pos (starEach [e1, e2] X.env)) (backToKw pos (keywordEach [] X.env))) := by rfl) :
    JL X M (.Call (.Attribute e0 n apos) [e1, e2] [] pos) ρ G (bd w0 fun x0 => (bd w1 fun x1 => (bd w2 fun x2 => lf (f x0 x1 x2)))) := by
  obtain ⟨k, C, fa, fd, ps, F, hr, hm, cl, me, hb⟩ := C
  refine ⟨⟨pe_weak (pe_meth ha0.b.pe cl me F hr hb .nil pass0 (pa_cons ha1.b.pe (pa_cons ha2.b.pe pa_nil hs2) hs1) hs1 hpl ht) fun σ H Q ⟨sr, O, H0, ad, he, hw⟩ => ?_⟩⟩
  have hw := le3 (f := fun x0 x1 x2 => lf (m := m) (f x0 x1 x2)) (g := fun x0 x1 x2 => Wp.ofO (f x0 x1 x2)) (fun _ _ _ => Mn.lift_le _) _ hw
  refine ⟨sr, O, H0, ad, he, (Mn.wp w0).mono (fun x0 q0 v_1 H_1 x_1 r_1 => ?_) hw⟩
  have robj := r_1
  obtain ⟨ods, oe⟩ := hE x0
  rw [oe] at robj
  cases robj with
  | o h1 h2 h3 h4 h5 =>
    have eC := h3.symm.trans hm
    cases eC
    refine ⟨_, _, _, rfl, h1, lookup_none (by rw [h4]; exact hn), ?_⟩
    refine ⟨sr, O, H0, ad, (he.ext' x_1), (Mn.wp w1).mono (fun x1 q1 v_2 H_2 x_2 r_2 => ?_) q0⟩
    refine ⟨sr, O, H0, ad, (he.ext' (x_1.trans x_2)), (Mn.wp w2).mono (fun x2 q2 v_3 H_3 x_3 r_3 => ?_) q1⟩
    obtain ⟨z, hz, q⟩ := q2
    exact ⟨OM M O ad, [E0 x0, E1 x1, E2 x2], (he.ext' ((x_1.trans x_2).trans x_3)).domM M, (.cons ((r_1.ext x_2 (he.sOM M)).ext x_3 (he.sOM M)) (.cons (r_2.ext x_3 (he.sOM M)) (.cons r_3 .nil))), hF x0 x1 x2 z _ hz fun v' H' al rk => (by
      obtain ⟨rk1, p, vs, rfl, hp, hp', rs⟩ := rk
      exact q p vs H' (((x_1.trans x_2).trans x_3).back hp) (((x_1.trans x_2).trans x_3).trans (al.ext x_3.srs)) hp' rs)⟩

theorem JE.meth3 {α0 : Type} {α1 : Type} {α2 : Type} {α3 : Type} {E0 : α0 → D} {E1 : α1 → D} {E2 : α2 → D} {E3 : α3 → D} {w0 : m α0} {w1 : m α1} {w2 : m α2} {w3 : m α3} {e0 e1 e2 e3 : Expr} {pl : Sem Bool} {f : α0 → α1 → α2 → α3 → Option (δ)} {G : δ → D} {Fs : List D → (D → Prop) → Prop} (hE : ∀ x, ∃ ds, E0 x = .o c ns ds) (hn : ns.contains n = false) (hF : ∀ x0 x1 x2 x3 r P, f x0 x1 x2 x3 = some r → P (G r) → Fs [E0 x0, E1 x1, E2 x2, E3 x3] P) (C : MethOk X c n Fs) (ha0 : JE X M e0 ρ E0 w0) (ha1 : JE X M e1 ρ E1 w1) (ha2 : JE X M e2 ρ E2 w2) (ha3 : JE X M e3 ρ E3 w3) (hs1 : starEach [e1, e2, e3] X.env = (false, eval e1 X.env) :: starEach [e2, e3] X.env := by rfl) (hs2 : starEach [e2, e3] X.env = (false, eval e2 X.env) :: starEach [e3] X.env := by rfl) (hs3 : starEach [e3] X.env = (false, eval e3 X.env) :: starEach [] X.env := by rfl) (hpl : (backTo pos (starEach [e2, e3] X.env)).any (·.1) = false := by rfl)
    (ht : eval (.Call (.Attribute e0 n apos) [e1, e2, e3] [] pos) X.env = (do
      let ov ← eval e0 X.env
      standAt apos.atName
      let (f, first) ← holding [ov] (getMethod ov n pl)
      callWith pos f first (backTo pos (starEach [e1, e2, e3] X.env)) (backToKw pos (keywordEach [] X.env))) := by rfl) :
    JE X M (.Call (.Attribute e0 n apos) [e1, e2, e3] [] pos) ρ G (bd w0 fun x0 => (bd w1 fun x1 => (bd w2 fun x2 => (bd w3 fun x3 => lf (f x0 x1 x2 x3))))) := by
  obtain ⟨k, C, fa, fd, ps, F, hr, hm, cl, me, hb⟩ := C
  refine ⟨⟨pe_weak (pe_meth ha0.b.pe cl me F hr hb .nil pass0 (pa_cons ha1.b.pe (pa_cons ha2.b.pe (pa_cons ha3.b.pe pa_nil hs3) hs2) hs1) hs1 hpl ht) fun σ H Q ⟨sr, O, H0, ad, he, hw⟩ => ?_⟩⟩
  have hw := le4 (f := fun x0 x1 x2 x3 => lf (m := m) (f x0 x1 x2 x3)) (g := fun x0 x1 x2 x3 => Wp.ofO (f x0 x1 x2 x3)) (fun _ _ _ _ => Mn.lift_le _) _ hw
  refine ⟨sr, O, H0, ad, he, (Mn.wp w0).mono (fun x0 q0 v_1 H_1 x_1 r_1 => ?_) hw⟩
  have robj := r_1
  obtain ⟨ods, oe⟩ := hE x0
  rw [oe] at robj
  cases robj with
  | o h1 h2 h3 h4 h5 =>
    have eC := h3.symm.trans hm
    cases eC
    refine ⟨_, _, _, rfl, h1, lookup_none (by rw [h4]; exact hn), ?_⟩
    refine ⟨sr, O, H0, ad, (he.ext' x_1), (Mn.wp w1).mono (fun x1 q1 v_2 H_2 x_2 r_2 => ?_) q0⟩
    refine ⟨sr, O, H0, ad, (he.ext' (x_1.trans x_2)), (Mn.wp w2).mono (fun x2 q2 v_3 H_3 x_3 r_3 => ?_) q1⟩
    refine ⟨sr, O, H0, ad, (he.ext' ((x_1.trans x_2).trans x_3)), (Mn.wp w3).mono (fun x3 q3 v_4 H_4 x_4 r_4 => ?_) q2⟩
    obtain ⟨z, hz, q⟩ := q3
    exact ⟨OM M O ad, [E0 x0, E1 x1, E2 x2, E3 x3], (he.ext' (((x_1.trans x_2).trans x_3).trans x_4)).domM M, (.cons (((r_1.ext x_2 (he.sOM M)).ext x_3 (he.sOM M)).ext x_4 (he.sOM M)) (.cons ((r_2.ext x_3 (he.sOM M)).ext x_4 (he.sOM M)) (.cons (r_3.ext x_4 (he.sOM M)) (.cons r_4 .nil)))), hF x0 x1 x2 x3 z _ hz fun v' H' al rk => q v' H' ((((x_1.trans x_2).trans x_3).trans x_4).trans (al.ext x_4.srs)) rk.1⟩

theorem JL.meth3 {α0 : Type} {α1 : Type} {α2 : Type} {α3 : Type} {E0 : α0 → D} {E1 : α1 → D} {E2 : α2 → D} {E3 : α3 → D} {w0 : m α0} {w1 : m α1} {w2 : m α2} {w3 : m α3} {e0 e1 e2 e3 : Expr} {pl : Sem Bool} {f : α0 → α1 → α2 → α3 → Option (List δ)} {G : δ → D} {Fs : List D → (D → Prop) → Prop} (hE : ∀ x, ∃ ds, E0 x = .o c ns ds) (hn : ns.contains n = false) (hF : ∀ x0 x1 x2 x3 r P, f x0 x1 x2 x3 = some r → P ((eL G) r) → Fs [E0 x0, E1 x1, E2 x2, E3 x3] P) (C : MethOk X c n Fs) (ha0 : JE X M e0 ρ E0 w0) (ha1 : JE X M e1 ρ E1 w1) (ha2 : JE X M e2 ρ E2 w2) (ha3 : JE X M e3 ρ E3 w3) (hs1 : starEach [e1, e2, e3] X.env = (false, eval e1 X.env) :: starEach [e2, e3] X.env := by rfl) (hs2 : starEach [e2, e3] X.env = (false, eval e2 X.env) :: starEach [e3] X.env := by rfl) (hs3 : starEach [e3] X.env = (false, eval e3 X.env) :: starEach [] X.env := by rfl) (hpl : (backTo pos (starEach [e2, e3] X.env)).any (·.1) = false := by rfl)
    (ht : eval (.Call (.Attribute e0 n apos) [e1, e2, e3] [] pos) X.env = (do
      let ov ← eval e0 X.env
      standAt apos.atName
      let (f, first) ← holding [ov] (getMethod ov n pl)
      callWith pos f first (backTo pos (starEach [e1, e2, e3] X.env)) (backToKw pos (keywordEach [] X.env))) := by rfl) :
    JL X M (.Call (.Attribute e0 n apos) [e1, e2, e3] [] pos) ρ G (bd w0 fun x0 => (bd w1 fun x1 => (bd w2 fun x2 => (bd w3 fun x3 => lf (f x0 x1 x2 x3))))) := by
  obtain ⟨k, C, fa, fd, ps, F, hr, hm, cl, me, hb⟩ := C
  refine ⟨⟨pe_weak (pe_meth ha0.b.pe cl me F hr hb .nil pass0 (pa_cons ha1.b.pe (pa_cons ha2.b.pe (pa_cons ha3.b.pe pa_nil hs3) hs2) hs1) hs1 hpl ht) fun σ H Q ⟨sr, O, H0, ad, he, hw⟩ => ?_⟩⟩
  have hw := le4 (f := fun x0 x1 x2 x3 => lf (m := m) (f x0 x1 x2 x3)) (g := fun x0 x1 x2 x3 => Wp.ofO (f x0 x1 x2 x3)) (fun _ _ _ _ => Mn.lift_le _) _ hw
  refine ⟨sr, O, H0, ad, he, (Mn.wp w0).mono (fun x0 q0 v_1 H_1 x_1 r_1 => ?_) hw⟩
  have robj := r_1
  obtain ⟨ods, oe⟩ := hE x0
  rw [oe] at robj
  cases robj with
  | o h1 h2 h3 h4 h5 =>
    have eC := h3.symm.trans hm
    cases eC
    refine ⟨_, _, _, rfl, h1, lookup_none (by rw [h4]; exact hn), ?_⟩
    refine ⟨sr, O, H0, ad, (he.ext' x_1), (Mn.wp w1).mono (fun x1 q1 v_2 H_2 x_2 r_2 => ?_) q0⟩
    refine ⟨sr, O, H0, ad, (he.ext' (x_1.trans x_2)), (Mn.wp w2).mono (fun x2 q2 v_3 H_3 x_3 r_3 => ?_) q1⟩
    refine ⟨sr, O, H0, ad, (he.ext' ((x_1.trans x_2).trans x_3)), (Mn.wp w3).mono (fun x3 q3 v_4 H_4 x_4 r_4 => ?_) q2⟩
    obtain ⟨z, hz, q⟩ := q3
    exact ⟨OM M O ad, [E0 x0, E1 x1, E2 x2, E3 x3], (he.ext' (((x_1.trans x_2).trans x_3).trans x_4)).domM M, (.cons (((r_1.ext x_2 (he.sOM M)).ext x_3 (he.sOM M)).ext x_4 (he.sOM M)) (.cons ((r_2.ext x_3 (he.sOM M)).ext x_4 (he.sOM M)) (.cons (r_3.ext x_4 (he.sOM M)) (.cons r_4 .nil)))), hF x0 x1 x2 x3 z _ hz fun v' H' al rk => (by
      obtain ⟨rk1, p, vs, rfl, hp, hp', rs⟩ := rk
      exact q p vs H' ((((x_1.trans x_2).trans x_3).trans x_4).back hp) ((((x_1.trans x_2).trans x_3).trans x_4).trans (al.ext x_4.srs)) hp' rs)⟩

theorem JE.meth4 {α0 : Type} {α1 : Type} {α2 : Type} {α3 : Type} {α4 : Type} {E0 : α0 → D} {E1 : α1 → D} {E2 : α2 → D} {E3 : α3 → D} {E4 : α4 → D} {w0 : m α0} {w1 : m α1} {w2 : m α2} {w3 : m α3} {w4 : m α4} {e0 e1 e2 e3 e4 : Expr} {pl : Sem Bool} {f : α0 → α1 → α2 → α3 → α4 → Option (δ)} {G : δ → D} {Fs : List D → (D → Prop) → Prop} (hE : ∀ x, ∃ ds, E0 x = .o c ns ds) (hn : ns.contains n = false) (hF : ∀ x0 x1 x2 x3 x4 r P, f x0 x1 x2 x3 x4 = some r → P (G r) → Fs [E0 x0, E1 x1, E2 x2, E3 x3, E4 x4] P) (C : MethOk X c n Fs) (ha0 : JE X M e0 ρ E0 w0) (ha1 : JE X M e1 ρ E1 w1) (ha2 : JE X M e2 ρ E2 w2) (ha3 : JE X M e3 ρ E3 w3) (ha4 : JE X M e4 ρ E4 w4) (hs1 : starEach [e1, e2, e3, e4] X.env = (false, eval e1 X.env) :: starEach [e2, e3, e4] X.env := by rfl) (hs2 : starEach [e2, e3, e4] X.env = (false, eval e2 X.env) :: starEach [e3, e4] X.env := by rfl) (hs3 : starEach [e3, e4] X.env = (false, eval e3 X.env) :: starEach [e4] X.env := by rfl) (hs4 : starEach [e4] X.env = (false, eval e4 X.env) :: starEach [] X.env := by rfl) (hpl : (backTo pos (starEach [e2, e3, e4] X.env)).any (·.1) = false := by rfl)
    (ht : eval (.Call (.Attribute e0 n apos) [e1, e2, e3, e4] [] pos) X.env = (do
      let ov ← eval e0 X.env
      standAt apos.atName
      let (f, first) ← holding [ov] (getMethod ov n pl)
      callWith pos f first (backTo pos (starEach [e1, e2, e3, e4] X.env)) (backToKw pos (keywordEach [] X.env))) := by rfl) :
    JE X M (.Call (.Attribute e0 n apos) [e1, e2, e3, e4] [] pos) ρ G (bd w0 fun x0 => (bd w1 fun x1 => (bd w2 fun x2 => (bd w3 fun x3 => (bd w4 fun x4 => lf (f x0 x1 x2 x3 x4)))))) := by
  obtain ⟨k, C, fa, fd, ps, F, hr, hm, cl, me, hb⟩ := C
  refine ⟨⟨pe_weak (pe_meth ha0.b.pe cl me F hr hb .nil pass0 (pa_cons ha1.b.pe (pa_cons ha2.b.pe (pa_cons ha3.b.pe (pa_cons ha4.b.pe pa_nil hs4) hs3) hs2) hs1) hs1 hpl ht) fun σ H Q ⟨sr, O, H0, ad, he, hw⟩ => ?_⟩⟩
  have hw := le5 (f := fun x0 x1 x2 x3 x4 => lf (m := m) (f x0 x1 x2 x3 x4)) (g := fun x0 x1 x2 x3 x4 => Wp.ofO (f x0 x1 x2 x3 x4)) (fun _ _ _ _ _ => Mn.lift_le _) _ hw
  refine ⟨sr, O, H0, ad, he, (Mn.wp w0).mono (fun x0 q0 v_1 H_1 x_1 r_1 => ?_) hw⟩
  have robj := r_1
  obtain ⟨ods, oe⟩ := hE x0
  rw [oe] at robj
  cases robj with
  | o h1 h2 h3 h4 h5 =>
    have eC := h3.symm.trans hm
    cases eC
    refine ⟨_, _, _, rfl, h1, lookup_none (by rw [h4]; exact hn), ?_⟩
    refine ⟨sr, O, H0, ad, (he.ext' x_1), (Mn.wp w1).mono (fun x1 q1 v_2 H_2 x_2 r_2 => ?_) q0⟩
    refine ⟨sr, O, H0, ad, (he.ext' (x_1.trans x_2)), (Mn.wp w2).mono (fun x2 q2 v_3 H_3 x_3 r_3 => ?_) q1⟩
    refine ⟨sr, O, H0, ad, (he.ext' ((x_1.trans x_2).trans x_3)), (Mn.wp w3).mono (fun x3 q3 v_4 H_4 x_4 r_4 => ?_) q2⟩
    refine ⟨sr, O, H0, ad, (he.ext' (((x_1.trans x_2).trans x_3).trans x_4)), (Mn.wp w4).mono (fun x4 q4 v_5 H_5 x_5 r_5 => ?_) q3⟩
    obtain ⟨z, hz, q⟩ := q4
    exact ⟨OM M O ad, [E0 x0, E1 x1, E2 x2, E3 x3, E4 x4], (he.ext' ((((x_1.trans x_2).trans x_3).trans x_4).trans x_5)).domM M, (.cons ((((r_1.ext x_2 (he.sOM M)).ext x_3 (he.sOM M)).ext x_4 (he.sOM M)).ext x_5 (he.sOM M)) (.cons (((r_2.ext x_3 (he.sOM M)).ext x_4 (he.sOM M)).ext x_5 (he.sOM M)) (.cons ((r_3.ext x_4 (he.sOM M)).ext x_5 (he.sOM M)) (.cons (r_4.ext x_5 (he.sOM M)) (.cons r_5 .nil))))), hF x0 x1 x2 x3 x4 z _ hz fun v' H' al rk => q v' H' (((((x_1.trans x_2).trans x_3).trans x_4).trans x_5).trans (al.ext x_5.srs)) rk.1⟩

theorem JL.meth4 {α0 : Type} {α1 : Type} {α2 : Type} {α3 : Type} {α4 : Type} {E0 : α0 → D} {E1 : α1 → D} {E2 : α2 → D} {E3 : α3 → D} {E4 : α4 → D} {w0 : m α0} {w1 : m α1} {w2 : m α2} {w3 : m α3} {w4 : m α4} {e0 e1 e2 e3 e4 : Expr} {pl : Sem Bool} {f : α0 → α1 → α2 → α3 → α4 → Option (List δ)} {G : δ → D} {Fs : List D → (D → Prop) → Prop} (hE : ∀ x, ∃ ds, E0 x = .o c ns ds) (hn : ns.contains n = false) (hF : ∀ x0 x1 x2 x3 x4 r P, f x0 x1 x2 x3 x4 = some r → P ((eL G) r) → Fs [E0 x0, E1 x1, E2 x2, E3 x3, E4 x4] P) (C : MethOk X c n Fs) (ha0 : JE X M e0 ρ E0 w0) (ha1 : JE X M e1 ρ E1 w1) (ha2 : JE X M e2 ρ E2 w2) (ha3 : JE X M e3 ρ E3 w3) (ha4 : JE X M e4 ρ E4 w4) (hs1 : starEach [e1, e2, e3, e4] X.env = (false, eval e1 X.env) :: starEach [e2, e3, e4] X.env := by rfl) (hs2 : starEach [e2, e3, e4] X.env = (false, eval e2 X.env) :: starEach [e3, e4] X.env := by rfl) (hs3 : starEach [e3, e4] X.env = (false, eval e3 X.env) :: starEach [e4] X.env := by rfl) (hs4 : starEach [e4] X.env = (false, eval e4 X.env) :: starEach [] X.env := by rfl) (hpl : (backTo pos (starEach [e2, e3, e4] X.env)).any (·.1) = false := by rfl)
    (ht : eval (.Call (.Attribute e0 n apos) [e1, e2, e3, e4] [] pos) X.env = (do
      let ov ← eval e0 X.env
      standAt apos.atName
      let (f, first) ← holding [ov] (getMethod ov n pl)
      callWith pos f first (backTo pos (starEach [e1, e2, e3, e4] X.env)) (backToKw pos (keywordEach [] X.env))) := by rfl) :
    JL X M (.Call (.Attribute e0 n apos) [e1, e2, e3, e4] [] pos) ρ G (bd w0 fun x0 => (bd w1 fun x1 => (bd w2 fun x2 => (bd w3 fun x3 => (bd w4 fun x4 => lf (f x0 x1 x2 x3 x4)))))) := by
  obtain ⟨k, C, fa, fd, ps, F, hr, hm, cl, me, hb⟩ := C
  refine ⟨⟨pe_weak (pe_meth ha0.b.pe cl me F hr hb .nil pass0 (pa_cons ha1.b.pe (pa_cons ha2.b.pe (pa_cons ha3.b.pe (pa_cons ha4.b.pe pa_nil hs4) hs3) hs2) hs1) hs1 hpl ht) fun σ H Q ⟨sr, O, H0, ad, he, hw⟩ => ?_⟩⟩
  have hw := le5 (f := fun x0 x1 x2 x3 x4 => lf (m := m) (f x0 x1 x2 x3 x4)) (g := fun x0 x1 x2 x3 x4 => Wp.ofO (f x0 x1 x2 x3 x4)) (fun _ _ _ _ _ => Mn.lift_le _) _ hw
  refine ⟨sr, O, H0, ad, he, (Mn.wp w0).mono (fun x0 q0 v_1 H_1 x_1 r_1 => ?_) hw⟩
  have robj := r_1
  obtain ⟨ods, oe⟩ := hE x0
  rw [oe] at robj
  cases robj with
  | o h1 h2 h3 h4 h5 =>
    have eC := h3.symm.trans hm
    cases eC
    refine ⟨_, _, _, rfl, h1, lookup_none (by rw [h4]; exact hn), ?_⟩
    refine ⟨sr, O, H0, ad, (he.ext' x_1), (Mn.wp w1).mono (fun x1 q1 v_2 H_2 x_2 r_2 => ?_) q0⟩
    refine ⟨sr, O, H0, ad, (he.ext' (x_1.trans x_2)), (Mn.wp w2).mono (fun x2 q2 v_3 H_3 x_3 r_3 => ?_) q1⟩
    refine ⟨sr, O, H0, ad, (he.ext' ((x_1.trans x_2).trans x_3)), (Mn.wp w3).mono (fun x3 q3 v_4 H_4 x_4 r_4 => ?_) q2⟩
    refine ⟨sr, O, H0, ad, (he.ext' (((x_1.trans x_2).trans x_3).trans x_4)), (Mn.wp w4).mono (fun x4 q4 v_5 H_5 x_5 r_5 => ?_) q3⟩
    obtain ⟨z, hz, q⟩ := q4
    exact ⟨OM M O ad, [E0 x0, E1 x1, E2 x2, E3 x3, E4 x4], (he.ext' ((((x_1.trans x_2).trans x_3).trans x_4).trans x_5)).domM M, (.cons ((((r_1.ext x_2 (he.sOM M)).ext x_3 (he.sOM M)).ext x_4 (he.sOM M)).ext x_5 (he.sOM M)) (.cons (((r_2.ext x_3 (he.sOM M)).ext x_4 (he.sOM M)).ext x_5 (he.sOM M)) (.cons ((r_3.ext x_4 (he.sOM M)).ext x_5 (he.sOM M)) (.cons (r_4.ext x_5 (he.sOM M)) (.cons r_5 .nil))))), hF x0 x1 x2 x3 x4 z _ hz fun v' H' al rk => (by
      obtain ⟨rk1, p, vs, rfl, hp, hp', rs⟩ := rk
      exact q p vs H' (((((x_1.trans x_2).trans x_3).trans x_4).trans x_5).back hp) (((((x_1.trans x_2).trans x_3).trans x_4).trans x_5).trans (al.ext x_5.srs)) hp' rs)⟩


/-! ### a def's body -/
/-- the slots at the entry -/
def rho0 (ds : List D) (n : Nat) : List Slot := ds.map Slot.d ++ List.replicate (n - ds.length) .u
abbrev Tail (X : Cx) (sts : List Stmt) (ρ : List Slot) (G : δ → D) (a : m δ) : Prop := JS X sts ρ G (none : Option (Empty → List Slot)) (fun _ : Empty => []) (Fl.rt : δ → Fl Empty Empty δ) a
theorem env_start {K : PySem.W.Frag} {mg : Str → Option Value} {O : Addr → Prop} {H : Hp} {N : List Str} {vs : List V} {ds : List D} (hl : ds.length ≤ N.length) (hO : ∀ p, O p → Mut (H p)) (r : Reps K mg O H vs ds) : Env K mg none O H H (L2.start N vs) (rho0 ds N.length) (fun _ => none) := by
  have hlen := r.length
  refine ⟨by simp [L2.start, rho0]; omega, fun j => ?_, fun j k p h => (by cases h), fun j p h => (by cases h), fun j p h => (by cases h), fun S h => (by cases h), hO, fun j p h => (by cases h), fun a o h _ => h⟩
  unfold L2.start rho0
  by_cases hj : j < ds.length
  · rw [List.getElem?_append_left (by simp; omega), List.getElem?_append_left (by simp; omega), List.getElem?_map, List.getElem?_map]
    obtain ⟨d, hd⟩ : ∃ d, ds[j]? = some d := ⟨ds[j], List.getElem?_eq_getElem hj⟩
    obtain ⟨v, hv, rv⟩ := r.get hd
    rw [hd, hv]
    exact ⟨rfl, v, rfl, rv.sub fun a z => z.elim id fun ⟨_, z⟩ => by cases z⟩
  · rw [List.getElem?_append_right (l₁ := ds.map Slot.d) (by simp; omega)]
    by_cases h2 : j - (ds.map Slot.d).length < N.length - ds.length
    · rw [List.getElem?_replicate_of_lt h2]; exact rfl
    · have e : (List.replicate (N.length - ds.length) Slot.u)[j - (ds.map Slot.d).length]? = none := List.getElem?_eq_none (by simp at h2 ⊢; omega)
      rw [e]; exact rfl
abbrev Cxf (P : Program) (w : World) (K : PySem.W.Frag) (mg : Str → Option Value) (base : Heap) (N : List Str) (qual : Str) (st : Stmt) (f : Addr) (cdv : Value) (A : Around) (outer : List PySem.Env) (s : Shared) (H : Hp) (E : XK) : Cx := (L2.cxOf CX0 P w K mg base N qual (defScope st) f cdv A outer s H E).nox
theorem fn_ok {P : Program} {w : World} {K : PySem.W.Frag} {mg : Str → Option Value} {base : Heap} {x qual : Str} {st : Stmt} {f : Addr} {fd : FuncData} {N ps : List Str} {k : Nat} (Fu : Fun K x qual st f fd) (sc : FnScope N ps (defScope st)) (F : List D → (D → Prop) → Prop) (hlen : ∀ ds Q, F ds Q → ds.length = ps.length) (hN : ps.length ≤ N.length)
    (h : ∀ cdv A outer s H E, Room k (Cxf P w K mg base N qual st f cdv A outer s H E).A → ∀ ds Q, F ds Q → ∃ (δ : Type) (G : δ → D) (a : Option δ), Tail (Cxf P w K mg base N qual st f cdv A outer s H E) (defBody st) (rho0 ds N.length) G a ∧ ∃ r, a = some r ∧ Q (G r)) :
    FnOk P w K mg base CX0 (k + 1) f fd ps (spF K mg F) := by
  refine Fu.ok sc (fun vs H Q E hs => ?_) (fun cdv A outer s H vs Q E hr hs => ?_)
  · obtain ⟨O, ds, hO, r, hF⟩ := hs
    rw [r.length, hlen _ _ hF]
  · obtain ⟨O, ds, hO, r, hF⟩ := hs
    have hl := hlen _ _ hF
    obtain ⟨δ, G, a, hT, z, hz, hq⟩ := h cdv A outer s H E hr ds _ hF
    refine ⟨_, hT.ps, none, O, H, _, env_start (by omega) hO r, z, hz, fun v H' hf hr' => hq v H' (fun a o e => hf.1 a o e fun q => by cases q) hr'⟩
theorem JL.up {w : m (List α)} {e : Expr} {E : α → D} (h : JL X false e ρ E w) (hp : PureE E) : JL X M e ρ E w := ⟨⟨pe_weak h.b.pe fun σ H Q ⟨sr, O, H0, ad, he, hw⟩ =>
  ⟨sr, O, H0, ad, he, (Mn.wp w).mono (fun xs q p vs H' h1 h2 h3 r => q p vs H' h1 h2 h3 (r.pureE hp)) hw⟩⟩⟩
theorem JE.globI {i : Int} (hm : ∃ t, X.mg n = some (.int i t)) (hg : Gl X n := by rfl) (hd : (n == ("__debug__" : Str)) = false := by decide) : JE X M (.Name n pos) ρ eI (rt (m := m) i) := by
  obtain ⟨t, hm⟩ := hm
  exact ⟨⟨pe_weak (pe_glob (v := .int i) hg hm ⟨t, rfl⟩ hd) fun σ H Q ⟨sr, O, H0, ad, he, hw⟩ => (lep _ hw) _ H (Ext.refl he.srs) (.i i)⟩⟩
/-! ### without effects -/
section
theorem pgo {x : α} {f : α → m β} {P : β → Prop} (h : (Mn.wp (f x)).run P) : (Mn.wp (bd (rt x) f)).run P := Mn.bind_ge _ _ _ (Mn.pure_ge _ _ h)
variable {E : α → D} {F : β → D} {a b e : Expr} {rest : List Expr} {x y z : Bool}
theorem JE.andP (ha : JE X false a ρ eB (rt (m := m) x)) (hb : JE X false (.BoolOp .And (b :: rest) pos) ρ eB (rt (m := m) y)) : JE X M (.BoolOp .And (a :: b :: rest) pos) ρ eB (rt (m := m) (x && y)) :=
  ⟨(JE.and ha hb).b.conv fun P h => pgo (by cases x <;> exact h)⟩
theorem JE.orP (ha : JE X false a ρ eB (rt (m := m) x)) (hb : JE X false (.BoolOp .Or (b :: rest) pos) ρ eB (rt (m := m) y)) : JE X M (.BoolOp .Or (a :: b :: rest) pos) ρ eB (rt (m := m) (x || y)) :=
  ⟨(JE.or ha hb).b.conv fun P h => pgo (by cases x <;> exact h)⟩
theorem JW.andP (ha : JT X a ρ (rt (m := m) x)) (hb : JW X (.BoolOp .And (b :: rest) pos) ρ (rt (m := m) y)) : JW X (.BoolOp .And (a :: b :: rest) pos) ρ (rt (m := m) (x && y)) :=
  ⟨(JW.and ha hb).b.conv fun P h => pgo (by cases x <;> exact h)⟩
theorem JW.orP (ha : JT X a ρ (rt (m := m) x)) (hb : JW X (.BoolOp .Or (b :: rest) pos) ρ (rt (m := m) y)) : JW X (.BoolOp .Or (a :: b :: rest) pos) ρ (rt (m := m) (x || y)) :=
  ⟨(JW.or ha hb).b.conv fun P h => pgo (by cases x <;> exact h)⟩
theorem JE.ifP {c : Expr} {u v : α} (hc : JT X c ρ (rt (m := m) x)) (h1 : JE X M a ρ E (rt (m := m) u)) (h2 : JE X M b ρ E (rt (m := m) v)) : JE X M (.IfExp c a b pos) ρ E (rt (m := m) (if x = true then u else v)) :=
  ⟨(JE.ifExp hc h1 h2).b.conv fun P h => pgo (by cases x <;> exact h)⟩
theorem JE.chainP {op op' : CmpOp} {g g' : Int → Int → Bool} {c : Expr} {i j k : Int} (ho : OpR X (compareOp op) (rI0 fun i j => .bl (g i j))) (ho' : OpR X (compareOp op') (rI0 fun i j => .bl (g' i j))) (hm : lastMarks [op, op'] [b, c] = false) (ha : JE X false a ρ eI (rt (m := m) i)) (hb : JE X false b ρ eI (rt (m := m) j)) (hc : JE X false c ρ eI (rt (m := m) k)) :
    JE X M (.Compare a [op, op'] [b, c] pos) ρ eB (rt (m := m) (g i j && g' j k)) :=
  ⟨(JE.chain ho ho' hm ha hb hc).b.conv fun P h => pgo (pgo (by
    cases hg : g i j with
    | true => rw [hg] at h; exact pgo h
    | false => rw [hg] at h; exact h))⟩
theorem JT.chainP {op op' : CmpOp} {g g' : Int → Int → Bool} {c : Expr} {i j k : Int} (ho : OpR X (compareOp op) (rI0 fun i j => .bl (g i j))) (ho' : OpR X (compareOp op') (rI0 fun i j => .bl (g' i j))) (hm : lastMarks [op, op'] [b, c] = false) (ha : JE X false a ρ eI (rt (m := m) i)) (hb : JE X false b ρ eI (rt (m := m) j)) (hc : JE X false c ρ eI (rt (m := m) k)) :
    JT X (.Compare a [op, op'] [b, c] pos) ρ (rt (m := m) (g i j && g' j k)) :=
  ⟨(JT.chain ho ho' hm ha hb hc).b.conv fun P h => pgo (pgo (by
    cases hg : g i j with
    | true => rw [hg] at h; exact pgo h
    | false => rw [hg] at h; exact h))⟩
theorem lcM_pure {c : α → Bool} {g : α → β} : ∀ xs : List α, Wp.Le (Mn.wp (rt (m := m) ((xs.filter c).map g))) (Mn.wp (lcM (fun x => rt (m := m) (c x)) (fun x => rt (g x)) xs))
  | [] => Wp.Le.refl _
  | x :: xs => by
    intro P h
    have h := Mn.pure_le _ _ h
    refine pgo ?_
    cases hc : c x with
    | true =>
      rw [List.filter_cons, if_pos hc] at h
      exact pgo (Mn.bind_ge _ _ _ (lcM_pure xs _ (Mn.pure_ge _ _ (Mn.pure_ge _ _ h))))
    | false =>
      rw [List.filter_cons, if_neg (by rw [hc]; decide)] at h
      exact lcM_pure xs _ (Mn.pure_ge _ _ h)
theorem JL.filP {wx : m (List α)} {c : α → Bool} {g : α → β} (h : JL X M e ρ F (bd wx fun xs => bd (lf (szO xs)) fun xs => lcM (fun x => rt (c x)) (fun x => rt (g x)) xs)) : JL X M e ρ F (bd wx fun xs => bd (lf (szO xs)) fun xs => rt ((xs.filter c).map g)) :=
  ⟨h.b.conv (bd_le (Wp.Le.refl _) fun xs => bd_le (Wp.Le.refl _) fun xs => lcM_pure xs)⟩
theorem mapM_pure {g : α → β} : ∀ xs : List α, Wp.Le (Mn.wp (rt (m := m) (xs.map g))) (Mn.wp (mapM' (fun x => rt (m := m) (g x)) xs))
  | [] => Wp.Le.refl _
  | x :: xs => by
    intro P h
    have h := Mn.pure_le _ _ h
    exact pgo (Mn.bind_ge _ _ _ (mapM_pure xs _ (Mn.pure_ge _ _ (Mn.pure_ge _ _ h))))
theorem JL.mapP {wx : m (List α)} {g : α → β} (h : JL X M e ρ F (bd wx fun xs => bd (lf (szO xs)) fun xs => mapM' (fun x => rt (g x)) xs)) : JL X M e ρ F (bd wx fun xs => bd (lf (szO xs)) fun xs => rt (xs.map g)) :=
  ⟨h.b.conv (bd_le (Wp.Le.refl _) fun xs => bd_le (Wp.Le.refl _) fun xs => mapM_pure xs)⟩
end
end
end Wk

namespace Wk
open PySem PySem.Spec PyProof.Rows L2
section
variable {m : Type → Type} [Mn m] {α β γ δ κ τ ω : Type}
variable {X : Cx} {M M0 : Bool} {ρ : List Slot} {pos p p2 apos : Pos} {n c : Str} {a b e ex : Expr} {E : α → D} {F : β → D}

/-! ### the mirror said in other words -/
theorem JE.cl {w w' : m α} (h : JE X M e ρ E w) (k : w = w') : JE X M e ρ E w' := k ▸ h
theorem JL.cl {w w' : m (List α)} (h : JL X M e ρ E w) (k : w = w') : JL X M e ρ E w' := k ▸ h
theorem JT.cl {w w' : m Bool} (h : JT X e ρ w) (k : w = w') : JT X e ρ w' := k ▸ h
theorem JW.cl {w w' : m Bool} (h : JW X e ρ w) (k : w = w') : JW X e ρ w' := k ▸ h
theorem JI.cl {tg : Expr} {w w' : m (List α)} (h : JI X M tg e ρ E w) (k : w = w') : JI X M tg e ρ E w' := k ▸ h
theorem JS.cl {sts : List Stmt} {E : β → D} {ρx : Option (α → List Slot)} {ρl : τ → List Slot} {e : κ → Fl α τ β} {w w' : m κ} (h : JS X sts ρ E ρx ρl e w) (k : w = w') : JS X sts ρ E ρx ρl e w' := k ▸ h
theorem JAsL.conv {st : Stmt} {i : Nat} {w w' : m (List α)} (h : JAsL X st i ρ E w) (k : Wp.Le (Mn.wp w') (Mn.wp w)) : JAsL X st i ρ E w' :=
  ⟨ps_weak h.ps fun Dd σ H ⟨sr, O, H0, ad, he, hw⟩ => ⟨sr, O, H0, ad, he, k _ hw⟩⟩
theorem JAsL.cl {st : Stmt} {i : Nat} {w w' : m (List α)} (h : JAsL X st i ρ E w) (k : w = w') : JAsL X st i ρ E w' := k ▸ h

/-! ### statements with plain values -/
section
variable {sts A B rest body : List Stmt} {Eb : β → D} {ρx : Option (α → List Slot)} {ρl : τ → List Slot} {e : κ → Fl α τ β}
theorem gop {x : γ} {f : γ → m κ} {P : κ → Prop} (h : (Mn.wp (bd (rt x) f)).run P) : (Mn.wp (f x)).run P := Mn.pure_le (m := m) x _ (Mn.bind_le _ _ _ h)
theorem JS.conv {w w' : m κ} (h : JS X sts ρ Eb ρx ρl e w) (k1 : Wp.Le (Mn.wp w') (Mn.wp w)) (k2 : Wp.Le (Mn.wp w) (Mn.wp w')) : JS X sts ρ Eb ρx ρl e w' :=
  ⟨pss_weak h.ps fun Dd σ H ⟨sr, O, H0, ad, he, hw⟩ => ⟨sr, O, H0, ad, he, k1 _ hw⟩, fun z P q => k2 _ (h.nn z P (k1 _ q))⟩
theorem JS.pg {x : γ} {f : γ → m κ} (h : JS X sts ρ Eb ρx ρl e (bd (rt x) f)) : JS X sts ρ Eb ρx ρl e (f x) := h.conv (fun P q => pgo q) (fun P q => gop q)
theorem JS.pg2 {x : γ} {f : γ → m δ} {k : δ → m κ} (h : JS X sts ρ Eb ρx ρl e (bd (bd (rt x) f) k)) : JS X sts ρ Eb ρx ρl e (bd (f x) k) :=
  h.conv (bd_le (fun P q => pgo q) fun _ => Wp.Le.refl _) (bd_le (fun P q => gop q) fun _ => Wp.Le.refl _)
theorem JS.retP {c : β → κ} {b : β} (hc : ∀ b, e (c b) = .rt b) (nl : NL Eb) (h : JE X true ex ρ Eb (rt (m := m) b)) : JS X (.Return (some ex) pos :: rest) ρ Eb ρx ρl e (rt (m := m) (c b)) := JS.pg (f := fun b => rt (c b)) (JS.ret hc nl h)
theorem JS.retLP {E : β → D} {e : κ → Fl α τ (List β)} {c : List β → κ} {b : List β} (hc : ∀ b, e (c b) = .rt b) (h : JL X true ex ρ E (rt (m := m) b)) : JS X (.Return (some ex) pos :: rest) ρ (eL E) ρx ρl e (rt (m := m) (c b)) := JS.pg (f := fun b => rt (c b)) (JS.retL hc h)
theorem JS.ifTP {c : Expr} {x : Bool} {a b : m κ} (hc : JT X c ρ (rt (m := m) x)) (hA : JS X A ρ Eb (none : Option (α → List Slot)) ρl e a) (hr : JS X rest ρ Eb ρx ρl e b) : JS X (.If c A [] pos :: rest) ρ Eb ρx ρl e (ifM x a b) := JS.pg (f := fun x => ifM x a b) (JS.ifT hc hA hr)
theorem JS.ifEP {c : Expr} {x : Bool} {a b : m κ} (hc : JT X c ρ (rt (m := m) x)) (hA : JS X A ρ Eb (none : Option (α → List Slot)) ρl e a) (hB : JS X B ρ Eb (none : Option (α → List Slot)) ρl e b) : JS X (.If c A B pos :: rest) ρ Eb ρx ρl e (ifM x a b) := JS.pg (f := fun x => ifM x a b) (JS.ifE hc hA hB)
theorem JS.ifJP {c : Expr} {x : Bool} {f : ω → List Slot} {a b : m ω} {k : ω → m κ} (hc : JT X c ρ (rt (m := m) x)) (hA : JS X A ρ Eb (some f) ρl (Fl.nx (τ := τ) (β := β)) a) (hB : JS X B ρ Eb (some f) ρl (Fl.nx (τ := τ) (β := β)) b) (hr : ∀ t, JS X rest (f t) Eb ρx ρl e (k t)) :
    JS X (.If c A B pos :: rest) ρ Eb ρx ρl e (bd (ifM x a b) k) := JS.pg2 (f := fun x => ifM x a b) (JS.ifJ hc hA hB hr)
theorem JS.ifFP {c : Expr} {x : Bool} {f : ω → List Slot} {a b : m (Fl ω τ β)} {k : ω → m κ} (c' : Fl Empty τ β → κ) (hc' : ∀ x, e (c' x) = upF x) (hc : JT X c ρ (rt (m := m) x)) (hA : JS X A ρ Eb (some f) ρl id a) (hB : JS X B ρ Eb (some f) ρl id b) (hr : ∀ t, JS X rest (f t) Eb ρx ρl e (k t)) :
    JS X (.If c A B pos :: rest) ρ Eb ρx ρl e (bd (ifM x a b) (seqF e c' k)) := JS.pg2 (f := fun x => ifM x a b) (JS.ifF c' hc' hc hA hB hr)
/-- a value that is told: the block behind speaks of it -/
theorem JS.asgV {i : Nat} {st : Stmt} {F : γ → D} {v : γ} {a : m κ} (h : JAsE X st i ρ F (rt (m := m) v)) (hr : JS X rest (ρ.set i (.d (F v))) Eb ρx ρl e a) : JS X (st :: rest) ρ Eb ρx ρl e a :=
  ⟨pss_weak (pss_cons h.ps hr.ps) fun Dd σ H ⟨sr, O, H0, ad, he, hw⟩ => ⟨sr, O, H0, ad, he, Mn.pure_ge _ _ (fun v H1 x1 r => ⟨sr, O, H0, _, (he.ext' x1).put i v _ r, hw⟩)⟩, hr.nn⟩
theorem JS.asgLV {i : Nat} {st : Stmt} {F : γ → D} {v : List γ} {a : m κ} (h : JAsL X st i ρ F (rt (m := m) v)) (hi : i < ρ.length) (hr : JS X rest (ρ.set i (.l (v.map F))) Eb ρx ρl e a) : JS X (st :: rest) ρ Eb ρx ρl e a :=
  ⟨pss_weak (pss_cons h.ps hr.ps) fun Dd σ H ⟨sr, O, H0, ad, he, hw⟩ => ⟨sr, O, H0, ad, he, Mn.pure_ge _ _ (fun p vs H1 hp x1 hp' r => ⟨sr, O, H0, _, he.own x1 hi hp hp' (r.sub fun a z => .inl z) r, hw⟩)⟩, hr.nn⟩
theorem JS.asgGV {tg : Expr} {js : List Nat} {up : List Slot → γ → List Slot} {F : γ → D} {v : γ} {a : m κ} (h : JE X true ex ρ F (rt (m := m) v)) (hg : JG X tg js F up) (hr : JS X rest (up ρ v) Eb ρx ρl e a)
    (hs : swapsWithSole [tg] ex pos.line X.env = pure false := by rfl) (hw : swappedStores [tg] ex X.env = pure none := by rfl) (h1 : (assignEach [tg] X.env).map (·.2) = [assign tg X.env] := by rfl) : JS X (.Assign [tg] ex pos :: rest) ρ Eb ρx ρl e a :=
  ⟨pss_weak (pss_cons (ps_asg h.b.pe hg.pg hs hw h1) hr.ps) fun Dd σ H ⟨sr, O, H0, ad, he, hw⟩ => ⟨sr, O, H0, ad, he, Mn.pure_ge _ _ (fun u H1 x1 r => ⟨sr, O, H0, ad, ρ, v, he.ext' x1, r, fun σ' e2 _ => ⟨sr, O, H0, _, e2, hw⟩⟩)⟩, hr.nn⟩
theorem JS.appendP {F : γ → D} {cpos : Pos} (i : Nat) {xs : List γ} {y : γ} {k : List γ → m κ} (h : ρ[i]? = some (.l (xs.map F))) (ha : JE X true ex ρ F (rt (m := m) y)) (hr : ∀ ys, JS X rest (ρ.set i (.l (ys.map F))) Eb ρx ρl e (k ys)) (hN : X.N[i]? = some n := by rfl) (hv : Vis X.env.scope n := by first | exact Or.inl rfl | exact Or.inr (Or.inl rfl) | exact Or.inr (Or.inr rfl)) (hd : (n == ("__debug__" : Str)) = false := by decide) (hcd : (n == ("__classdict__" : Str)) = false := by decide)
    (hbase : attributeBase (.Name n p2) "append" X.env (eval (.Name n p2) X.env) = eval (.Name n p2) X.env := by rfl)
    (hfew : ((backTo cpos (starEach [ex] X.env)).all (fun x => !x.1) && (backToKw cpos (keywordEach [] X.env)).all (fun x => x.1.isSome) && decide ([ex].length + ([] : List Keyword).length + (if ([] : List Keyword).isEmpty then 0 else 1) < 30)) = true := by rfl)
    (hline : (apos.endLine == cpos.line) = true := by rfl) (hs : starEach [ex] X.env = (false, eval ex X.env) :: starEach [] X.env := by rfl) (hsw : swapsWith (.Call (.Attribute (.Name n p2) "append" apos) [ex] [] cpos) none pos.line X.env = pure false := by rfl) :
    JS X (.Expr (.Call (.Attribute (.Name n p2) "append" apos) [ex] [] cpos) pos :: rest) ρ Eb ρx ρl e (bd (lf (appO xs y)) k) := JS.pg (f := fun y => bd (lf (appO xs y)) k) (JS.append i h ha hr hN hv hd hcd hbase hfew hline hs hsw)
/-- a, b = x, y -/
theorem JS.par {F1 : γ → D} {F2 : δ → D} {a b : Expr} {x y : Str} {w1 : m γ} {w2 : m δ} {k : γ → δ → m κ} {px py pt : Pos} {kt k2 pt2} (i j : Nat) (hc : X.calm = true) (hN : X.N.Nodup) (hi : X.N[i]? = some x) (hj : X.N[j]? = some y) (hij : i ≠ j)
    (hx : X.env.scope.names.lookup x = some .local) (hy : X.env.scope.names.lookup y = some .local) (ha : JE X true a ρ F1 w1) (hb : JE X true b ρ F2 w2) (hr : ∀ u v, JS X rest ((ρ.set i (.d (F1 u))).set j (.d (F2 v))) Eb ρx ρl e (k u v))
    (hw : swappedStores [.Tuple [.Name x px, .Name y py] kt pt] (.Tuple [a, b] k2 pt2) X.env = pure (some [x, y]) := by rfl)
    (hs : swapsWithSole [.Tuple [.Name x px, .Name y py] kt pt] (.Tuple [a, b] k2 pt2) pos.line X.env = pure false := by rfl) (hs1 : starEach [a, b] X.env = (false, eval a X.env) :: starEach [b] X.env := by rfl) (hs2 : starEach [b] X.env = (false, eval b X.env) :: starEach [] X.env := by rfl) :
    JS X (.Assign [.Tuple [.Name x px, .Name y py] kt pt] (.Tuple [a, b] k2 pt2) pos :: rest) ρ Eb ρx ρl e (bd w1 fun u => bd w2 fun v => k u v) :=
  ⟨pss_weak (pss_cons (ps_par hc hN hi hj hij hx hy (pa_cons ha.b.pe (pa_cons hb.b.pe pa_nil hs2) hs1) hw hs) (pss_ex fun q : γ × δ => (hr q.1 q.2).ps)) fun Dd σ H ⟨sr, O, H0, ad, he, hw⟩ => (by
    refine ⟨sr, O, H0, ad, he, (Mn.wp w1).mono (fun u q v H1 x1 r => ⟨sr, O, H0, ad, he.ext' x1, (Mn.wp w2).mono (fun z q2 v2 H2 x2 r2 => ?_) (bdk q)⟩) (bdk hw)⟩
    have e2 := (he.ext' x1).ext' x2
    have e3 := e2.put i v _ (r.ext x2 (he.sOM true))
    refine ⟨v, v2, rfl, (u, z), sr, O, H0, _, e3.put j v2 _ (r2.sub (fun a h => ?_)), q2⟩
    exact h.elim .inl fun ⟨q, hq⟩ => .inr ⟨q, by
      unfold unad at hq
      split at hq
      · cases hq
      · exact hq⟩), fun z => nn_bd fun x => nn_bd fun y => (hr x y).nn z⟩
end

/-! ### None -/
theorem JE.isN {w : m (Option α)} {b1 : Expr} (hE : ∀ x, E x ≠ .n) (ha : JE X false a ρ (eO E) w) {j} {p3 : Pos} : JE X M (.Compare a [.Is] [.Constant .none j p3] pos) ρ eB (bd w fun x => rt x.isNone) :=
  ⟨⟨pe_weak (pe_cmpR op_isN ha.b.pe (pe_non) (nomark _)) fun σ H Q ⟨sr, O, H0, ad, he, hw⟩ => ⟨sr, O, H0, ad, he, by
      have hw := le1 (f := fun x : Option α => rt (m := m) x.isNone) (g := fun x => Wp.pure x.isNone) (fun _ => lep) _ hw
      refine (Mn.wp w).mono (fun x q v H1 x1 r => ⟨rfl, ?_⟩) hw
      have : decide (v = .non) = x.isNone := by
        cases x with
        | none => cases r; rfl
        | some x =>
          have r : Rep X.K X.mg O H1 v (E x) := r
          cases hv : E x <;> rw [hv] at r <;> cases r <;> first | rfl | exact absurd hv (hE x)
      rw [this]
      exact q _ H1 x1 (.b _)⟩⟩⟩
end
end Wk

namespace Wk
open PySem PySem.Spec PyProof.Rows L2
section
variable {m : Type → Type} [Mn m] {α β γ δ κ τ ω : Type}
variable {X : Cx} {M M0 : Bool} {ρ : List Slot} {pos p p2 p3 apos : Pos} {n c : Str} {a b e ex : Expr} {E : α → D} {F : β → D}
theorem non_dec {K : PySem.W.Frag} {mg : Str → Option Value} {O : Addr → Prop} {H : Hp} {v : V} {x : Option α} (hE : ∀ x, E x ≠ .n) (r : Rep K mg O H v (eO E x)) : decide (v = .non) = x.isNone := by
  cases x with
  | none => cases r; rfl
  | some x =>
    have r : Rep K mg O H v (E x) := r
    cases hv : E x <;> rw [hv] at r <;> cases r <;> first | rfl | exact absurd hv (hE x)
theorem isSome_not {x : Option α} : (!x.isNone) = x.isSome := by cases x <;> rfl
theorem JE.notN {w : m (Option α)} (hE : ∀ x, E x ≠ .n) (ha : JE X false a ρ (eO E) w) {j} : JE X M (.Compare a [.IsNot] [.Constant .none j p3] pos) ρ eB (bd w fun x => rt x.isSome) :=
  ⟨⟨pe_weak (pe_cmpR op_notN ha.b.pe (pe_non) (nomark _)) fun σ H Q ⟨sr, O, H0, ad, he, hw⟩ => ⟨sr, O, H0, ad, he, by
      have hw := le1 (f := fun x : Option α => rt (m := m) x.isSome) (g := fun x => Wp.pure x.isSome) (fun _ => lep) _ hw
      refine (Mn.wp w).mono (fun x q v H1 x1 r => ⟨rfl, ?_⟩) hw
      rw [non_dec hE r, isSome_not]
      exact q _ H1 x1 (.b _)⟩⟩⟩
theorem JT.isN {w : m (Option α)} (hE : ∀ x, E x ≠ .n) (ha : JE X false a ρ (eO E) w) {j} : JT X (.Compare a [.Is] [.Constant .none j p3] pos) ρ (bd w fun x => rt x.isNone) :=
  ⟨⟨pt_weak (pt_cmpR op_isN ha.b.pe (pe_non) (nomark _)) fun σ H Q ⟨sr, O, H0, ad, he, hw⟩ => ⟨sr, O, H0, ad, he, by
      have hw := le1 (f := fun x : Option α => rt (m := m) x.isNone) (g := fun x => Wp.pure x.isNone) (fun _ => lep) _ hw
      refine (Mn.wp w).mono (fun x q v H1 x1 r => ⟨rfl, ?_⟩) hw
      rw [non_dec hE r]
      exact ⟨_, rfl, q H1 x1⟩⟩⟩⟩
theorem JT.notN {w : m (Option α)} (hE : ∀ x, E x ≠ .n) (ha : JE X false a ρ (eO E) w) {j} : JT X (.Compare a [.IsNot] [.Constant .none j p3] pos) ρ (bd w fun x => rt x.isSome) :=
  ⟨⟨pt_weak (pt_cmpR op_notN ha.b.pe (pe_non) (nomark _)) fun σ H Q ⟨sr, O, H0, ad, he, hw⟩ => ⟨sr, O, H0, ad, he, by
      have hw := le1 (f := fun x : Option α => rt (m := m) x.isSome) (g := fun x => Wp.pure x.isSome) (fun _ => lep) _ hw
      refine (Mn.wp w).mono (fun x q v H1 x1 r => ⟨rfl, ?_⟩) hw
      rw [non_dec hE r, isSome_not]
      exact ⟨_, rfl, q H1 x1⟩⟩⟩⟩
/-- what is not None -/
theorem JE.get {w : m (Option α)} (ha : JE X M a ρ (eO E) w) : JE X M a ρ E (bd w fun x => lf x) :=
  ⟨⟨pe_weak ha.b.pe fun σ H Q ⟨sr, O, H0, ad, he, hw⟩ => ⟨sr, O, H0, ad, he, by
      have hw := le1 (f := fun x : Option α => lf (m := m) x) (g := fun x => Wp.ofO x) (fun _ => Mn.lift_le _) _ hw
      refine (Mn.wp w).mono (fun x q v H1 x1 r => ?_) hw
      obtain ⟨y, rfl, q⟩ := q
      exact q v H1 x1 r⟩⟩⟩
/-! ### in -/
theorem inV_ints (i : Int) : ∀ xs : List Int, inV (.int i) (xs.map V.int) = xs.contains i
  | [] => rfl
  | x :: xs => by
    have ih := inV_ints i xs
    unfold inV at ih ⊢
    rw [List.map_cons, List.any_cons, ih, List.contains_cons]
    congr 1
    show (x == i) = (i == x)
    rw [Bool.eq_iff_iff, beq_iff_eq, beq_iff_eq]
    exact eq_comm
theorem flat_ints : ∀ xs : List Int, (xs.map V.int).all flatV = true
  | [] => rfl
  | x :: xs => by rw [List.map_cons, List.all_cons, flat_ints xs]; rfl
section
variable {wa : m Int} {wb : m (List Int)} {k : Kd}
theorem Rep.seqI {K : PySem.W.Frag} {mg : Str → Option Value} {O : Addr → Prop} {H : Hp} {v : V} {xs : List Int} (h : Rep K mg O H v (eQ k eI xs)) :
    ∃ a, v = .ref a ∧ (SqL K H a (xs.map V.int) ∨ SqT K H a (xs.map V.int)) := by
  obtain ⟨a, vs, rfl, hs, rs⟩ := h.seq
  have rs : Reps K mg O H vs (xs.map D.i) := rs
  rw [rs.ints] at hs
  exact ⟨a, rfl, hs⟩
theorem JE.inI (ha : JE X false a ρ eI wa) (hb : JE X false b ρ (eQ k eI) wb) (hm : behindInMarks .In b = false := by rfl) : JE X M (.Compare a [.In] [b] pos) ρ eB (bd wa fun x => bd wb fun y => rt (y.contains x)) :=
  ⟨⟨pe_weak (pe_cmpR op_in_seq ha.b.pe hb.b.pe hm) fun σ H Q ⟨sr, O, H0, ad, he, hw⟩ => ⟨sr, O, H0, ad, he, by
      have hw := le2 (f := fun x y => rt (m := m) (List.contains y x)) (g := fun x y => Wp.pure (List.contains y x)) (fun _ _ => lep) _ hw
      refine (Mn.wp wa).mono (fun x q v H1 x1 r => ⟨sr, O, H0, ad, he.ext' x1, (Mn.wp wb).mono (fun y q2 v2 H2 x2 r2 => ?_) q⟩) hw
      cases r
      obtain ⟨p, rfl, hs⟩ := r2.seqI
      refine ⟨p, _, rfl, hs, rfl, flat_ints _, ?_⟩
      rw [if_neg (by decide), inV_ints]
      exact q2 _ H2 (x1.trans x2) (.b _)⟩⟩⟩
theorem JE.ninI (ha : JE X false a ρ eI wa) (hb : JE X false b ρ (eQ k eI) wb) (hm : behindInMarks .NotIn b = false := by rfl) : JE X M (.Compare a [.NotIn] [b] pos) ρ eB (bd wa fun x => bd wb fun y => rt (!(y.contains x))) :=
  ⟨⟨pe_weak (pe_cmpR op_notIn_seq ha.b.pe hb.b.pe hm) fun σ H Q ⟨sr, O, H0, ad, he, hw⟩ => ⟨sr, O, H0, ad, he, by
      have hw := le2 (f := fun x y => rt (m := m) (!(List.contains y x))) (g := fun x y => Wp.pure (!(List.contains y x))) (fun _ _ => lep) _ hw
      refine (Mn.wp wa).mono (fun x q v H1 x1 r => ⟨sr, O, H0, ad, he.ext' x1, (Mn.wp wb).mono (fun y q2 v2 H2 x2 r2 => ?_) q⟩) hw
      cases r
      obtain ⟨p, rfl, hs⟩ := r2.seqI
      refine ⟨p, _, rfl, hs, rfl, flat_ints _, ?_⟩
      rw [if_pos rfl, inV_ints]
      exact q2 _ H2 (x1.trans x2) (.b _)⟩⟩⟩
theorem JT.inI (ha : JE X false a ρ eI wa) (hb : JE X false b ρ (eQ k eI) wb) (hm : behindInMarks .In b = false := by rfl) : JT X (.Compare a [.In] [b] pos) ρ (bd wa fun x => bd wb fun y => rt (y.contains x)) :=
  ⟨⟨pt_weak (pt_cmpR op_in_seq ha.b.pe hb.b.pe hm) fun σ H Q ⟨sr, O, H0, ad, he, hw⟩ => ⟨sr, O, H0, ad, he, by
      have hw := le2 (f := fun x y => rt (m := m) (List.contains y x)) (g := fun x y => Wp.pure (List.contains y x)) (fun _ _ => lep) _ hw
      refine (Mn.wp wa).mono (fun x q v H1 x1 r => ⟨sr, O, H0, ad, he.ext' x1, (Mn.wp wb).mono (fun y q2 v2 H2 x2 r2 => ?_) q⟩) hw
      cases r
      obtain ⟨p, rfl, hs⟩ := r2.seqI
      refine ⟨p, _, rfl, hs, rfl, flat_ints _, ?_⟩
      rw [if_neg (by decide), inV_ints]
      exact ⟨_, rfl, q2 H2 (x1.trans x2)⟩⟩⟩⟩
theorem JT.ninI (ha : JE X false a ρ eI wa) (hb : JE X false b ρ (eQ k eI) wb) (hm : behindInMarks .NotIn b = false := by rfl) : JT X (.Compare a [.NotIn] [b] pos) ρ (bd wa fun x => bd wb fun y => rt (!(y.contains x))) :=
  ⟨⟨pt_weak (pt_cmpR op_notIn_seq ha.b.pe hb.b.pe hm) fun σ H Q ⟨sr, O, H0, ad, he, hw⟩ => ⟨sr, O, H0, ad, he, by
      have hw := le2 (f := fun x y => rt (m := m) (!(List.contains y x))) (g := fun x y => Wp.pure (!(List.contains y x))) (fun _ _ => lep) _ hw
      refine (Mn.wp wa).mono (fun x q v H1 x1 r => ⟨sr, O, H0, ad, he.ext' x1, (Mn.wp wb).mono (fun y q2 v2 H2 x2 r2 => ?_) q⟩) hw
      cases r
      obtain ⟨p, rfl, hs⟩ := r2.seqI
      refine ⟨p, _, rfl, hs, rfl, flat_ints _, ?_⟩
      rw [if_pos rfl, inV_ints]
      exact ⟨_, rfl, q2 H2 (x1.trans x2)⟩⟩⟩⟩
end
/-! ### a part of a pair -/
theorem JE.fst {w : m (α × β)} {k p4} (hp : PlainIx (.Constant (.int 0) k p4)) (ha : JE X M a ρ (eP E F) w) : JE X M (.Subscript a (.Constant (.int 0) k p4) pos) ρ E (bd w fun x => rt x.1) :=
  ⟨⟨pe_weak (pe_ix ix_seq ha.b.pe pe_int hp) fun σ H Q ⟨sr, O, H0, ad, he, hw⟩ => ⟨sr, O, H0, ad, he, by
      have hw := le1 (f := fun x : α × β => rt (m := m) x.1) (g := fun x => Wp.pure x.1) (fun _ => lep) _ hw
      refine (Mn.wp w).mono (fun x q v H1 x1 r => ?_) hw
      cases r with
      | t h1 h2 =>
        cases h2 with
        | cons r1 h2 => cases h2 with
          | cons r2 h3 =>
            cases h3
            exact .inr (.inl ⟨_, _, 0, _, rfl, rfl, .inl (.inl h1), rfl, q _ H1 x1 r1⟩)⟩⟩⟩
theorem JE.snd {w : m (α × β)} {k p4} (hp : PlainIx (.Constant (.int 1) k p4)) (ha : JE X M a ρ (eP E F) w) : JE X M (.Subscript a (.Constant (.int 1) k p4) pos) ρ F (bd w fun x => rt x.2) :=
  ⟨⟨pe_weak (pe_ix ix_seq ha.b.pe pe_int hp) fun σ H Q ⟨sr, O, H0, ad, he, hw⟩ => ⟨sr, O, H0, ad, he, by
      have hw := le1 (f := fun x : α × β => rt (m := m) x.2) (g := fun x => Wp.pure x.2) (fun _ => lep) _ hw
      refine (Mn.wp w).mono (fun x q v H1 x1 r => ?_) hw
      cases r with
      | t h1 h2 =>
        cases h2 with
        | cons r1 h2 => cases h2 with
          | cons r2 h3 =>
            cases h3
            exact .inr (.inl ⟨_, _, 1, _, rfl, rfl, .inl (.inl h1), rfl, q _ H1 x1 r2⟩)⟩⟩⟩
/-! ### y = [..] on one line -/
section
variable {tg iter elt tg1 iter1 : Expr} {ifs : List Expr} {js : List Nat} {up : List Slot → α → List Slot} {wx : m (List α)} {scope : Scope} {own : List (Str × Nat)} {cM : α → m Bool} {f : α → m β} {spos : Pos} {y : Str} {i : Nat}
  {G : γ → D} {F2 : β → D} {vs1 js1 : List Nat} {up1 : List Slot → β → List Slot} {M1 : Bool} {g2 : α → m (List β)} {f2 : α → β → m γ}
theorem JAsL.lc (hc : X.calm = true) (hN : X.N.Nodup) (hy : X.N[i]? = some y) (hyl : X.env.scope.names.lookup y = some .local)
    (hsw : swapsWith (.ListComp elt [⟨tg, iter, ifs, 0⟩] scope pos) (some (.Name y p2)) spos.line X.env = pure true) (hi : JI X M0 tg iter ρ E wx) (ok : BlkOk X.N X.env.scope scope own) (hj : ∀ j ∈ js, j ∈ own.map (·.2)) (ho : ownFree ρ (own.map (·.2)) = true)
    (hg : ∀ s H C cl fp, JG (Blk X s H scope C cl fp) tg js E up) (ht : ∀ s H C cl fp x, JTs (Blk X s H scope C cl fp) ifs (up (wipeS ρ (own.map (·.2))) x) (cM x)) (he : ∀ s H C cl fp x, JE (Blk X s H scope C cl fp) true elt (up (wipeS ρ (own.map (·.2))) x) F (f x)) (hs : ∀ x, foldedSetIterable iter X.env x = pure x := by intro _; rfl) :
    JAsL X (.Assign [.Name y p2] (.ListComp elt [⟨tg, iter, ifs, 0⟩] scope pos) spos) i ρ F (bd wx fun xs => bd (lf (szO xs)) fun xs => lcM cM f xs) :=
  ⟨ps_weak (ps_setLc hc hN hy hyl hsw hi.b ok (fun s H C cl fp => (hg s H C cl fp).pg) (fun s H C cl fp => pts_ex fun x => (ht s H C cl fp x).pt) (fun s H C cl fp => pe_ex fun x => (he s H C cl fp x).b.pe) hs) fun Dd σ H h => JL.lc_core hi hj ho h⟩
theorem JAsL.lc0 (hc : X.calm = true) (hN : X.N.Nodup) (hy : X.N[i]? = some y) (hyl : X.env.scope.names.lookup y = some .local)
    (hsw : swapsWith (.ListComp elt [⟨tg, iter, [], 0⟩] scope pos) (some (.Name y p2)) spos.line X.env = pure true) (hi : JI X M0 tg iter ρ E wx) (ok : BlkOk X.N X.env.scope scope own) (hj : ∀ j ∈ js, j ∈ own.map (·.2)) (ho : ownFree ρ (own.map (·.2)) = true)
    (hg : ∀ s H C cl fp, JG (Blk X s H scope C cl fp) tg js E up) (he : ∀ s H C cl fp x, JE (Blk X s H scope C cl fp) true elt (up (wipeS ρ (own.map (·.2))) x) F (f x)) (hs : ∀ x, foldedSetIterable iter X.env x = pure x := by intro _; rfl) :
    JAsL X (.Assign [.Name y p2] (.ListComp elt [⟨tg, iter, [], 0⟩] scope pos) spos) i ρ F (bd wx fun xs => bd (lf (szO xs)) fun xs => mapM' f xs) :=
  (JAsL.lc hc hN hy hyl hsw hi ok hj ho hg (fun s H C cl fp x => JTs.nil) he hs).conv (bd_le (Wp.Le.refl _) fun xs => bd_le (Wp.Le.refl _) fun ys => mapM_le _ ys)
theorem JAsL.lc20 (hc : X.calm = true) (hN : X.N.Nodup) (hy : X.N[i]? = some y) (hyl : X.env.scope.names.lookup y = some .local)
    (hsw : swapsWith (.ListComp elt [⟨tg, iter, [], 0⟩, ⟨tg1, iter1, [], 0⟩] scope pos) (some (.Name y p2)) spos.line X.env = pure true) (hi : JI X M0 tg iter ρ E wx) (ok : BlkOk X.N X.env.scope scope own) (hj : ∀ j ∈ js, j ∈ own.map (·.2)) (ho : ownFree ρ (own.map (·.2)) = true) (hj1 : ∀ j ∈ js1, j ∈ vs1) (hv1 : ∀ j ∈ vs1, j ∈ own.map (·.2))
    (hg : ∀ s H C cl fp, JG (Blk X s H scope C cl fp) tg js E up)
    (hi1 : ∀ s H C cl fp x, JI (Blk X s H scope C cl fp) M1 tg1 iter1 (up (wipeS ρ (own.map (·.2))) x) F2 (g2 x)) (hg1 : ∀ s H C cl fp, JG (Blk X s H scope C cl fp) tg1 js1 F2 up1)
    (he : ∀ s H C cl fp x y, JE (Blk X s H scope C cl fp) true elt (up1 (wipeS (up (wipeS ρ (own.map (·.2))) x) vs1) y) G (f2 x y))
    (hs : ∀ x, foldedSetIterable iter X.env x = pure x := by intro _; rfl) (hs1 : ∀ env x, foldedSetIterable iter1 env x = pure x := by intro _ _; rfl) :
    JAsL X (.Assign [.Name y p2] (.ListComp elt [⟨tg, iter, [], 0⟩, ⟨tg1, iter1, [], 0⟩] scope pos) spos) i ρ G (bd wx fun xs => bd (lf (sz4 xs)) fun xs => flat2 g2 f2 xs) :=
  JAsL.conv (w := bd wx fun xs => bd (lf (sz4 xs)) fun xs => lc2M (fun _ => rt true) g2 (fun _ _ => rt true) f2 xs) ⟨ps_weak (ps_setLc2 hc hN hy hyl hsw hi.b ok hv1 (fun s H C cl fp => (hg s H C cl fp).pg) (fun s H C cl fp => pts_ex fun x => (JTs.nil (X := Blk X s H scope C cl fp) (ρ := up (wipeS ρ (own.map (·.2))) x)).pt) (fun s H C cl fp => pi_ex fun x => (hi1 s H C cl fp x).b) (fun s H C cl fp => (hg1 s H C cl fp).pg)
    (fun s H C cl fp => pts_ex fun x : α × β => (JTs.nil (X := Blk X s H scope C cl fp) (ρ := up1 (wipeS (up (wipeS ρ (own.map (·.2))) x.1) vs1) x.2)).pt) (fun s H C cl fp => pe_ex fun x : α × β => (he s H C cl fp x.1 x.2).b.pe) hs hs1) fun Dd σ H h => JL.lc2_core hi hj ho hj1 hv1 h⟩ (bd_le (Wp.Le.refl _) fun xs => bd_le (Wp.Le.refl _) fun ys => flat2_le _ _ ys)
theorem JAsL.filP {st : Stmt} {c : α → Bool} {g : α → β} (h : JAsL X st i ρ F (bd wx fun xs => bd (lf (szO xs)) fun xs => lcM (fun x => rt (c x)) (fun x => rt (g x)) xs)) : JAsL X st i ρ F (bd wx fun xs => bd (lf (szO xs)) fun xs => rt ((xs.filter c).map g)) :=
  h.conv (bd_le (Wp.Le.refl _) fun xs => bd_le (Wp.Le.refl _) fun xs => lcM_pure xs)
theorem JAsL.mapP {st : Stmt} {g : α → β} (h : JAsL X st i ρ F (bd wx fun xs => bd (lf (szO xs)) fun xs => mapM' (fun x => rt (g x)) xs)) : JAsL X st i ρ F (bd wx fun xs => bd (lf (szO xs)) fun xs => rt (xs.map g)) :=
  h.conv (bd_le (Wp.Le.refl _) fun xs => bd_le (Wp.Le.refl _) fun xs => mapM_pure xs)
end
end
end Wk

namespace Wk
open PySem PySem.Spec PyProof.Rows L2
section
variable {m : Type → Type} [Mn m] {α β γ δ κ τ ω : Type}
variable {X : Cx} {M M0 : Bool} {ρ : List Slot} {pos p p2 p3 apos : Pos} {n c : Str} {a b ex : Expr} {E : β → D} {F : γ → D}
variable {sts A B rest body : List Stmt} {ρx : Option (α → List Slot)} {ρl : ω → List Slot} {e : κ → Fl α ω β}
def tailF : Fl Empty Empty β → β
  | .nx t => t.elim
  | .rt b => b
  | .bk t => t.elim
  | .ct t => t.elim
theorem tailF_up : ∀ x : Fl Empty Empty β, (Fl.rt (tailF x) : Fl Empty Empty β) = upF x
  | .nx t => t.elim
  | .rt b => rfl
  | .bk t => t.elim
  | .ct t => t.elim
section
variable {tg iter : Expr} {js : List Nat} {Ei : γ → D} {up : List Slot → γ → List Slot}
theorem JS.forP {xs : List γ} {f : γ → τ → m (Fl τ τ β)} {k : τ → m κ} (ρh : τ → List Slot) (t0 : τ) (c : β → κ) (hc : ∀ b, e (c b) = .rt b) (hp : PassesOwn (model X.prog X.w) X.A X.env X.xe) (hcalm : X.calm = true)
    (hi : JI X true tg iter ρ Ei (rt (m := m) xs)) (hg : JG X tg js Ei up) (l : Lw ρ (ρh t0)) (hb : ∀ x t, JS X body (up (ρh t) x) E (some ρh) ρh (id : Fl τ τ β → Fl τ τ β) (f x t)) (hr : ∀ t, JS X rest (ρh t) E ρx ρl e (k t))
    (hs : ∀ x, foldedSetIterable iter X.env x = pure x := by intro _; rfl) : JS X (.For tg iter body [] pos :: rest) ρ E ρx ρl e (bd (loopM f xs t0) (outM c k)) :=
  JS.pg (f := fun xs => bd (loopM f xs t0) (outM c k)) (JS.for ρh t0 c hc hp hcalm hi hg l hb hr hs)
theorem JS.forSP {xs : List γ} {f : γ → τ → m τ} {k : τ → m κ} (ρh : τ → List Slot) (t0 : τ) (hp : PassesOwn (model X.prog X.w) X.A X.env X.xe) (hcalm : X.calm = true)
    (hi : JI X true tg iter ρ Ei (rt (m := m) xs)) (hg : JG X tg js Ei up) (l : Lw ρ (ρh t0)) (hb : ∀ x t, JS X body (up (ρh t) x) E (some ρh) ρh (Fl.nx : τ → Fl τ τ β) (f x t)) (hr : ∀ t, JS X rest (ρh t) E ρx ρl e (k t))
    (hs : ∀ x, foldedSetIterable iter X.env x = pure x := by intro _; rfl) : JS X (.For tg iter body [] pos :: rest) ρ E ρx ρl e (bd (foldM' f xs t0) k) :=
  JS.pg (f := fun xs => bd (foldM' f xs t0) k) (JS.forS ρh t0 hp hcalm hi hg l hb hr hs)
end
/-- an expression for its effects -/
theorem JS.exS {w : m γ} {k : γ → m κ} (h : JE X true ex ρ F w) (hr : ∀ x, JS X rest ρ E ρx ρl e (k x)) (hs : swapsWith ex none pos.line X.env = pure false := by rfl) : JS X (.Expr ex pos :: rest) ρ E ρx ρl e (bd w k) :=
  ⟨pss_weak (pss_cons (ps_expr h.b.pe hs) (pss_ex fun x => (hr x).ps)) fun Dd σ H ⟨sr, O, H0, ad, he, hw⟩ => ⟨sr, O, H0, ad, he, (Mn.wp w).mono (fun x q v H1 x1 r => ⟨x, sr, O, H0, ad, he.ext' x1, q⟩) (bdk hw)⟩, fun z => nn_bd fun x => (hr x).nn z⟩
/-- x += e, x -= e of ints -/
theorem JS.augI' {op : Operator} {g : Int → Int → Int} (ho : PIp X op (ipI g)) {w : m Int} {x : Int} {k : Int → m κ} (hN : X.N.Nodup) (i : Nat) (hi : X.N[i]? = some n) (hx : ρ[i]? = some (.d (eI x))) (hf : X.fn n = true ∨ X.env.scope.names.lookup n = some .local) (h : JE X false ex ρ eI w) (hr : ∀ z, JS X rest (ρ.set i (.d (eI z))) E ρx ρl e (k z)) (hl : Loc X.env.scope n) : JS X (.AugAssign (.Name n p2) op ex pos :: rest) ρ E ρx ρl e (bd w fun y => bd (rt (g x y)) k) :=
  ⟨pss_weak (pss_cons (ps_aug hN hi hl h.b.pe ho hf) (pss_ex fun x => (hr x).ps)) fun Dd σ H ⟨sr, O, H0, ad, he, hw⟩ => (by
    have hi := he.at_ i
    rw [hx] at hi
    obtain ⟨_, v, e1, r⟩ := hi
    cases r
    refine ⟨_, e1, sr, O, H0, ad, he, (Mn.wp w).mono (fun y q v H1 x1 r => ?_) (bdk hw)⟩
    cases r
    exact ⟨x, y, rfl, rfl, g x y, sr, O, H0, _, (he.ext' x1).put i _ (.i (g x y)) (.i _), gop q⟩), fun z => nn_bd fun x => nn_bd fun y => (hr y).nn z⟩
theorem JS.augA {w : m Int} {x : Int} {k : Int → m κ} (hN : X.N.Nodup) (i : Nat) (hi : X.N[i]? = some n) (hx : ρ[i]? = some (.d (eI x))) (hf : X.fn n = true ∨ X.env.scope.names.lookup n = some .local) (h : JE X false ex ρ eI w) (hr : ∀ z, JS X rest (ρ.set i (.d (eI z))) E ρx ρl e (k z)) (hl : Loc X.env.scope n := by exact Or.inl rfl) : JS X (.AugAssign (.Name n p2) .Add ex pos :: rest) ρ E ρx ρl e (bd w fun y => bd (rt (x + y)) k) := JS.augI' ip_add hN i hi hx hf h hr hl
theorem JS.augS {w : m Int} {x : Int} {k : Int → m κ} (hN : X.N.Nodup) (i : Nat) (hi : X.N[i]? = some n) (hx : ρ[i]? = some (.d (eI x))) (hf : X.fn n = true ∨ X.env.scope.names.lookup n = some .local) (h : JE X false ex ρ eI w) (hr : ∀ z, JS X rest (ρ.set i (.d (eI z))) E ρx ρl e (k z)) (hl : Loc X.env.scope n := by exact Or.inl rfl) : JS X (.AugAssign (.Name n p2) .Sub ex pos :: rest) ρ E ρx ρl e (bd w fun y => bd (rt (x - y)) k) := JS.augI' ip_sub hN i hi hx hf h hr hl

/-! ### a def that may fall off its end -/
abbrev TailN (X : Cx) (sts : List Stmt) (ρ : List Slot) (N : Nat) (a : m (Fl Unit Empty Unit)) : Prop := JS X sts ρ eN (some (fun _ : Unit => List.replicate N Slot.u)) (fun _ : Empty => []) id a
theorem fn_okN {P : Program} {w : World} {K : PySem.W.Frag} {mg : Str → Option Value} {base : Heap} {x qual : Str} {st : Stmt} {f : Addr} {fd : FuncData} {N ps : List Str} {k : Nat} (Fu : Fun K x qual st f fd) (sc : FnScope N ps (defScope st)) (F : List D → (D → Prop) → Prop) (hlen : ∀ ds Q, F ds Q → ds.length = ps.length) (hN : ps.length ≤ N.length)
    (h : ∀ cdv A outer s H E, Room k (Cxf P w K mg base N qual st f cdv A outer s H E).A → ∀ ds Q, F ds Q → ∃ (a : Option (Fl Unit Empty Unit)), TailN (Cxf P w K mg base N qual st f cdv A outer s H E) (defBody st) (rho0 ds N.length) N.length a ∧ ∃ r, a = some r ∧ Q .n) :
    FnOk P w K mg base CX0 (k + 1) f fd ps (spF K mg F) := by
  refine Fu.ok sc (fun vs H Q E hs => ?_) (fun cdv A outer s H vs Q E hr hs => ?_)
  · obtain ⟨O, ds, hO, r, hF⟩ := hs
    rw [r.length, hlen _ _ hF]
  · obtain ⟨O, ds, hO, r, hF⟩ := hs
    have hl := hlen _ _ hF
    obtain ⟨a, hT, z, hz, hq⟩ := h cdv A outer s H E hr ds _ hF
    refine ⟨_, hT.ps, none, O, H, _, env_start (by omega) hO r, z, hz, ?_⟩
    refine (show endOk (α := Unit) (τ := Empty) (β := Unit) K mg none O H eN (some fun _ : Unit => List.replicate N.length Slot.u) (fun _ : Empty => []) { nx := fun _ H' => Q V.non H', rt := Q } z from ?_)
    cases z with
    | nx t => exact fun σ' H' ad' he' => hq .non H' (fun a o e => (he'.ext a o e) (fun q => by cases q)) ⟨.n, trivial⟩
    | bk t => exact t.elim
    | ct t => exact t.elim
    | rt b => exact fun v H' hf hr' => hq v H' (fun a o e => hf.1 a o e fun q => by cases q) hr'
end
end Wk

namespace Wk
open PySem PySem.Spec PyProof.Rows L2

/-! ### defs that take the source -/
/-- first the source, behind it data; the wish for the answer -/
def spG (K : PySem.W.Frag) (mg : Str → Option Value) (F : List D → (D → Prop) → Prop) : Sp := fun vs H Q _ => ∃ (S : Addr) (O : Addr → Prop) (rest : List V) (ds : List D), vs = .ref S :: rest ∧ O S ∧ SrcAt H S ∧ (∀ p, O p → Mut (H p)) ∧ Reps K mg O H rest ds ∧
  F ds fun r => ∀ v H', Fin (some S) H H' → RetOk K mg O H H' v r → Q v H'
def GCallOk (X : Cx) (n : Str) (F : List D → (D → Prop) → Prop) : Prop := ∃ (k : Nat) (fa : Addr) (fd : FuncData) (ps : List Str),
  FnOk X.prog X.w X.K X.mg X.base CX0 k fa fd ps (spG X.K X.mg F) ∧ Room k X.A ∧ X.mg n = some (.ref fa) ∧ PySem.W.keepIn X.K (.ref fa) = true ∧ Binds X.K fd ps []
theorem env_startG {K : PySem.W.Frag} {mg : Str → Option Value} {O : Addr → Prop} {H : Hp} {N : List Str} {S : Addr} {vs : List V} {ds : List D} (hl : ds.length + 1 ≤ N.length) (hS : O S) (hA : SrcAt H S) (hO : ∀ p, O p → Mut (H p)) (r : Reps K mg O H vs ds) : Env K mg (some S) O H H (L2.start N (.ref S :: vs)) (.src :: rho0 ds (N.length - 1)) (fun _ => none) := by
  have hlen := r.length
  refine ⟨by simp [L2.start, rho0]; omega, fun j => ?_, fun j k p h => (by cases h), fun j p h => (by cases h), fun j p h => (by cases h), fun S' h => (by cases h; exact ⟨hS, hA⟩), hO, fun j p h => (by cases h), fun a o h _ => h⟩
  unfold L2.start rho0
  cases j with
  | zero => exact ⟨rfl, S, rfl, rfl⟩
  | succ j =>
    rw [List.map_cons, List.cons_append, List.getElem?_cons_succ, List.getElem?_cons_succ]
    by_cases hj : j < ds.length
    · rw [List.getElem?_append_left (by simp; omega), List.getElem?_append_left (by simp; omega), List.getElem?_map, List.getElem?_map]
      obtain ⟨d, hd⟩ : ∃ d, ds[j]? = some d := ⟨ds[j], List.getElem?_eq_getElem hj⟩
      obtain ⟨v, hv, rv⟩ := r.get hd
      rw [hd, hv]
      exact ⟨rfl, v, rfl, rv.sub fun a z => z.elim id fun ⟨_, z⟩ => by cases z⟩
    · rw [List.getElem?_append_right (l₁ := ds.map Slot.d) (by simp; omega)]
      by_cases h2 : j - (ds.map Slot.d).length < N.length - 1 - ds.length
      · rw [List.getElem?_replicate_of_lt h2]; exact rfl
      · have e : (List.replicate (N.length - 1 - ds.length) Slot.u)[j - (ds.map Slot.d).length]? = none := List.getElem?_eq_none (by simp at h2 ⊢; omega)
        rw [e]; exact rfl
section
variable {α β γ δ κ τ ω : Type}
theorem fn_okG {P : Program} {w : World} {K : PySem.W.Frag} {mg : Str → Option Value} {base : Heap} {x qual : Str} {st : Stmt} {f : Addr} {fd : FuncData} {N ps : List Str} {k : Nat} (Fu : Fun K x qual st f fd) (sc : FnScope N ps (defScope st)) (F : List D → (D → Prop) → Prop) (hlen : ∀ ds Q, F ds Q → ds.length + 1 = ps.length) (hN : ps.length ≤ N.length)
    (h : ∀ cdv A outer s H E, Room k (Cxf P w K mg base N qual st f cdv A outer s H E).A → ∀ ds Q, F ds Q → ∃ (δ : Type) (G' : δ → D) (a : G δ), Tail (Cxf P w K mg base N qual st f cdv A outer s H E) (defBody st) (.src :: rho0 ds (N.length - 1)) G' a ∧ a.wp fun r => Q (G' r)) :
    FnOk P w K mg base CX0 (k + 1) f fd ps (spG K mg F) := by
  refine Fu.ok sc (fun vs H Q E hs => ?_) (fun cdv A outer s H vs Q E hr hs => ?_)
  · obtain ⟨S, O, rest, ds, rfl, hS, hA, hO, r, hF⟩ := hs
    rw [List.length_cons, r.length, hlen _ _ hF]
  · obtain ⟨S, O, rest, ds, rfl, hS, hA, hO, r, hF⟩ := hs
    have hl := hlen _ _ hF
    obtain ⟨δ, G', a, hT, hq⟩ := h cdv A outer s H E hr ds _ hF
    exact ⟨_, hT.ps, some S, O, H, _, env_startG (by omega) hS hA hO r, G.wp_mono (fun r z v H' hf hr' => z v H' hf hr') a hq⟩
theorem bdO {α β : Type} (a : Option α) (f : α → Option β) : bd a f = a.bind f := rfl
theorem rtO {α : Type} (x : α) : rt (m := Option) x = some x := rfl
theorem lfO {α : Type} (x : Option α) : lf (m := Option) x = x := rfl
theorem bdG {α β : Type} (a : G α) (f : α → G β) : bd a f = a.bind f := rfl
theorem rtG {α : Type} (x : α) : rt (m := G) x = G.ret x := rfl
theorem lfG {α : Type} (x : Option α) : lf (m := G) x = G.ofO x := rfl
def pickM (n : Int) : G Int := if 0 < n ∧ n < 1073741824 then G.pick n else G.fail
section
variable {X : Cx} {M : Bool} {ρ : List Slot} {pos p p2 : Pos} {n src : Str}

theorem JE.gcall0     {f : G (δ)} {G' : δ → D} {Fs : List D → (D → Prop) → Prop} (i : Nat) (hi : ρ[i]? = some .src) (hF : ∀ P, G.wp f (fun r => P (G' r)) → Fs [] P) (C : GCallOk X n Fs)  (hN : X.N[i]? = some src := by rfl) (hv : Vis X.env.scope src := by first | exact Or.inl rfl | exact Or.inr (Or.inl rfl) | exact Or.inr (Or.inr rfl)) (hd : (src == ("__debug__" : Str)) = false := by decide) (hcd : (src == ("__classdict__" : Str)) = false := by decide) (hg : Gl X n := by rfl) (hdb : (n == ("__debug__" : Str)) = false := by decide) (hs0 : starEach [(.Name src p2)] X.env = (false, eval (.Name src p2) X.env) :: starEach [] X.env := by rfl) (hpl : (backTo pos (starEach [] X.env)).any (·.1) = false := by rfl) :
    JE X M (.Call (.Name n p) [(.Name src p2)] [] pos) ρ G' f := by
  obtain ⟨k, fa, fd, ps, F, hr, hm, hk, hb⟩ := C
  refine ⟨⟨pe_weak (pe_call F hr hg hm hk hb .nil pass0 (pa_cons (pv i hN hv hd hcd) pa_nil hs0) hdb hs0 hpl) fun σ H Q ⟨sr, O, H0, ad, he, hw⟩ => ?_⟩⟩
  have es := he.at_ i
  rw [hi] at es
  obtain ⟨_, S, hS, hv0⟩ := es
  subst hS
  refine ⟨_, hv0, ?_⟩
  have hw : G.wp f _ := hw
  have e2 := he
  have q : G.wp (f) _ := hw
  refine ⟨S, OM M O ad, _, [], rfl, e2.sOM M S rfl, e2.srs S rfl, e2.domM M, .nil, hF  _ (G.wp_mono (fun z q v' H' fi rk => ?_) _ q)⟩
  have x9 : Ext (some S) _ H' := ⟨fi.1, fun S' e => ⟨e2.srs S' e, fi.2 S' e⟩⟩
  exact q v' H' x9 rk.1

theorem JL.gcall0     {f : G (List δ)} {G' : δ → D} {Fs : List D → (D → Prop) → Prop} (i : Nat) (hi : ρ[i]? = some .src) (hF : ∀ P, G.wp f (fun r => P ((eL G') r)) → Fs [] P) (C : GCallOk X n Fs)  (hN : X.N[i]? = some src := by rfl) (hv : Vis X.env.scope src := by first | exact Or.inl rfl | exact Or.inr (Or.inl rfl) | exact Or.inr (Or.inr rfl)) (hd : (src == ("__debug__" : Str)) = false := by decide) (hcd : (src == ("__classdict__" : Str)) = false := by decide) (hg : Gl X n := by rfl) (hdb : (n == ("__debug__" : Str)) = false := by decide) (hs0 : starEach [(.Name src p2)] X.env = (false, eval (.Name src p2) X.env) :: starEach [] X.env := by rfl) (hpl : (backTo pos (starEach [] X.env)).any (·.1) = false := by rfl) :
    JL X M (.Call (.Name n p) [(.Name src p2)] [] pos) ρ G' f := by
  obtain ⟨k, fa, fd, ps, F, hr, hm, hk, hb⟩ := C
  refine ⟨⟨pe_weak (pe_call F hr hg hm hk hb .nil pass0 (pa_cons (pv i hN hv hd hcd) pa_nil hs0) hdb hs0 hpl) fun σ H Q ⟨sr, O, H0, ad, he, hw⟩ => ?_⟩⟩
  have es := he.at_ i
  rw [hi] at es
  obtain ⟨_, S, hS, hv0⟩ := es
  subst hS
  refine ⟨_, hv0, ?_⟩
  have hw : G.wp f _ := hw
  have e2 := he
  have q : G.wp (f) _ := hw
  refine ⟨S, OM M O ad, _, [], rfl, e2.sOM M S rfl, e2.srs S rfl, e2.domM M, .nil, hF  _ (G.wp_mono (fun z q v' H' fi rk => ?_) _ q)⟩
  have x9 : Ext (some S) _ H' := ⟨fi.1, fun S' e => ⟨e2.srs S' e, fi.2 S' e⟩⟩
  obtain ⟨rk1, p, vs, rfl, hp, hp', rs⟩ := rk
  exact q p vs H' hp x9 hp' rs

theorem JE.gcall1 {α1 : Type} {E1 : α1 → D} {w1 : G α1} {e1 : Expr} {f : α1 → G (δ)} {G' : δ → D} {Fs : List D → (D → Prop) → Prop} (i : Nat) (hi : ρ[i]? = some .src) (hF : ∀ x1 P, (f x1).wp (fun r => P (G' r)) → Fs [E1 x1] P) (C : GCallOk X n Fs) (ha1 : JE X M e1 ρ E1 w1) (hN : X.N[i]? = some src := by rfl) (hv : Vis X.env.scope src := by first | exact Or.inl rfl | exact Or.inr (Or.inl rfl) | exact Or.inr (Or.inr rfl)) (hd : (src == ("__debug__" : Str)) = false := by decide) (hcd : (src == ("__classdict__" : Str)) = false := by decide) (hg : Gl X n := by rfl) (hdb : (n == ("__debug__" : Str)) = false := by decide) (hs0 : starEach [(.Name src p2), e1] X.env = (false, eval (.Name src p2) X.env) :: starEach [e1] X.env := by rfl) (hs1 : starEach [e1] X.env = (false, eval e1 X.env) :: starEach [] X.env := by rfl) (hpl : (backTo pos (starEach [e1] X.env)).any (·.1) = false := by rfl) :
    JE X M (.Call (.Name n p) [(.Name src p2), e1] [] pos) ρ G' (bd w1 fun x1 => f x1) := by
  obtain ⟨k, fa, fd, ps, F, hr, hm, hk, hb⟩ := C
  refine ⟨⟨pe_weak (pe_call F hr hg hm hk hb .nil pass0 (pa_cons (pv i hN hv hd hcd) (pa_cons ha1.b.pe pa_nil hs1) hs0) hdb hs0 hpl) fun σ H Q ⟨sr, O, H0, ad, he, hw⟩ => ?_⟩⟩
  have es := he.at_ i
  rw [hi] at es
  obtain ⟨_, S, hS, hv0⟩ := es
  subst hS
  refine ⟨_, hv0, ?_⟩
  have hw := le1 (m := G) (f := fun x1 => f x1) (g := fun x1 => Wp.ofG (f x1)) (fun _ => Wp.Le.refl _) _ hw
  refine ⟨some S, O, H0, ad, he, (Mn.wp w1).mono (fun x1 q1 v_1 H_1 x_1 r_1 => ?_) hw⟩
  have e2 := (he.ext' x_1)
  have q : G.wp (f x1) _ := q1
  refine ⟨S, OM M O ad, _, [E1 x1], rfl, e2.sOM M S rfl, e2.srs S rfl, e2.domM M, (.cons r_1 .nil), hF x1 _ (G.wp_mono (fun z q v' H' fi rk => ?_) _ q)⟩
  have x9 : Ext (some S) _ H' := ⟨fi.1, fun S' e => ⟨e2.srs S' e, fi.2 S' e⟩⟩
  exact q v' H' (x_1.trans x9) rk.1

theorem JL.gcall1 {α1 : Type} {E1 : α1 → D} {w1 : G α1} {e1 : Expr} {f : α1 → G (List δ)} {G' : δ → D} {Fs : List D → (D → Prop) → Prop} (i : Nat) (hi : ρ[i]? = some .src) (hF : ∀ x1 P, (f x1).wp (fun r => P ((eL G') r)) → Fs [E1 x1] P) (C : GCallOk X n Fs) (ha1 : JE X M e1 ρ E1 w1) (hN : X.N[i]? = some src := by rfl) (hv : Vis X.env.scope src := by first | exact Or.inl rfl | exact Or.inr (Or.inl rfl) | exact Or.inr (Or.inr rfl)) (hd : (src == ("__debug__" : Str)) = false := by decide) (hcd : (src == ("__classdict__" : Str)) = false := by decide) (hg : Gl X n := by rfl) (hdb : (n == ("__debug__" : Str)) = false := by decide) (hs0 : starEach [(.Name src p2), e1] X.env = (false, eval (.Name src p2) X.env) :: starEach [e1] X.env := by rfl) (hs1 : starEach [e1] X.env = (false, eval e1 X.env) :: starEach [] X.env := by rfl) (hpl : (backTo pos (starEach [e1] X.env)).any (·.1) = false := by rfl) :
    JL X M (.Call (.Name n p) [(.Name src p2), e1] [] pos) ρ G' (bd w1 fun x1 => f x1) := by
  obtain ⟨k, fa, fd, ps, F, hr, hm, hk, hb⟩ := C
  refine ⟨⟨pe_weak (pe_call F hr hg hm hk hb .nil pass0 (pa_cons (pv i hN hv hd hcd) (pa_cons ha1.b.pe pa_nil hs1) hs0) hdb hs0 hpl) fun σ H Q ⟨sr, O, H0, ad, he, hw⟩ => ?_⟩⟩
  have es := he.at_ i
  rw [hi] at es
  obtain ⟨_, S, hS, hv0⟩ := es
  subst hS
  refine ⟨_, hv0, ?_⟩
  have hw := le1 (m := G) (f := fun x1 => f x1) (g := fun x1 => Wp.ofG (f x1)) (fun _ => Wp.Le.refl _) _ hw
  refine ⟨some S, O, H0, ad, he, (Mn.wp w1).mono (fun x1 q1 v_1 H_1 x_1 r_1 => ?_) hw⟩
  have e2 := (he.ext' x_1)
  have q : G.wp (f x1) _ := q1
  refine ⟨S, OM M O ad, _, [E1 x1], rfl, e2.sOM M S rfl, e2.srs S rfl, e2.domM M, (.cons r_1 .nil), hF x1 _ (G.wp_mono (fun z q v' H' fi rk => ?_) _ q)⟩
  have x9 : Ext (some S) _ H' := ⟨fi.1, fun S' e => ⟨e2.srs S' e, fi.2 S' e⟩⟩
  obtain ⟨rk1, p, vs, rfl, hp, hp', rs⟩ := rk
  exact q p vs H' (x_1.back hp) (x_1.trans x9) hp' rs

theorem JE.gcall2 {α1 : Type} {α2 : Type} {E1 : α1 → D} {E2 : α2 → D} {w1 : G α1} {w2 : G α2} {e1 e2 : Expr} {f : α1 → α2 → G (δ)} {G' : δ → D} {Fs : List D → (D → Prop) → Prop} (i : Nat) (hi : ρ[i]? = some .src) (hF : ∀ x1 x2 P, (f x1 x2).wp (fun r => P (G' r)) → Fs [E1 x1, E2 x2] P) (C : GCallOk X n Fs) (ha1 : JE X M e1 ρ E1 w1) (ha2 : JE X M e2 ρ E2 w2) (hN : X.N[i]? = some src := by rfl) (hv : Vis X.env.scope src := by first | exact Or.inl rfl | exact Or.inr (Or.inl rfl) | exact Or.inr (Or.inr rfl)) (hd : (src == ("__debug__" : Str)) = false := by decide) (hcd : (src == ("__classdict__" : Str)) = false := by decide) (hg : Gl X n := by rfl) (hdb : (n == ("__debug__" : Str)) = false := by decide) (hs0 : starEach [(.Name src p2), e1, e2] X.env = (false, eval (.Name src p2) X.env) :: starEach [e1, e2] X.env := by rfl) (hs1 : starEach [e1, e2] X.env = (false, eval e1 X.env) :: starEach [e2] X.env := by rfl) (hs2 : starEach [e2] X.env = (false, eval e2 X.env) :: starEach [] X.env := by rfl) (hpl : (backTo pos (starEach [e1, e2] X.env)).any (·.1) = false := by rfl) :
    JE X M (.Call (.Name n p) [(.Name src p2), e1, e2] [] pos) ρ G' (bd w1 fun x1 => (bd w2 fun x2 => f x1 x2)) := by
  obtain ⟨k, fa, fd, ps, F, hr, hm, hk, hb⟩ := C
  refine ⟨⟨pe_weak (pe_call F hr hg hm hk hb .nil pass0 (pa_cons (pv i hN hv hd hcd) (pa_cons ha1.b.pe (pa_cons ha2.b.pe pa_nil hs2) hs1) hs0) hdb hs0 hpl) fun σ H Q ⟨sr, O, H0, ad, he, hw⟩ => ?_⟩⟩
  have es := he.at_ i
  rw [hi] at es
  obtain ⟨_, S, hS, hv0⟩ := es
  subst hS
  refine ⟨_, hv0, ?_⟩
  have hw := le2 (m := G) (f := fun x1 x2 => f x1 x2) (g := fun x1 x2 => Wp.ofG (f x1 x2)) (fun _ _ => Wp.Le.refl _) _ hw
  refine ⟨some S, O, H0, ad, he, (Mn.wp w1).mono (fun x1 q1 v_1 H_1 x_1 r_1 => ?_) hw⟩
  refine ⟨some S, O, H0, ad, (he.ext' x_1), (Mn.wp w2).mono (fun x2 q2 v_2 H_2 x_2 r_2 => ?_) q1⟩
  have e2 := (he.ext' (x_1.trans x_2))
  have q : G.wp (f x1 x2) _ := q2
  refine ⟨S, OM M O ad, _, [E1 x1, E2 x2], rfl, e2.sOM M S rfl, e2.srs S rfl, e2.domM M, (.cons (r_1.ext x_2 (he.sOM M)) (.cons r_2 .nil)), hF x1 x2 _ (G.wp_mono (fun z q v' H' fi rk => ?_) _ q)⟩
  have x9 : Ext (some S) _ H' := ⟨fi.1, fun S' e => ⟨e2.srs S' e, fi.2 S' e⟩⟩
  exact q v' H' ((x_1.trans x_2).trans x9) rk.1

theorem JL.gcall2 {α1 : Type} {α2 : Type} {E1 : α1 → D} {E2 : α2 → D} {w1 : G α1} {w2 : G α2} {e1 e2 : Expr} {f : α1 → α2 → G (List δ)} {G' : δ → D} {Fs : List D → (D → Prop) → Prop} (i : Nat) (hi : ρ[i]? = some .src) (hF : ∀ x1 x2 P, (f x1 x2).wp (fun r => P ((eL G') r)) → Fs [E1 x1, E2 x2] P) (C : GCallOk X n Fs) (ha1 : JE X M e1 ρ E1 w1) (ha2 : JE X M e2 ρ E2 w2) (hN : X.N[i]? = some src := by rfl) (hv : Vis X.env.scope src := by first | exact Or.inl rfl | exact Or.inr (Or.inl rfl) | exact Or.inr (Or.inr rfl)) (hd : (src == ("__debug__" : Str)) = false := by decide) (hcd : (src == ("__classdict__" : Str)) = false := by decide) (hg : Gl X n := by rfl) (hdb : (n == ("__debug__" : Str)) = false := by decide) (hs0 : starEach [(.Name src p2), e1, e2] X.env = (false, eval (.Name src p2) X.env) :: starEach [e1, e2] X.env := by rfl) (hs1 : starEach [e1, e2] X.env = (false, eval e1 X.env) :: starEach [e2] X.env := by rfl) (hs2 : starEach [e2] X.env = (false, eval e2 X.env) :: starEach [] X.env := by rfl) (hpl : (backTo pos (starEach [e1, e2] X.env)).any (·.1) = false := by rfl) :
    JL X M (.Call (.Name n p) [(.Name src p2), e1, e2] [] pos) ρ G' (bd w1 fun x1 => (bd w2 fun x2 => f x1 x2)) := by
  obtain ⟨k, fa, fd, ps, F, hr, hm, hk, hb⟩ := C
  refine ⟨⟨pe_weak (pe_call F hr hg hm hk hb .nil pass0 (pa_cons (pv i hN hv hd hcd) (pa_cons ha1.b.pe (pa_cons ha2.b.pe pa_nil hs2) hs1) hs0) hdb hs0 hpl) fun σ H Q ⟨sr, O, H0, ad, he, hw⟩ => ?_⟩⟩
  have es := he.at_ i
  rw [hi] at es
  obtain ⟨_, S, hS, hv0⟩ := es
  subst hS
  refine ⟨_, hv0, ?_⟩
  have hw := le2 (m := G) (f := fun x1 x2 => f x1 x2) (g := fun x1 x2 => Wp.ofG (f x1 x2)) (fun _ _ => Wp.Le.refl _) _ hw
  refine ⟨some S, O, H0, ad, he, (Mn.wp w1).mono (fun x1 q1 v_1 H_1 x_1 r_1 => ?_) hw⟩
  refine ⟨some S, O, H0, ad, (he.ext' x_1), (Mn.wp w2).mono (fun x2 q2 v_2 H_2 x_2 r_2 => ?_) q1⟩
  have e2 := (he.ext' (x_1.trans x_2))
  have q : G.wp (f x1 x2) _ := q2
  refine ⟨S, OM M O ad, _, [E1 x1, E2 x2], rfl, e2.sOM M S rfl, e2.srs S rfl, e2.domM M, (.cons (r_1.ext x_2 (he.sOM M)) (.cons r_2 .nil)), hF x1 x2 _ (G.wp_mono (fun z q v' H' fi rk => ?_) _ q)⟩
  have x9 : Ext (some S) _ H' := ⟨fi.1, fun S' e => ⟨e2.srs S' e, fi.2 S' e⟩⟩
  obtain ⟨rk1, p, vs, rfl, hp, hp', rs⟩ := rk
  exact q p vs H' ((x_1.trans x_2).back hp) ((x_1.trans x_2).trans x9) hp' rs

theorem JE.gcall3 {α1 : Type} {α2 : Type} {α3 : Type} {E1 : α1 → D} {E2 : α2 → D} {E3 : α3 → D} {w1 : G α1} {w2 : G α2} {w3 : G α3} {e1 e2 e3 : Expr} {f : α1 → α2 → α3 → G (δ)} {G' : δ → D} {Fs : List D → (D → Prop) → Prop} (i : Nat) (hi : ρ[i]? = some .src) (hF : ∀ x1 x2 x3 P, (f x1 x2 x3).wp (fun r => P (G' r)) → Fs [E1 x1, E2 x2, E3 x3] P) (C : GCallOk X n Fs) (ha1 : JE X M e1 ρ E1 w1) (ha2 : JE X M e2 ρ E2 w2) (ha3 : JE X M e3 ρ E3 w3) (hN : X.N[i]? = some src := by rfl) (hv : Vis X.env.scope src := by first | exact Or.inl rfl | exact Or.inr (Or.inl rfl) | exact Or.inr (Or.inr rfl)) (hd : (src == ("__debug__" : Str)) = false := by decide) (hcd : (src == ("__classdict__" : Str)) = false := by decide) (hg : Gl X n := by rfl) (hdb : (n == ("__debug__" : Str)) = false := by decide) (hs0 : starEach [(.Name src p2), e1, e2, e3] X.env = (false, eval (.Name src p2) X.env) :: starEach [e1, e2, e3] X.env := by rfl) (hs1 : starEach [e1, e2, e3] X.env = (false, eval e1 X.env) :: starEach [e2, e3] X.env := by rfl) (hs2 : starEach [e2, e3] X.env = (false, eval e2 X.env) :: starEach [e3] X.env := by rfl) (hs3 : starEach [e3] X.env = (false, eval e3 X.env) :: starEach [] X.env := by rfl) (hpl : (backTo pos (starEach [e1, e2, e3] X.env)).any (·.1) = false := by rfl) :
    JE X M (.Call (.Name n p) [(.Name src p2), e1, e2, e3] [] pos) ρ G' (bd w1 fun x1 => (bd w2 fun x2 => (bd w3 fun x3 => f x1 x2 x3))) := by
  obtain ⟨k, fa, fd, ps, F, hr, hm, hk, hb⟩ := C
  refine ⟨⟨pe_weak (pe_call F hr hg hm hk hb .nil pass0 (pa_cons (pv i hN hv hd hcd) (pa_cons ha1.b.pe (pa_cons ha2.b.pe (pa_cons ha3.b.pe pa_nil hs3) hs2) hs1) hs0) hdb hs0 hpl) fun σ H Q ⟨sr, O, H0, ad, he, hw⟩ => ?_⟩⟩
  have es := he.at_ i
  rw [hi] at es
  obtain ⟨_, S, hS, hv0⟩ := es
  subst hS
  refine ⟨_, hv0, ?_⟩
  have hw := le3 (m := G) (f := fun x1 x2 x3 => f x1 x2 x3) (g := fun x1 x2 x3 => Wp.ofG (f x1 x2 x3)) (fun _ _ _ => Wp.Le.refl _) _ hw
  refine ⟨some S, O, H0, ad, he, (Mn.wp w1).mono (fun x1 q1 v_1 H_1 x_1 r_1 => ?_) hw⟩
  refine ⟨some S, O, H0, ad, (he.ext' x_1), (Mn.wp w2).mono (fun x2 q2 v_2 H_2 x_2 r_2 => ?_) q1⟩
  refine ⟨some S, O, H0, ad, (he.ext' (x_1.trans x_2)), (Mn.wp w3).mono (fun x3 q3 v_3 H_3 x_3 r_3 => ?_) q2⟩
  have e2 := (he.ext' ((x_1.trans x_2).trans x_3))
  have q : G.wp (f x1 x2 x3) _ := q3
  refine ⟨S, OM M O ad, _, [E1 x1, E2 x2, E3 x3], rfl, e2.sOM M S rfl, e2.srs S rfl, e2.domM M, (.cons ((r_1.ext x_2 (he.sOM M)).ext x_3 (he.sOM M)) (.cons (r_2.ext x_3 (he.sOM M)) (.cons r_3 .nil))), hF x1 x2 x3 _ (G.wp_mono (fun z q v' H' fi rk => ?_) _ q)⟩
  have x9 : Ext (some S) _ H' := ⟨fi.1, fun S' e => ⟨e2.srs S' e, fi.2 S' e⟩⟩
  exact q v' H' (((x_1.trans x_2).trans x_3).trans x9) rk.1

theorem JL.gcall3 {α1 : Type} {α2 : Type} {α3 : Type} {E1 : α1 → D} {E2 : α2 → D} {E3 : α3 → D} {w1 : G α1} {w2 : G α2} {w3 : G α3} {e1 e2 e3 : Expr} {f : α1 → α2 → α3 → G (List δ)} {G' : δ → D} {Fs : List D → (D → Prop) → Prop} (i : Nat) (hi : ρ[i]? = some .src) (hF : ∀ x1 x2 x3 P, (f x1 x2 x3).wp (fun r => P ((eL G') r)) → Fs [E1 x1, E2 x2, E3 x3] P) (C : GCallOk X n Fs) (ha1 : JE X M e1 ρ E1 w1) (ha2 : JE X M e2 ρ E2 w2) (ha3 : JE X M e3 ρ E3 w3) (hN : X.N[i]? = some src := by rfl) (hv : Vis X.env.scope src := by first | exact Or.inl rfl | exact Or.inr (Or.inl rfl) | exact Or.inr (Or.inr rfl)) (hd : (src == ("__debug__" : Str)) = false := by decide) (hcd : (src == ("__classdict__" : Str)) = false := by decide) (hg : Gl X n := by rfl) (hdb : (n == ("__debug__" : Str)) = false := by decide) (hs0 : starEach [(.Name src p2), e1, e2, e3] X.env = (false, eval (.Name src p2) X.env) :: starEach [e1, e2, e3] X.env := by rfl) (hs1 : starEach [e1, e2, e3] X.env = (false, eval e1 X.env) :: starEach [e2, e3] X.env := by rfl) (hs2 : starEach [e2, e3] X.env = (false, eval e2 X.env) :: starEach [e3] X.env := by rfl) (hs3 : starEach [e3] X.env = (false, eval e3 X.env) :: starEach [] X.env := by rfl) (hpl : (backTo pos (starEach [e1, e2, e3] X.env)).any (·.1) = false := by rfl) :
    JL X M (.Call (.Name n p) [(.Name src p2), e1, e2, e3] [] pos) ρ G' (bd w1 fun x1 => (bd w2 fun x2 => (bd w3 fun x3 => f x1 x2 x3))) := by
  obtain ⟨k, fa, fd, ps, F, hr, hm, hk, hb⟩ := C
  refine ⟨⟨pe_weak (pe_call F hr hg hm hk hb .nil pass0 (pa_cons (pv i hN hv hd hcd) (pa_cons ha1.b.pe (pa_cons ha2.b.pe (pa_cons ha3.b.pe pa_nil hs3) hs2) hs1) hs0) hdb hs0 hpl) fun σ H Q ⟨sr, O, H0, ad, he, hw⟩ => ?_⟩⟩
  have es := he.at_ i
  rw [hi] at es
  obtain ⟨_, S, hS, hv0⟩ := es
  subst hS
  refine ⟨_, hv0, ?_⟩
  have hw := le3 (m := G) (f := fun x1 x2 x3 => f x1 x2 x3) (g := fun x1 x2 x3 => Wp.ofG (f x1 x2 x3)) (fun _ _ _ => Wp.Le.refl _) _ hw
  refine ⟨some S, O, H0, ad, he, (Mn.wp w1).mono (fun x1 q1 v_1 H_1 x_1 r_1 => ?_) hw⟩
  refine ⟨some S, O, H0, ad, (he.ext' x_1), (Mn.wp w2).mono (fun x2 q2 v_2 H_2 x_2 r_2 => ?_) q1⟩
  refine ⟨some S, O, H0, ad, (he.ext' (x_1.trans x_2)), (Mn.wp w3).mono (fun x3 q3 v_3 H_3 x_3 r_3 => ?_) q2⟩
  have e2 := (he.ext' ((x_1.trans x_2).trans x_3))
  have q : G.wp (f x1 x2 x3) _ := q3
  refine ⟨S, OM M O ad, _, [E1 x1, E2 x2, E3 x3], rfl, e2.sOM M S rfl, e2.srs S rfl, e2.domM M, (.cons ((r_1.ext x_2 (he.sOM M)).ext x_3 (he.sOM M)) (.cons (r_2.ext x_3 (he.sOM M)) (.cons r_3 .nil))), hF x1 x2 x3 _ (G.wp_mono (fun z q v' H' fi rk => ?_) _ q)⟩
  have x9 : Ext (some S) _ H' := ⟨fi.1, fun S' e => ⟨e2.srs S' e, fi.2 S' e⟩⟩
  obtain ⟨rk1, p, vs, rfl, hp, hp', rs⟩ := rk
  exact q p vs H' (((x_1.trans x_2).trans x_3).back hp) (((x_1.trans x_2).trans x_3).trans x9) hp' rs

theorem JE.gcall4 {α1 : Type} {α2 : Type} {α3 : Type} {α4 : Type} {E1 : α1 → D} {E2 : α2 → D} {E3 : α3 → D} {E4 : α4 → D} {w1 : G α1} {w2 : G α2} {w3 : G α3} {w4 : G α4} {e1 e2 e3 e4 : Expr} {f : α1 → α2 → α3 → α4 → G (δ)} {G' : δ → D} {Fs : List D → (D → Prop) → Prop} (i : Nat) (hi : ρ[i]? = some .src) (hF : ∀ x1 x2 x3 x4 P, (f x1 x2 x3 x4).wp (fun r => P (G' r)) → Fs [E1 x1, E2 x2, E3 x3, E4 x4] P) (C : GCallOk X n Fs) (ha1 : JE X M e1 ρ E1 w1) (ha2 : JE X M e2 ρ E2 w2) (ha3 : JE X M e3 ρ E3 w3) (ha4 : JE X M e4 ρ E4 w4) (hN : X.N[i]? = some src := by rfl) (hv : Vis X.env.scope src := by first | exact Or.inl rfl | exact Or.inr (Or.inl rfl) | exact Or.inr (Or.inr rfl)) (hd : (src == ("__debug__" : Str)) = false := by decide) (hcd : (src == ("__classdict__" : Str)) = false := by decide) (hg : Gl X n := by rfl) (hdb : (n == ("__debug__" : Str)) = false := by decide) (hs0 : starEach [(.Name src p2), e1, e2, e3, e4] X.env = (false, eval (.Name src p2) X.env) :: starEach [e1, e2, e3, e4] X.env := by rfl) (hs1 : starEach [e1, e2, e3, e4] X.env = (false, eval e1 X.env) :: starEach [e2, e3, e4] X.env := by rfl) (hs2 : starEach [e2, e3, e4] X.env = (false, eval e2 X.env) :: starEach [e3, e4] X.env := by rfl) (hs3 : starEach [e3, e4] X.env = (false, eval e3 X.env) :: starEach [e4] X.env := by rfl) (hs4 : starEach [e4] X.env = (false, eval e4 X.env) :: starEach [] X.env := by rfl) (hpl : (backTo pos (starEach [e1, e2, e3, e4] X.env)).any (·.1) = false := by rfl) :
    JE X M (.Call (.Name n p) [(.Name src p2), e1, e2, e3, e4] [] pos) ρ G' (bd w1 fun x1 => (bd w2 fun x2 => (bd w3 fun x3 => (bd w4 fun x4 => f x1 x2 x3 x4)))) := by
  obtain ⟨k, fa, fd, ps, F, hr, hm, hk, hb⟩ := C
  refine ⟨⟨pe_weak (pe_call F hr hg hm hk hb .nil pass0 (pa_cons (pv i hN hv hd hcd) (pa_cons ha1.b.pe (pa_cons ha2.b.pe (pa_cons ha3.b.pe (pa_cons ha4.b.pe pa_nil hs4) hs3) hs2) hs1) hs0) hdb hs0 hpl) fun σ H Q ⟨sr, O, H0, ad, he, hw⟩ => ?_⟩⟩
  have es := he.at_ i
  rw [hi] at es
  obtain ⟨_, S, hS, hv0⟩ := es
  subst hS
  refine ⟨_, hv0, ?_⟩
  have hw := le4 (m := G) (f := fun x1 x2 x3 x4 => f x1 x2 x3 x4) (g := fun x1 x2 x3 x4 => Wp.ofG (f x1 x2 x3 x4)) (fun _ _ _ _ => Wp.Le.refl _) _ hw
  refine ⟨some S, O, H0, ad, he, (Mn.wp w1).mono (fun x1 q1 v_1 H_1 x_1 r_1 => ?_) hw⟩
  refine ⟨some S, O, H0, ad, (he.ext' x_1), (Mn.wp w2).mono (fun x2 q2 v_2 H_2 x_2 r_2 => ?_) q1⟩
  refine ⟨some S, O, H0, ad, (he.ext' (x_1.trans x_2)), (Mn.wp w3).mono (fun x3 q3 v_3 H_3 x_3 r_3 => ?_) q2⟩
  refine ⟨some S, O, H0, ad, (he.ext' ((x_1.trans x_2).trans x_3)), (Mn.wp w4).mono (fun x4 q4 v_4 H_4 x_4 r_4 => ?_) q3⟩
  have e2 := (he.ext' (((x_1.trans x_2).trans x_3).trans x_4))
  have q : G.wp (f x1 x2 x3 x4) _ := q4
  refine ⟨S, OM M O ad, _, [E1 x1, E2 x2, E3 x3, E4 x4], rfl, e2.sOM M S rfl, e2.srs S rfl, e2.domM M, (.cons (((r_1.ext x_2 (he.sOM M)).ext x_3 (he.sOM M)).ext x_4 (he.sOM M)) (.cons ((r_2.ext x_3 (he.sOM M)).ext x_4 (he.sOM M)) (.cons (r_3.ext x_4 (he.sOM M)) (.cons r_4 .nil)))), hF x1 x2 x3 x4 _ (G.wp_mono (fun z q v' H' fi rk => ?_) _ q)⟩
  have x9 : Ext (some S) _ H' := ⟨fi.1, fun S' e => ⟨e2.srs S' e, fi.2 S' e⟩⟩
  exact q v' H' ((((x_1.trans x_2).trans x_3).trans x_4).trans x9) rk.1

theorem JL.gcall4 {α1 : Type} {α2 : Type} {α3 : Type} {α4 : Type} {E1 : α1 → D} {E2 : α2 → D} {E3 : α3 → D} {E4 : α4 → D} {w1 : G α1} {w2 : G α2} {w3 : G α3} {w4 : G α4} {e1 e2 e3 e4 : Expr} {f : α1 → α2 → α3 → α4 → G (List δ)} {G' : δ → D} {Fs : List D → (D → Prop) → Prop} (i : Nat) (hi : ρ[i]? = some .src) (hF : ∀ x1 x2 x3 x4 P, (f x1 x2 x3 x4).wp (fun r => P ((eL G') r)) → Fs [E1 x1, E2 x2, E3 x3, E4 x4] P) (C : GCallOk X n Fs) (ha1 : JE X M e1 ρ E1 w1) (ha2 : JE X M e2 ρ E2 w2) (ha3 : JE X M e3 ρ E3 w3) (ha4 : JE X M e4 ρ E4 w4) (hN : X.N[i]? = some src := by rfl) (hv : Vis X.env.scope src := by first | exact Or.inl rfl | exact Or.inr (Or.inl rfl) | exact Or.inr (Or.inr rfl)) (hd : (src == ("__debug__" : Str)) = false := by decide) (hcd : (src == ("__classdict__" : Str)) = false := by decide) (hg : Gl X n := by rfl) (hdb : (n == ("__debug__" : Str)) = false := by decide) (hs0 : starEach [(.Name src p2), e1, e2, e3, e4] X.env = (false, eval (.Name src p2) X.env) :: starEach [e1, e2, e3, e4] X.env := by rfl) (hs1 : starEach [e1, e2, e3, e4] X.env = (false, eval e1 X.env) :: starEach [e2, e3, e4] X.env := by rfl) (hs2 : starEach [e2, e3, e4] X.env = (false, eval e2 X.env) :: starEach [e3, e4] X.env := by rfl) (hs3 : starEach [e3, e4] X.env = (false, eval e3 X.env) :: starEach [e4] X.env := by rfl) (hs4 : starEach [e4] X.env = (false, eval e4 X.env) :: starEach [] X.env := by rfl) (hpl : (backTo pos (starEach [e1, e2, e3, e4] X.env)).any (·.1) = false := by rfl) :
    JL X M (.Call (.Name n p) [(.Name src p2), e1, e2, e3, e4] [] pos) ρ G' (bd w1 fun x1 => (bd w2 fun x2 => (bd w3 fun x3 => (bd w4 fun x4 => f x1 x2 x3 x4)))) := by
  obtain ⟨k, fa, fd, ps, F, hr, hm, hk, hb⟩ := C
  refine ⟨⟨pe_weak (pe_call F hr hg hm hk hb .nil pass0 (pa_cons (pv i hN hv hd hcd) (pa_cons ha1.b.pe (pa_cons ha2.b.pe (pa_cons ha3.b.pe (pa_cons ha4.b.pe pa_nil hs4) hs3) hs2) hs1) hs0) hdb hs0 hpl) fun σ H Q ⟨sr, O, H0, ad, he, hw⟩ => ?_⟩⟩
  have es := he.at_ i
  rw [hi] at es
  obtain ⟨_, S, hS, hv0⟩ := es
  subst hS
  refine ⟨_, hv0, ?_⟩
  have hw := le4 (m := G) (f := fun x1 x2 x3 x4 => f x1 x2 x3 x4) (g := fun x1 x2 x3 x4 => Wp.ofG (f x1 x2 x3 x4)) (fun _ _ _ _ => Wp.Le.refl _) _ hw
  refine ⟨some S, O, H0, ad, he, (Mn.wp w1).mono (fun x1 q1 v_1 H_1 x_1 r_1 => ?_) hw⟩
  refine ⟨some S, O, H0, ad, (he.ext' x_1), (Mn.wp w2).mono (fun x2 q2 v_2 H_2 x_2 r_2 => ?_) q1⟩
  refine ⟨some S, O, H0, ad, (he.ext' (x_1.trans x_2)), (Mn.wp w3).mono (fun x3 q3 v_3 H_3 x_3 r_3 => ?_) q2⟩
  refine ⟨some S, O, H0, ad, (he.ext' ((x_1.trans x_2).trans x_3)), (Mn.wp w4).mono (fun x4 q4 v_4 H_4 x_4 r_4 => ?_) q3⟩
  have e2 := (he.ext' (((x_1.trans x_2).trans x_3).trans x_4))
  have q : G.wp (f x1 x2 x3 x4) _ := q4
  refine ⟨S, OM M O ad, _, [E1 x1, E2 x2, E3 x3, E4 x4], rfl, e2.sOM M S rfl, e2.srs S rfl, e2.domM M, (.cons (((r_1.ext x_2 (he.sOM M)).ext x_3 (he.sOM M)).ext x_4 (he.sOM M)) (.cons ((r_2.ext x_3 (he.sOM M)).ext x_4 (he.sOM M)) (.cons (r_3.ext x_4 (he.sOM M)) (.cons r_4 .nil)))), hF x1 x2 x3 x4 _ (G.wp_mono (fun z q v' H' fi rk => ?_) _ q)⟩
  have x9 : Ext (some S) _ H' := ⟨fi.1, fun S' e => ⟨e2.srs S' e, fi.2 S' e⟩⟩
  obtain ⟨rk1, p, vs, rfl, hp, hp', rs⟩ := rk
  exact q p vs H' ((((x_1.trans x_2).trans x_3).trans x_4).back hp) ((((x_1.trans x_2).trans x_3).trans x_4).trans x9) hp' rs


/-- _law_pick(source, n) -/
def F_pick : List D → (D → Prop) → Prop := fun ds P => ∃ n : Int, ds = [eI n] ∧ (pickM n).wp fun r => P (eI r)
theorem JE.pick {w1 : G Int} {e1 : Expr} (i : Nat) (hi : ρ[i]? = some .src) (C : GCallOk X "_law_pick" F_pick) (ha1 : JE X M e1 ρ eI w1) (hN : X.N[i]? = some src := by rfl) (hv : Vis X.env.scope src := by first | exact Or.inl rfl | exact Or.inr (Or.inl rfl) | exact Or.inr (Or.inr rfl)) (hd : (src == ("__debug__" : Str)) = false := by decide) (hcd : (src == ("__classdict__" : Str)) = false := by decide) (hg : Gl X "_law_pick" := by rfl)
    (hs0 : starEach [(.Name src p2), e1] X.env = (false, eval (.Name src p2) X.env) :: starEach [e1] X.env := by rfl) (hs1 : starEach [e1] X.env = (false, eval e1 X.env) :: starEach [] X.env := by rfl) (hpl : (backTo pos (starEach [e1] X.env)).any (·.1) = false := by rfl) :
    JE X M (.Call (.Name "_law_pick" p) [(.Name src p2), e1] [] pos) ρ eI (bd w1 fun x => pickM x) :=
  JE.gcall1 (E1 := eI) (f := pickM) (G' := eI) i hi (fun x P h => ⟨x, rfl, h⟩) C ha1 hN hv hd hcd hg (by decide) hs0 hs1 hpl
end
end
end Wk

namespace Wk
open PySem PySem.Spec PyProof.Rows L2

/-! ### o.f as a target -/
def gFld (K : PySem.W.Frag) (to : TE) (f : Str) : TG := fun v σ H Q => to σ H fun x H1 => ∃ a C dx fs, x = .ref a ∧ H1 a = some (.ins C dx fs) ∧ Cls K C ∧ NoAttr K C f ∧ fs.length < 1000 ∧ Q σ (upd H1 a (.ins C dx (putF f v fs)))
theorem pg_fld {X : Cx} {o : Expr} {f : Str} {pos : Pos} {to : TE} (ho : PE X o to)
    (ha : ∀ v, assign (.Attribute o f pos) X.env v = (do
      let ov ← holding [v] (eval o X.env)
      standAt pos.atName
      holding [v, ov] (setAttr ov f v)
      release [v, ov] []) := by intro _; rfl) : PG X (.Attribute o f pos) (gFld X.K to f) := by
  refine ⟨fun pins s σ H v u Q I r h => ?_⟩
  rw [ha]
  refine wpAny_bind (wpAny_holding (thn (ho.run pins s σ H _ I h) fun ov s1 ⟨x, H1, I1, r1, a, C, dx, fs, ex, ea, c, n, l, q2⟩ => ?_))
  subst ex
  obtain rfl : ov = Value.ref a := r1
  refine wpAny_bind (wpAny_standAt (wpAny_bind (wpAny_holding (setattr_ok I1 ea c n l r fun s3 I3 => ?_))))
  exact wpAny_release ⟨σ, _, I3, q2⟩
/-! ### fields put -/
def putN (f : Str) : List Str → List Str
  | [] => [f]
  | g :: r => if g = f then g :: r else g :: putN f r
def putDs (f : Str) (d : D) : List Str → List D → List D
  | [], _ => [d]
  | g :: r, x :: ds => if g = f then d :: ds else x :: putDs f d r ds
  | _ :: _, [] => []
theorem putF_names (f : Str) (v : V) : ∀ fs : List (Str × V), (putF f v fs).map (·.1) = putN f (fs.map (·.1))
  | [] => rfl
  | (g, x) :: r => by
    show (if g = f then (g, v) :: r else (g, x) :: putF f v r).map (·.1) = (if g = f then g :: r.map (·.1) else g :: putN f (r.map (·.1)))
    split
    · rfl
    · rw [List.map_cons, putF_names f v r]
theorem putF_reps {K : PySem.W.Frag} {mg : Str → Option Value} {O : Addr → Prop} {H : Hp} {f : Str} {v : V} {d : D} (rv : Rep K mg O H v d) : ∀ (fs : List (Str × V)) (ds : List D), Reps K mg O H (fs.map (·.2)) ds → Reps K mg O H ((putF f v fs).map (·.2)) (putDs f d (fs.map (·.1)) ds)
  | [], ds, h => .cons rv .nil
  | (g, x) :: r, ds, h => by
    rw [List.map_cons] at h
    cases h with
    | cons h1 h2 =>
      rename_i d0 ds0
      show Reps K mg O H ((if g = f then (g, v) :: r else (g, x) :: putF f v r).map (·.2)) (if g = f then d :: ds0 else d0 :: putDs f d (r.map (·.1)) ds0)
      split
      · exact .cons rv h2
      · exact .cons h1 (putF_reps rv r _ h2)
theorem putN_new {f : Str} : ∀ {ns : List Str}, ns.contains f = false → putN f ns = ns ++ [f]
  | [], _ => rfl
  | g :: r, h => by
    rw [List.contains_cons, Bool.or_eq_false_iff] at h
    show (if g = f then _ else _) = _
    rw [if_neg (fun z => by rw [z] at h; simp at h), putN_new h.2]
    rfl
theorem putDs_new {f : Str} {d : D} : ∀ {ns : List Str} {ds : List D}, ns.contains f = false → ns.length = ds.length → putDs f d ns ds = ds ++ [d]
  | [], [], _, _ => rfl
  | g :: r, x :: ds, h, hl => by
    rw [List.contains_cons, Bool.or_eq_false_iff] at h
    show (if g = f then _ else _) = _
    rw [if_neg (fun z => by rw [z] at h; simp at h), putDs_new h.2 (by simpa using hl)]
    rfl
theorem putN_set {f : Str} : ∀ {ns : List Str} {i : Nat}, ns.findIdx? (fun x => f == x) = some i → putN f ns = ns
  | [], _, h => by simp at h
  | g :: r, i, h => by
    show (if g = f then _ else _) = _
    rw [List.findIdx?_cons] at h
    split
    · rfl
    · rename_i hg
      rw [if_neg (fun z => hg (by simpa using (beq_iff_eq.mp z).symm))] at h
      obtain ⟨j, hj, _⟩ := Option.map_eq_some_iff.mp h
      rw [putN_set hj]
theorem putDs_set {f : Str} {d : D} : ∀ {ns : List Str} {ds : List D} {i : Nat}, ns.findIdx? (fun x => f == x) = some i → ns.length = ds.length → putDs f d ns ds = ds.set i d
  | [], _, _, h, _ => by simp at h
  | g :: r, [], _, _, hl => by simp at hl
  | g :: r, x :: ds, i, h, hl => by
    show (if g = f then _ else _) = _
    rw [List.findIdx?_cons] at h
    split
    · rename_i hg
      rw [if_pos (by rw [hg]; simp)] at h
      cases h
      rfl
    · rename_i hg
      rw [if_neg (fun z => hg (by simpa using (beq_iff_eq.mp z).symm))] at h
      obtain ⟨j, hj, rfl⟩ := Option.map_eq_some_iff.mp h
      rw [putDs_set hj (by simpa using hl)]
      rfl
/-! ### an object of one's own -/
theorem ob_at {K : PySem.W.Frag} {mg : Str → Option Value} {sr : Option Addr} {O : Addr → Prop} {H0 H : Hp} {σ : L2.St} {ad : Nat → Option Addr} {ρ : List Slot} (he : Env K mg sr O H0 H σ ρ ad) {i : Nat} {p : Addr} {c : Str} {ns : List Str} {ds : List D} (h : ρ[i]? = some (.ob p c ns ds)) :
    ∃ C dx fs, ad i = some p ∧ σ[i]? = some (some (.ref p)) ∧ H p = some (.ins C dx fs) ∧ mg c = some (.ref C) ∧ fs.map (·.1) = ns ∧ Reps K mg (OO O ad) H (fs.map (·.2)) ds := by
  have := he.at_ i
  rw [h] at this
  exact this
theorem Env.writeOb {K : PySem.W.Frag} {mg : Str → Option Value} {sr : Option Addr} {O : Addr → Prop} {H0 H : Hp} {σ : L2.St} {ρ : List Slot} {ad : Nat → Option Addr} (e : Env K mg sr O H0 H σ ρ ad) {i : Nat} {p : Addr} {c : Str} {ns : List Str} {ds : List D} (hi : ρ[i]? = some (.ob p c ns ds)) {C dx : Addr} {fs : List (Str × V)} {ns' : List Str} {ds' : List D} (hC : mg c = some (.ref C)) (hn : fs.map (·.1) = ns') (r : Reps K mg (OO O ad) H (fs.map (·.2)) ds') : Env K mg sr O H0 (L2.upd H p (.ins C dx fs)) σ (ρ.set i (.ob p c ns' ds')) ad := by
  obtain ⟨C0, dx0, fs0, e1, e2, e3, e4, e5, e6⟩ := ob_at e hi
  have op : OO O ad p := .inr ⟨i, e1⟩
  have mu : Mut (some (HO.ins C0 dx0 fs0)) := trivial
  have nsr : sr ≠ some p := fun z => e.dis i p e1 (e.sO p z)
  have il : i < ρ.length := (List.getElem?_eq_some_iff.mp hi).1
  have hmu : ∀ q, Mut (H q) → Mut (L2.upd H p (.ins C dx fs) q) := fun q h => by
    by_cases hq : q = p
    · rw [hq, upd_same]; trivial
    · rw [upd_ne hq]; exact h
  refine ⟨by rw [List.length_set]; exact e.len, fun j => ?_, e.inj, e.frs, fun j q h => hmu q (e.mu j q h), fun S h => ⟨e.sO S h, ?_⟩, fun q h => hmu q (e.dom q h), e.dis, fun a o h n => ?_⟩
  · by_cases hj : j = i
    · subst hj
      rw [List.getElem?_set_self (by exact il)]
      exact ⟨C, dx, fs, e1, e2, upd_same, hC, hn, r.upd op e3 mu⟩
    · rw [List.getElem?_set_ne (fun z => hj z.symm)]
      have ej := e.at_ j
      cases hs : ρ[j]? with
      | none => rw [hs] at ej; exact ej
      | some s =>
        rw [hs] at ej
        cases s with
        | u => exact ej
        | d x =>
          obtain ⟨h1, w, h2, h3⟩ := ej
          exact ⟨h1, w, h2, h3.upd op e3 mu⟩
        | l xs =>
          obtain ⟨q, vs, h1, h2, h3, h4⟩ := ej
          have : q ≠ p := fun z => hj (e.inj j i p (z ▸ h1) e1)
          exact ⟨q, vs, h1, h2, by rw [upd_ne this]; exact h3, h4.upd op e3 mu⟩
        | w x =>
          obtain ⟨q, u, h1, h2, h3, h4⟩ := ej
          have : q ≠ p := fun z => hj (e.inj j i p (z ▸ h1) e1)
          exact ⟨q, u, h1, h2, by rw [upd_ne this]; exact h3, h4.upd op e3 mu⟩
        | ob q c' ns2 ds2 =>
          obtain ⟨C2, dx2, fs2, h1, h2, h3, h4, h5, h6⟩ := ej
          have : q ≠ p := fun z => hj (e.inj j i p (z ▸ h1) e1)
          exact ⟨C2, dx2, fs2, h1, h2, by rw [upd_ne this]; exact h3, h4, h5, h6.upd op e3 mu⟩
        | src => exact ej
  · obtain ⟨a, b, z⟩ := e.srs S h
    exact ⟨a, b, by rw [upd_ne (fun q => nsr (by rw [h, q]))]; exact z⟩
  · have := e.ext a o h n
    rw [upd_ne (fun z => by rw [z] at h; rw [e.frs i p e1] at h; cases h)]
    exact this
section
variable {m : Type → Type} [Mn m] {α β γ δ κ τ ω : Type}
variable {X : Cx} {M : Bool} {ρ : List Slot} {pos p2 p3 apos cpos : Pos} {n c f : Str} {ns : List Str} {ds : List D} {ex : Expr} {F : γ → D} {x : Addr}
theorem JE.varOb (i : Nat) {E : α → D} {y : α} (h : ρ[i]? = some (.ob x c ns ds)) (hy : E y = .o c ns ds) (hN : X.N[i]? = some n := by rfl) (hv : Vis X.env.scope n := by first | exact Or.inl rfl | exact Or.inr (Or.inl rfl) | exact Or.inr (Or.inr rfl)) (hd : (n == ("__debug__" : Str)) = false := by decide) (hcd : (n == ("__classdict__" : Str)) = false := by decide) :
    JE X false (.Name n p2) ρ E (rt (m := m) y) := ⟨⟨pe_weak (pv i hN hv hd hcd) fun σ H Q ⟨sr, O, H0, ad, he, hw⟩ => by
  obtain ⟨C, dx, fs, e1, e2, e3, e4, e5, e6⟩ := ob_at he h
  refine ⟨_, e2, lep _ hw (.ref x) H (Ext.refl he.srs) ?_⟩
  rw [hy]
  exact .o e3 (he.dis i x e1) e4 e5 (e6.sub fun a h => .inl h)⟩⟩
theorem JE.fldOb (i j : Nat) {y : γ} (h : ρ[i]? = some (.ob x c ns ds)) (hj : ns.findIdx? (fun z => f == z) = some j) (hy : ds[j]? = some (F y)) (hc : ∀ C, X.mg c = some (.ref C) → Cls X.K C ∧ NoAttr X.K C f) (hN : X.N[i]? = some n := by rfl) (hv : Vis X.env.scope n := by first | exact Or.inl rfl | exact Or.inr (Or.inl rfl) | exact Or.inr (Or.inr rfl)) (hd : (n == ("__debug__" : Str)) = false := by decide) (hcd : (n == ("__classdict__" : Str)) = false := by decide)
    (hb : attributeBase (.Name n p2) f X.env (eval (.Name n p2) X.env) = eval (.Name n p2) X.env := by rfl) : JE X M (.Attribute (.Name n p2) f pos) ρ F (rt (m := m) y) := ⟨⟨pe_weak (pe_fld (pv i hN hv hd hcd) hb) fun σ H Q ⟨sr, O, H0, ad, he, hw⟩ => by
  obtain ⟨C, dx, fs, e1, e2, e3, e4, e5, e6⟩ := ob_at he h
  rw [← e5] at hj
  obtain ⟨u, l1, l2⟩ := lookup_at hj
  obtain ⟨d, d1, d2⟩ := e6.get' l2
  rw [hy] at d1
  cases d1
  exact ⟨_, e2, x, C, dx, fs, u, rfl, e3, (hc _ e4).1, (hc _ e4).2, l1, lep _ hw u H (Ext.refl he.srs) (d2.sub OM.le)⟩⟩⟩
section
variable {rest : List Stmt} {Eb : β → D} {ρx : Option (α → List Slot)} {ρl : ω → List Slot} {e : κ → Fl α ω β}
theorem JS.fldG (i : Nat) {w : m γ} {k : γ → m κ} (h : ρ[i]? = some (.ob x c ns ds)) (hc : ∀ C, X.mg c = some (.ref C) → Cls X.K C ∧ NoAttr X.K C f) (hl : ns.length < 1000) (ha : JE X true ex ρ F w) (hr : ∀ y, JS X rest (ρ.set i (.ob x c (putN f ns) (putDs f (F y) ns ds))) Eb ρx ρl e (k y)) (hN : X.N[i]? = some n := by rfl) (hv : Vis X.env.scope n := by first | exact Or.inl rfl | exact Or.inr (Or.inl rfl) | exact Or.inr (Or.inr rfl)) (hd : (n == ("__debug__" : Str)) = false := by decide) (hcd : (n == ("__classdict__" : Str)) = false := by decide)
    (hs : swapsWith ex (some (.Attribute (.Name n p2) f p3)) pos.line X.env = pure false := by rfl) : JS X (.Assign [.Attribute (.Name n p2) f p3] ex pos :: rest) ρ Eb ρx ρl e (bd w k) :=
  ⟨pss_weak (pss_cons (ps_fld (pv i hN hv hd hcd) ha.b.pe hs) (pss_ex fun y => (hr y).ps)) fun Dd σ H ⟨sr, O, H0, ad, he, hw⟩ => (by
    refine ⟨sr, O, H0, ad, he, (Mn.wp w).mono (fun y q v H1 x1 r => ?_) (bdk hw)⟩
    have he1 := he.ext' x1
    obtain ⟨C, dx, fs, e1, e2, e3, e4, e5, e6⟩ := ob_at he1 h
    refine ⟨.ref x, e2, x, C, dx, fs, rfl, e3, (hc _ e4).1, (hc _ e4).2, ?_, y, sr, O, H0, ad, he1.writeOb h e4 ?_ ?_, q⟩
    · have : fs.length = ns.length := by rw [← e5, List.length_map]
      rw [this]; exact hl
    · rw [putF_names, e5]
    · rw [← e5]; exact putF_reps r fs ds e6), fun z => nn_bd fun y => (hr y).nn z⟩
/-- self.f = e, a new attribute -/
theorem JS.fldN (i : Nat) {w : m γ} {k : γ → m κ} (h : ρ[i]? = some (.ob x c ns ds)) (hf : (ns.contains f = false ∧ ns.length = ds.length) ∧ ns.length < 1000) (hc : ∀ C, X.mg c = some (.ref C) → Cls X.K C ∧ NoAttr X.K C f) (ha : JE X true ex ρ F w) (hr : ∀ y, JS X rest (ρ.set i (.ob x c (ns ++ [f]) (ds ++ [F y]))) Eb ρx ρl e (k y)) (hN : X.N[i]? = some n := by rfl) (hv : Vis X.env.scope n := by first | exact Or.inl rfl | exact Or.inr (Or.inl rfl) | exact Or.inr (Or.inr rfl)) (hd : (n == ("__debug__" : Str)) = false := by decide) (hcd : (n == ("__classdict__" : Str)) = false := by decide)
    (hs : swapsWith ex (some (.Attribute (.Name n p2) f p3)) pos.line X.env = pure false := by rfl) : JS X (.Assign [.Attribute (.Name n p2) f p3] ex pos :: rest) ρ Eb ρx ρl e (bd w k) :=
  JS.fldG i h hc hf.2 ha (fun y => by rw [putN_new hf.1.1, putDs_new hf.1.1 hf.1.2]; exact hr y) hN hv hd hcd hs
/-- .. one that is there -/
theorem JS.fldS (i j : Nat) {w : m γ} {k : γ → m κ} (h : ρ[i]? = some (.ob x c ns ds)) (hf : (ns.findIdx? (fun z => f == z) = some j ∧ ns.length = ds.length) ∧ ns.length < 1000) (hc : ∀ C, X.mg c = some (.ref C) → Cls X.K C ∧ NoAttr X.K C f) (ha : JE X true ex ρ F w) (hr : ∀ y, JS X rest (ρ.set i (.ob x c ns (ds.set j (F y)))) Eb ρx ρl e (k y)) (hN : X.N[i]? = some n := by rfl) (hv : Vis X.env.scope n := by first | exact Or.inl rfl | exact Or.inr (Or.inl rfl) | exact Or.inr (Or.inr rfl)) (hd : (n == ("__debug__" : Str)) = false := by decide) (hcd : (n == ("__classdict__" : Str)) = false := by decide)
    (hs : swapsWith ex (some (.Attribute (.Name n p2) f p3)) pos.line X.env = pure false := by rfl) : JS X (.Assign [.Attribute (.Name n p2) f p3] ex pos :: rest) ρ Eb ρx ρl e (bd w k) :=
  JS.fldG i h hc hf.2 ha (fun y => by rw [putN_set hf.1.1, putDs_set hf.1.1 hf.1.2]; exact hr y) hN hv hd hcd hs
end
end

/-! ### dicts of ints -/
def eM {α : Type} (E : α → D) : List (Int × α) → D := fun xs => .d (xs.map fun p => Sum.inl p.1) (xs.map fun p => E p.2)
def getM {α : Type} (xs : List (Int × α)) (k : Int) : Option α := xs.lookup k
def putM {α : Type} (xs : List (Int × α)) (k : Int) (v : α) : List (Int × α) := if (xs.any fun p => decide (p.1 = k)) = true then xs.map (fun p => if p.1 = k then (p.1, v) else p) else xs ++ [(k, v)]
def mergeM {α : Type} (xs : List (Int × α)) : List (Int × α) := xs.foldl (fun acc p => putM acc p.1 p.2) []
section
variable {α : Type} {E : α → D} {K : PySem.W.Frag} {mg : Str → Option Value} {O : Addr → Prop} {H : Hp}
/-- the items -/
inductive RepsM (K : PySem.W.Frag) (mg : Str → Option Value) (O : Addr → Prop) (H : Hp) (E : α → D) : List (Key × V) → List (Int × α) → Prop
  | nil : RepsM K mg O H E [] []
  | cons {v : V} {kvs : List (Key × V)} {k : Int} {x : α} {xs : List (Int × α)} : Rep K mg O H v (E x) → RepsM K mg O H E kvs xs → RepsM K mg O H E ((Sum.inl k, v) :: kvs) ((k, x) :: xs)
theorem RepsM.of : ∀ {xs : List (Int × α)} {kvs : List (Key × V)}, kvs.map (·.1) = xs.map (fun p => (Sum.inl p.1 : Key)) → Reps K mg O H (kvs.map (·.2)) (xs.map fun p => E p.2) → RepsM K mg O H E kvs xs
  | [], [], _, _ => .nil
  | [], _ :: _, h, _ => by cases h
  | _ :: _, [], h, _ => by cases h
  | (k, x) :: xs, (k', v) :: kvs, h, r => by
    rw [List.map_cons, List.map_cons] at h r
    injection h with h1 h2
    cases r with
    | cons r1 r2 =>
      have h1 : k' = Sum.inl k := h1
      subst h1
      exact .cons r1 (RepsM.of h2 r2)
theorem RepsM.keys : ∀ {xs : List (Int × α)} {kvs : List (Key × V)}, RepsM K mg O H E kvs xs → kvs.map (·.1) = xs.map fun p => (Sum.inl p.1 : Key)
  | _, _, .nil => rfl
  | _, _, .cons _ t => by rw [List.map_cons, List.map_cons, t.keys]
theorem RepsM.vals : ∀ {xs : List (Int × α)} {kvs : List (Key × V)}, RepsM K mg O H E kvs xs → Reps K mg O H (kvs.map (·.2)) (xs.map fun p => E p.2)
  | _, _, .nil => .nil
  | _, _, .cons r t => .cons r t.vals
theorem RepsM.get {k : Int} {y : α} : ∀ {xs : List (Int × α)} {kvs : List (Key × V)}, RepsM K mg O H E kvs xs → xs.lookup k = some y → ∃ v, valV kvs (Sum.inl k) = some v ∧ Rep K mg O H v (E y)
  | _, _, .nil, h => by cases h
  | _, _, .cons (k := k') (v := v) (x := x) r t, h => by
    rw [List.lookup_cons] at h
    by_cases hk : k = k'
    · subst hk
      rw [beq_self_eq_true] at h
      cases h
      exact ⟨v, valV_pos rfl, r⟩
    · rw [beq_false_of_ne hk] at h
      obtain ⟨u, h1, h2⟩ := t.get h
      exact ⟨u, by rw [valV_neg (fun z => hk (Sum.inl.inj z).symm)]; exact h1, h2⟩
theorem RepsM.any {k : Int} : ∀ {xs : List (Int × α)} {kvs : List (Key × V)}, RepsM K mg O H E kvs xs → (kvs.any fun kv => decide (kv.1 = Sum.inl k)) = xs.any fun p => decide (p.1 = k)
  | _, _, .nil => rfl
  | _, _, .cons (k := k') r t => by
    rw [List.any_cons, List.any_cons, t.any]
    congr 1
    by_cases h : k' = k
    · rw [decide_eq_true h, decide_eq_true (by rw [h])]
    · rw [decide_eq_false h, decide_eq_false (fun z => h (Sum.inl.inj z))]
theorem RepsM.mapSet {k : Int} {u : V} {y : α} (ru : Rep K mg O H u (E y)) : ∀ {xs : List (Int × α)} {kvs : List (Key × V)}, RepsM K mg O H E kvs xs → RepsM K mg O H E (kvs.map fun kv => if kv.1 = Sum.inl k then (kv.1, u) else kv) (xs.map fun p => if p.1 = k then (p.1, y) else p)
  | _, _, .nil => .nil
  | _, _, .cons (k := k') r t => by
    rw [List.map_cons, List.map_cons]
    by_cases h : k' = k
    · rw [if_pos h, if_pos (by rw [h])]
      exact .cons ru (t.mapSet ru)
    · rw [if_neg h, if_neg (fun z => h (Sum.inl.inj z))]
      exact .cons r (t.mapSet ru)
theorem RepsM.app {k : Int} {u : V} {y : α} (ru : Rep K mg O H u (E y)) : ∀ {xs : List (Int × α)} {kvs : List (Key × V)}, RepsM K mg O H E kvs xs → RepsM K mg O H E (kvs ++ [(Sum.inl k, u)]) (xs ++ [(k, y)])
  | _, _, .nil => .cons ru .nil
  | _, _, .cons r t => .cons r (t.app ru)
theorem RepsM.put {k : Int} {u : V} {y : α} (ru : Rep K mg O H u (E y)) {xs : List (Int × α)} {kvs : List (Key × V)} (h : RepsM K mg O H E kvs xs) : RepsM K mg O H E (putK kvs (Sum.inl k) u) (putM xs k y) := by
  unfold putK putM
  rw [h.any]
  split
  · exact h.mapSet ru
  · exact h.app ru
theorem RepsM.merge : ∀ {more : List (Int × α)} {rs : List (Key × V)} {xs : List (Int × α)} {kvs : List (Key × V)}, RepsM K mg O H E rs more → RepsM K mg O H E kvs xs → RepsM K mg O H E (mergeK kvs rs) (more.foldl (fun acc p => putM acc p.1 p.2) xs)
  | _, _, _, _, .nil, h => h
  | _, _, _, _, .cons (k := k') r t, h => by
    have := RepsM.merge t (RepsM.put (k := k') r h)
    exact this
theorem Rep.dict {v : V} {xs : List (Int × α)} (h : Rep K mg O H v (eM E xs)) : ∃ a kvs, v = .ref a ∧ H a = some (.dK kvs) ∧ ¬ O a ∧ RepsM K mg O H E kvs xs := by
  cases h with
  | d h1 h2 h3 h4 => exact ⟨_, _, rfl, h1, h2, RepsM.of h3 h4⟩
end
section
variable {m : Type → Type} [Mn m] {α β : Type}
variable {X : Cx} {M : Bool} {ρ : List Slot} {pos p : Pos} {a b : Expr} {E : α → D}
/-- d[k] -/
theorem JE.getM {wa : m (List (Int × α))} {wb : m Int} (hu : X.A.units + 1 < cLine) (ha : JE X M a ρ (eM E) wa) (hb : JE X false b ρ eI wb) (hs : NoSl b := by exact fun _ _ => rfl) : JE X M (.Subscript a b pos) ρ E (bd wa fun xs => bd wb fun k => lf (Wk.getM xs k)) :=
  ⟨⟨pe_weak (pe_dget hu ha.b.pe hb.b.pe hs) fun σ H Q ⟨sr, O, H0, ad, he, hw⟩ => ⟨sr, O, H0, ad, he, by
      have hw := le2 (f := fun xs k => lf (m := m) (Wk.getM xs k)) (g := fun xs k => Wp.ofO (Wk.getM xs k)) (fun _ _ => Mn.lift_le _) _ hw
      refine (Mn.wp wa).mono (fun xs q v H1 x1 r => ⟨sr, O, H0, ad, he.ext' x1, (Mn.wp wb).mono (fun k q2 v2 H2 x2 r2 => ?_) q⟩) hw
      obtain ⟨y, hy, q2⟩ := q2
      cases r2
      obtain ⟨p, kvs, rfl, hp, _, rs⟩ := (r.ext x2 (he.sOM M)).dict
      obtain ⟨u, hu, ru⟩ := rs.get hy
      refine ⟨p, u, rfl, ?_, q2 u H2 (x1.trans x2) ru⟩
      rw [← hu]
      exact DGet.k (k := Sum.inl k) hp⟩⟩⟩
/-- {} -/
theorem JE.dnew : JE X M (.Dict [] [] pos) ρ (eM E) (rt (m := m) []) := ⟨⟨pe_weak pe_dnewK fun σ H Q ⟨sr, O, H0, ad, he, hw⟩ p hp => lep _ hw _ _ (Ext.new he.srs hp) (.d upd_same (he.freshM hp M) rfl .nil)⟩⟩
theorem pairs_of {K : PySem.W.Frag} {mg : Str → Option Value} {O : Addr → Prop} {H : Hp} : ∀ {xs : List (Int × α)} {vs : List V}, Reps K mg O H vs (xs.map (eP eI E)) → ∃ (ps : List Addr) (kvs : List (Key × V)), vs = ps.map V.ref ∧ Paired (fun p kv => SqT K H p [kV kv.1, kv.2]) ps kvs ∧ RepsM K mg O H E kvs xs
  | [], _, h => by cases h; exact ⟨[], [], rfl, .nil, .nil⟩
  | (k, x) :: xs, _, h => by
    rw [List.map_cons] at h
    cases h with
    | cons h1 h2 =>
      obtain ⟨ps, kvs, e, hp, hr⟩ := pairs_of h2
      cases h1 with
      | t g1 g2 =>
        cases g2 with
        | cons r1 g3 => cases g3 with
          | cons r2 g4 =>
            cases g4
            cases r1
            exact ⟨_ :: ps, (Sum.inl k, _) :: kvs, by rw [e]; rfl, .cons (.inl (.inl g1)) hp, .cons r2 hr⟩
/-- dict([(k, v), ..]) -/
theorem JE.dictP {wa : m (List (Int × α))} (hc : X.calm = true) (hg : Gl X "dict") (hm : X.mg "dict" = none) (ha : JE X M a ρ (eL (eP eI E)) wa) (hs : St1 X a := by rfl) : JE X M (.Call (.Name "dict" p) [a] [] pos) ρ (eM E) (bd wa fun xs => rt (mergeM xs)) :=
  ⟨⟨pe_weak (pe_callTy (call_dictP hc) hg hm (by decide +kernel) (pa_cons ha.b.pe pa_nil hs) (by decide) (by decide) hs rfl) fun σ H Q ⟨sr, O, H0, ad, he, hw⟩ => ⟨sr, O, H0, ad, he, by
      have hw := le1 (f := fun x => rt (m := m) (mergeM x)) (g := fun x => Wp.pure (mergeM x)) (fun _ => lep) _ hw
      refine (Mn.wp wa).mono (fun xs q v H1 x1 r => ?_) hw
      obtain ⟨pp, vs, rfl, hsq, _, rs⟩ := r.seqL
      obtain ⟨ps, kvs, rfl, hp, rm⟩ := pairs_of rs
      refine ⟨pp, ps, kvs, rfl, .inl (.inl hsq), hp, fun d hd => q _ _ (x1.trans (Ext.new x1.srs hd)) ?_⟩
      have rm2 := RepsM.merge rm .nil
      exact .d upd_same (fun z => he.freshM (x1.back hd) M z) rm2.keys (Reps.ext rm2.vals (Ext.new x1.srs hd) (he.sOM M))⟩⟩⟩
end
end Wk

namespace Wk
open PySem PySem.Spec PyProof.Rows L2
/-! ### objects made -/
section
variable {m : Type → Type} [Mn m] {α β γ δ κ τ ω : Type}
variable {X : Cx} {M : Bool} {ρ : List Slot} {pos p apos : Pos} {n c : Str} {ns : List Str}

theorem le2x : True := trivial

theorem JE.make1 {α1 : Type} {E1 : α1 → D} {w1 : m α1} {e1 : Expr} {f : α1 → Option δ} {E : δ → D} {fl : δ → List D} {Fs : List D → (List D → Prop) → Prop} (hF : ∀ x1 r P, f x1 = some r → P (fl r) → Fs [E1 x1] P) (hE : ∀ r, E r = .o c ns (fl r)) (C : MakeOk X c ns Fs) (ha1 : JE X M e1 ρ E1 w1) (hg : Gl X c := by rfl) (hdb : (c == ("__debug__" : Str)) = false := by decide) (hs1 : starEach [e1] X.env = (false, eval e1 X.env) :: starEach [] X.env := by rfl) (hpl : (backTo pos (starEach [] X.env)).any (·.1) = false := by rfl) :
    JE X M (.Call (.Name c p) [e1] [] pos) ρ E (bd w1 fun x1 => lf (f x1)) := by
  obtain ⟨k, C, fa, fd, ps, F, hr, hm, mk, hb⟩ := C
  refine ⟨⟨pe_weak (pe_make mk F hr hg hm hb .nil pass0 (pa_cons ha1.b.pe pa_nil hs1) hdb hs1 hpl) fun σ H Q ⟨sr, O, H0, ad, he, hw⟩ => ?_⟩⟩
  have hw := le1 (f := fun x1 => lf (m := m) (f x1)) (g := fun x1 => Wp.ofO (f x1)) (fun _ => Mn.lift_le _) _ hw
  refine ⟨sr, O, H0, ad, he, (Mn.wp w1).mono (fun x1 q1 v_1 H_1 x_1 r_1 => ?_) hw⟩
  have e2 := he.ext' x_1
  obtain ⟨z, hz, q⟩ := q1
  intro x dx hx hdx hne
  have rs : Reps X.K X.mg (OM M O ad) H_1 [v_1] [E1 x1] := (.cons r_1 .nil)
  have y1 : Ext sr H_1 (upd H_1 dx (.own x)) := Ext.new e2.srs hdx
  have hx2 : (upd H_1 dx (.own x)) x = none := by rw [upd_ne (fun z => hne z.symm)]; exact hx
  have y2 : Ext sr (upd H_1 dx (.own x)) (upd (upd H_1 dx (.own x)) x (.ins C dx [])) := Ext.new y1.srs hx2
  have keepMu : ∀ q, Mut (H_1 q) → Mut ((upd (upd H_1 dx (.own x)) x (.ins C dx [])) q) := fun q h => by
    rw [upd_ne (fun z => by rw [z, hx] at h; exact h), upd_ne (fun z => by rw [z, hdx] at h; exact h)]; exact h
  have rs2 := (((rs.ext y1 (he.sOM M)).fresh hx2).ext y2 (fun S hS => .inl (he.sOM M S hS)))
  refine ⟨x, C, dx, _, fun a => OM M O ad a ∨ a = x, [E1 x1], rfl, upd_same, hm, fun q hq => ?_, .inr rfl, rs2, hF x1 z _ hz fun H' dx' fs' kp h1 h2 h3 => ⟨rfl, ?_⟩⟩
  · rcases hq with hq | hq
    · exact keepMu q (e2.domM M q hq)
    · rw [hq, upd_same]; trivial
  · have ex : Ext sr H_1 H' := ⟨fun a o h n => kp a o (y2.1 a o (y1.1 a o h n) n) (fun z => by rw [z, hx] at h; cases h), fun S hS => ⟨e2.srs S hS, by
      obtain ⟨i, j, w⟩ := e2.srs S hS
      refine ⟨i, j, kp S _ ?_ (fun z => by rw [z, hx] at w; cases w)⟩
      rw [upd_ne (fun z => by rw [z, hx] at w; cases w), upd_ne (fun z => by rw [z, hdx] at w; cases w)]; exact w⟩⟩
    refine q (.ref x) H' (x_1.trans ex) ?_
    rw [hE]
    exact .o h1 (fun z => e2.freshM hx M z) hm h2 (h3.sub fun a z => .inl z)

theorem JE.make2 {α1 : Type} {α2 : Type} {E1 : α1 → D} {E2 : α2 → D} {w1 : m α1} {w2 : m α2} {e1 e2 : Expr} {f : α1 → α2 → Option δ} {E : δ → D} {fl : δ → List D} {Fs : List D → (List D → Prop) → Prop} (hF : ∀ x1 x2 r P, f x1 x2 = some r → P (fl r) → Fs [E1 x1, E2 x2] P) (hE : ∀ r, E r = .o c ns (fl r)) (C : MakeOk X c ns Fs) (ha1 : JE X M e1 ρ E1 w1) (ha2 : JE X M e2 ρ E2 w2) (hg : Gl X c := by rfl) (hdb : (c == ("__debug__" : Str)) = false := by decide) (hs1 : starEach [e1, e2] X.env = (false, eval e1 X.env) :: starEach [e2] X.env := by rfl) (hs2 : starEach [e2] X.env = (false, eval e2 X.env) :: starEach [] X.env := by rfl) (hpl : (backTo pos (starEach [e2] X.env)).any (·.1) = false := by rfl) :
    JE X M (.Call (.Name c p) [e1, e2] [] pos) ρ E (bd w1 fun x1 => (bd w2 fun x2 => lf (f x1 x2))) := by
  obtain ⟨k, C, fa, fd, ps, F, hr, hm, mk, hb⟩ := C
  refine ⟨⟨pe_weak (pe_make mk F hr hg hm hb .nil pass0 (pa_cons ha1.b.pe (pa_cons ha2.b.pe pa_nil hs2) hs1) hdb hs1 hpl) fun σ H Q ⟨sr, O, H0, ad, he, hw⟩ => ?_⟩⟩
  have hw := le2 (f := fun x1 x2 => lf (m := m) (f x1 x2)) (g := fun x1 x2 => Wp.ofO (f x1 x2)) (fun _ _ => Mn.lift_le _) _ hw
  refine ⟨sr, O, H0, ad, he, (Mn.wp w1).mono (fun x1 q1 v_1 H_1 x_1 r_1 => ?_) hw⟩
  refine ⟨sr, O, H0, ad, (he.ext' x_1), (Mn.wp w2).mono (fun x2 q2 v_2 H_2 x_2 r_2 => ?_) q1⟩
  have e2 := he.ext' (x_1.trans x_2)
  obtain ⟨z, hz, q⟩ := q2
  intro x dx hx hdx hne
  have rs : Reps X.K X.mg (OM M O ad) H_2 [v_1, v_2] [E1 x1, E2 x2] := (.cons (r_1.ext x_2 (he.sOM M)) (.cons r_2 .nil))
  have y1 : Ext sr H_2 (upd H_2 dx (.own x)) := Ext.new e2.srs hdx
  have hx2 : (upd H_2 dx (.own x)) x = none := by rw [upd_ne (fun z => hne z.symm)]; exact hx
  have y2 : Ext sr (upd H_2 dx (.own x)) (upd (upd H_2 dx (.own x)) x (.ins C dx [])) := Ext.new y1.srs hx2
  have keepMu : ∀ q, Mut (H_2 q) → Mut ((upd (upd H_2 dx (.own x)) x (.ins C dx [])) q) := fun q h => by
    rw [upd_ne (fun z => by rw [z, hx] at h; exact h), upd_ne (fun z => by rw [z, hdx] at h; exact h)]; exact h
  have rs2 := (((rs.ext y1 (he.sOM M)).fresh hx2).ext y2 (fun S hS => .inl (he.sOM M S hS)))
  refine ⟨x, C, dx, _, fun a => OM M O ad a ∨ a = x, [E1 x1, E2 x2], rfl, upd_same, hm, fun q hq => ?_, .inr rfl, rs2, hF x1 x2 z _ hz fun H' dx' fs' kp h1 h2 h3 => ⟨rfl, ?_⟩⟩
  · rcases hq with hq | hq
    · exact keepMu q (e2.domM M q hq)
    · rw [hq, upd_same]; trivial
  · have ex : Ext sr H_2 H' := ⟨fun a o h n => kp a o (y2.1 a o (y1.1 a o h n) n) (fun z => by rw [z, hx] at h; cases h), fun S hS => ⟨e2.srs S hS, by
      obtain ⟨i, j, w⟩ := e2.srs S hS
      refine ⟨i, j, kp S _ ?_ (fun z => by rw [z, hx] at w; cases w)⟩
      rw [upd_ne (fun z => by rw [z, hx] at w; cases w), upd_ne (fun z => by rw [z, hdx] at w; cases w)]; exact w⟩⟩
    refine q (.ref x) H' ((x_1.trans x_2).trans ex) ?_
    rw [hE]
    exact .o h1 (fun z => e2.freshM hx M z) hm h2 (h3.sub fun a z => .inl z)

theorem JE.make3 {α1 : Type} {α2 : Type} {α3 : Type} {E1 : α1 → D} {E2 : α2 → D} {E3 : α3 → D} {w1 : m α1} {w2 : m α2} {w3 : m α3} {e1 e2 e3 : Expr} {f : α1 → α2 → α3 → Option δ} {E : δ → D} {fl : δ → List D} {Fs : List D → (List D → Prop) → Prop} (hF : ∀ x1 x2 x3 r P, f x1 x2 x3 = some r → P (fl r) → Fs [E1 x1, E2 x2, E3 x3] P) (hE : ∀ r, E r = .o c ns (fl r)) (C : MakeOk X c ns Fs) (ha1 : JE X M e1 ρ E1 w1) (ha2 : JE X M e2 ρ E2 w2) (ha3 : JE X M e3 ρ E3 w3) (hg : Gl X c := by rfl) (hdb : (c == ("__debug__" : Str)) = false := by decide) (hs1 : starEach [e1, e2, e3] X.env = (false, eval e1 X.env) :: starEach [e2, e3] X.env := by rfl) (hs2 : starEach [e2, e3] X.env = (false, eval e2 X.env) :: starEach [e3] X.env := by rfl) (hs3 : starEach [e3] X.env = (false, eval e3 X.env) :: starEach [] X.env := by rfl) (hpl : (backTo pos (starEach [e2, e3] X.env)).any (·.1) = false := by rfl) :
    JE X M (.Call (.Name c p) [e1, e2, e3] [] pos) ρ E (bd w1 fun x1 => (bd w2 fun x2 => (bd w3 fun x3 => lf (f x1 x2 x3)))) := by
  obtain ⟨k, C, fa, fd, ps, F, hr, hm, mk, hb⟩ := C
  refine ⟨⟨pe_weak (pe_make mk F hr hg hm hb .nil pass0 (pa_cons ha1.b.pe (pa_cons ha2.b.pe (pa_cons ha3.b.pe pa_nil hs3) hs2) hs1) hdb hs1 hpl) fun σ H Q ⟨sr, O, H0, ad, he, hw⟩ => ?_⟩⟩
  have hw := le3 (f := fun x1 x2 x3 => lf (m := m) (f x1 x2 x3)) (g := fun x1 x2 x3 => Wp.ofO (f x1 x2 x3)) (fun _ _ _ => Mn.lift_le _) _ hw
  refine ⟨sr, O, H0, ad, he, (Mn.wp w1).mono (fun x1 q1 v_1 H_1 x_1 r_1 => ?_) hw⟩
  refine ⟨sr, O, H0, ad, (he.ext' x_1), (Mn.wp w2).mono (fun x2 q2 v_2 H_2 x_2 r_2 => ?_) q1⟩
  refine ⟨sr, O, H0, ad, (he.ext' (x_1.trans x_2)), (Mn.wp w3).mono (fun x3 q3 v_3 H_3 x_3 r_3 => ?_) q2⟩
  have e2 := he.ext' ((x_1.trans x_2).trans x_3)
  obtain ⟨z, hz, q⟩ := q3
  intro x dx hx hdx hne
  have rs : Reps X.K X.mg (OM M O ad) H_3 [v_1, v_2, v_3] [E1 x1, E2 x2, E3 x3] := (.cons ((r_1.ext x_2 (he.sOM M)).ext x_3 (he.sOM M)) (.cons (r_2.ext x_3 (he.sOM M)) (.cons r_3 .nil)))
  have y1 : Ext sr H_3 (upd H_3 dx (.own x)) := Ext.new e2.srs hdx
  have hx2 : (upd H_3 dx (.own x)) x = none := by rw [upd_ne (fun z => hne z.symm)]; exact hx
  have y2 : Ext sr (upd H_3 dx (.own x)) (upd (upd H_3 dx (.own x)) x (.ins C dx [])) := Ext.new y1.srs hx2
  have keepMu : ∀ q, Mut (H_3 q) → Mut ((upd (upd H_3 dx (.own x)) x (.ins C dx [])) q) := fun q h => by
    rw [upd_ne (fun z => by rw [z, hx] at h; exact h), upd_ne (fun z => by rw [z, hdx] at h; exact h)]; exact h
  have rs2 := (((rs.ext y1 (he.sOM M)).fresh hx2).ext y2 (fun S hS => .inl (he.sOM M S hS)))
  refine ⟨x, C, dx, _, fun a => OM M O ad a ∨ a = x, [E1 x1, E2 x2, E3 x3], rfl, upd_same, hm, fun q hq => ?_, .inr rfl, rs2, hF x1 x2 x3 z _ hz fun H' dx' fs' kp h1 h2 h3 => ⟨rfl, ?_⟩⟩
  · rcases hq with hq | hq
    · exact keepMu q (e2.domM M q hq)
    · rw [hq, upd_same]; trivial
  · have ex : Ext sr H_3 H' := ⟨fun a o h n => kp a o (y2.1 a o (y1.1 a o h n) n) (fun z => by rw [z, hx] at h; cases h), fun S hS => ⟨e2.srs S hS, by
      obtain ⟨i, j, w⟩ := e2.srs S hS
      refine ⟨i, j, kp S _ ?_ (fun z => by rw [z, hx] at w; cases w)⟩
      rw [upd_ne (fun z => by rw [z, hx] at w; cases w), upd_ne (fun z => by rw [z, hdx] at w; cases w)]; exact w⟩⟩
    refine q (.ref x) H' (((x_1.trans x_2).trans x_3).trans ex) ?_
    rw [hE]
    exact .o h1 (fun z => e2.freshM hx M z) hm h2 (h3.sub fun a z => .inl z)

theorem JE.make4 {α1 : Type} {α2 : Type} {α3 : Type} {α4 : Type} {E1 : α1 → D} {E2 : α2 → D} {E3 : α3 → D} {E4 : α4 → D} {w1 : m α1} {w2 : m α2} {w3 : m α3} {w4 : m α4} {e1 e2 e3 e4 : Expr} {f : α1 → α2 → α3 → α4 → Option δ} {E : δ → D} {fl : δ → List D} {Fs : List D → (List D → Prop) → Prop} (hF : ∀ x1 x2 x3 x4 r P, f x1 x2 x3 x4 = some r → P (fl r) → Fs [E1 x1, E2 x2, E3 x3, E4 x4] P) (hE : ∀ r, E r = .o c ns (fl r)) (C : MakeOk X c ns Fs) (ha1 : JE X M e1 ρ E1 w1) (ha2 : JE X M e2 ρ E2 w2) (ha3 : JE X M e3 ρ E3 w3) (ha4 : JE X M e4 ρ E4 w4) (hg : Gl X c := by rfl) (hdb : (c == ("__debug__" : Str)) = false := by decide) (hs1 : starEach [e1, e2, e3, e4] X.env = (false, eval e1 X.env) :: starEach [e2, e3, e4] X.env := by rfl) (hs2 : starEach [e2, e3, e4] X.env = (false, eval e2 X.env) :: starEach [e3, e4] X.env := by rfl) (hs3 : starEach [e3, e4] X.env = (false, eval e3 X.env) :: starEach [e4] X.env := by rfl) (hs4 : starEach [e4] X.env = (false, eval e4 X.env) :: starEach [] X.env := by rfl) (hpl : (backTo pos (starEach [e2, e3, e4] X.env)).any (·.1) = false := by rfl) :
    JE X M (.Call (.Name c p) [e1, e2, e3, e4] [] pos) ρ E (bd w1 fun x1 => (bd w2 fun x2 => (bd w3 fun x3 => (bd w4 fun x4 => lf (f x1 x2 x3 x4))))) := by
  obtain ⟨k, C, fa, fd, ps, F, hr, hm, mk, hb⟩ := C
  refine ⟨⟨pe_weak (pe_make mk F hr hg hm hb .nil pass0 (pa_cons ha1.b.pe (pa_cons ha2.b.pe (pa_cons ha3.b.pe (pa_cons ha4.b.pe pa_nil hs4) hs3) hs2) hs1) hdb hs1 hpl) fun σ H Q ⟨sr, O, H0, ad, he, hw⟩ => ?_⟩⟩
  have hw := le4 (f := fun x1 x2 x3 x4 => lf (m := m) (f x1 x2 x3 x4)) (g := fun x1 x2 x3 x4 => Wp.ofO (f x1 x2 x3 x4)) (fun _ _ _ _ => Mn.lift_le _) _ hw
  refine ⟨sr, O, H0, ad, he, (Mn.wp w1).mono (fun x1 q1 v_1 H_1 x_1 r_1 => ?_) hw⟩
  refine ⟨sr, O, H0, ad, (he.ext' x_1), (Mn.wp w2).mono (fun x2 q2 v_2 H_2 x_2 r_2 => ?_) q1⟩
  refine ⟨sr, O, H0, ad, (he.ext' (x_1.trans x_2)), (Mn.wp w3).mono (fun x3 q3 v_3 H_3 x_3 r_3 => ?_) q2⟩
  refine ⟨sr, O, H0, ad, (he.ext' ((x_1.trans x_2).trans x_3)), (Mn.wp w4).mono (fun x4 q4 v_4 H_4 x_4 r_4 => ?_) q3⟩
  have e2 := he.ext' (((x_1.trans x_2).trans x_3).trans x_4)
  obtain ⟨z, hz, q⟩ := q4
  intro x dx hx hdx hne
  have rs : Reps X.K X.mg (OM M O ad) H_4 [v_1, v_2, v_3, v_4] [E1 x1, E2 x2, E3 x3, E4 x4] := (.cons (((r_1.ext x_2 (he.sOM M)).ext x_3 (he.sOM M)).ext x_4 (he.sOM M)) (.cons ((r_2.ext x_3 (he.sOM M)).ext x_4 (he.sOM M)) (.cons (r_3.ext x_4 (he.sOM M)) (.cons r_4 .nil))))
  have y1 : Ext sr H_4 (upd H_4 dx (.own x)) := Ext.new e2.srs hdx
  have hx2 : (upd H_4 dx (.own x)) x = none := by rw [upd_ne (fun z => hne z.symm)]; exact hx
  have y2 : Ext sr (upd H_4 dx (.own x)) (upd (upd H_4 dx (.own x)) x (.ins C dx [])) := Ext.new y1.srs hx2
  have keepMu : ∀ q, Mut (H_4 q) → Mut ((upd (upd H_4 dx (.own x)) x (.ins C dx [])) q) := fun q h => by
    rw [upd_ne (fun z => by rw [z, hx] at h; exact h), upd_ne (fun z => by rw [z, hdx] at h; exact h)]; exact h
  have rs2 := (((rs.ext y1 (he.sOM M)).fresh hx2).ext y2 (fun S hS => .inl (he.sOM M S hS)))
  refine ⟨x, C, dx, _, fun a => OM M O ad a ∨ a = x, [E1 x1, E2 x2, E3 x3, E4 x4], rfl, upd_same, hm, fun q hq => ?_, .inr rfl, rs2, hF x1 x2 x3 x4 z _ hz fun H' dx' fs' kp h1 h2 h3 => ⟨rfl, ?_⟩⟩
  · rcases hq with hq | hq
    · exact keepMu q (e2.domM M q hq)
    · rw [hq, upd_same]; trivial
  · have ex : Ext sr H_4 H' := ⟨fun a o h n => kp a o (y2.1 a o (y1.1 a o h n) n) (fun z => by rw [z, hx] at h; cases h), fun S hS => ⟨e2.srs S hS, by
      obtain ⟨i, j, w⟩ := e2.srs S hS
      refine ⟨i, j, kp S _ ?_ (fun z => by rw [z, hx] at w; cases w)⟩
      rw [upd_ne (fun z => by rw [z, hx] at w; cases w), upd_ne (fun z => by rw [z, hdx] at w; cases w)]; exact w⟩⟩
    refine q (.ref x) H' ((((x_1.trans x_2).trans x_3).trans x_4).trans ex) ?_
    rw [hE]
    exact .o h1 (fun z => e2.freshM hx M z) hm h2 (h3.sub fun a z => .inl z)


end
/-! ### the def __init__ -/
theorem Env.obTo {K : PySem.W.Frag} {mg : Str → Option Value} {sr : Option Addr} {O : Addr → Prop} {H0 H H' : Hp} {σ : L2.St} {ρ : List Slot} {ad : Nat → Option Addr} (e : Env K mg sr O H0 H σ ρ ad) {i : Nat} {p : Addr} {c : Str} {ns : List Str} {ds : List D} (hi : ρ[i]? = some (.ob p c ns ds)) (kp : ∀ a o, H a = some o → a ≠ p → H' a = some o) {C dx : Addr} {fs : List (Str × V)} {ns' : List Str} {ds' : List D} (h' : H' p = some (.ins C dx fs)) (hC : mg c = some (.ref C)) (hn : fs.map (·.1) = ns') (r : Reps K mg (OO O ad) H' (fs.map (·.2)) ds') : Env K mg sr O H0 H' σ (ρ.set i (.ob p c ns' ds')) ad := by
  obtain ⟨C0, dx0, fs0, e1, e2, e3, e4, e5, e6⟩ := ob_at e hi
  have op : OO O ad p := .inr ⟨i, e1⟩
  have nsr : sr ≠ some p := fun z => e.dis i p e1 (e.sO p z)
  have il : i < ρ.length := (List.getElem?_eq_some_iff.mp hi).1
  have hmu : ∀ q, Mut (H q) → Mut (H' q) := fun q h => by
    by_cases hq : q = p
    · rw [hq, h']; trivial
    · obtain ⟨o, ho⟩ := mut_some h
      rw [kp q o ho hq, ← ho]; exact h
  have kt : ∀ a vs, H a = some (.tup vs) → H' a = some (.tup vs) := fun a vs h => kp a _ h fun z => by
    rw [z, e3] at h; cases h
  have kr : ∀ {d : D} {v : V}, Rep K mg (OO O ad) H v d → Rep K mg (OO O ad) H' v d := fun h => h.gen (fun a o q n => ⟨kp a o q fun z => n (by rw [z]; exact op), n⟩) kt
  have krs : ∀ {d : List D} {v : List V}, Reps K mg (OO O ad) H v d → Reps K mg (OO O ad) H' v d := fun h => Reps.gen (fun a o q n => ⟨kp a o q fun z => n (by rw [z]; exact op), n⟩) kt _ _ h
  refine ⟨by rw [List.length_set]; exact e.len, fun j => ?_, e.inj, e.frs, fun j q h => hmu q (e.mu j q h), fun S h => ⟨e.sO S h, ?_⟩, fun q h => hmu q (e.dom q h), e.dis, fun a o h n => ?_⟩
  · by_cases hj : j = i
    · subst hj
      rw [List.getElem?_set_self (by exact il)]
      exact ⟨C, dx, fs, e1, e2, h', hC, hn, r⟩
    · rw [List.getElem?_set_ne (fun z => hj z.symm)]
      have ej := e.at_ j
      cases hs : ρ[j]? with
      | none => rw [hs] at ej; exact ej
      | some s =>
        rw [hs] at ej
        cases s with
        | u => exact ej
        | d x =>
          obtain ⟨h1, w, h2, h3⟩ := ej
          exact ⟨h1, w, h2, kr h3⟩
        | l xs =>
          obtain ⟨q, vs, h1, h2, h3, h4⟩ := ej
          have : q ≠ p := fun z => hj (e.inj j i p (z ▸ h1) e1)
          exact ⟨q, vs, h1, h2, kp q _ h3 this, krs h4⟩
        | w x =>
          obtain ⟨q, u, h1, h2, h3, h4⟩ := ej
          have : q ≠ p := fun z => hj (e.inj j i p (z ▸ h1) e1)
          exact ⟨q, u, h1, h2, kp q _ h3 this, h4.map fun _ _ r => krs r⟩
        | ob q c' ns2 ds2 =>
          obtain ⟨C2, dx2, fs2, h1, h2, h3, h4, h5, h6⟩ := ej
          have : q ≠ p := fun z => hj (e.inj j i p (z ▸ h1) e1)
          exact ⟨C2, dx2, fs2, h1, h2, kp q _ h3 this, h4, h5, krs h6⟩
        | src => exact ej
  · obtain ⟨a, b, z⟩ := e.srs S h
    exact ⟨a, b, kp S _ z (fun q => nsr (by rw [h, q]))⟩
  · exact kp a o (e.ext a o h n) (fun z => by rw [z] at h; rw [e.frs i p e1] at h; cases h)
/-- a method that changes the object it is called on -/
def spM (K : PySem.W.Frag) (mg : Str → Option Value) (c : Str) (ns : List Str) (F : List D → List D → (List D → Prop) → Prop) : Sp := fun vs H Q _ => ∃ (x C dx : Addr) (fs : List (Str × V)) (rest : List V) (O : Addr → Prop) (ds args : List D),
  vs = .ref x :: rest ∧ H x = some (.ins C dx fs) ∧ mg c = some (.ref C) ∧ fs.map (·.1) = ns ∧ (∀ p, O p → Mut (H p)) ∧ O x ∧ Reps K mg O H (fs.map (·.2)) ds ∧ Reps K mg O H rest args ∧
  F ds args fun ds' => ∀ H' dx' fs', (∀ a o, H a = some o → a ≠ x → H' a = some o) → H' x = some (.ins C dx' fs') → fs'.map (·.1) = ns → Reps K mg O H' (fs'.map (·.2)) ds' → Q .non H'
def ChgOk (X : Cx) (c n : Str) (ns : List Str) (F : List D → List D → (List D → Prop) → Prop) : Prop := ∃ (k : Nat) (C fa : Addr) (fd : FuncData) (ps : List Str),
  FnOk X.prog X.w X.K X.mg X.base CX0 k fa fd ps (spM X.K X.mg c ns F) ∧ Room k X.A ∧ X.mg c = some (.ref C) ∧ Cls X.K C ∧ Meth X.K C n fa ∧ Binds X.K fd ps []
section
variable {m : Type → Type} [Mn m] {α β γ δ κ τ ω : Type}
variable {X : Cx} {M : Bool} {ρ : List Slot} {pos p2 apos cpos : Pos} {n mn c : Str} {ns : List Str} {ds : List D} {x : Addr} {e1 : Expr}
variable {rest : List Stmt} {Eb : β → D} {ρx : Option (α → List Slot)} {ρl : ω → List Slot} {e : κ → Fl α ω β}
/-- self.m(e1) -/
theorem JS.chg1 (i : Nat) {E1 : γ → D} {w1 : m γ} {f : γ → Option δ} {fl : δ → List D} {k : δ → m κ} {Fs : List D → List D → (List D → Prop) → Prop} (h : ρ[i]? = some (.ob x c ns ds)) (hn : ns.contains mn = false) (hF : ∀ y r P, f y = some r → P (fl r) → Fs ds [E1 y] P) (C : ChgOk X c mn ns Fs) (ha : JE X true e1 ρ E1 w1) (hr : ∀ y, JS X rest (ρ.set i (.ob x c ns (fl y))) Eb ρx ρl e (k y)) (hN : X.N[i]? = some n := by rfl) (hv : Vis X.env.scope n := by first | exact Or.inl rfl | exact Or.inr (Or.inl rfl) | exact Or.inr (Or.inr rfl)) (hd : (n == ("__debug__" : Str)) = false := by decide) (hcd : (n == ("__classdict__" : Str)) = false := by decide)
    (hs1 : starEach [e1] X.env = (false, eval e1 X.env) :: starEach [] X.env := by rfl) (hpl : (backTo cpos (starEach [] X.env)).any (·.1) = false := by rfl) {pl : Sem Bool}
    (ht : eval (.Call (.Attribute (.Name n p2) mn apos) [e1] [] cpos) X.env = (do
      let ov ← eval (.Name n p2) X.env
      standAt apos.atName
      let (f, first) ← holding [ov] (getMethod ov mn pl)
      callWith cpos f first (backTo cpos (starEach [e1] X.env)) (backToKw cpos (keywordEach [] X.env))) := by rfl)
    (hsw : swapsWith (.Call (.Attribute (.Name n p2) mn apos) [e1] [] cpos) none pos.line X.env = pure false := by rfl) :
    JS X (.Expr (.Call (.Attribute (.Name n p2) mn apos) [e1] [] cpos) pos :: rest) ρ Eb ρx ρl e (bd w1 fun y => bd (lf (f y)) k) := by
  obtain ⟨kk, C, fa, fd, ps, F, hrm, hm, cl, me, hb⟩ := C
  refine ⟨pss_weak (pss_cons (ps_expr (pe_meth (pv i hN hv hd hcd) cl me F hrm hb .nil pass0 (pa_cons ha.b.pe pa_nil hs1) hs1 hpl ht) hsw) (pss_ex fun y => (hr y).ps)) fun Dd σ H ⟨sr, O, H0, ad, he, hw⟩ => ?_, fun z => nn_bd fun y => nn_bd fun y => (hr y).nn z⟩
  obtain ⟨C', dx, fs, g1, g2, g3, g4, g5, g6⟩ := ob_at he h
  have := hm.symm.trans g4
  cases this
  refine ⟨_, g2, x, dx, fs, rfl, g3, lookup_none (by rw [g5]; exact hn), sr, O, H0, ad, he, (Mn.wp w1).mono (fun y q v H1 x1 r => ?_) (bdk hw)⟩
  have he1 := he.ext' x1
  obtain ⟨C', dx', fs', g1', g2', g3', g4', g5', g6'⟩ := ob_at he1 h
  have := hm.symm.trans g4'
  cases this
  obtain ⟨z, hz, q⟩ := Mn.lift_le _ _ (bdk q)
  exact ⟨x, C, dx', fs', _, OO O ad, ds, [E1 y], rfl, g3', hm, g5', fun p hp => he1.domM true p hp, .inr ⟨i, g1'⟩, g6', .cons r .nil, hF y z _ hz fun H' dx2 fs2 kp h1 h2 h3 => ⟨z, sr, O, H0, ad, he1.obTo h kp h1 hm h2 h3, q⟩⟩
end
theorem fn_okI {P : Program} {w : World} {K : PySem.W.Frag} {mg : Str → Option Value} {base : Heap} {x c qual : Str} {st : Stmt} {f : Addr} {fd : FuncData} {N ps : List Str} {k : Nat} {ns : List Str} (Fu : Fun K x qual st f fd) (sc : FnScope N ps (defScope st)) (F : List D → (List D → Prop) → Prop) (hlen : ∀ ds Q, F ds Q → ds.length + 1 = ps.length) (hN : ps.length ≤ N.length)
    (h : ∀ cdv A outer s H E, Room k (Cxf P w K mg base N qual st f cdv A outer s H E).A → ∀ (p : Addr) ds Q, F ds Q → ∃ (τ : Type) (fl : τ → List D) (us : List Slot) (a : Option τ), JS (Cxf P w K mg base N qual st f cdv A outer s H E) (defBody st) (.ob p c [] [] :: rho0 ds (N.length - 1)) eN (some fun t : τ => .ob p c ns (fl t) :: us) (fun _ : Empty => []) (Fl.nx : τ → Fl τ Empty Unit) a ∧ ∃ r, a = some r ∧ Q (fl r)) :
    FnOk P w K mg base CX0 (k + 1) f fd ps (spI K mg c ns F) := by
  refine Fu.ok sc (fun vs H Q E hs => ?_) (fun cdv A outer s H vs Q E hr hs => ?_)
  · obtain ⟨p, C, dx, rest, O, ds, rfl, hx, hC, hO, hOx, r, hF⟩ := hs
    rw [List.length_cons, r.length, hlen _ _ hF]
  · obtain ⟨p, C, dx, rest, O, ds, rfl, hx, hC, hO, hOx, r, hF⟩ := hs
    have hl := hlen _ _ hF
    obtain ⟨τ, fl, us, a, hT, z, hz, hq⟩ := h cdv A outer s H E hr p ds _ hF
    let ad : Nat → Option Addr := fun j => if j = 0 then some p else none
    have ad0 : ∀ {j q}, ad j = some q → j = 0 ∧ q = p := fun {j q} h => by
      show _
      by_cases hj : j = 0
      · simp only [ad, hj, if_true] at h; exact ⟨hj, (Option.some.inj h).symm⟩
      · simp only [ad, hj] at h; cases h
    have sub : ∀ b, OO (fun b => O b ∧ b ≠ p) ad b → O b := fun b hb => by
      rcases hb with hb | ⟨j, hb⟩
      · exact hb.1
      · rw [(ad0 hb).2]; exact hOx
    have sup : ∀ {ad' : Nat → Option Addr}, ad' 0 = some p → ∀ b, O b → OO (fun b => O b ∧ b ≠ p) ad' b := fun h0 b hb => by
      by_cases hp : b = p
      · exact .inr ⟨0, by rw [hp]; exact h0⟩
      · exact .inl ⟨hb, hp⟩
    have he : Env K mg none (fun b => O b ∧ b ≠ p) (less H ad) H (L2.start N (.ref p :: rest)) (.ob p c [] [] :: rho0 ds (N.length - 1)) ad := by
      have e0 := env_startG (K := K) (mg := mg) (O := fun b => b = p ∨ O b) (H := fun b => if b = p then some (.lst [.int 0, .int 0]) else H b) (N := N) (S := p) (vs := rest) (ds := ds) (by omega) (.inl rfl) ⟨0, 0, by simp⟩ (fun q hq => by
        by_cases hqp : q = p
        · simp only [hqp, if_true]; trivial
        · simp only [hqp, if_false]; exact hO q (hq.resolve_left hqp)) (Reps.gen (O := O) (H := H) (fun b o e n => ⟨by
          have : b ≠ p := fun z => n (by rw [z]; exact hOx)
          simp only [this, if_false]; exact e, fun z => z.elim (fun z => n (by rw [z]; exact hOx)) n⟩) (fun b vs h => by
          have mv : ∀ w, H b = some w → ¬ Mut (some w) → (if b = p then some (HO.lst [.int 0, .int 0]) else H b) = some w := fun w h1 h2 => by
            have : b ≠ p := fun z => by rw [z, hx] at h1; cases h1; exact h2 trivial
            rw [if_neg this]; exact h1
          exact mv _ h fun z => z) _ _ r)
      refine ⟨e0.len, fun j => ?_, fun j k q h1 h2 => by rw [(ad0 h1).1, (ad0 h2).1], fun j q h => less_own h, fun j q h => (by rw [(ad0 h).2, hx]; trivial), fun S h => (by cases h), fun q h => hO q h.1, fun j q h z => z.2 (ad0 h).2, fun b o h _ => less_some h⟩
      cases j with
      | zero => exact ⟨C, dx, [], rfl, rfl, hx, hC, rfl, .nil⟩
      | succ j =>
        have ej := e0.at_ (j + 1)
        unfold L2.start rho0 at ej ⊢
        rw [List.map_cons, List.cons_append, List.getElem?_cons_succ, List.getElem?_cons_succ] at ej ⊢
        by_cases hj : j < ds.length
        · rw [List.getElem?_append_left (by simp; have := r.length; omega), List.getElem?_append_left (by simp; omega), List.getElem?_map, List.getElem?_map]
          obtain ⟨d, hd⟩ : ∃ d, ds[j]? = some d := ⟨ds[j], List.getElem?_eq_getElem hj⟩
          obtain ⟨v, hv, rv⟩ := r.get hd
          rw [hd, hv]
          exact ⟨rfl, v, rfl, rv.sub sub⟩
        · rw [List.getElem?_append_right (l₁ := ds.map Slot.d) (by simp; omega)]
          by_cases h2 : j - (ds.map Slot.d).length < N.length - 1 - ds.length
          · rw [List.getElem?_replicate_of_lt h2]; exact rfl
          · have e : (List.replicate (N.length - 1 - ds.length) Slot.u)[j - (ds.map Slot.d).length]? = none := List.getElem?_eq_none (by simp at h2 ⊢; omega)
            rw [e]; exact rfl
    refine ⟨_, hT.ps, none, (fun b => O b ∧ b ≠ p), less H ad, _, he, z, hz, ?_⟩
    refine (show endOk (α := τ) (τ := Empty) (β := Unit) K mg none (fun b => O b ∧ b ≠ p) (less H ad) eN (some fun t : τ => .ob p c ns (fl t) :: us) (fun _ : Empty => []) { nx := fun _ H' => Q V.non H', rt := Q } (.nx z) from ?_)
    intro σ' H' ad' he'
    obtain ⟨C', dx', fs', g1, g2, g3, g4, g5, g6⟩ := ob_at (i := 0) he' rfl
    have := hC.symm.trans g4
    cases this
    exact hq H' dx' fs' (fun b o hb hne => he'.ext b o (less_of hb fun j z => hne (ad0 z).2) (fun q => by cases q)) g3 g5 (g6.sub (sup g1))
end Wk

namespace Wk
open PySem PySem.Spec PyProof.Rows L2
section
variable {m : Type → Type} [Mn m] {α β γ δ κ τ ω : Type}
variable {X : Cx} {M : Bool} {ρ : List Slot} {pos p2 p3 p4 p5 p6 apos cpos : Pos} {n mn c f1 f2 : Str} {ns : List Str} {ds : List D} {x : Addr} {ex : Expr} {F1 : γ → D} {F2 : δ → D}
variable {rest : List Stmt} {Eb : β → D} {ρx : Option (α → List Slot)} {ρl : ω → List Slot} {e : κ → Fl α ω β}
/-- self.f1, self.f2 = e, both new -/
theorem JS.fldPair (i : Nat) {w : m (γ × δ)} {k : γ × δ → m κ} {kk : Nat} (hcalm : X.calm = true) (h : ρ[i]? = some (.ob x c ns ds)) (hf : ((ns.contains f1 = false ∧ (ns ++ [f1]).contains f2 = false) ∧ ns.length = ds.length) ∧ ns.length < 900) (hc1 : ∀ C, X.mg c = some (.ref C) → Cls X.K C ∧ NoAttr X.K C f1) (hc2 : ∀ C, X.mg c = some (.ref C) → Cls X.K C ∧ NoAttr X.K C f2) (ha : JE X true ex ρ (eP F1 F2) w) (hr : ∀ y, JS X rest (ρ.set i (.ob x c ((ns ++ [f1]) ++ [f2]) ((ds ++ [F1 y.1]) ++ [F2 y.2]))) Eb ρx ρl e (k y)) (hN : X.N[i]? = some n := by rfl) (hv : Vis X.env.scope n := by first | exact Or.inl rfl | exact Or.inr (Or.inl rfl) | exact Or.inr (Or.inr rfl)) (hd : (n == ("__debug__" : Str)) = false := by decide) (hcd : (n == ("__classdict__" : Str)) = false := by decide)
    (hs : swapsWithSole [.Tuple [.Attribute (.Name n p2) f1 p3, .Attribute (.Name n p4) f2 p5] kk p6] ex pos.line X.env = pure false := by rfl) (hw : swappedStores [.Tuple [.Attribute (.Name n p2) f1 p3, .Attribute (.Name n p4) f2 p5] kk p6] ex X.env = pure none := by rfl) (h1 : (assignEach [.Tuple [.Attribute (.Name n p2) f1 p3, .Attribute (.Name n p4) f2 p5] kk p6] X.env).map (·.2) = [assign (.Tuple [.Attribute (.Name n p2) f1 p3, .Attribute (.Name n p4) f2 p5] kk p6) X.env] := by rfl) :
    JS X (.Assign [.Tuple [.Attribute (.Name n p2) f1 p3, .Attribute (.Name n p4) f2 p5] kk p6] ex pos :: rest) ρ Eb ρx ρl e (bd w k) :=
  ⟨pss_weak (pss_cons (ps_asg ha.b.pe (pg_tup hcalm (pgs_cons (pg_fld (pv i hN hv hd hcd)) (pgs_cons (pg_fld (pv i hN hv hd hcd)) pgs_nil))) hs hw h1) (pss_ex fun y => (hr y).ps)) fun Dd σ H ⟨sr, O, H0, ad, he, hw⟩ => (by
    refine ⟨sr, O, H0, ad, he, (Mn.wp w).mono (fun y q v H1 x1 r => ?_) (bdk hw)⟩
    have he1 := he.ext' x1
    obtain ⟨C, dx, fs, e1, e2, e3, e4, e5, e6⟩ := ob_at he1 h
    cases r with
    | t r1 r2 =>
      cases r2 with
      | cons ra r2 => cases r2 with
        | cons rb r2 =>
          cases r2
          rename_i aT vA vB
          have hl : fs.length = ns.length := by rw [← e5, List.length_map]
          have he2 := he1.writeOb (fs := putF f1 vA fs) (ns' := ns ++ [f1]) (ds' := ds ++ [F1 y.1]) (dx := dx) h e4 (by rw [putF_names, e5, putN_new hf.1.1.1]) (by
            have := putF_reps (f := f1) ra fs ds e6
            rw [e5, putDs_new hf.1.1.1 hf.1.2] at this
            exact this)
          have il : i < ρ.length := (List.getElem?_eq_some_iff.mp h).1
          have h2 : (ρ.set i (.ob x c (ns ++ [f1]) (ds ++ [F1 y.1])))[i]? = some (.ob x c (ns ++ [f1]) (ds ++ [F1 y.1])) := by rw [List.getElem?_set_self il]
          obtain ⟨C2, dx2, fs2, g1, g2, g3, g4, g5, g6⟩ := ob_at he2 h2
          have rb2 := rb.upd (o := .ins C dx (putF f1 vA fs)) (.inr ⟨i, e1⟩) e3 trivial
          have e3b : (L2.upd H1 x (.ins C dx (putF f1 vA fs))) x = some (.ins C dx (putF f1 vA fs)) := upd_same
          rw [g3] at e3b
          cases e3b
          have he3 := he2.writeOb (fs := putF f2 vB (putF f1 vA fs)) (ns' := (ns ++ [f1]) ++ [f2]) (ds' := (ds ++ [F1 y.1]) ++ [F2 y.2]) (dx := dx) h2 e4 (by rw [putF_names, g5, putN_new hf.1.1.2]) (by
            have := putF_reps (f := f2) rb2 _ _ g6
            rw [g5, putDs_new hf.1.1.2 (by simp [hf.1.2])] at this
            exact this)
          rw [List.set_set] at he3
          refine ⟨_, _, rfl, .inl (.inl r1), rfl, _, _, rfl, _, e2, x, C, dx, fs, rfl, e3, (hc1 _ e4).1, (hc1 _ e4).2, by omega, _, _, rfl, _, e2, x, C, dx, _, rfl, g3, (hc2 _ e4).1, (hc2 _ e4).2, ?_, rfl, y, sr, O, H0, ad, he3, q⟩
          have : (putF f1 vA fs).length = ns.length + 1 := by
            have := congrArg List.length g5
            rw [List.length_map, List.length_append] at this
            exact this
          omega), fun z => nn_bd fun y => (hr y).nn z⟩
end
end Wk

namespace Wk
open PySem PySem.Spec PyProof.Rows L2
section
variable {m : Type → Type} [Mn m] {α β γ : Type}
variable {X : Cx} {M : Bool} {ρ : List Slot} {pos apos cpos : Pos} {a b : Expr}
/-- xs.count(k), ints -/
theorem JE.count {wa : m (List Int)} {wb : m Int} (ha : JE X false a ρ (eL eI) wa) (hb : JE X false b ρ eI wb)
    (hbase : attributeBase a "count" X.env (eval a X.env) = eval a X.env := by rfl)
    (hfew : ((backTo cpos (starEach [b] X.env)).all (fun x => !x.1) && (backToKw cpos (keywordEach [] X.env)).all (fun x => x.1.isSome) && decide ([b].length + ([] : List Keyword).length + (if ([] : List Keyword).isEmpty then 0 else 1) < 30)) = true := by rfl)
    (hline : (apos.endLine == cpos.line) = true := by rfl) (hs : starEach [b] X.env = (false, eval b X.env) :: starEach [] X.env := by rfl) :
    JE X M (.Call (.Attribute a "count" apos) [b] [] cpos) ρ eI (bd wa fun xs => bd wb fun k => rt (xs.count k : Int)) :=
  ⟨⟨pe_weak (pe_bm PySem.F.plainAttrs_list PySem.F.slot_list_count PySem.F.type_list_count mt_lcount ha.b.pe (pa_cons hb.b.pe pa_nil hs) hbase hfew hline hs rfl) fun σ H Q ⟨sr, O, H0, ad, he, hw⟩ => ⟨sr, O, H0, ad, he, by
      have hw := le2 (f := fun xs k => rt (m := m) ((List.count k xs : Nat) : Int)) (g := fun xs k => Wp.pure ((List.count k xs : Nat) : Int)) (fun _ _ => lep) _ hw
      refine (Mn.wp wa).mono (fun xs q v H1 x1 r => ?_) hw
      obtain ⟨p, vs, rfl, hs1, _, rs⟩ := r.seqL
      have rs : Reps X.K X.mg O H1 vs (xs.map D.i) := rs
      rw [rs.ints] at hs1
      refine ⟨.inl ⟨rfl, _, .inl (.inl hs1)⟩, sr, O, H0, ad, he.ext' x1, (Mn.wp wb).mono (fun k q2 v2 H2 x2 r2 => ?_) q⟩
      cases r2
      obtain ⟨p', vs', e2, hs2, _, rs2⟩ := (r.ext x2 he.sO).seqL
      cases e2
      have rs2 : Reps X.K X.mg O H2 vs' (xs.map D.i) := rs2
      rw [rs2.ints] at hs2
      exact ⟨p, xs, k, rfl, rfl, .inl (.inl hs2), q2 _ H2 (x1.trans x2) (.i _)⟩⟩⟩⟩
end
end Wk

namespace Wk
open PySem PySem.Spec PyProof.Rows L2
section
variable {m : Type → Type} [Mn m] {α β γ δ κ τ ω : Type}
variable {X : Cx} {M : Bool} {ρ : List Slot} {pos p p2 p3 pos2 apos cpos : Pos} {a b : Expr}
/-! ### list(range(n)), tuple(range(n)) -/
def rgL (a b : Int) : List Int := (List.range (b - a).toNat).map fun i => a + (i : Nat)
def rgO (a b : Int) : Option (List Int) := if (bdd a && (bdd b && decide ((b - a).toNat ≤ 16777216))) = true then some (rgL a b) else none
theorem rgV_is (a b : Int) : rgV a b = (rgL a b).map V.int := by
  unfold rgV rgL
  rw [List.map_map]; rfl
theorem rgO_is {a b : Int} {xs : List Int} (h : rgO a b = some xs) : RgOk a b ∧ xs = rgL a b := by
  unfold rgO at h
  split at h
  · rename_i h1
    have h2 := Bool.and_eq_true_iff.mp h1
    have h3 := Bool.and_eq_true_iff.mp h2.2
    have b1 := bdd_is h2.1
    have b2 := bdd_is h3.1
    exact ⟨⟨b1.1, b1.2, b2.1, b2.2, by have := of_decide_eq_true h3.2; omega⟩, (Option.some.inj h).symm⟩
  · cases h
theorem JL.listRange {wa : m Int} (hc : X.calm = true) (hg : Gl X "list") (hm : X.mg "list" = none) (hg2 : Gl X "range") (hm2 : X.mg "range" = none) (ha : JE X false a ρ eI wa) (na : starEach [a] X.env = (false, eval a X.env) :: starEach [] X.env := by rfl) (na2 : starEach [.Call (.Name "range" p2) [a] [] pos2] X.env = (false, eval (.Call (.Name "range" p2) [a] [] pos2) X.env) :: starEach [] X.env := by rfl) :
    JL X M (.Call (.Name "list" p) [.Call (.Name "range" p2) [a] [] pos2] [] pos) ρ eI (bd wa fun x => lf (rgO 0 x)) :=
  ⟨⟨pe_weak (pe_listRg hc hg hm (prg_1 hg2 hm2 ha.b.pe na) na2) fun σ H Q ⟨sr, O, H0, ad, he, hw⟩ => ⟨sr, O, H0, ad, he, by
      have hw := le1 (f := fun x => lf (m := m) (rgO 0 x)) (g := fun x => Wp.ofO (rgO 0 x)) (fun _ => Mn.lift_le _) _ hw
      refine (Mn.wp wa).mono (fun x q v H1 x1 r => ?_) hw
      obtain ⟨xs, hx, q⟩ := q
      cases r
      obtain ⟨ok, rfl⟩ := rgO_is hx
      refine ⟨x, rfl, ok, fun d hd => q d _ _ (x1.back hd) (x1.trans (Ext.new x1.srs hd)) upd_same ?_⟩
      rw [rgV_is]
      exact Reps.of_ints _⟩⟩⟩
theorem JE.tupRange {wa : m Int} (hc : X.calm = true) (hg : Gl X "tuple") (hm : X.mg "tuple" = none) (hg2 : Gl X "range") (hm2 : X.mg "range" = none) (ha : JE X false a ρ eI wa) (na : starEach [a] X.env = (false, eval a X.env) :: starEach [] X.env := by rfl) (na2 : starEach [.Call (.Name "range" p2) [a] [] pos2] X.env = (false, eval (.Call (.Name "range" p2) [a] [] pos2) X.env) :: starEach [] X.env := by rfl) :
    JE X M (.Call (.Name "tuple" p) [.Call (.Name "range" p2) [a] [] pos2] [] pos) ρ (eT eI) (bd wa fun x => lf (rgO 0 x)) :=
  ⟨⟨pe_weak (pe_tupRg hc hg hm (prg_1 hg2 hm2 ha.b.pe na) na2) fun σ H Q ⟨sr, O, H0, ad, he, hw⟩ => ⟨sr, O, H0, ad, he, by
      have hw := le1 (f := fun x => lf (m := m) (rgO 0 x)) (g := fun x => Wp.ofO (rgO 0 x)) (fun _ => Mn.lift_le _) _ hw
      refine (Mn.wp wa).mono (fun x q v H1 x1 r => ?_) hw
      obtain ⟨xs, hx, q⟩ := q
      cases r
      obtain ⟨ok, rfl⟩ := rgO_is hx
      refine ⟨x, rfl, ok, fun d hd => q _ _ (x1.trans (Ext.new x1.srs hd)) (.t upd_same ?_)⟩
      rw [rgV_is]
      exact Reps.of_ints _⟩⟩⟩
/-! ### < of tuples of ints -/
theorem JE.ltT {wa wb : m (List Int)} (hu : X.A.units + 1 < cLine) (ha : JE X false a ρ (eT eI) wa) (hb : JE X false b ρ (eT eI) wb) : JE X M (.Compare a [.Lt] [b] pos) ρ eB (bd wa fun x => bd wb fun y => rt (HT.lexLt x y)) :=
  ⟨⟨pe_weak (pe_cmpR (op_ltT (by omega)) ha.b.pe hb.b.pe (nomark _)) fun σ H Q ⟨sr, O, H0, ad, he, hw⟩ => ⟨sr, O, H0, ad, he, by
      have hw := le2 (f := fun x y => rt (m := m) (HT.lexLt x y)) (g := fun x y => Wp.pure (HT.lexLt x y)) (fun _ _ => lep) _ hw
      refine (Mn.wp wa).mono (fun x q v H1 x1 r => ⟨sr, O, H0, ad, he.ext' x1, (Mn.wp wb).mono (fun y q2 v2 H2 x2 r2 => ?_) q⟩) hw
      obtain ⟨p1, vs1, rfl, h1, s1⟩ := (r.ext x2 he.sO).seqT
      obtain ⟨p2, vs2, rfl, h2, s2⟩ := r2.seqT
      have s1 : Reps X.K X.mg O H2 vs1 (x.map D.i) := s1
      have s2 : Reps X.K X.mg O H2 vs2 (y.map D.i) := s2
      rw [s1.ints] at h1
      rw [s2.ints] at h2
      exact ⟨p1, p2, x, y, rfl, rfl, h1, h2, q2 _ H2 (x1.trans x2) (.b _)⟩⟩⟩⟩
theorem JT.ltT {wa wb : m (List Int)} (hu : X.A.units + 1 < cLine) (ha : JE X false a ρ (eT eI) wa) (hb : JE X false b ρ (eT eI) wb) : JT X (.Compare a [.Lt] [b] pos) ρ (bd wa fun x => bd wb fun y => rt (HT.lexLt x y)) :=
  ⟨⟨pt_weak (pt_cmpR (op_ltT (by omega)) ha.b.pe hb.b.pe (nomark _)) fun σ H Q ⟨sr, O, H0, ad, he, hw⟩ => ⟨sr, O, H0, ad, he, by
      have hw := le2 (f := fun x y => rt (m := m) (HT.lexLt x y)) (g := fun x y => Wp.pure (HT.lexLt x y)) (fun _ _ => lep) _ hw
      refine (Mn.wp wa).mono (fun x q v H1 x1 r => ⟨sr, O, H0, ad, he.ext' x1, (Mn.wp wb).mono (fun y q2 v2 H2 x2 r2 => ?_) q⟩) hw
      obtain ⟨p1, vs1, rfl, h1, s1⟩ := (r.ext x2 he.sO).seqT
      obtain ⟨p2, vs2, rfl, h2, s2⟩ := r2.seqT
      have s1 : Reps X.K X.mg O H2 vs1 (x.map D.i) := s1
      have s2 : Reps X.K X.mg O H2 vs2 (y.map D.i) := s2
      rw [s1.ints] at h1
      rw [s2.ints] at h2
      exact ⟨p1, p2, x, y, rfl, rfl, h1, h2, _, rfl, q2 H2 (x1.trans x2)⟩⟩⟩⟩
/-! ### is of bools -/
theorem JE.isB {wa wb : m Bool} (ha : JE X false a ρ eB wa) (hb : JE X false b ρ eB wb) : JE X M (.Compare a [.Is] [b] pos) ρ eB (bd wa fun x => bd wb fun y => rt (decide (x = y))) :=
  ⟨⟨pe_weak (pe_cmpR op_is_bl ha.b.pe hb.b.pe (nomark _)) fun σ H Q ⟨sr, O, H0, ad, he, hw⟩ => ⟨sr, O, H0, ad, he, by
      have hw := le2 (f := fun x y => rt (m := m) (decide (x = y))) (g := fun x y => Wp.pure (decide (x = y))) (fun _ _ => lep) _ hw
      refine (Mn.wp wa).mono (fun x q v H1 x1 r => ⟨sr, O, H0, ad, he.ext' x1, (Mn.wp wb).mono (fun y q2 v2 H2 x2 r2 => ?_) q⟩) hw
      cases r; cases r2
      exact ⟨x, y, rfl, rfl, q2 _ H2 (x1.trans x2) (.b _)⟩⟩⟩⟩
theorem JE.notB {wa wb : m Bool} (ha : JE X false a ρ eB wa) (hb : JE X false b ρ eB wb) : JE X M (.Compare a [.IsNot] [b] pos) ρ eB (bd wa fun x => bd wb fun y => rt (!decide (x = y))) :=
  ⟨⟨pe_weak (pe_cmpR op_isnot_bl ha.b.pe hb.b.pe (nomark _)) fun σ H Q ⟨sr, O, H0, ad, he, hw⟩ => ⟨sr, O, H0, ad, he, by
      have hw := le2 (f := fun x y => rt (m := m) (!decide (x = y))) (g := fun x y => Wp.pure (!decide (x = y))) (fun _ _ => lep) _ hw
      refine (Mn.wp wa).mono (fun x q v H1 x1 r => ⟨sr, O, H0, ad, he.ext' x1, (Mn.wp wb).mono (fun y q2 v2 H2 x2 r2 => ?_) q⟩) hw
      cases r; cases r2
      exact ⟨x, y, rfl, rfl, q2 _ H2 (x1.trans x2) (.b _)⟩⟩⟩⟩
theorem JT.isB {wa wb : m Bool} (ha : JE X false a ρ eB wa) (hb : JE X false b ρ eB wb) : JT X (.Compare a [.Is] [b] pos) ρ (bd wa fun x => bd wb fun y => rt (decide (x = y))) :=
  ⟨⟨pt_weak (pt_cmpR op_is_bl ha.b.pe hb.b.pe (nomark _)) fun σ H Q ⟨sr, O, H0, ad, he, hw⟩ => ⟨sr, O, H0, ad, he, by
      have hw := le2 (f := fun x y => rt (m := m) (decide (x = y))) (g := fun x y => Wp.pure (decide (x = y))) (fun _ _ => lep) _ hw
      refine (Mn.wp wa).mono (fun x q v H1 x1 r => ⟨sr, O, H0, ad, he.ext' x1, (Mn.wp wb).mono (fun y q2 v2 H2 x2 r2 => ?_) q⟩) hw
      cases r; cases r2
      exact ⟨x, y, rfl, rfl, _, rfl, q2 H2 (x1.trans x2)⟩⟩⟩⟩
theorem JT.notB {wa wb : m Bool} (ha : JE X false a ρ eB wa) (hb : JE X false b ρ eB wb) : JT X (.Compare a [.IsNot] [b] pos) ρ (bd wa fun x => bd wb fun y => rt (!decide (x = y))) :=
  ⟨⟨pt_weak (pt_cmpR op_isnot_bl ha.b.pe hb.b.pe (nomark _)) fun σ H Q ⟨sr, O, H0, ad, he, hw⟩ => ⟨sr, O, H0, ad, he, by
      have hw := le2 (f := fun x y => rt (m := m) (!decide (x = y))) (g := fun x y => Wp.pure (!decide (x = y))) (fun _ _ => lep) _ hw
      refine (Mn.wp wa).mono (fun x q v H1 x1 r => ⟨sr, O, H0, ad, he.ext' x1, (Mn.wp wb).mono (fun y q2 v2 H2 x2 r2 => ?_) q⟩) hw
      cases r; cases r2
      exact ⟨x, y, rfl, rfl, _, rfl, q2 H2 (x1.trans x2)⟩⟩⟩⟩
/-! ### xs.append(ys.pop(e)), x = ys.pop(e) -/
def popO (xs : List γ) (i : Int) : Option (γ × List γ) := if bdd i = true then (ixN xs.length i).bind fun k => (xs[k]?).map fun x => (x, xs.eraseIdx k) else none
theorem popO_is {xs : List γ} {i : Int} {r : γ × List γ} (h : popO xs i = some r) : -(2 ^ 63) ≤ i ∧ i < 2 ^ 63 ∧ ∃ k, seqIndex? i xs.length = some k ∧ xs[k]? = some r.1 ∧ r.2 = xs.eraseIdx k := by
  unfold popO at h
  split at h
  · rename_i hb
    have := bdd_is hb
    obtain ⟨k, h1, h2⟩ := Option.bind_eq_some_iff.mp h
    obtain ⟨x, h3, rfl⟩ := Option.map_eq_some_iff.mp h2
    exact ⟨by omega, by omega, k, (ixN_seq h1).1, h3, rfl⟩
  · cases h
section
variable {n n2 : Str} {F : γ → D} {E : β → D} {ρx : Option (α → List Slot)} {ρl : ω → List Slot} {e : κ → Fl α ω β} {rest : List Stmt} {pos1 apos2 cpos2 : Pos}
abbrev NmOk (X : Cx) (n : Str) : Prop := Vis X.env.scope n ∧ (n == ("__debug__" : Str)) = false ∧ (n == ("__classdict__" : Str)) = false
/-- y.pop(b), y one's own list: the item and the rest -/
theorem map_erase {f : γ → δ} : ∀ (xs : List γ) (k : Nat), (xs.eraseIdx k).map f = (xs.map f).eraseIdx k
  | [], _ => rfl
  | _ :: _, 0 => rfl
  | x :: xs, k + 1 => by
    show f x :: (xs.eraseIdx k).map f = f x :: (xs.map f).eraseIdx k
    rw [map_erase xs k]
theorem pop_pe (j : Nat) {ys : List γ} {wb : m Int} (h : ρ[j]? = some (.l (ys.map F))) (hb : JE X false b ρ eI wb) (hN : X.N[j]? = some n2) (hv : NmOk X n2)
    (hbase : attributeBase (.Name n2 p3) "pop" X.env (eval (.Name n2 p3) X.env) = eval (.Name n2 p3) X.env)
    (hfew : ((backTo cpos (starEach [b] X.env)).all (fun x => !x.1) && (backToKw cpos (keywordEach [] X.env)).all (fun x => x.1.isSome) && decide ([b].length + ([] : List Keyword).length + (if ([] : List Keyword).isEmpty then 0 else 1) < 30)) = true)
    (hline : (apos.endLine == cpos.line) = true) (hs : starEach [b] X.env = (false, eval b X.env) :: starEach [] X.env) :
    PE X (.Call (.Attribute (.Name n2 p3) "pop" apos) [b] [] cpos) (fun σ H Q => ∃ sr O H0 ad, Env X.K X.mg sr O H0 H σ ρ ad ∧ (Mn.wp (bd wb fun i => lf (m := m) (popO ys i))).run fun r => ∀ v H', Env X.K X.mg sr O H0 H' σ (ρ.set j (.l (r.2.map F))) ad → Rep X.K X.mg (OO O ad) H' v (F r.1) → Q v H') := by
  refine pe_weak (pe_bm PySem.F.plainAttrs_list PySem.F.slot_list_pop PySem.F.type_list_pop mt_popAt (pv j hN hv.1 hv.2.1 hv.2.2) (pa_cons hb.b.pe pa_nil hs) hbase hfew hline hs rfl) fun σ H Q ⟨sr, O, H0, ad, he, hw⟩ => ?_
  obtain ⟨p, vs, e1, e2, e3, rs⟩ := own_at he h
  have hw := le1 (f := fun i => lf (m := m) (popO ys i)) (g := fun i => Wp.ofO (popO ys i)) (fun _ => Mn.lift_le _) _ hw
  refine ⟨.ref p, e2, .inl ⟨rfl, vs, .inl (.inl e3)⟩, sr, O, H0, ad, he, (Mn.wp wb).mono (fun i q v H1 x1 r => ?_) hw⟩
  obtain ⟨z, hz, q⟩ := q
  cases r
  have he1 := he.ext' x1
  obtain ⟨p', vs', e1', e2', e3', rs'⟩ := own_at he1 h
  have : p' = p := Option.some.inj (e1'.symm.trans e1)
  subst this
  obtain ⟨b1, b2, k, hk, hx, hr⟩ := popO_is hz
  have hl : vs'.length = ys.length := by rw [rs'.length, List.length_map]
  obtain ⟨u, hu, ru⟩ := rs'.get (d := F z.1) (by rw [List.getElem?_map, hx]; rfl)
  refine ⟨p', vs', i, k, u, rfl, rfl, e3', b1, b2, by rw [hl]; exact hk, hu, q u _ ?_ ?_⟩
  · refine he1.write (vs := vs') h e1 ?_
    rw [hr, map_erase]
    exact rs'.eraseIdx k
  · exact ru.upd (.inr ⟨j, e1⟩) e3' trivial
theorem JS.appendPop (i j : Nat) {xs ys : List γ} {wb : m Int} {k : List γ → List γ → m κ} (h : ρ[i]? = some (.l (xs.map F))) (hj : ρ[j]? = some (.l (ys.map F))) (hij : i ≠ j) (hb : JE X false b ρ eI wb) (hr : ∀ us vs, JS X rest ((ρ.set j (.l (vs.map F))).set i (.l (us.map F))) E ρx ρl e (k us vs)) (hN : X.N[i]? = some n := by rfl) (hN2 : X.N[j]? = some n2 := by rfl)
    (hv : NmOk X n := by exact ⟨by first | exact Or.inl rfl | exact Or.inr (Or.inl rfl) | exact Or.inr (Or.inr rfl), by decide, by decide⟩) (hv2 : NmOk X n2 := by exact ⟨by first | exact Or.inl rfl | exact Or.inr (Or.inl rfl) | exact Or.inr (Or.inr rfl), by decide, by decide⟩)
    (hbase : attributeBase (.Name n p2) "append" X.env (eval (.Name n p2) X.env) = eval (.Name n p2) X.env := by rfl) (hbase2 : attributeBase (.Name n2 p3) "pop" X.env (eval (.Name n2 p3) X.env) = eval (.Name n2 p3) X.env := by rfl)
    (hfew2 : ((backTo cpos2 (starEach [b] X.env)).all (fun x => !x.1) && (backToKw cpos2 (keywordEach [] X.env)).all (fun x => x.1.isSome) && decide ([b].length + ([] : List Keyword).length + (if ([] : List Keyword).isEmpty then 0 else 1) < 30)) = true := by rfl)
    (hline2 : (apos2.endLine == cpos2.line) = true := by rfl) (hs2 : starEach [b] X.env = (false, eval b X.env) :: starEach [] X.env := by rfl)
    (hfew : ((backTo cpos (starEach [.Call (.Attribute (.Name n2 p3) "pop" apos2) [b] [] cpos2] X.env)).all (fun x => !x.1) && (backToKw cpos (keywordEach [] X.env)).all (fun x => x.1.isSome) && decide (([.Call (.Attribute (.Name n2 p3) "pop" apos2) [b] [] cpos2] : List Expr).length + ([] : List Keyword).length + (if ([] : List Keyword).isEmpty then 0 else 1) < 30)) = true := by rfl)
    (hline : (apos.endLine == cpos.line) = true := by rfl) (hs : starEach [.Call (.Attribute (.Name n2 p3) "pop" apos2) [b] [] cpos2] X.env = (false, eval (.Call (.Attribute (.Name n2 p3) "pop" apos2) [b] [] cpos2) X.env) :: starEach [] X.env := by rfl) (hsw : swapsWith (.Call (.Attribute (.Name n p2) "append" apos) [.Call (.Attribute (.Name n2 p3) "pop" apos2) [b] [] cpos2] [] cpos) none pos1.line X.env = pure false := by rfl) :
    JS X (.Expr (.Call (.Attribute (.Name n p2) "append" apos) [.Call (.Attribute (.Name n2 p3) "pop" apos2) [b] [] cpos2] [] cpos) pos1 :: rest) ρ E ρx ρl e (bd (bd wb fun i => lf (popO ys i)) fun r => bd (lf (appO xs r.1)) fun us => k us r.2) :=
  ⟨pss_weak (pss_cons (ps_expr (pe_bm PySem.F.plainAttrs_list PySem.F.slot_list_append PySem.F.type_list_append mt_append (pv i hN hv.1 hv.2.1 hv.2.2) (pa_cons (pop_pe j hj hb hN2 hv2 hbase2 hfew2 hline2 hs2) pa_nil hs) hbase hfew hline hs rfl) hsw) (pss_ex fun q : List γ × List γ => (hr q.1 q.2).ps)) fun Dd σ H ⟨sr, O, H0, ad, he, hw⟩ => (by
    obtain ⟨p, vs, e1, e2, e3, rs⟩ := own_at he h
    refine ⟨.ref p, e2, .inl ⟨rfl, vs, .inl (.inl e3)⟩, sr, O, H0, ad, he, (Mn.wp _).mono (fun z q v H1 he1 r => ?_) (bdk hw)⟩
    obtain ⟨us, hus, q⟩ := Mn.lift_le _ _ (bdk q)
    have hi1 : (ρ.set j (.l (z.2.map F)))[i]? = some (.l (xs.map F)) := by rw [List.getElem?_set_ne (fun q => hij q.symm)]; exact h
    obtain ⟨p', vs', e1', e2', e3', rs'⟩ := own_at he1 hi1
    have : p' = p := Option.some.inj (e1'.symm.trans e1)
    subst this
    unfold appO at hus
    split at hus
    · rename_i hz
      cases hus
      refine ⟨p', vs', v, rfl, rfl, e3', by rw [rs'.length, List.length_map]; exact hz, (xs ++ [z.1], z.2), sr, O, H0, ad, ?_, q⟩
      refine he1.write (vs := vs') hi1 e1 ?_
      rw [List.map_append]
      exact rs'.append (.cons r .nil)
    · cases hus), fun z => nn_bd fun x => nn_bd fun y => (hr y _).nn z⟩
/-- x = ys.pop(e) -/
theorem JS.setPop (i j : Nat) {ys : List γ} {wb : m Int} {k : γ → List γ → m κ} (hNd : X.N.Nodup) (hj : ρ[j]? = some (.l (ys.map F))) (hi : i < ρ.length) (hb : JE X false b ρ eI wb) (hr : ∀ u vs, JS X rest ((ρ.set j (.l (vs.map F))).set i (.d (F u))) E ρx ρl e (k u vs)) (hN : X.N[i]? = some n) (hf : X.fn n = true ∨ X.env.scope.names.lookup n = some .local) (hl : Loc X.env.scope n) (hN2 : X.N[j]? = some n2 := by rfl)
    (hv2 : NmOk X n2 := by exact ⟨by first | exact Or.inl rfl | exact Or.inr (Or.inl rfl) | exact Or.inr (Or.inr rfl), by decide, by decide⟩)
    (hbase2 : attributeBase (.Name n2 p3) "pop" X.env (eval (.Name n2 p3) X.env) = eval (.Name n2 p3) X.env := by rfl)
    (hfew2 : ((backTo cpos2 (starEach [b] X.env)).all (fun x => !x.1) && (backToKw cpos2 (keywordEach [] X.env)).all (fun x => x.1.isSome) && decide ([b].length + ([] : List Keyword).length + (if ([] : List Keyword).isEmpty then 0 else 1) < 30)) = true := by rfl)
    (hline2 : (apos2.endLine == cpos2.line) = true := by rfl) (hs2 : starEach [b] X.env = (false, eval b X.env) :: starEach [] X.env := by rfl)
    (hsw : swapsWith (.Call (.Attribute (.Name n2 p3) "pop" apos2) [b] [] cpos2) (some (.Name n p2)) pos1.line X.env = pure false := by rfl) :
    JS X (.Assign [.Name n p2] (.Call (.Attribute (.Name n2 p3) "pop" apos2) [b] [] cpos2) pos1 :: rest) ρ E ρx ρl e (bd (bd wb fun i => lf (popO ys i)) fun r => k r.1 r.2) :=
  ⟨pss_weak (pss_cons (ps_set hNd hN hl (pop_pe j hj hb hN2 hv2 hbase2 hfew2 hline2 hs2) hsw hf) (pss_ex fun q : γ × List γ => (hr q.1 q.2).ps)) fun Dd σ H ⟨sr, O, H0, ad, he, hw⟩ => (by
    refine ⟨sr, O, H0, ad, he, (Mn.wp _).mono (fun z q v H1 he1 r => ?_) (bdk hw)⟩
    exact ⟨z, sr, O, H0, _, he1.put i v _ r, q⟩), fun z => nn_bd fun x => (hr _ _).nn z⟩
end
end
end Wk

namespace Wk
open PySem PySem.Spec PyProof.Rows L2
/-! ### x[::-1] -/
theorem rev_pick (xs : Array Value) : ((List.range xs.size).filterMap fun (m : Nat) => xs[(((xs.size : Int) - 1) + (m : Int) * (-1)).toNat]?) = xs.toList.reverse := by
  have : ∀ n, n ≤ xs.size → ((List.range n).filterMap fun (m : Nat) => xs[(((xs.size : Int) - 1) + (m : Int) * (-1)).toNat]?) = (xs.toList.reverse).take n := by
    intro n
    induction n with
    | zero => intro _; rfl
    | succ n ih =>
      intro h
      rw [List.range_succ, List.filterMap_append, ih (by omega)]
      have e : (((xs.size : Int) - 1) + (n : Int) * (-1)).toNat = xs.size - 1 - n := by omega
      rw [List.filterMap_cons, e, Array.getElem?_eq_getElem (by omega), List.filterMap_nil]
      rw [List.take_succ, List.getElem?_reverse (by simp; omega)]
      simp
      rw [Array.getElem?_eq_getElem (by omega)]
      rfl
  rw [this xs.size (Nat.le_refl _), List.take_of_length_le (by simp)]
section
variable {prog : Program} {w : World} {A : Around} {E : Value → Shared → Prop} {s : Shared}
theorem sliceApplied_rev {sl : Addr} {t : Tok} {n : Nat} {Q : Int × Int × Nat → Shared → Prop} (hs : s.heap.IsSliceOf sl .none .none (.int (-1) t))
    (h : Q ((n : Int) - 1, -1, n) s) : wpAny (model prog w) A (Builtin.Slice.sliceApplied (.ref sl) (pure (n : Int))) Q E s := by
  obtain ⟨os, hos, hcs, hds⟩ := id hs
  unfold Builtin.Slice.sliceApplied Builtin.Slice.sliceFields
  refine wpAny_bind (wpAny_bind (wpAny_field hos hds (x := .none) rfl (wpAny_bind (wpAny_field hos hds (x := .none) rfl (wpAny_bind (wpAny_field hos hds (x := .int (-1) t) rfl (wpAny_pure ?_)))))))
  refine wpAny_bind (HT.slicePart_ (o := some (-1)) (.int (-1) t) ?_)
  show wpAny _ _ (if ((-1 : Int) == 0) = true then _ else _) _ _ s
  rw [if_neg (by decide)]
  refine wpAny_bind (HT.slicePart_ .none (wpAny_bind (HT.slicePart_ .none (wpAny_bind (wpAny_pure ?_)))))
  show wpAny _ _ (match Builtin.Slice.sliceAdjust none none (-1) (n : Int) with | (lo, hi) => pure (lo, (-1 : Int), Builtin.Slice.slicePlaces lo hi (-1))) _ _ s
  have e : Builtin.Slice.sliceAdjust none none (-1) (n : Int) = ((n : Int) - 1, -1) := rfl
  rw [e]
  show wpAny _ _ (pure ((n : Int) - 1, (-1 : Int), Builtin.Slice.slicePlaces ((n : Int) - 1) (-1) (-1))) _ _ s
  have e2 : Builtin.Slice.slicePlaces ((n : Int) - 1) (-1) (-1) = n := by
    unfold Builtin.Slice.slicePlaces
    rw [if_neg (by decide), show (-(-1 : Int)) = 1 from rfl]
    simp only [Int.ediv_one]
    split <;> omega
  rw [e2]
  exact wpAny_pure h
theorem getItem_tuple_rev {t sl : Addr} {items : Array Value} {k : Tok} {Q : Value → Shared → Prop} (ht : IsTup s.heap t items) (hs : s.heap.IsSliceOf sl .none .none (.int (-1) k))
    (h : Q (.ref s.heap.objs.size) { s with heap := s.heap.push { cls := .type "tuple", data := .seq items.toList.reverse.toArray } })
    (hsz : items.size ≤ sizeLine) : wpAny (model prog w) A (getItem (.ref t) (.ref sl)) Q E s := by
  have htake : sizeOk (.seq items.toList.reverse.toArray) := by
    show items.toList.reverse.toArray.size ≤ sizeLine
    rw [List.size_toArray, List.length_reverse, Array.length_toList]
    omega
  obtain ⟨os, hos, hcs, hds⟩ := id hs
  have hTs : s.TypeIs (.ref sl) "slice" := ⟨os, hos, hcs⟩
  unfold getItem
  try with_reducible refine wpAny_holding ?_
  first | refine wpAny_bind (wpAny_pure ?_) | skip
  refine wpAny_bind (wpAny_sequenceKey ht.typeIs (by decide) ?_)
  refine wpAny_bind (wpAny_callSpecial?_slot (name := Str.ofString "__getitem__") ht.typeIs PyProof.Rows.slot_tuple_getitem
    (wpAny_call_entry PyProof.Rows.slot_tuple_getitem ht.typeIs PyProof.Rows.entry_tuple_getitem ?_ (PyProof.Rows.args_tuple_getitem _ _)))
  show wpAny _ _ (Builtin.Tuple.tupleItemsOf (.ref t) >>= _) _ _ s
  refine wpAny_bind (tupleItemsOf_ ht ?_)
  refine wpAny_bind (wpAny_typeOf hTs ?_)
  rw [if_pos (by decide)]
  refine wpAny_bind (sliceApplied_rev (n := items.size) hs ?_)
  have hno : ¬ ((((items.size : Int) - 1) == 0 && (-1 : Int) == 1 && items.size == items.size) = true) := by simp
  show wpAny _ _ (if (((items.size : Int) - 1) == 0 && (-1 : Int) == 1 && items.size == items.size) = true then _ else _) _ _ s
  rw [if_neg hno, rev_pick]
  first
    | exact wpAny_bind (m := Builtin.Tuple.tupleExact _) (wpAny_newObj_type (wpAny_pure ⟨_, rfl, wpAny_pure h⟩) htake)
    | exact wpAny_bind (m := Builtin.Tuple.tupleExact _) (wpAny_newObj_type (wpAny_bind (wpAny_pure (wpAny_pure ⟨_, rfl, wpAny_pure h⟩))) htake)
    | exact wpAny_bind (wpAny_bind (m := Builtin.Tuple.tupleExact _) (wpAny_newObj_type (wpAny_pure (wpAny_pure ⟨_, rfl, wpAny_pure h⟩)) htake))
    | exact wpAny_bind (wpAny_bind (m := Builtin.Tuple.tupleExact _) (wpAny_newObj_type (wpAny_pure ⟨_, rfl, wpAny_pure h⟩) htake))
theorem pick_list_rev (its : List Value) : slicePick its.toArray none none (some (-1)) = its.reverse.toArray := by
  have h := rev_pick its.toArray
  rw [List.size_toArray] at h
  unfold slicePick sliceRange
  have e1 : (sliceBounds none none (some (-1)) its.toArray.size) = ((its.length : Int) - 1, -1, -1) := by
    rw [List.size_toArray]; rfl
  rw [e1]
  have e2 : (if (-1 : Int) > 0 then (if ((its.length : Int) - 1) < (-1) then ((-1) - ((its.length : Int) - 1) + (-1) - 1) / (-1) else 0) else (if ((its.length : Int) - 1) > (-1) then (((its.length : Int) - 1) - (-1) - (-1) - 1) / (-(-1)) else 0) : Int).toNat = its.length := by
    rw [if_neg (by decide), show (-(-1 : Int)) = 1 from rfl]
    simp only [Int.ediv_one]
    split <;> omega
  show ((((List.range _).map _).filterMap _) : List Value).toArray = _
  rw [e2, List.filterMap_map]
  congr 1
  have h2 : its.toArray.toList.reverse = its.reverse := rfl
  rw [← h2, ← h]
  congr 1
  funext k
  show its.toArray[((its.length : Int) - 1 + (-1) * (k : Int)).toNat]? = its.toArray[((its.length : Int) - 1 + (k : Int) * (-1)).toNat]?
  rw [Int.mul_comm]
end
section
variable {X : Cx} {e : Expr} {te : TE} {p2 pos p3 p4 : Pos} {kk : Nat}
def tRevS (K : PySem.W.Frag) (te : TE) : TE := fun σ H Q => te σ H fun x H1 => ∃ a xs, x = .ref a ∧ ((SqL K H1 a xs ∧ ∀ p, H1 p = none → Q (.ref p) (upd H1 p (.lst xs.reverse))) ∨ (SqT K H1 a xs ∧ ∀ p, H1 p = none → Q (.ref p) (upd H1 p (.tup xs.reverse))))
theorem vals_rev : ∀ {xs : List V} {us : List Value}, Vals xs us → Vals xs.reverse us.reverse
  | _, _, .nil => .nil
  | _, _, .cons r t => by
    rw [List.reverse_cons, List.reverse_cons]
    exact (vals_rev t).append (.cons r .nil)
theorem pe_revS (he : PE X e te) : PE X (.Subscript e (.Slice none none (some (.UnaryOp .USub (.Constant (.int 1) kk p3) p4)) p2) pos) (tRevS X.K te) := by
  refine ⟨fun pins s σ H Q I h => ?_⟩
  refine Subscript_ (thn (he.run pins s σ H _ I h) fun v s1 ⟨x, H1, I1, r1, a, xs, ex, q1⟩ => ?_)
  subst ex
  cases r1
  refine wpAny_Slice ?_
  rw [evalPart_none]
  refine wpAny_pure ?_
  refine wpAny_pure ?_
  rw [evalPart_some]
  refine thn ((pe_un (X := X) un_neg (pe_int (X := X) (i := 1) (j := kk) (pos := p3)) (pos := p4)).run pins s1 σ H1 (fun y H2 => y = .int (-1) ∧ H2 = H1) I1 ⟨1, rfl, rfl, rfl⟩) fun vs s3 ⟨y, H2, I3, ry, e1, e2⟩ => ?_
  subst e1 e2
  obtain ⟨k, rfl⟩ := ry
  have I4 : Inv X pins σ H2 { s3 with heap := s3.heap.push { cls := .type "slice", data := .fields #[.none, .none, .int (-1) k] } } := I3.kept (t' := s3.toks) fun b ob q => Heap.get?_push_of_some _ q
  have hs : (s3.heap.push { cls := .type "slice", data := .fields #[.none, .none, .int (-1) k] }).IsSliceOf s3.heap.objs.size .none .none (.int (-1) k) := Heap.IsSliceOf.new ..
  show wpAny (model X.prog X.w) X.A (subscriptTail e (.Slice none none (some (.UnaryOp .USub (.Constant (.int 1) kk p3) p4)) p2) (.ref a) (.ref s3.heap.objs.size)) (EP X pins σ Q) X.xe { s3 with heap := s3.heap.push { cls := .type "slice", data := .fields #[.none, .none, .int (-1) k] } }
  rcases q1 with ⟨hx, q⟩ | ⟨hx, q⟩
  · obtain ⟨its, r, ht, hz⟩ := I4.list hx
    have hlen := r.length
    refine tail_any (ops := [.ref a, .ref s3.heap.objs.size]) ht.isList.typeIs slot_list_getitem.lookup ?_ (by with_unfolding_all rfl)
    refine wpAny_getItem_list_slice ht.isList hs .none .none (st := some (-1)) (.int (-1) k) (by simp) ?_ (by rw [List.size_toArray] <;> omega)
    rw [pick_list_rev]
    refine ⟨.ref _, _, I4.laid (t' := s3.toks) (o := .lst xs.reverse) (fun b ob q => Heap.get?_push_of_some _ q) (Nat.le_refl _) ?_, rfl, q _ (I4.hok.fresh (Nat.le_refl _))⟩
    exact ⟨by rw [List.length_reverse]; exact hz, _, 0, vals_rev r, Heap.get?_push_size _ rfl⟩
  · obtain ⟨its, r, ht, hz⟩ := I4.tuple hx
    have hlen := r.length
    refine tail_any (ops := [.ref a, .ref s3.heap.objs.size]) ht.typeIs PyProof.Rows.slot_tuple_getitem.lookup ?_ (by with_unfolding_all rfl)
    refine getItem_tuple_rev ht hs ?_ (by rw [List.size_toArray]; omega)
    refine ⟨.ref _, _, I4.laid (t' := s3.toks) (o := .tup xs.reverse) (fun b ob q => Heap.get?_push_of_some _ q) (Nat.le_refl _) ?_, rfl, q _ (I4.hok.fresh (Nat.le_refl _))⟩
    exact ⟨by rw [List.length_reverse]; exact hz, _, vals_rev r, IsTup.new _ _⟩
end
section
variable {m : Type → Type} [Mn m] {α : Type} {X : Cx} {M : Bool} {ρ : List Slot} {E : α → D} {a : Expr} {p2 pos p3 p4 : Pos} {kk : Nat}
theorem JE.revT {wa : m (List α)} (ha : JE X M a ρ (eT E) wa) : JE X M (.Subscript a (.Slice none none (some (.UnaryOp .USub (.Constant (.int 1) kk p3) p4)) p2) pos) ρ (eT E) (bd wa fun xs => rt xs.reverse) :=
  ⟨⟨pe_weak (pe_revS ha.b.pe) fun σ H Q ⟨sr, O, H0, ad, he, hw⟩ => ⟨sr, O, H0, ad, he, by
      have hw := le1 (f := fun xs : List α => rt (m := m) xs.reverse) (g := fun xs => Wp.pure xs.reverse) (fun _ => lep) _ hw
      refine (Mn.wp wa).mono (fun xs q v H1 x1 r => ?_) hw
      obtain ⟨p, vs, rfl, hs, rs⟩ := r.seqT
      refine ⟨p, vs, rfl, .inr ⟨hs, fun d hd => q _ _ (x1.trans (Ext.new x1.srs hd)) (.t upd_same ?_)⟩⟩
      rw [List.map_reverse]
      exact rs.reverse.ext (Ext.new x1.srs hd) (he.sOM M)⟩⟩⟩
theorem JL.revL {wa : m (List α)} (ha : JE X M a ρ (eL E) wa) : JL X M (.Subscript a (.Slice none none (some (.UnaryOp .USub (.Constant (.int 1) kk p3) p4)) p2) pos) ρ E (bd wa fun xs => rt xs.reverse) :=
  ⟨⟨pe_weak (pe_revS ha.b.pe) fun σ H Q ⟨sr, O, H0, ad, he, hw⟩ => ⟨sr, O, H0, ad, he, by
      have hw := le1 (f := fun xs : List α => rt (m := m) xs.reverse) (g := fun xs => Wp.pure xs.reverse) (fun _ => lep) _ hw
      refine (Mn.wp wa).mono (fun xs q v H1 x1 r => ?_) hw
      obtain ⟨p, vs, rfl, hs, _, rs⟩ := r.seqL
      refine ⟨p, vs, rfl, .inl ⟨.inl (.inl hs), fun d hd => q d _ _ (x1.back hd) (x1.trans (Ext.new x1.srs hd)) upd_same ?_⟩⟩
      rw [List.map_reverse]
      exact ((rs.reverse.fresh hd).ext (Ext.new x1.srs hd) (fun S hS => .inl (he.sOM M S hS)))⟩⟩⟩
end
end Wk

namespace Wk
open PySem PySem.Spec PyProof.Rows L2
/-! ### t * n, any n -/
theorem tuple_mul0 (l : Addr) (items : Array Value) (n : Nat) (dd : Option Addr) (sl : Array (Option Value)) (x : Int) (u : Tok) (c0 : (decide (x < -(2 ^ 63)) || decide (x ≥ 2 ^ 63)) = false) (c1 : (items.isEmpty || x == 1) = false) (c2 : (decide (x ≤ 0) || items.isEmpty) = true) :
    Meets (Builtin.«tuple.__mul__» ⟨[.ref l, .int x u], []⟩) (fun _ R s => s.heap.get? l = some { cls := .type "tuple", dict := dd, data := .seq items n, slots := sl } ∧
      R (.ok (.ret (Value.ref s.heap.objs.size))) { s with heap := s.heap.push { cls := Value.type "tuple", data := Data.seq #[] }, toks := s.toks }) :=
  .of_wp fun prog w A R s h => by
    obtain ⟨hp, g, d, tk, os⟩ := s
    obtain ⟨hl, h⟩ := h
    have f1 := AutoSeq1.idx_int
    wp_walk using wpAny_loadPart' hl
    repeat (first
      | (refine wpAny_ite_false (decide_eq_false (by rw [c0]; exact Bool.false_ne_true)) ?_; wp_walk using wpAny_loadPart' hl)
      | (refine wpAny_ite_false (decide_eq_false (by rw [c1]; exact Bool.false_ne_true)) ?_; wp_walk using wpAny_loadPart' hl)
      | (rw [if_pos c2]; wp_walk using wpAny_loadPart' hl))
    exact ⟨_, rfl, h⟩
theorem tuple_mul1 (l : Addr) (items : Array Value) (n : Nat) (dd : Option Addr) (sl : Array (Option Value)) (x : Int) (u : Tok) (c0 : (decide (x < -(2 ^ 63)) || decide (x ≥ 2 ^ 63)) = false) (c1 : (items.isEmpty || x == 1) = true) :
    Meets (Builtin.«tuple.__mul__» ⟨[.ref l, .int x u], []⟩) (fun _ R s => s.heap.get? l = some { cls := .type "tuple", dict := dd, data := .seq items n, slots := sl } ∧
      R (.ok (.ret (Value.ref l))) s) :=
  .of_wp fun prog w A R s h => by
    obtain ⟨hp, g, d, tk, os⟩ := s
    obtain ⟨hl, h⟩ := h
    have f1 := AutoSeq1.idx_int
    wp_walk using wpAny_loadPart' hl
    repeat (first
      | (refine wpAny_ite_false (decide_eq_false (by rw [c0]; exact Bool.false_ne_true)) ?_; wp_walk using wpAny_loadPart' hl)
      | (rw [if_pos c1]; wp_walk using wpAny_loadPart' hl))
    exact ⟨_, rfl, h⟩
def rRepA (K : PySem.W.Frag) : R2 := fun x y H Q => ∃ l k xs, x = .ref l ∧ y = .int k ∧ SqT K H l xs ∧ -(2 ^ 63) ≤ k ∧ k < 2 ^ 63 ∧ xs.length * k.toNat ≤ 16777216 ∧
  (xs = [] ∨ k = 1 → Q (.ref l) H) ∧ (¬ (xs = [] ∨ k = 1) → ∀ p, H p = none → Q (.ref p) (upd H p (.tup (List.replicate k.toNat xs).flatten)))
section
variable {X : Cx}
theorem op_repA : OpR X (binaryOp .Mult) (rRepA X.K) := by
  intro pins s σ H x y v u Q I rx ry h
  obtain ⟨l, k, xs, rfl, rfl, hT, h1, h2, hz, q1, q2⟩ := h
  cases rx
  obtain ⟨t, rfl⟩ := ry
  obtain ⟨its, r, ⟨⟨cls, dd, data, sl⟩, ho, hc, n, hd⟩, hs⟩ := I.tuple hT
  simp only at hc hd
  subst hc hd
  have hle : its.length = xs.length := r.length.symm
  have hsz0 : its.toArray.size = xs.length := by rw [List.size_toArray, hle]
  have c0 : (decide (k < -(2 ^ 63)) || decide (k ≥ 2 ^ 63)) = false := by
    rw [decide_eq_false (by omega), decide_eq_false (by omega)] <;> rfl
  have emp : its.toArray.isEmpty = true ↔ xs = [] := by
    rw [Array.isEmpty_iff_size_eq_zero, hsz0]
    exact List.length_eq_zero_iff
  refine wpAny_binaryOp_repeat_ref (T := "tuple") (U := "int") (by decide) ⟨_, ho, rfl⟩ (fun s' => typeIs_int s' k t) noFill_tuple_mul F.fills_int_mul F.slot_int_rmul repeat_tuple F.slot_int_index.lookup
    (call_meets F.slot_int_rmul (typeIs_int s k t) F.entry_int_rmul (F.args_int_rmul_2 _ _) (int_rmul_tuple k t l its.toArray n dd sl)
      ⟨ho, rfl, ⟨_, ho, rfl⟩, ?_⟩)
  by_cases he : xs = [] ∨ k = 1
  · have c1 : (its.toArray.isEmpty || k == 1) = true := by
      rcases he with he | he
      · rw [emp.mpr he]; rfl
      · rw [he, Bool.or_comm]; rfl
    exact call_meets F.slot_tuple_mul ⟨_, ho, rfl⟩ F.entry_tuple_mul (F.args_tuple_mul_2 _ _) (tuple_mul1 l its.toArray n dd sl k t c0 c1) ⟨ho, .ref l, H, I, rfl, q1 he⟩
  · have hi : its.toArray.isEmpty = false := by
      cases hb : its.toArray.isEmpty with
      | false => rfl
      | true => exact absurd (.inl (emp.mp hb)) he
    have c1 : (its.toArray.isEmpty || k == 1) = false := by
      rw [hi, Bool.false_or]
      exact beq_eq_false_iff_ne.mpr fun z => he (.inr z)
    by_cases hk : k ≤ 0
    · have c2 : (decide (k ≤ 0) || its.toArray.isEmpty) = true := by rw [decide_eq_true hk]; rfl
      have e0 : k.toNat = 0 := by omega
      have q2 := q2 he
      rw [e0] at q2
      refine call_meets F.slot_tuple_mul ⟨_, ho, rfl⟩ F.entry_tuple_mul (F.args_tuple_mul_2 _ _) (tuple_mul0 l its.toArray n dd sl k t c0 c1 c2) ⟨ho, ?_⟩
      refine ⟨.ref s.heap.objs.size, _, I.laid (t' := s.toks) (o := .tup []) (fun b ob q => Heap.get?_push_of_some _ q) (Nat.le_refl _) ?_, rfl, q2 _ (I.hok.fresh (Nat.le_refl _))⟩
      exact ⟨Nat.zero_le _, [], .nil, IsTup.new _ _⟩
    · have c2 : (decide (k ≤ 0) || its.toArray.isEmpty) = false := by
        rw [hi, Bool.or_false]
        exact decide_eq_false (by omega)
      have hm : ((its.toArray.size : Nat) : Int) * k ≤ 16777216 := by
        rw [hsz0]
        have e : k = (k.toNat : Int) := by omega
        rw [e, ← Int.natCast_mul]
        omega
      have flen : (List.replicate k.toNat its).flatten.length ≤ sizeLine := by
        rw [PyProof.Rows.lm_len_rep_flat, hle, sizeLine_eq, Nat.mul_comm]
        omega
      have c4 : Builtin.Tuple.tupleTooMany (((its.toArray.size : Nat) : Int) * k) = false := by
        unfold Builtin.Tuple.tupleTooMany
        rw [sizeLine_eq]
        exact decide_eq_false (by omega)
      refine call_meets F.slot_tuple_mul ⟨_, ho, rfl⟩ F.entry_tuple_mul (F.args_tuple_mul_2 _ _) (tuple_mulW l its.toArray n dd sl k t c0 c1 c2 (by omega) c4 (by rw [size_rep, List.size_toArray]; exact flen)) ⟨ho, ?_⟩
      rw [size_rep]
      refine ⟨.ref s.heap.objs.size, _, I.laid (t' := s.toks) (o := .tup (List.replicate k.toNat xs).flatten) (fun b ob q => Heap.get?_push_of_some _ q) (Nat.le_refl _) ?_, rfl, q2 he _ (I.hok.fresh (Nat.le_refl _))⟩
      exact ⟨by rw [PyProof.Rows.lm_len_rep_flat, sizeLine_eq, Nat.mul_comm]; omega, _, r.rep k.toNat, IsTup.new _ _⟩
end
section
variable {m : Type → Type} [Mn m] {α : Type} {X : Cx} {M : Bool} {ρ : List Slot} {E : α → D} {a b : Expr} {pos : Pos}
theorem JE.repT {wa : m (List α)} {wb : m Int} (ha : JE X M a ρ (eT E) wa) (hb : JE X false b ρ eI wb) : JE X M (.BinOp a .Mult b pos) ρ (eT E) (bd wa fun xs => bd wb fun n => lf (repO xs n)) :=
  ⟨⟨pe_weak (pe_op op_repA ha.b.pe hb.b.pe) fun σ H Q ⟨sr, O, H0, ad, he, hw⟩ => ⟨sr, O, H0, ad, he, by
      have hw := le2 (f := fun xs n => lf (m := m) (repO xs n)) (g := fun xs n => Wp.guard (-(2 ^ 63) ≤ n ∧ n < 2 ^ 63 ∧ xs.length * n.toNat ≤ 16777216) (List.replicate n.toNat xs).flatten) (fun _ _ => leg) _ hw
      refine (Mn.wp wa).mono (fun xs q v H1 x1 r => ⟨sr, O, H0, ad, he.ext' x1, (Mn.wp wb).mono (fun n q2 v2 H2 x2 r2 => ?_) q⟩) hw
      obtain ⟨⟨h1, h2, h3⟩, q2⟩ := q2
      cases r2
      obtain ⟨p, vs, rfl, hs, rs⟩ := (r.ext x2 (he.sOM M)).seqS
      have hl : vs.length = xs.length := by rw [rs.length, List.length_map]
      refine ⟨p, n, vs, rfl, rfl, .inl (.inl hs), h1, h2, by rw [hl]; exact h3, fun hz => ?_, fun hz d hd => q2 _ _ ((x1.trans x2).trans (Ext.new x2.srs hd)) (.t upd_same ?_)⟩
      · refine q2 _ H2 (x1.trans x2) ?_
        rcases hz with hz | hz
        · have e : xs = [] := List.eq_nil_of_length_eq_zero (by rw [← hl, hz]; rfl)
          subst e
          rw [hz] at hs
          have e2 : (List.replicate n.toNat ([] : List α)).flatten = [] := by simp
          rw [e2]
          exact .t hs .nil
        · subst hz
          have e2 : (List.replicate (1 : Int).toNat xs).flatten = xs := by simp [List.replicate]
          rw [e2]
          exact .t hs rs
      · rw [List.map_flatten, List.map_replicate]
        exact (rs.rep n.toNat).ext (Ext.new x2.srs hd) (he.sOM M)⟩⟩⟩
end
end Wk

namespace Wk
open PySem PySem.Spec PyProof.Rows L2
theorem hu65 {k : Nat} {A : Around} (r : Room k A) : A.units + 65 < cLine := by have := r.un; omega
/-! ### x in a list or tuple of data -/
def rInQ (K : PySem.W.Frag) (neg : Bool) : R2 := fun x y H Q => ∃ d ds, Dp K H x d ∧ (Dp K H y (.list ds) ∨ Dp K H y (.tuple ds)) ∧ SeqAt.shaped d = true ∧ SeqAt.shaped (.list ds) = true ∧ Q (.bl (if neg then !(ds.any fun z => PyData.eqv z d) else ds.any fun z => PyData.eqv z d)) H
section
variable {X : Cx}
theorem op_inQ (hu : X.A.units + 65 < cLine) : OpR X (compareOp .In) (rInQ X.K false) := by
  intro pins s σ H x y v u Q I rx ry h
  obtain ⟨d, ds, hd, he, sd, se, q⟩ := h
  obtain ⟨as, r1⟩ := Dp.reads I d x v hd rx
  rcases he with he | he
  · obtain ⟨bs, r2⟩ := Dp.reads I (.list ds) y u he ry
    exact SeqAt.in_list_reads r2 r1 (SeqAt.canLay_of_shaped se) (SeqAt.canLay_of_shaped sd) (room_in_shaped sd hu) ⟨.bl _, H, I, rfl, q⟩
  · obtain ⟨bs, r2⟩ := Dp.reads I (.tuple ds) y u he ry
    exact SeqAt.in_tuple_reads r2 r1 (SeqAt.canLay_of_shaped se) (SeqAt.canLay_of_shaped sd) (room_in_shaped sd hu) ⟨.bl _, H, I, rfl, q⟩
theorem op_ninQ (hu : X.A.units + 65 < cLine) : OpR X (compareOp .NotIn) (rInQ X.K true) := by
  intro pins s σ H x y v u Q I rx ry h
  obtain ⟨d, ds, hd, he, sd, se, q⟩ := h
  obtain ⟨as, r1⟩ := Dp.reads I d x v hd rx
  rcases he with he | he
  · obtain ⟨bs, r2⟩ := Dp.reads I (.list ds) y u he ry
    exact SeqAt.notIn_list_reads r2 r1 (SeqAt.canLay_of_shaped se) (SeqAt.canLay_of_shaped sd) (room_in_shaped sd hu) ⟨.bl _, H, I, rfl, q⟩
  · obtain ⟨bs, r2⟩ := Dp.reads I (.tuple ds) y u he ry
    exact SeqAt.notIn_tuple_reads r2 r1 (SeqAt.canLay_of_shaped se) (SeqAt.canLay_of_shaped sd) (room_in_shaped sd hu) ⟨.bl _, H, I, rfl, q⟩
end
section
variable {m : Type → Type} [Mn m] {α : Type} [DecidableEq α] {X : Cx} {M : Bool} {ρ : List Slot} {E : α → D} {a b : Expr} {pos : Pos}
theorem any_mem (f : Fth E) (x : α) : ∀ ys : List α, ((toPys (ys.map E)).any fun z => PyData.eqv z (toPy (E x))) = decide (x ∈ ys)
  | [] => by simp [toPys]
  | y :: ys => by
    rw [List.map_cons, toPys, List.any_cons, any_mem f x ys, f.eq, ← Bool.decide_or]
    congr 1
    rw [List.mem_cons, @eq_comm _ x y]
theorem dp_seq {K : PySem.W.Frag} {mg : Str → Option Value} {O : Addr → Prop} {H : Hp} {v : V} {k : Kd} {xs : List α} (h : Rep K mg O H v (eQ k E xs)) (hf : ∀ x, flatD (E x) = true) : Dp K H v (.list (toPys (xs.map E))) ∨ Dp K H v (.tuple (toPys (xs.map E))) := by
  have hff : flatDs (xs.map E) = true := flat_all _ fun d hd => by
    obtain ⟨x, _, rfl⟩ := List.mem_map.mp hd; exact hf x
  cases k with
  | l => exact .inl (Rep.dp (.l (xs.map E)) v hff h)
  | t => exact .inr (Rep.dp (.t (xs.map E)) v hff h)
variable {wa : m α} {wb : m (List α)} {k : Kd} {n : Nat}
theorem JE.inD (hu : X.A.units + 65 < cLine) (f : Fth E) (sE : Shp E n) (hn : n + 1 ≤ 64) (ha : JE X false a ρ E wa) (hb : JE X false b ρ (eQ k E) wb) (hm : behindInMarks .In b = false := by rfl) : JE X M (.Compare a [.In] [b] pos) ρ eB (bd wa fun x => bd wb fun y => rt (decide (x ∈ y))) :=
  ⟨⟨pe_weak (pe_cmpR (op_inQ hu) ha.b.pe hb.b.pe hm) fun σ H Q ⟨sr, O, H0, ad, he, hw⟩ => ⟨sr, O, H0, ad, he, by
      have hw := le2 (f := fun x y => rt (m := m) (decide (x ∈ y))) (g := fun x y => Wp.pure (decide (x ∈ y))) (fun _ _ => lep) _ hw
      refine (Mn.wp wa).mono (fun x q v H1 x1 r => ⟨sr, O, H0, ad, he.ext' x1, (Mn.wp wb).mono (fun y q2 v2 H2 x2 r2 => ?_) q⟩) hw
      refine ⟨_, _, (r.ext x2 he.sO).dp _ _ (sE.flat x), dp_seq r2 sE.flat, sE.shaped (by omega) x, (shp_Q (k := .l) sE).shaped hn y, ?_⟩
      rw [if_neg (by decide), any_mem f]
      exact q2 _ H2 (x1.trans x2) (.b _)⟩⟩⟩
theorem JE.ninD (hu : X.A.units + 65 < cLine) (f : Fth E) (sE : Shp E n) (hn : n + 1 ≤ 64) (ha : JE X false a ρ E wa) (hb : JE X false b ρ (eQ k E) wb) (hm : behindInMarks .NotIn b = false := by rfl) : JE X M (.Compare a [.NotIn] [b] pos) ρ eB (bd wa fun x => bd wb fun y => rt (!decide (x ∈ y))) :=
  ⟨⟨pe_weak (pe_cmpR (op_ninQ hu) ha.b.pe hb.b.pe hm) fun σ H Q ⟨sr, O, H0, ad, he, hw⟩ => ⟨sr, O, H0, ad, he, by
      have hw := le2 (f := fun x y => rt (m := m) (!decide (x ∈ y))) (g := fun x y => Wp.pure (!decide (x ∈ y))) (fun _ _ => lep) _ hw
      refine (Mn.wp wa).mono (fun x q v H1 x1 r => ⟨sr, O, H0, ad, he.ext' x1, (Mn.wp wb).mono (fun y q2 v2 H2 x2 r2 => ?_) q⟩) hw
      refine ⟨_, _, (r.ext x2 he.sO).dp _ _ (sE.flat x), dp_seq r2 sE.flat, sE.shaped (by omega) x, (shp_Q (k := .l) sE).shaped hn y, ?_⟩
      rw [if_pos rfl, any_mem f]
      exact q2 _ H2 (x1.trans x2) (.b _)⟩⟩⟩
theorem JT.inD (hu : X.A.units + 65 < cLine) (f : Fth E) (sE : Shp E n) (hn : n + 1 ≤ 64) (ha : JE X false a ρ E wa) (hb : JE X false b ρ (eQ k E) wb) (hm : behindInMarks .In b = false := by rfl) : JT X (.Compare a [.In] [b] pos) ρ (bd wa fun x => bd wb fun y => rt (decide (x ∈ y))) :=
  ⟨⟨pt_weak (pt_cmpR (op_inQ hu) ha.b.pe hb.b.pe hm) fun σ H Q ⟨sr, O, H0, ad, he, hw⟩ => ⟨sr, O, H0, ad, he, by
      have hw := le2 (f := fun x y => rt (m := m) (decide (x ∈ y))) (g := fun x y => Wp.pure (decide (x ∈ y))) (fun _ _ => lep) _ hw
      refine (Mn.wp wa).mono (fun x q v H1 x1 r => ⟨sr, O, H0, ad, he.ext' x1, (Mn.wp wb).mono (fun y q2 v2 H2 x2 r2 => ?_) q⟩) hw
      refine ⟨_, _, (r.ext x2 he.sO).dp _ _ (sE.flat x), dp_seq r2 sE.flat, sE.shaped (by omega) x, (shp_Q (k := .l) sE).shaped hn y, ?_⟩
      rw [if_neg (by decide), any_mem f]
      exact ⟨_, rfl, q2 H2 (x1.trans x2)⟩⟩⟩⟩
theorem JT.ninD (hu : X.A.units + 65 < cLine) (f : Fth E) (sE : Shp E n) (hn : n + 1 ≤ 64) (ha : JE X false a ρ E wa) (hb : JE X false b ρ (eQ k E) wb) (hm : behindInMarks .NotIn b = false := by rfl) : JT X (.Compare a [.NotIn] [b] pos) ρ (bd wa fun x => bd wb fun y => rt (!decide (x ∈ y))) :=
  ⟨⟨pt_weak (pt_cmpR (op_ninQ hu) ha.b.pe hb.b.pe hm) fun σ H Q ⟨sr, O, H0, ad, he, hw⟩ => ⟨sr, O, H0, ad, he, by
      have hw := le2 (f := fun x y => rt (m := m) (!decide (x ∈ y))) (g := fun x y => Wp.pure (!decide (x ∈ y))) (fun _ _ => lep) _ hw
      refine (Mn.wp wa).mono (fun x q v H1 x1 r => ⟨sr, O, H0, ad, he.ext' x1, (Mn.wp wb).mono (fun y q2 v2 H2 x2 r2 => ?_) q⟩) hw
      refine ⟨_, _, (r.ext x2 he.sO).dp _ _ (sE.flat x), dp_seq r2 sE.flat, sE.shaped (by omega) x, (shp_Q (k := .l) sE).shaped hn y, ?_⟩
      rw [if_pos rfl, any_mem f]
      exact ⟨_, rfl, q2 H2 (x1.trans x2)⟩⟩⟩⟩
end
end Wk

namespace Wk
open PySem PySem.Spec PyProof.Rows L2
/-! ### the truth of a list, of a tuple -/
section
variable {X : Cx} {e : Expr} {te : TE}
def tSeqT (K : PySem.W.Frag) (te : TE) : TT := fun σ H Q => te σ H fun x H1 => ∃ a xs, x = .ref a ∧ (SqL K H1 a xs ∨ SqT K H1 a xs) ∧ Q (!xs.isEmpty) H1
theorem pt_seq (h : PE X e te) (he : ∀ whole, isTrue e X.env whole = (do let v ← whole; standAt e.pos; holding [v] (truthy v)) := by intro _; rfl) : PT X e (tSeqT X.K te) := by
  refine ⟨fun pins s σ H Q I hw => ?_⟩
  refine isTrue_plain (thn (h.run pins s σ H _ I hw) fun v s1 ⟨x, H1, I1, r1, a, xs, ex, hq, q⟩ => ?_) (he _)
  subst ex
  cases r1
  have key : ∀ its : List Value, Vals xs its → its.toArray.isEmpty = xs.isEmpty := fun its r => by cases r <;> rfl
  rcases hq with hq | hq
  · obtain ⟨its, r, pl, hz⟩ := I1.list hq
    have hl := r.length
    refine wpAny_truthy_list pl.isList (by rw [List.size_toArray]; rw [sizeLine_eq] at hz; omega) ⟨H1, I1.kept (t' := s1.toks + 1 + 1) fun b o e => e, ?_⟩
    rw [key its r]; exact q
  · obtain ⟨its, r, pl, hz⟩ := I1.tuple hq
    have hl := r.length
    refine truthy_tuple pl (by rw [List.size_toArray]; rw [sizeLine_eq] at hz; omega) ⟨H1, I1.kept (t' := s1.toks + 1 + 1) fun b o e => e, ?_⟩
    rw [key its r]; exact q
end
section
variable {m : Type → Type} [Mn m] {α : Type} {X : Cx} {M : Bool} {ρ : List Slot} {E : α → D} {a : Expr} {p pos : Pos}
theorem JT.ne0 {k : Kd} {wa : m (List α)} (ha : JE X false a ρ (eQ k E) wa) (he : ∀ whole, isTrue a X.env whole = (do let v ← whole; standAt a.pos; holding [v] (truthy v)) := by intro _; rfl) : JT X a ρ (bd wa fun xs => rt (!xs.isEmpty)) :=
  ⟨⟨pt_weak (pt_seq ha.b.pe he) fun σ H Q ⟨sr, O, H0, ad, he, hw⟩ => ⟨sr, O, H0, ad, he, by
      have hw := le1 (f := fun xs : List α => rt (m := m) (!xs.isEmpty)) (g := fun xs => Wp.pure (!xs.isEmpty)) (fun _ => lep) _ hw
      refine (Mn.wp wa).mono (fun xs q v H1 x1 r => ?_) hw
      obtain ⟨p, vs, rfl, hs, rs⟩ := r.seq
      refine ⟨p, vs, rfl, hs, ?_⟩
      have : vs.isEmpty = xs.isEmpty := by
        have := rs.length
        rw [List.length_map] at this
        cases vs <;> cases xs <;> simp_all
      rw [this]
      exact q H1 x1⟩⟩⟩
end
/-! ### sum of a tuple -/
section
variable {prog : Program} {w : World} {A : Around} {E : Value → Shared → Prop} {s : Shared} {l : Addr} {its : List Value} {ns : List Int} {Q : Value → Shared → Prop}
theorem sum_rawT (hh : A.handled = none) (hl : IsTup s.heap l its.toArray) (hi : IntsAre its ns)
    (h : ∀ h' tk t', (∀ b o, s.heap.get? b = some o → h'.get? b = some o) → Q (.int ns.sum t') { s with heap := h', toks := tk }) : wpAny (model prog w) A (call (.builtin "sum") [.ref l]) Q E s := by
  obtain ⟨xs, e⟩ := hi.allInts.items
  have hn : numsOf (intItems xs).toList = ns := by rw [← e]; exact hi.numsOf
  rw [nums_intItems] at hn
  rw [e] at hl
  have hlt : l < s.heap.objs.size := by obtain ⟨_, e, _⟩ := hl; exact Heap.lt_size e
  refine call_sum_walkG (wpAny_pyIter_tuple hl ⟨_, [s.heap.objs.size, l], _, _, _, _, numAt xs, rfl, Walks.tuple (A := A.in1) hh s.heap.objs.size l (Nat.ne_of_lt hlt) (intItems xs), ⟨⟨_, Heap.get?_push_size _ rfl, rfl, rfl⟩, hl.keeps fun b o e => Heap.get?_push_of_some _ e⟩, fun b hb => ?_, (fun _ _ => intItems_at), fun h' tk t' hk => ?_⟩)
  · show b < (s.heap.push _).objs.size
    rw [Heap.size_push]
    rcases List.mem_cons.mp hb with rfl | hb
    · exact Nat.lt_succ_self _
    · rcases List.mem_cons.mp hb with rfl | hb
      · exact Nat.lt_succ_of_lt hlt
      · cases hb
  · have := h h' tk t' fun b o eo => hk b o (fun hmem => by
      rcases List.mem_cons.mp hmem with e1 | hmem
      · exact absurd (e1 ▸ Heap.lt_size eo) (Nat.lt_irrefl _)
      · cases hmem) (Heap.get?_push_of_some _ eo)
    have e3 : preSum (numAt xs) xs.size = ns.sum := by rw [preSum_eq, List.take_of_length_le (by simp), hn]
    have e4 : (intItems xs).size = xs.size := by simp [intItems]
    rw [e4, e3]; exact this
end
def rSumT (K : PySem.W.Frag) : List V → Hp → VK → Prop := fun vs H Q => ∃ (a : Addr) (ns : List Int), vs = [V.ref a] ∧ SqT K H a (ns.map V.int) ∧ Q (.int ns.sum) H
theorem cr_sumT {X : Cx} (hc : X.calm = true) : CallR X (.builtin "sum") (rSumT X.K) := by
  intro pins s σ H vs us Q I r h
  obtain ⟨a, ns, rfl, hs, q⟩ := h
  obtain ⟨its, rv, hl, _⟩ := I.tuple hs
  rw [Vals.ref1 r]
  exact sum_rawT (I.ok.hd hc) hl rv.ints fun h' tk t' hk => ⟨.int _, H, I.kept hk, ⟨_, rfl⟩, q⟩
section
variable {m : Type → Type} [Mn m] {α : Type} {X : Cx} {M : Bool} {ρ : List Slot} {a : Expr} {p pos : Pos}
theorem JE.sumT {wa : m (List Int)} (hc : X.calm = true) (hg : Gl X "sum") (hm : X.mg "sum" = none) (ha : JE X false a ρ (eT eI) wa) (hs : St1 X a := by rfl) : JE X M (.Call (.Name "sum" p) [a] [] pos) ρ eI (bd wa fun xs => rt xs.sum) :=
  (JE.fn1p (M := false) (E := eT eI) (fun xs : List Int => xs.sum) (fun ta hta => pe_callB (cr_sumT hc) hg hm (by decide +kernel) hta (by decide) (by decide) hs rfl) (fun O H v xs r Q q => by
    obtain ⟨p, vs, rfl, hs, rs⟩ := r.seqT
    have rs : Reps X.K X.mg O H vs (xs.map D.i) := rs
    rw [rs.ints] at hs
    exact ⟨p, xs, rfl, hs, q _ (.i _)⟩ ) ha hs).up pure_I
end
/-! ### enumerate(tuple) -/
theorem meets_enumerate_newT (l : Addr) (items : Array Value) (n : Nat) (dct : Option Addr) (sl : Array (Option Value)) :
    Meets (Builtin.«enumerate.__new__» ⟨[.type "enumerate", .ref l], []⟩) (fun _ R s => s.heap.get? l = some { cls := .type "tuple", dict := dct, data := .seq items n, slots := sl } ∧
      R (.ok (.ret (.ref (s.heap.push { cls := .type "tuple_iterator", data := .fields #[.ref l, .int 0 0] }).objs.size)))
        { s with heap := (s.heap.push { cls := .type "tuple_iterator", data := .fields #[.ref l, .int 0 0] }).push { cls := .type "enumerate", data := .fields #[.none, .bool false, .ref s.heap.objs.size, rawInt 0, .none, .none] } }) :=
  .of_wp fun prog w A R s h => by
    obtain ⟨hp, g, d, tk, os⟩ := s; obtain ⟨hl, h⟩ := h
    have hsub := sub_enumerate
    have hL : Heap.IsTuple (Shared.heap ⟨hp, g, d, tk, os⟩) l items := ⟨_, hl, rfl, n, rfl⟩
    have q1 : ∀ {A' : Around} {E : Value → Shared → Prop} {Q : Value → Shared → Prop}, Q (.ref hp.objs.size) ⟨hp.push { cls := .type "tuple_iterator", data := .fields #[.ref l, .int 0 0] }, g, d, tk, os⟩ → wpAny (model prog w) A' (pyIter (.ref l)) Q E ⟨hp, g, d, tk, os⟩ :=
      fun q => wpAny_pyIter_tuple hL q
    wp_walk using wpAny_loadPart' hl, q1
    refine wpAny_stack_any fun st => wpAny_pure ?_
    split
    · rename_i c _ _ _ _ _
      cases (c == Value.type "enumerate")
      · wp_walk using wpAny_loadPart' hl, q1
        exact ⟨_, rfl, h⟩
      · wp_walk using wpAny_loadPart' hl, q1
        exact ⟨_, rfl, h⟩
    · wp_walk using wpAny_loadPart' hl, q1
      exact ⟨_, rfl, h⟩
section
variable {prog : Program} {w : World} {A : Around} {E : Value → Shared → Prop} {s : Shared}
theorem call_enumerate_tuple {l : Addr} {items : Array Value} {Q : Value → Shared → Prop} (hL : s.heap.IsTuple l items)
    (h : ∀ h', IsEnum h' (s.heap.objs.size + 1) s.heap.objs.size 0 .none → h'.IsTupleIter s.heap.objs.size l 0 → h'.objs.size = s.heap.objs.size + 2 →
      (∀ b o, s.heap.get? b = some o → h'.get? b = some o) → Q (.ref (s.heap.objs.size + 1)) { s with heap := h' }) :
    wpAny (model prog w) A (call (.type "enumerate") [.ref l]) Q E s := by
  obtain ⟨⟨c, dct, dt, sl⟩, hl, hc, n, hd⟩ := hL
  replace hc : c = .type "tuple" := hc
  replace hd : dt = .seq items n := hd
  subst hc hd
  refine callType_new F.called_enumerate (by decide) (F.typeCall_enumerate_1 _) (F.newCall_enumerate_1 _) (fun obj => F.args_object_init_2 obj _) F.entry_enumerate_new
    (meets_enumerate_newT l items n dct sl) ⟨hl, ?_⟩
  have hz : (s.heap.push { cls := .type "tuple_iterator", data := .fields #[.ref l, .int 0 0] }).objs.size = s.heap.objs.size + 1 := Heap.size_push ..
  show _ ∧ _
  rw [hz]
  have he : IsEnum ((s.heap.push { cls := .type "tuple_iterator", data := .fields #[.ref l, .int 0 0] }).push
      { cls := .type "enumerate", data := .fields #[.none, .bool false, .ref s.heap.objs.size, rawInt 0, .none, .none] }) (s.heap.objs.size + 1) s.heap.objs.size 0 .none := by
    have := Heap.get?_push_size (s.heap.push { cls := .type "tuple_iterator", data := .fields #[.ref l, .int 0 0] })
      (o := { cls := .type "enumerate", data := .fields #[.none, .bool false, .ref s.heap.objs.size, rawInt 0, .none, .none] }) rfl
    rw [hz] at this; exact this
  refine ⟨⟨_, he, rfl⟩, h _ he ⟨_, Heap.get?_push_of_some _ (Heap.get?_push_size _ rfl), rfl, rfl⟩ (by rw [Heap.size_push, hz]) fun b o x => Heap.get?_push_of_some _ (Heap.get?_push_of_some _ x)⟩
end
theorem wpAny_pyNext_enum_endT {prog : Program} {w : World} {A : Around} {E : Value → Shared → Prop} {s : Shared} {e it a : Addr} {items : Array Value} {j : Nat} {i : Int} {old : Value} {Q : Option Value → Shared → Prop}
    (hh : A.handled = none) (he : IsEnum s.heap e it i old) (hit : s.heap.IsTupleIter it a j) (hp : s.heap.IsTuple a items) (hn : items[j]? = none)
    (hQ : ∀ h', Heap.ExtBut it s.heap h' → Q none { s with heap := h' }) : wpAny (model prog w) A (pyNext (.ref e)) Q E s := by
  have hT : s.TypeIs (.ref e) "enumerate" := ⟨_, he, rfl⟩
  unfold pyNext
  refine wpAny_bind (wpAny_attempt (wpAny_callSpecial?_slot (name := Str.ofString "__next__") hT F.slot_enumerate_next
    (wpAny_call_entry F.slot_enumerate_next hT F.entry_enumerate_next ?_ (F.args_enumerate_next_1 _))))
  show wpAny _ _ (field (.ref e) 2 >>= _) _ _ _
  refine wpAny_bind (wpAny_field he rfl (x := .ref it) rfl ?_)
  refine wpAny_bind (wpAny_nextOf_tuple_end hh hit hp hn fun h' x he' hx' => ?_)
  obtain ⟨o, ho, hc⟩ := hx'
  refine wpAny_bind (wpAny_isInstance (T := "StopIteration") (b := true) ⟨o, ho, hc⟩ isSubtype_stop ?_)
  exact wpAny_pure (hQ _ he')
def IteT (K : PySem.W.Frag) (a : Addr) : It :=
  ⟨fun i H => ∃ (xs : List V) (x : V), SqT K H a xs ∧ xs[i]? = some x, fun i H v H' => ∃ T x, v = .ref T ∧ H T = none ∧ H' = upd H T (.tup [.int (i : Nat), x]) ∧ ∀ xs, SqT K H a xs → xs[i]? = some x, fun i H => ∃ xs : List V, SqT K H a xs ∧ xs.length ≤ i⟩
theorem turn_enumT {P : Program} {w : World} {K : PySem.W.Frag} {elts : List Expr} {kk : Nat} {tpos : Pos} (a e it : Addr) :
    Turn P w K (.Tuple elts kk tpos) (IteT K a) [e, it] e (fun i h => (∃ old, IsEnum h e it ((i : Nat) : Int) old) ∧ h.IsTupleIter it a i ∧ e ≠ it) where
  mem := by simp
  obj := fun i h st b hb => by
    obtain ⟨⟨old, he⟩, ⟨o, ho, hc, hd⟩, _⟩ := st
    have e' : b = e ∨ b = it := by simpa using hb
    rcases e' with z | z
    · rw [z]; exact ⟨_, he, fun v q => nomatch q⟩
    · rw [z]; exact ⟨o, ho, fun v q => by rw [hd] at q; cases q⟩
  keep := fun i h h' st k => let ⟨⟨old, he⟩, hi, hne⟩ := st; ⟨⟨old, k e (by simp) _ he⟩, hi.at fun o q => k it (by simp) o q, hne⟩
  item := by
    intro X hP hw hK hc i pins s σ H E I hf st hg
    subst hP hw hK
    obtain ⟨⟨old, he⟩, hit, hne⟩ := st
    obtain ⟨xs, x, hq, hx⟩ := hg
    obtain ⟨its, rv, p, hz⟩ := I.tuple hq
    obtain ⟨u, hu, ru⟩ := rv.get hx
    have hel : e < s.heap.objs.size := Heap.lt_size he
    have hil : it < s.heap.objs.size := by obtain ⟨_, q, _⟩ := hit; exact Heap.lt_size q
    have hta : a ≠ it := fun z => by
      obtain ⟨o1, q1, c1, _⟩ := p
      obtain ⟨o2, q2, c2, _⟩ := hit
      rw [z, q2] at q1
      have e := Option.some.inj q1
      rw [← e, c2] at c1
      exact absurd (Value.type.inj c1) (by decide)
    have hea : e ≠ a := fun z => by
      obtain ⟨o1, q1, c1, _⟩ := p
      rw [← z] at q1
      have h2 := he
      unfold IsEnum at h2
      rw [h2] at q1
      have e := Option.some.inj q1
      rw [← e] at c1
      exact absurd (Value.type.inj c1) (by decide)
    have hef : e ∉ [it, a] := by simp [hne, hea]
    have hin : i < its.toArray.size := by
      rw [List.size_toArray]
      exact (List.getElem?_eq_some_iff.mp hu).1
    refine wpAny_pyNext_enum_itemD (Draws.tuple (A := X.A.in1) (I.ok.hd hc) it a hta its.toArray) he ⟨hit, p⟩ hin hne hef fun y h' tk hP ho hst' hT hsz hk => ?_
    have hy : y = u := by
      have : its[i]? = some y := by simpa using hP
      rw [hu] at this
      exact (Option.some.inj this).symm
    subst hy
    obtain ⟨hit', _⟩ := hst'
    refine ⟨_, rfl, wpAny_letOwnedTupleGo_enum (s := { s with heap := h', toks := tk + 1 }) ho fun h'' he' sb => ?_⟩
    have hT2 : h''.get? s.heap.objs.size = some { cls := .type "tuple", data := .seq #[.int i tk, y] } := (sb.2 _ (Nat.ne_of_gt hel)).trans hT
    have new : ObjOk X.prog X.w (upd H s.heap.objs.size (.tup [.int (i : Nat), x])) h'' s.heap.objs.size (.tup [.int (i : Nat), x]) :=
      ⟨by show 2 ≤ sizeLine; decide, [.int i tk, y], .cons ⟨_, rfl⟩ (.cons ru .nil), ⟨_, hT2, rfl, _, rfl⟩⟩
    have I1 : Inv X pins σ (upd H s.heap.objs.size (.tup [.int (i : Nat), x])) { s with heap := h'', toks := tk + 1 } :=
      I.turnedNew (ch := [e, it]) (fun b ob hb q => (sb.2 b (fun z => hb (by simp [z]))).trans (hk b ob (fun z => hb (by simp [z])) (fun z => hb (by simp [z])) q)) hf (Nat.le_refl _) new
    refine ⟨.ref s.heap.objs.size, _, I1, rfl, ⟨_, x, rfl, I.hok.fresh (Nat.le_refl _), rfl, fun ys hy => by rw [I.tuple_inj hy hq]; exact hx⟩, ⟨⟨y, ?_⟩, hit'.at fun o q => (sb.2 it (Ne.symm hne)).trans q, hne⟩, fun b hb => ?_⟩
    · have e1 : ((i + 1 : Nat) : Int) = (i : Int) + 1 := by omega
      rw [e1]; exact he'
    · have hb' : b < s.heap.objs.size := by
        have e' : b = e ∨ b = it := by simpa using hb
        rcases e' with z | z
        · rw [z]; exact hel
        · rw [z]; exact hil
      rw [upd_ne (Nat.ne_of_lt hb')]
      exact (hf b hb).1
  done := by
    intro X hP hw hK hc i pins s σ H E I hf st hg
    subst hP hw hK
    obtain ⟨⟨old, he⟩, hit, hne⟩ := st
    obtain ⟨xs, hq, hx⟩ := hg
    obtain ⟨its, rv, p, hz⟩ := I.tuple hq
    obtain ⟨f0, f1, f2, f3, f4, f5⟩ := hf it (by simp)
    have hl := rv.length
    exact wpAny_pyNext_enum_endT (I.ok.hd hc) he hit p (by simp; omega) fun h' eb => ⟨rfl, I.turned (t' := s.toks) (fun b o hb q => eb b o hb q) f0 f1 f3 f4 f5⟩
  self := fun A i s Q E st h => let ⟨⟨_, he⟩, _⟩ := st; wpAny_pyIter_enum he h
def iEnumT (K : PySem.W.Frag) (ta : TA) : TI := fun σ H R => ta σ H fun vs H1 => ∃ a xs, vs = [.ref a] ∧ SqT K H1 a xs ∧ R (IteT K a) H1
theorem pi_enumT {X : Cx} {e : Expr} {ta : TA} {p pos tpos : Pos} {elts : List Expr} {kk : Nat} (hg : Gl X "enumerate") (hm : X.mg "enumerate" = none) (ha : PA X [e] ta) (hs : starEach [e] X.env = [(false, eval e X.env)] := by rfl) :
    PI X (.Tuple elts kk tpos) (.Call (.Name "enumerate" p) [e] [] pos) (iEnumT X.K ta) := by
  refine ⟨fun pins s σ H R I h => ?_⟩
  refine Call_ (ld_blt I hg hm boot_enumerate (PyProof.Rows.callWith_type1 (thn (ha.run pos pins s σ H _ I h) fun us s1 ⟨vs, H1, I1, r1, q1⟩ => ?_) hs rfl))
  obtain ⟨a, xs, ex, hq, q⟩ := q1
  subst ex
  cases r1 with
  | cons r rr =>
    cases rr
    cases r
    obtain ⟨its, rv, p', hz⟩ := I1.tuple hq
    refine call_enumerate_tuple p' fun h' he hit hsz hk => wpAny_pyIter_enum he ?_
    have I2 : Inv X pins σ H1 { s1 with heap := h' } := I1.kept (t' := s1.toks) hk
    refine ⟨s1.heap.objs.size + 1, [s1.heap.objs.size + 1, s1.heap.objs.size], _, _, H1, rfl, I2, turn_enumT a (s1.heap.objs.size + 1) s1.heap.objs.size, ⟨⟨.none, he⟩, hit, Nat.succ_ne_self _⟩, fun b hb => ?_, q⟩
    have e' : b = s1.heap.objs.size + 1 ∨ b = s1.heap.objs.size := by simpa using hb
    have hle : s1.heap.objs.size ≤ b := by
      rcases e' with z | z
      · rw [z]; exact Nat.le_add_right _ _
      · rw [z]; exact Nat.le_refl _
    exact I1.fpOk hle (I1.hok.fresh hle)
section
variable {m : Type → Type} [Mn m] {α : Type} {X : Cx} {M : Bool} {ρ : List Slot} {E : α → D} {a : Expr} {p pos tpos : Pos} {elts : List Expr} {kk : Nat}
theorem JI.enumT {wa : m (List α)} (hg : Gl X "enumerate") (hm : X.mg "enumerate" = none) (ha : JE X true a ρ (eT E) wa) (hs : starEach [a] X.env = [(false, eval a X.env)] := by rfl) : JI X M (.Tuple elts kk tpos) (.Call (.Name "enumerate" p) [a] [] pos) ρ (eP eI E) (bd wa fun xs => rt (enumL 0 xs)) :=
  ⟨pi_weak (pi_enumT hg hm (pa_cons ha.b.pe pa_nil hs) hs) fun σ H R ⟨sr, O, H0, ad, he, hw⟩ => ⟨sr, O, H0, ad, he, by
      have hw := le1 (f := fun x => rt (m := m) (enumL 0 x)) (g := fun x => Wp.pure (enumL 0 x)) (fun _ => lep) _ hw
      refine (Mn.wp wa).mono (fun xs q v H1 x1 r => ?_) hw
      obtain ⟨p, vs, rfl, hs, rs⟩ := r.seqT
      have hl : vs.length = xs.length := by rw [rs.length, List.length_map]
      refine ⟨p, vs, rfl, hs, q _ H1 x1 ⟨fun i H hi g => ?_, fun H g => ?_, fun i H v H' hi g y => ?_⟩⟩
      · rw [enumL_len] at hi
        exact ⟨vs, vs[i]'(by omega), ((g.le OM.le).2 p _).1 hs, List.getElem?_eq_getElem (by omega)⟩
      · rw [enumL_len]; exact ⟨vs, ((g.le OM.le).2 p _).1 hs, by omega⟩
      · obtain ⟨T, z, rfl, hT, rfl, y⟩ := y
        obtain ⟨d, hd, rd⟩ := (rs.out.keep (g.le fun a h => .inl (OM.le a h))).get' (y vs (((g.le OM.le).2 p _).1 hs))
        rw [List.getElem?_map] at hd
        obtain ⟨x, hx, rfl⟩ := Option.map_eq_some_iff.mp hd
        refine ⟨All.new hT, ((i : Nat) : Int) |> fun j => (j, x), by rw [enumL_get xs 0 i x hx]; simp, .t upd_same (.cons (.i _) (.cons (rd.keep (All.new hT).keep) .nil))⟩⟩⟩
end
theorem rtbO {α β : Type} (x : α) (f : α → Option β) : bd (rt x) f = f x := Eq.trans rfl rfl
theorem rtbG {α β : Type} (x : α) (f : α → G β) : bd (rt x) f = f x := Eq.trans rfl rfl
def E0 (sc : Scope) : PySem.Env := { (default : PySem.Env) with scope := sc }
theorem relabel0 (sc1 : Scope) (env : PySem.Env) : relabel sc1 env = relabel sc1 (E0 env.scope) := rfl
theorem blkOk_in {X : Cx} {s : Shared} {H : Hp} {sc0 sc1 scope : Scope} {C : Addr} {cl : List (Str × Addr)} {fp : List Addr} {own : List (Str × Nat)} (h0 : X.env.scope = sc0) (h : blkC X.N (relabel sc1 (E0 sc0)) scope own = true) : BlkOk (Blk X s H sc1 C cl fp).N (Blk X s H sc1 C cl fp).env.scope scope own := by
  have e1 : (Blk X s H sc1 C cl fp).N = X.N := by rfl
  have e2 : (Blk X s H sc1 C cl fp).env.scope = relabel sc1 X.env := by rfl
  rw [e1, e2, relabel0, h0]
  exact blkOk_by h
section
variable {m : Type → Type} [Mn m] {α β γ δ κ ω : Type} {X : Cx} {ρ : List Slot} {E : β → D} {ρx : Option (α → List Slot)} {ρl : ω → List Slot} {e : κ → Fl α ω β}
theorem JS.to {sts : List Stmt} {ρ' : List Slot} {a : m κ} (h0 : ρ = ρ') (h : JS X sts ρ' E ρx ρl e a) : JS X sts ρ E ρx ρl e a := h0 ▸ h
end
end Wk

namespace Wk
open PySem PySem.Spec PyProof.Rows L2
/-! ### tuples of unlike things, told as what they tell -/
section
variable {m : Type → Type} [Mn m] {α β γ δ κ ω : Type}
theorem run_bd {a : m α} {f : α → m β} {P : β → Prop} : (Mn.wp (bd a f)).run P ↔ (Mn.wp a).run fun x => (Mn.wp (f x)).run P := ⟨fun h => Mn.bind_le a f _ h, fun h => Mn.bind_ge a f _ h⟩
theorem run_rt {x : α} {P : α → Prop} : (Mn.wp (rt (m := m) x)).run P ↔ P x := ⟨fun h => Mn.pure_le (m := m) x P h, fun h => Mn.pure_ge (m := m) x P h⟩
variable {X : Cx} {M : Bool} {e a b c : Expr} {es : List Expr} {ρ : List Slot} {E : α → D} {G : β → D} {E3 : γ → D} {E4 : δ → D} {F : κ → D} {pos p2 : Pos}
theorem JE.rel {w : m α} {w' : m κ} (h : JE X M e ρ E w) (k : ∀ P, (Mn.wp w').run P → (Mn.wp w).run fun x => ∃ y, F y = E x ∧ P y) : JE X M e ρ F w' :=
  ⟨⟨pe_weak h.b.pe fun σ H Q ⟨sr, O, H0, ad, he, hw⟩ => ⟨sr, O, H0, ad, he, (Mn.wp w).mono (fun x ⟨y, e, p⟩ v H' x1 r => p v H' x1 (by rw [e]; exact r)) (k _ hw)⟩⟩⟩
theorem JE.con0 {g : κ} {s : Str} {j k} (hF : F g = .t [.s s]) (h0 : starEach [.Constant (.str s) j p2] X.env = (false, eval (.Constant (.str s) j p2) X.env) :: starEach [] X.env := by rfl) : JE X M (.Tuple [.Constant (.str s) j p2] k pos) ρ F (rt (m := m) g) :=
  JE.rel (JE.tupD (JA.cons (m := m) JE.str JA.nil h0) (by intro P h; simp only [run_bd, run_rt] at h ⊢; exact ⟨h, Nat.le_of_ble_eq_true rfl⟩)) (by intro P h; simp only [run_bd, run_rt] at h ⊢; exact ⟨_, hF, h⟩)
theorem JE.con1 {g : α → κ} {s : Str} {j k} {wa : m α} (hF : ∀ x, F (g x) = .t [.s s, E x]) (ha : JE X M a ρ E wa) (h0 : starEach [.Constant (.str s) j p2, a] X.env = (false, eval (.Constant (.str s) j p2) X.env) :: starEach [a] X.env := by rfl) (h1 : starEach [a] X.env = (false, eval a X.env) :: starEach [] X.env := by rfl) : JE X M (.Tuple [.Constant (.str s) j p2, a] k pos) ρ F (bd wa fun x => rt (g x)) :=
  JE.rel (JE.tupD (JA.cons JE.str (JA.cons ha JA.nil h1) h0) (by intro P h; simp only [run_bd, run_rt] at h ⊢; exact (Mn.wp wa).mono (fun x h => ⟨h, Nat.le_of_ble_eq_true rfl⟩) h)) (by intro P h; simp only [run_bd, run_rt] at h ⊢; exact (Mn.wp wa).mono (fun x h => ⟨_, hF x, h⟩) h)
theorem JE.con2 {g : α → β → κ} {s : Str} {j k} {wa : m α} {wb : m β} (hF : ∀ x y, F (g x y) = .t [.s s, E x, G y]) (ha : JE X M a ρ E wa) (hb : JE X M b ρ G wb) (h0 : starEach [.Constant (.str s) j p2, a, b] X.env = (false, eval (.Constant (.str s) j p2) X.env) :: starEach [a, b] X.env := by rfl) (h1 : starEach [a, b] X.env = (false, eval a X.env) :: starEach [b] X.env := by rfl) (h2 : starEach [b] X.env = (false, eval b X.env) :: starEach [] X.env := by rfl) : JE X M (.Tuple [.Constant (.str s) j p2, a, b] k pos) ρ F (bd wa fun x => bd wb fun y => rt (g x y)) :=
  JE.rel (JE.tupD (JA.cons JE.str (JA.cons ha (JA.cons hb JA.nil h2) h1) h0) (by intro P h; simp only [run_bd, run_rt] at h ⊢; exact (Mn.wp wa).mono (fun x h => (Mn.wp wb).mono (fun y h => ⟨h, Nat.le_of_ble_eq_true rfl⟩) h) h)) (by intro P h; simp only [run_bd, run_rt] at h ⊢; exact (Mn.wp wa).mono (fun x h => (Mn.wp wb).mono (fun y h => ⟨_, hF x y, h⟩) h) h)
theorem JE.con3 {g : α → β → γ → κ} {s : Str} {j k} {wa : m α} {wb : m β} {wc : m γ} (hF : ∀ x y z, F (g x y z) = .t [.s s, E x, G y, E3 z]) (ha : JE X M a ρ E wa) (hb : JE X M b ρ G wb) (hc : JE X M c ρ E3 wc) (h0 : starEach [.Constant (.str s) j p2, a, b, c] X.env = (false, eval (.Constant (.str s) j p2) X.env) :: starEach [a, b, c] X.env := by rfl) (h1 : starEach [a, b, c] X.env = (false, eval a X.env) :: starEach [b, c] X.env := by rfl) (h2 : starEach [b, c] X.env = (false, eval b X.env) :: starEach [c] X.env := by rfl) (h3 : starEach [c] X.env = (false, eval c X.env) :: starEach [] X.env := by rfl) : JE X M (.Tuple [.Constant (.str s) j p2, a, b, c] k pos) ρ F (bd wa fun x => bd wb fun y => bd wc fun z => rt (g x y z)) :=
  JE.rel (JE.tupD (JA.cons JE.str (JA.cons ha (JA.cons hb (JA.cons hc JA.nil h3) h2) h1) h0) (by intro P h; simp only [run_bd, run_rt] at h ⊢; exact (Mn.wp wa).mono (fun x h => (Mn.wp wb).mono (fun y h => (Mn.wp wc).mono (fun z h => ⟨h, Nat.le_of_ble_eq_true rfl⟩) h) h) h)) (by intro P h; simp only [run_bd, run_rt] at h ⊢; exact (Mn.wp wa).mono (fun x h => (Mn.wp wb).mono (fun y h => (Mn.wp wc).mono (fun z h => ⟨_, hF x y z, h⟩) h) h) h)
theorem JE.con4 {d : Expr} {g : α → β → γ → δ → κ} {s : Str} {j k} {wa : m α} {wb : m β} {wc : m γ} {wd : m δ} (hF : ∀ x y z u, F (g x y z u) = .t [.s s, E x, G y, E3 z, E4 u]) (ha : JE X M a ρ E wa) (hb : JE X M b ρ G wb) (hc : JE X M c ρ E3 wc) (hd : JE X M d ρ E4 wd) (h0 : starEach [.Constant (.str s) j p2, a, b, c, d] X.env = (false, eval (.Constant (.str s) j p2) X.env) :: starEach [a, b, c, d] X.env := by rfl) (h1 : starEach [a, b, c, d] X.env = (false, eval a X.env) :: starEach [b, c, d] X.env := by rfl) (h2 : starEach [b, c, d] X.env = (false, eval b X.env) :: starEach [c, d] X.env := by rfl) (h3 : starEach [c, d] X.env = (false, eval c X.env) :: starEach [d] X.env := by rfl) (h4 : starEach [d] X.env = (false, eval d X.env) :: starEach [] X.env := by rfl) : JE X M (.Tuple [.Constant (.str s) j p2, a, b, c, d] k pos) ρ F (bd wa fun x => bd wb fun y => bd wc fun z => bd wd fun u => rt (g x y z u)) :=
  JE.rel (JE.tupD (JA.cons JE.str (JA.cons ha (JA.cons hb (JA.cons hc (JA.cons hd JA.nil h4) h3) h2) h1) h0) (by intro P h; simp only [run_bd, run_rt] at h ⊢; exact (Mn.wp wa).mono (fun x h => (Mn.wp wb).mono (fun y h => (Mn.wp wc).mono (fun z h => (Mn.wp wd).mono (fun u h => ⟨h, Nat.le_of_ble_eq_true rfl⟩) h) h) h) h)) (by intro P h; simp only [run_bd, run_rt] at h ⊢; exact (Mn.wp wa).mono (fun x h => (Mn.wp wb).mono (fun y h => (Mn.wp wc).mono (fun z h => (Mn.wp wd).mono (fun u h => ⟨_, hF x y z u, h⟩) h) h) h) h)
/-- t[i] of such a tuple, i written -/
theorem JE.itemG {g : κ → Option α} {w : m κ} {n : Nat} {i : Int} {k p4} (hi : i = n) (hp : PlainIx (.Constant (.int i) k p4)) (hg : ∀ x y, g x = some y → ∃ ds, F x = .t ds ∧ ds[n]? = some (E y)) (ha : JE X M a ρ F w) : JE X M (.Subscript a (.Constant (.int i) k p4) pos) ρ E (bd w fun x => lf (g x)) :=
  ⟨⟨pe_weak (pe_ix ix_seq ha.b.pe pe_int hp) fun σ H Q ⟨sr, O, H0, ad, he, hw⟩ => ⟨sr, O, H0, ad, he, by
      have hw := le1 (f := fun x => lf (m := m) (g x)) (g := fun x => Wp.ofO (g x)) (fun _ => Mn.lift_le _) _ hw
      refine (Mn.wp w).mono (fun x q v H1 x1 r => ?_) hw
      obtain ⟨y, hy, q⟩ := q
      obtain ⟨ds, e, ed⟩ := hg x y hy
      rw [e] at r
      cases r with
      | t h1 h2 =>
        obtain ⟨u, hu, ru⟩ := h2.get ed
        exact .inr (.inl ⟨_, _, i, u, rfl, rfl, .inl (.inl h1), by rw [hi]; exact atI_nat hu, q _ H1 x1 ru⟩)⟩⟩⟩
theorem JE.itemP {g : κ → α} {w : m κ} {n : Nat} {i : Int} {k p4} (hi : i = n) (hp : PlainIx (.Constant (.int i) k p4)) (hg : ∀ x, ∃ ds, F x = .t ds ∧ ds[n]? = some (E (g x))) (ha : JE X M a ρ F w) : JE X M (.Subscript a (.Constant (.int i) k p4) pos) ρ E (bd w fun x => rt (g x)) :=
  ⟨⟨pe_weak (pe_ix ix_seq ha.b.pe pe_int hp) fun σ H Q ⟨sr, O, H0, ad, he, hw⟩ => ⟨sr, O, H0, ad, he, by
      have hw := le1 (f := fun x => rt (m := m) (g x)) (g := fun x => Wp.pure (g x)) (fun _ => lep) _ hw
      refine (Mn.wp w).mono (fun x q v H1 x1 r => ?_) hw
      obtain ⟨ds, e, ed⟩ := hg x
      rw [e] at r
      cases r with
      | t h1 h2 =>
        obtain ⟨u, hu, ru⟩ := h2.get ed
        exact .inr (.inl ⟨_, _, i, u, rfl, rfl, .inl (.inl h1), by rw [hi]; exact atI_nat hu, q _ H1 x1 ru⟩)⟩⟩⟩
end
section
variable {m : Type → Type} [Mn m] {α : Type} {X : Cx} {M : Bool} {ρ : List Slot} {E : α → D} {a : Expr} {p pos : Pos}
theorem JE.tupleQ {k : Kd} {wa : m (List α)} (hg : Gl X "tuple") (hm : X.mg "tuple" = none) (ha : JE X M a ρ (eQ k E) wa) (hs : St1 X a := by rfl) : JE X M (.Call (.Name "tuple" p) [a] [] pos) ρ (eT E) (bd wa fun xs => rt xs) := by
  cases k with
  | t => exact JE.tupleT hg hm ha hs
  | l => exact JE.tupleL hg hm ha hs
end
end Wk

namespace Wk
open PySem PySem.Spec PyProof.Rows L2
/-! ### dicts of any keys -/
def getG {κ α : Type} [DecidableEq κ] (xs : List (κ × α)) (k : κ) : Option α := (xs.find? fun p => decide (p.1 = k)).map (·.2)
def putG {κ α : Type} [DecidableEq κ] (xs : List (κ × α)) (k : κ) (v : α) : List (κ × α) := if (xs.any fun p => decide (p.1 = k)) = true then xs.map (fun p => if p.1 = k then (p.1, v) else p) else xs ++ [(k, v)]
def hasG {κ α : Type} [DecidableEq κ] (xs : List (κ × α)) (k : κ) : Bool := (getG xs k).isSome
def putO {κ α : Type} [DecidableEq κ] (xs : List (κ × α)) (k : κ) (v : α) : Option (List (κ × α)) := if xs.length < 16777216 then some (putG xs k v) else none
section
variable {κ κ0 α : Type} [DecidableEq κ] [DecidableEq κ0] {f : κ → κ0} {E : α → D} {K : PySem.W.Frag} {mg : Str → Option Value} {O O' : Addr → Prop} {H : Hp}
inductive RepsG (K : PySem.W.Frag) (mg : Str → Option Value) (O : Addr → Prop) (H : Hp) (f : κ → κ0) (E : α → D) : List (κ0 × V) → List (κ × α) → Prop
  | nil : RepsG K mg O H f E [] []
  | cons {v : V} {kvs : List (κ0 × V)} {k : κ} {x : α} {xs : List (κ × α)} : Rep K mg O H v (E x) → RepsG K mg O H f E kvs xs → RepsG K mg O H f E ((f k, v) :: kvs) ((k, x) :: xs)
theorem RepsG.of : ∀ {xs : List (κ × α)} {kvs : List (κ0 × V)}, kvs.map (·.1) = xs.map (fun p => f p.1) → Reps K mg O H (kvs.map (·.2)) (xs.map fun p => E p.2) → RepsG K mg O H f E kvs xs
  | [], [], _, _ => .nil
  | [], _ :: _, h, _ => by cases h
  | _ :: _, [], h, _ => by cases h
  | (k, x) :: xs, (k', v) :: kvs, h, r => by
    rw [List.map_cons, List.map_cons] at h r
    injection h with h1 h2
    cases r with
    | cons r1 r2 =>
      have h1 : k' = f k := h1
      subst h1
      exact .cons r1 (RepsG.of h2 r2)
theorem RepsG.keys : ∀ {xs : List (κ × α)} {kvs : List (κ0 × V)}, RepsG K mg O H f E kvs xs → kvs.map (·.1) = xs.map fun p => f p.1
  | _, _, .nil => rfl
  | _, _, .cons _ t => by rw [List.map_cons, List.map_cons, t.keys]
theorem RepsG.vals : ∀ {xs : List (κ × α)} {kvs : List (κ0 × V)}, RepsG K mg O H f E kvs xs → Reps K mg O H (kvs.map (·.2)) (xs.map fun p => E p.2)
  | _, _, .nil => .nil
  | _, _, .cons r t => .cons r t.vals
theorem getG_cons {xs : List (κ × α)} {k k' : κ} {x : α} : getG ((k', x) :: xs) k = if k' = k then some x else getG xs k := by
  unfold getG
  rw [List.find?_cons]
  by_cases h : k' = k
  · rw [if_pos h]; simp [h]
  · rw [if_neg h]; simp [h]
theorem RepsG.val (hf : ∀ a b, f a = f b → a = b) {k : κ} : ∀ {xs : List (κ × α)} {kvs : List (κ0 × V)}, RepsG K mg O H f E kvs xs → (getG xs k = none ∧ valV kvs (f k) = none) ∨ ∃ z v, getG xs k = some z ∧ valV kvs (f k) = some v ∧ Rep K mg O H v (E z)
  | _, _, .nil => .inl ⟨rfl, rfl⟩
  | _, _, .cons (k := k') (v := v) (x := x) r t => by
    rw [getG_cons]
    by_cases h : k' = k
    · exact .inr ⟨x, v, by rw [if_pos h], by rw [valV_pos (by rw [h])], r⟩
    · rw [if_neg h, valV_neg (fun z => h (hf _ _ z))]
      exact RepsG.val hf t
theorem RepsG.any (hf : ∀ a b, f a = f b → a = b) {k : κ} : ∀ {xs : List (κ × α)} {kvs : List (κ0 × V)}, RepsG K mg O H f E kvs xs → (kvs.any fun kv => decide (kv.1 = f k)) = xs.any fun p => decide (p.1 = k)
  | _, _, .nil => rfl
  | _, _, .cons (k := k') r t => by
    rw [List.any_cons, List.any_cons, t.any hf]
    congr 1
    by_cases h : k' = k
    · rw [decide_eq_true h, decide_eq_true (by rw [h])]
    · rw [decide_eq_false h, decide_eq_false (fun z => h (hf _ _ z))]
theorem RepsG.mapSet (hf : ∀ a b, f a = f b → a = b) {k : κ} {u : V} {y : α} (ru : Rep K mg O H u (E y)) : ∀ {xs : List (κ × α)} {kvs : List (κ0 × V)}, RepsG K mg O H f E kvs xs → RepsG K mg O H f E (kvs.map fun kv => if kv.1 = f k then (kv.1, u) else kv) (xs.map fun p => if p.1 = k then (p.1, y) else p)
  | _, _, .nil => .nil
  | _, _, .cons (k := k') r t => by
    rw [List.map_cons, List.map_cons]
    by_cases h : k' = k
    · rw [if_pos h, if_pos (by rw [h])]
      exact .cons ru (t.mapSet hf ru)
    · rw [if_neg h, if_neg (fun z => h (hf _ _ z))]
      exact .cons r (t.mapSet hf ru)
theorem RepsG.app {k : κ} {u : V} {y : α} (ru : Rep K mg O H u (E y)) : ∀ {xs : List (κ × α)} {kvs : List (κ0 × V)}, RepsG K mg O H f E kvs xs → RepsG K mg O H f E (kvs ++ [(f k, u)]) (xs ++ [(k, y)])
  | _, _, .nil => .cons ru .nil
  | _, _, .cons r t => .cons r (t.app ru)
theorem RepsG.put (hf : ∀ a b, f a = f b → a = b) {k : κ} {u : V} {y : α} (ru : Rep K mg O H u (E y)) {xs : List (κ × α)} {kvs : List (κ0 × V)} (h : RepsG K mg O H f E kvs xs) : RepsG K mg O H f E (putK kvs (f k) u) (putG xs k y) := by
  unfold putK putG
  rw [h.any hf]
  split
  · exact h.mapSet hf ru
  · exact h.app ru
theorem RepsG.len : ∀ {xs : List (κ × α)} {kvs : List (κ0 × V)}, RepsG K mg O H f E kvs xs → kvs.length = xs.length
  | _, _, .nil => rfl
  | _, _, .cons _ t => by rw [List.length_cons, List.length_cons, t.len]
end
/-- a kind of dicts -/
structure DictE {κ α : Type} [DecidableEq κ] (F : κ → D) (E : α → D) (G : List (κ × α) → D) : Prop where
  rep : ∀ {K : PySem.W.Frag} {mg : Str → Option Value} {O : Addr → Prop} {H : Hp} {v : V} {xs : List (κ × α)}, Rep K mg O H v (G xs) → ∃ a u, v = .ref a ∧ H a = some u ∧ DkOk K mg O H u (G xs)
  get : ∀ {K : PySem.W.Frag} {mg : Str → Option Value} {O O' : Addr → Prop} {H : Hp} {a : Addr} {u : HO} {xs : List (κ × α)} {k : κ} {y : V}, H a = some u → DkOk K mg O H u (G xs) → Rep K mg O' H y (F k) → (getG xs k = none ∧ DGet H a y none) ∨ ∃ z v, getG xs k = some z ∧ DGet H a y (some v) ∧ Rep K mg O H v (E z)
  put : ∀ {K : PySem.W.Frag} {mg : Str → Option Value} {O O' : Addr → Prop} {H : Hp} {a : Addr} {u : HO} {xs : List (κ × α)} {k : κ} {y v : V} {z : α}, H a = some u → DkOk K mg O H u (G xs) → Rep K mg O' H y (F k) → Rep K mg O H v (E z) → xs.length < 16777216 → ∃ u', DPut H a y v (upd H a u') ∧ DkOk K mg O H u' (G (putG xs k z))
theorem dictI {α : Type} (E : α → D) : DictE (κ := Int) eI E (eM E) where
  rep h := by
    cases h with
    | d h1 h2 h3 h4 => exact ⟨_, _, rfl, h1, h3, h4⟩
  get {K mg O O' H a u xs k y} hu hd r := by
    rcases hd.cases with ⟨kvs, ks, ds, rfl, e, e1, r1⟩ | ⟨kvs, ks, ds, rfl, e, _⟩
    · cases r
      have e : D.d (xs.map fun p => Sum.inl p.1) (xs.map fun p => E p.2) = D.d ks ds := e
      injection e with e2 e3
      subst e2 e3
      have := (RepsG.of (f := fun i : Int => (Sum.inl i : Key)) e1 r1).val (fun a b z => Sum.inl.inj z) (k := k)
      rcases this with ⟨g, v⟩ | ⟨z, v, g, hv, rv⟩
      · exact .inl ⟨g, v ▸ DGet.k (k := Sum.inl k) hu⟩
      · exact .inr ⟨z, v, g, hv ▸ DGet.k (k := Sum.inl k) hu, rv⟩
    · cases e
  put {K mg O O' H a u xs k y v z} hu hd r rv hl := by
    rcases hd.cases with ⟨kvs, ks, ds, rfl, e, e1, r1⟩ | ⟨kvs, ks, ds, rfl, e, _⟩
    · cases r
      have e : D.d (xs.map fun p => Sum.inl p.1) (xs.map fun p => E p.2) = D.d ks ds := e
      injection e with e2 e3
      subst e2 e3
      have q := RepsG.of (f := fun i : Int => (Sum.inl i : Key)) e1 r1
      have p := q.put (fun a b z => Sum.inl.inj z) (k := k) rv
      exact ⟨_, DPut.k (k := Sum.inl k) hu (by rw [q.len]; exact hl), p.keys, p.vals⟩
    · cases e
/-! keys that are tuples of numbers -/
def kD : Key → D
  | .inl i => .i i
  | .inr s => .s s
theorem Reps.keyD {K : PySem.W.Frag} {mg : Str → Option Value} {O : Addr → Prop} {H : Hp} : ∀ {ks : List Key} {vs : List V}, Reps K mg O H vs (ks.map kD) → vs = ks.map kV
  | [], _, h => by cases h; rfl
  | .inl i :: ks, _, h => by
    cases h with
    | cons h1 h2 => cases h1; rw [Reps.keyD h2]; rfl
  | .inr i :: ks, _, h => by
    cases h with
    | cons h1 h2 => cases h1; rw [Reps.keyD h2]; rfl
def eMT {κ α : Type} (f : κ → List Key) (E : α → D) : List (κ × α) → D := fun xs => .e (xs.map fun p => f p.1) (xs.map fun p => E p.2)
structure KeyT {κ : Type} (F : κ → D) (f : κ → List Key) : Prop where
  is : ∀ x, F x = .t ((f x).map kD)
  inj : ∀ a b, f a = f b → a = b
def kIs (xs : List Int) : List Key := xs.map Sum.inl
def kII (p : Int × Int) : List Key := [.inl p.1, .inl p.2]
theorem keyT_Is : KeyT (eT eI) kIs where
  is x := by
    show D.t (x.map D.i) = _
    rw [kIs, List.map_map]; rfl
  inj a b h := by
    unfold kIs at h
    exact (List.map_inj_right (fun x y z => Sum.inl.inj z)).mp h
theorem keyT_II : KeyT (eP eI eI) kII where
  is x := rfl
  inj a b h := by
    unfold kII at h
    injection h with h1 h2
    injection h2 with h2 h3
    exact Prod.ext (Sum.inl.inj h1) (Sum.inl.inj h2)
theorem dictT {κ α : Type} [DecidableEq κ] {F : κ → D} {f : κ → List Key} (h : KeyT F f) (E : α → D) : DictE F E (eMT f E) where
  rep h := by
    cases h with
    | e h1 h2 h3 h4 => exact ⟨_, _, rfl, h1, h3, h4⟩
  get {K mg O O' H a u xs k y} hu hd r := by
    rcases hd.cases with ⟨kvs, ks, ds, rfl, e, _⟩ | ⟨kvs, ks, ds, rfl, e, e1, r1⟩
    · cases e
    · rw [h.is] at r
      cases r with
      | t t1 t2 =>
      rw [t2.keyD] at t1
      have e : D.e (xs.map fun p => f p.1) (xs.map fun p => E p.2) = D.e ks ds := e
      injection e with e2 e3
      subst e2 e3
      have := (RepsG.of (f := f) e1 r1).val h.inj (k := k)
      rcases this with ⟨g, v⟩ | ⟨z, v, g, hv, rv⟩
      · exact .inl ⟨g, v ▸ DGet.t hu t1⟩
      · exact .inr ⟨z, v, g, hv ▸ DGet.t hu t1, rv⟩
  put {K mg O O' H a u xs k y v z} hu hd r rv hl := by
    rcases hd.cases with ⟨kvs, ks, ds, rfl, e, _⟩ | ⟨kvs, ks, ds, rfl, e, e1, r1⟩
    · cases e
    · rw [h.is] at r
      cases r with
      | t t1 t2 =>
      rw [t2.keyD] at t1
      have e : D.e (xs.map fun p => f p.1) (xs.map fun p => E p.2) = D.e ks ds := e
      injection e with e2 e3
      subst e2 e3
      have q := RepsG.of (f := f) e1 r1
      have p := q.put h.inj (k := k) rv
      exact ⟨_, DPut.t hu t1 (by rw [q.len]; exact hl), p.keys, p.vals⟩
/-! ### the slot of a dict of one's own -/
theorem w_at {K : PySem.W.Frag} {mg : Str → Option Value} {sr : Option Addr} {O : Addr → Prop} {H0 H : Hp} {σ : L2.St} {ad : Nat → Option Addr} {ρ : List Slot} (he : Env K mg sr O H0 H σ ρ ad) {i : Nat} {d : D} (h : ρ[i]? = some (.w d)) :
    ∃ p u, ad i = some p ∧ σ[i]? = some (some (.ref p)) ∧ H p = some u ∧ DkOk K mg (OO O ad) H u d := by
  have := he.at_ i
  rw [h] at this
  exact this
theorem Env.writeW {K : PySem.W.Frag} {mg : Str → Option Value} {sr : Option Addr} {O : Addr → Prop} {H0 H : Hp} {σ : L2.St} {ρ : List Slot} {ad : Nat → Option Addr} (e : Env K mg sr O H0 H σ ρ ad) {i : Nat} {d d' : D} {u' : HO} (hi : ρ[i]? = some (.w d)) {p : Addr} (hp : ad i = some p) (r : DkOk K mg (OO O ad) H u' d') :
    Env K mg sr O H0 (L2.upd H p u') σ (ρ.set i (.w d')) ad := by
  obtain ⟨p', u0, e1, e2, e3, e4⟩ := w_at e hi
  have : p' = p := Option.some.inj (e1.symm.trans hp)
  subst this
  have op : OO O ad p' := .inr ⟨i, e1⟩
  have mu : Mut (some u0) := e4.mu
  have nsr : sr ≠ some p' := fun z => e.dis i p' e1 (e.sO p' z)
  have il : i < ρ.length := (List.getElem?_eq_some_iff.mp hi).1
  have hmu : ∀ q, Mut (H q) → Mut (L2.upd H p' u' q) := fun q h => by
    by_cases hq : q = p'
    · rw [hq, upd_same]; exact r.mu
    · rw [upd_ne hq]; exact h
  refine ⟨by rw [List.length_set]; exact e.len, fun j => ?_, e.inj, e.frs, fun j q h => hmu q (e.mu j q h), fun S h => ⟨e.sO S h, ?_⟩, fun q h => hmu q (e.dom q h), e.dis, fun a o h n => ?_⟩
  · by_cases hj : j = i
    · subst hj
      rw [List.getElem?_set_self (by exact il)]
      exact ⟨p', u', e1, e2, upd_same, r.upd op e3 mu⟩
    · rw [List.getElem?_set_ne (fun z => hj z.symm)]
      have ej := e.at_ j
      cases hs : ρ[j]? with
      | none => rw [hs] at ej; exact ej
      | some s =>
        rw [hs] at ej
        cases s with
        | u => exact ej
        | d x =>
          obtain ⟨h1, w, h2, h3⟩ := ej
          exact ⟨h1, w, h2, h3.upd op e3 mu⟩
        | l xs =>
          obtain ⟨q, vs, h1, h2, h3, h4⟩ := ej
          have : q ≠ p' := fun z => hj (e.inj j i p' (z ▸ h1) e1)
          exact ⟨q, vs, h1, h2, by rw [upd_ne this]; exact h3, h4.upd op e3 mu⟩
        | w x =>
          obtain ⟨q, vs, h1, h2, h3, h4⟩ := ej
          have : q ≠ p' := fun z => hj (e.inj j i p' (z ▸ h1) e1)
          exact ⟨q, vs, h1, h2, by rw [upd_ne this]; exact h3, h4.upd op e3 mu⟩
        | ob q c' ns2 ds2 =>
          obtain ⟨C2, dx2, fs2, h1, h2, h3, h4, h5, h6⟩ := ej
          have : q ≠ p' := fun z => hj (e.inj j i p' (z ▸ h1) e1)
          exact ⟨C2, dx2, fs2, h1, h2, by rw [upd_ne this]; exact h3, h4, h5, h6.upd op e3 mu⟩
        | src => exact ej
  · obtain ⟨a, b, z⟩ := e.srs S h
    exact ⟨a, b, by rw [upd_ne (fun q => nsr (by rw [h, q]))]; exact z⟩
  · have := e.ext a o h n
    rw [upd_ne (fun z => by rw [z] at h; rw [e.frs i p' e1] at h; cases h)]
    exact this
/-- a new empty dict becomes the slot's own -/
theorem Env.ownW {K : PySem.W.Frag} {mg : Str → Option Value} {sr : Option Addr} {O : Addr → Prop} {H0 H : Hp} {σ : L2.St} {ρ : List Slot} {ad : Nat → Option Addr} (e : Env K mg sr O H0 H σ ρ ad) {i : Nat} (hi : i < ρ.length) {p : Addr} {u : HO} {d : D} (hp : H p = none) (hd : ∀ O H, DkOk K mg O H u d) :
    Env K mg sr O H0 (L2.upd H p u) (σ.set i (some (.ref p))) (ρ.set i (.w d)) (atad ad i p) := by
  have own := e.own (Ext.new (o := .lst []) e.srs hp) hi (p := p) (vs := []) (xs := []) hp upd_same .nil .nil
  have hl : i < (ρ.set i (.l [])).length := by rw [List.length_set]; exact hi
  have hi' : (ρ.set i (.l []))[i]? = some (.l []) := List.getElem?_set_self hi
  have ha : atad ad i p i = some p := by unfold atad; rw [if_pos rfl]
  -- the list is written over by the dict
  have op : OO O (atad ad i p) p := .inr ⟨i, ha⟩
  have hpp : (L2.upd H p (.lst [])) p = some (.lst []) := upd_same
  have nsr : sr ≠ some p := fun z => own.dis i p ha (own.sO p z)
  have uu : ∀ {q o}, L2.upd H p u q = some o → q ≠ p → L2.upd H p (.lst []) q = some o := fun {q o} h hq => by rw [upd_ne hq] at h ⊢; exact h
  have uv : ∀ {q o}, L2.upd H p (.lst []) q = some o → q ≠ p → L2.upd H p u q = some o := fun {q o} h hq => by rw [upd_ne hq] at h ⊢; exact h
  have kr : ∀ {d : D} {v : V}, Rep K mg (OO O (atad ad i p)) (L2.upd H p (.lst [])) v d → Rep K mg (OO O (atad ad i p)) (L2.upd H p u) v d := fun h => h.gen (fun a o q n => ⟨uv q fun z => n (by rw [z]; exact op), n⟩) fun a vs h => uv h fun z => by rw [z, hpp] at h; cases h
  have krs : ∀ {d : List D} {v : List V}, Reps K mg (OO O (atad ad i p)) (L2.upd H p (.lst [])) v d → Reps K mg (OO O (atad ad i p)) (L2.upd H p u) v d := fun h => Reps.gen (fun a o q n => ⟨uv q fun z => n (by rw [z]; exact op), n⟩) (fun a vs h => uv h fun z => by rw [z, hpp] at h; cases h) _ _ h
  have hmu : ∀ q, Mut (L2.upd H p (.lst []) q) → Mut (L2.upd H p u q) := fun q h => by
    by_cases hq : q = p
    · rw [hq, upd_same]; exact (hd O H).mu
    · rw [upd_ne hq] at h ⊢; exact h
  refine ⟨by rw [List.length_set, List.length_set]; exact e.len, fun j => ?_, own.inj, own.frs, fun j q h => hmu q (own.mu j q h), fun S h => ⟨own.sO S h, ?_⟩, fun q h => hmu q (own.dom q h), own.dis, fun a o h n => ?_⟩
  · have ej := own.at_ j
    by_cases hj : j = i
    · subst hj
      rw [List.getElem?_set_self hi]
      rw [List.getElem?_set_self hi] at ej
      obtain ⟨q, vs, h1, h2, h3, h4⟩ := ej
      exact ⟨p, u, ha, by rw [List.getElem?_set_self (by rw [e.len]; exact hi)], upd_same, hd _ _⟩
    · rw [List.getElem?_set_ne (fun z => hj z.symm), List.getElem?_set_ne (fun z => hj z.symm)] at ej
      rw [List.getElem?_set_ne (fun z => hj z.symm), List.getElem?_set_ne (fun z => hj z.symm)]
      cases hs : ρ[j]? with
      | none => rw [hs] at ej; exact ej
      | some s =>
        rw [hs] at ej
        cases s with
        | u => exact ej
        | d x =>
          obtain ⟨h1, w, h2, h3⟩ := ej
          exact ⟨h1, w, h2, kr h3⟩
        | l xs =>
          obtain ⟨q, vs, h1, h2, h3, h4⟩ := ej
          have : q ≠ p := fun z => hj (own.inj j i p (z ▸ h1) ha)
          exact ⟨q, vs, h1, h2, uv h3 this, krs h4⟩
        | w x =>
          obtain ⟨q, vs, h1, h2, h3, h4⟩ := ej
          have : q ≠ p := fun z => hj (own.inj j i p (z ▸ h1) ha)
          exact ⟨q, vs, h1, h2, uv h3 this, h4.map fun _ _ r => krs r⟩
        | ob q c' ns2 ds2 =>
          obtain ⟨C2, dx2, fs2, h1, h2, h3, h4, h5, h6⟩ := ej
          have : q ≠ p := fun z => hj (own.inj j i p (z ▸ h1) ha)
          exact ⟨C2, dx2, fs2, h1, h2, uv h3 this, h4, h5, krs h6⟩
        | src => exact ej
  · obtain ⟨a, b, z⟩ := own.srs S h
    exact ⟨a, b, uv z (fun q => nsr (by rw [h, q]))⟩
  · exact uv (own.ext a o h n) (fun z => by rw [z] at h; rw [own.frs i p ha] at h; cases h)
section
variable {m : Type → Type} [Mn m] {α β γ δ κ κ1 τ : Type} [DecidableEq κ1]
variable {X : Cx} {M : Bool} {a b ex : Expr} {rest : List Stmt} {ρ : List Slot} {E : α → D} {F : κ1 → D} {G : List (κ1 × α) → D} {p p1 p2 p3 pos : Pos} {n : Str}
theorem JE.varW (i : Nat) {Ex : β → D} {x : β} (h : ρ[i]? = some (.w (Ex x))) (hN : X.N[i]? = some n := by rfl) (hv : Vis X.env.scope n := by first | exact Or.inl rfl | exact Or.inr (Or.inl rfl) | exact Or.inr (Or.inr rfl)) (hd : (n == ("__debug__" : Str)) = false := by decide) (hcd : (n == ("__classdict__" : Str)) = false := by decide) : JE X false (.Name n pos) ρ Ex (rt (m := m) x) :=
  ⟨⟨pe_weak (pv i hN hv hd hcd) fun σ H Q ⟨sr, O, H0, ad, he, hw⟩ => by
    obtain ⟨q, u, e1, e2, e3, e4⟩ := w_at he h
    exact ⟨_, e2, lep _ hw _ _ (Ext.refl he.srs) ((e4.sub fun a h => .inl h).rep e3 (he.dis i q e1))⟩⟩⟩
/-- d[k] -/
theorem JE.getG {wa : m (List (κ1 × α))} {wb : m κ1} (DE : DictE F E G) (hu : X.A.units + 1 < cLine) (ha : JE X M a ρ G wa) (hb : JE X false b ρ F wb) (hs : NoSl b := by exact fun _ _ => rfl) : JE X M (.Subscript a b pos) ρ E (bd wa fun xs => bd wb fun k => lf (Wk.getG xs k)) :=
  ⟨⟨pe_weak (pe_dget hu ha.b.pe hb.b.pe hs) fun σ H Q ⟨sr, O, H0, ad, he, hw⟩ => ⟨sr, O, H0, ad, he, by
      have hw := le2 (f := fun xs k => lf (m := m) (Wk.getG xs k)) (g := fun xs k => Wp.ofO (Wk.getG xs k)) (fun _ _ => Mn.lift_le _) _ hw
      refine (Mn.wp wa).mono (fun xs q v H1 x1 r => ⟨sr, O, H0, ad, he.ext' x1, (Mn.wp wb).mono (fun k q2 v2 H2 x2 r2 => ?_) q⟩) hw
      obtain ⟨y, hy, q2⟩ := q2
      obtain ⟨p, u, rfl, hp, dk⟩ := DE.rep (r.ext x2 (he.sOM M))
      rcases DE.get hp dk r2 with ⟨g, _⟩ | ⟨z, v, g, dg, rv⟩
      · rw [hy] at g; cases g
      · rw [hy] at g
        cases g
        exact ⟨p, v, rfl, dg, q2 v H2 (x1.trans x2) rv⟩⟩⟩⟩
/-- k in d -/
theorem JE.hasG {wa : m (List (κ1 × α))} {wb : m κ1} (DE : DictE F E G) (hu : X.A.units + 1 < cLine) (hb : JE X false b ρ F wb) (ha : JE X false a ρ G wa) (hm : behindInMarks .In a = false := by rfl) : JE X M (.Compare b [.In] [a] pos) ρ eB (bd wb fun k => bd wa fun xs => rt (Wk.hasG xs k)) :=
  ⟨⟨pe_weak (pe_cmp (pc_din hu hb.b.pe ha.b.pe) hm) fun σ H Q ⟨sr, O, H0, ad, he, hw⟩ => ⟨sr, O, H0, ad, he, by
      have hw := le2 (f := fun k xs => rt (m := m) (Wk.hasG xs k)) (g := fun k xs => Wp.pure (Wk.hasG xs k)) (fun _ _ => lep) _ hw
      refine (Mn.wp wb).mono (fun k q v H1 x1 r => ⟨sr, O, H0, ad, he.ext' x1, (Mn.wp wa).mono (fun xs q2 v2 H2 x2 r2 => ?_) q⟩) hw
      obtain ⟨p, u, rfl, hp, dk⟩ := DE.rep r2
      rcases DE.get hp dk (r.ext x2 he.sO) with ⟨g, dg⟩ | ⟨z, v, g, dg, rv⟩
      · refine ⟨p, none, rfl, dg, ?_⟩
        have := q2 (.bl (Wk.hasG xs k)) H2 (x1.trans x2) (.b _)
        unfold Wk.hasG at this
        rw [g] at this
        exact this
      · refine ⟨p, some v, rfl, dg, ?_⟩
        have := q2 (.bl (Wk.hasG xs k)) H2 (x1.trans x2) (.b _)
        unfold Wk.hasG at this
        rw [g] at this
        exact this⟩⟩⟩
theorem JE.nhasG {wa : m (List (κ1 × α))} {wb : m κ1} (DE : DictE F E G) (hu : X.A.units + 1 < cLine) (hb : JE X false b ρ F wb) (ha : JE X false a ρ G wa) (hm : behindInMarks .NotIn a = false := by rfl) : JE X M (.Compare b [.NotIn] [a] pos) ρ eB (bd wb fun k => bd wa fun xs => rt (!Wk.hasG xs k)) :=
  ⟨⟨pe_weak (pe_cmp (pc_dnotin hu hb.b.pe ha.b.pe) hm) fun σ H Q ⟨sr, O, H0, ad, he, hw⟩ => ⟨sr, O, H0, ad, he, by
      have hw := le2 (f := fun k xs => rt (m := m) (!Wk.hasG xs k)) (g := fun k xs => Wp.pure (!Wk.hasG xs k)) (fun _ _ => lep) _ hw
      refine (Mn.wp wb).mono (fun k q v H1 x1 r => ⟨sr, O, H0, ad, he.ext' x1, (Mn.wp wa).mono (fun xs q2 v2 H2 x2 r2 => ?_) q⟩) hw
      obtain ⟨p, u, rfl, hp, dk⟩ := DE.rep r2
      rcases DE.get hp dk (r.ext x2 he.sO) with ⟨g, dg⟩ | ⟨z, v, g, dg, rv⟩
      · refine ⟨p, none, rfl, dg, ?_⟩
        have := q2 (.bl (!Wk.hasG xs k)) H2 (x1.trans x2) (.b _)
        unfold Wk.hasG at this
        rw [g] at this
        exact this
      · refine ⟨p, some v, rfl, dg, ?_⟩
        have := q2 (.bl (!Wk.hasG xs k)) H2 (x1.trans x2) (.b _)
        unfold Wk.hasG at this
        rw [g] at this
        exact this⟩⟩⟩
theorem JT.hasG {wa : m (List (κ1 × α))} {wb : m κ1} (DE : DictE F E G) (hu : X.A.units + 1 < cLine) (hb : JE X false b ρ F wb) (ha : JE X false a ρ G wa) (hm : behindInMarks .In a = false := by rfl) : JT X (.Compare b [.In] [a] pos) ρ (bd wb fun k => bd wa fun xs => rt (Wk.hasG xs k)) :=
  ⟨⟨pt_weak (pt_cmp (pc_din hu hb.b.pe ha.b.pe) hm) fun σ H Q ⟨sr, O, H0, ad, he, hw⟩ => ⟨sr, O, H0, ad, he, by
      have hw := le2 (f := fun k xs => rt (m := m) (Wk.hasG xs k)) (g := fun k xs => Wp.pure (Wk.hasG xs k)) (fun _ _ => lep) _ hw
      refine (Mn.wp wb).mono (fun k q v H1 x1 r => ⟨sr, O, H0, ad, he.ext' x1, (Mn.wp wa).mono (fun xs q2 v2 H2 x2 r2 => ?_) q⟩) hw
      obtain ⟨p, u, rfl, hp, dk⟩ := DE.rep r2
      have this := q2 H2 (x1.trans x2)
      unfold Wk.hasG at this
      rcases DE.get hp dk (r.ext x2 he.sO) with ⟨g, dg⟩ | ⟨z, v, g, dg, rv⟩
      · rw [g] at this
        exact ⟨p, none, rfl, dg, _, rfl, this⟩
      · rw [g] at this
        exact ⟨p, some v, rfl, dg, _, rfl, this⟩⟩⟩⟩
theorem JT.nhasG {wa : m (List (κ1 × α))} {wb : m κ1} (DE : DictE F E G) (hu : X.A.units + 1 < cLine) (hb : JE X false b ρ F wb) (ha : JE X false a ρ G wa) (hm : behindInMarks .NotIn a = false := by rfl) : JT X (.Compare b [.NotIn] [a] pos) ρ (bd wb fun k => bd wa fun xs => rt (!Wk.hasG xs k)) :=
  ⟨⟨pt_weak (pt_cmp (pc_dnotin hu hb.b.pe ha.b.pe) hm) fun σ H Q ⟨sr, O, H0, ad, he, hw⟩ => ⟨sr, O, H0, ad, he, by
      have hw := le2 (f := fun k xs => rt (m := m) (!Wk.hasG xs k)) (g := fun k xs => Wp.pure (!Wk.hasG xs k)) (fun _ _ => lep) _ hw
      refine (Mn.wp wb).mono (fun k q v H1 x1 r => ⟨sr, O, H0, ad, he.ext' x1, (Mn.wp wa).mono (fun xs q2 v2 H2 x2 r2 => ?_) q⟩) hw
      obtain ⟨p, u, rfl, hp, dk⟩ := DE.rep r2
      have this := q2 H2 (x1.trans x2)
      unfold Wk.hasG at this
      rcases DE.get hp dk (r.ext x2 he.sO) with ⟨g, dg⟩ | ⟨z, v, g, dg, rv⟩
      · rw [g] at this
        exact ⟨p, none, rfl, dg, _, rfl, this⟩
      · rw [g] at this
        exact ⟨p, some v, rfl, dg, _, rfl, this⟩⟩⟩⟩
variable {Eb : β → D} {ρx : Option (γ → List Slot)} {ρl : τ → List Slot} {e : κ → Fl γ τ β}
/-- d = {} -/
theorem JS.newW {d : D} (i : Nat) {k : m κ} (u : HO) (hd : (u = .dK [] ∧ d = .d [] []) ∨ (u = .dT [] ∧ d = .e [] [])) (hNd : X.N.Nodup) (hi : X.N[i]? = some n) (hl : i < ρ.length) (hx : Loc X.env.scope n) (hf : X.fn n = true ∨ X.env.scope.names.lookup n = some .local) (hr : JS X rest (ρ.set i (.w d)) Eb ρx ρl e k)
    (hs : swapsWith (.Dict [] [] p) (some (.Name n p2)) pos.line X.env = pure false := by rfl) :
    JS X (.Assign [.Name n p2] (.Dict [] [] p) pos :: rest) ρ Eb ρx ρl e k := by
  rcases hd with ⟨rfl, rfl⟩ | ⟨rfl, rfl⟩
  · exact ⟨pss_weak (pss_cons (ps_set hNd hi hx pe_dnewK hs hf) hr.ps) fun Dd σ H ⟨sr, O, H0, ad, he, hw⟩ q hq => ⟨sr, O, H0, _, he.ownW hl hq (fun O H => ⟨rfl, .nil⟩), hw⟩, hr.nn⟩
  · exact ⟨pss_weak (pss_cons (ps_set hNd hi hx pe_dnewT hs hf) hr.ps) fun Dd σ H ⟨sr, O, H0, ad, he, hw⟩ q hq => ⟨sr, O, H0, _, he.ownW hl hq (fun O H => ⟨rfl, .nil⟩), hw⟩, hr.nn⟩
/-- d[k] = v -/
theorem JS.putW (i : Nat) {xs : List (κ1 × α)} {w : m α} {wb : m κ1} {k : List (κ1 × α) → m κ} (DE : DictE F E G) (hu : X.A.units + 1 < cLine) (h : ρ[i]? = some (.w (G xs))) (ha : JE X true ex ρ E w) (hb : JE X false b ρ F wb) (hr : ∀ ys, JS X rest (ρ.set i (.w (G ys))) Eb ρx ρl e (k ys))
    (hN : X.N[i]? = some n := by rfl) (hv : Vis X.env.scope n := by first | exact Or.inl rfl | exact Or.inr (Or.inl rfl) | exact Or.inr (Or.inr rfl)) (hd : (n == ("__debug__" : Str)) = false := by decide) (hcd : (n == ("__classdict__" : Str)) = false := by decide)
    (hs : swapsWith ex (some (.Subscript (.Name n p2) b p1)) pos.line X.env = pure false := by rfl) :
    JS X (.Assign [.Subscript (.Name n p2) b p1] ex pos :: rest) ρ Eb ρx ρl e (bd w fun y => bd wb fun j => bd (lf (putO xs j y)) k) :=
  ⟨pss_weak (pss_cons (ps_dput hu (pv i hN hv hd hcd) hb.b.pe ha.b.pe hs) (pss_ex fun x => (hr x).ps)) fun Dd σ H ⟨sr, O, H0, ad, he, hw⟩ => (by
    refine ⟨sr, O, H0, ad, he, (Mn.wp w).mono (fun y q v H1 x1 r => ?_) (bdk hw)⟩
    have he1 := he.ext' x1
    obtain ⟨p, u, e1, e2, e3, rs⟩ := w_at he1 h
    refine ⟨.ref p, e2, sr, O, H0, ad, he1, (Mn.wp wb).mono (fun j q v2 H2 x2 r2 => ?_) (bdk q)⟩
    obtain ⟨ys, hy, q⟩ := Mn.lift_le _ _ (bdk q)
    have he2 := he1.ext' x2
    obtain ⟨p', u', e1', e2', e3', rs'⟩ := w_at he2 h
    have : p' = p := Option.some.inj (e1'.symm.trans e1)
    subst this
    unfold putO at hy
    split at hy
    · rename_i hz
      cases hy
      obtain ⟨u2, hput, dk⟩ := DE.put e3' rs' r2 (r.ext x2 (he.sOM true)) hz
      exact ⟨p', _, rfl, hput, _, sr, O, H0, ad, he2.writeW h e1 dk, q⟩
    · cases hy), fun z => nn_bd fun x => nn_bd fun y => nn_bd fun z' => (hr z').nn z⟩
end
end Wk

namespace Wk
open PySem PySem.Spec PyProof.Rows L2
/-! ### len(set(t)), t a tuple of numbers -/
/-- each once -/
def ddI : List Int → List Int
  | [] => []
  | x :: xs => if xs.contains x then ddI xs else x :: ddI xs
theorem ddI_mem {x : Int} : ∀ {xs : List Int}, x ∈ ddI xs ↔ x ∈ xs
  | [] => Iff.rfl
  | y :: ys => by
    unfold ddI
    split
    · rename_i h
      rw [ddI_mem, List.mem_cons]
      exact ⟨.inr, fun z => z.elim (fun e => by rw [e]; exact List.contains_iff_mem.mp h) id⟩
    · rw [List.mem_cons, List.mem_cons, ddI_mem]
theorem ddI_nodup : ∀ xs : List Int, (ddI xs).Nodup
  | [] => .nil
  | y :: ys => by
    unfold ddI
    split
    · exact ddI_nodup ys
    · rename_i h
      exact List.nodup_cons.mpr ⟨fun z => h (List.contains_iff_mem.mpr (ddI_mem.mp z)), ddI_nodup ys⟩
theorem ddI_self {xs : List Int} : xs.Nodup → ddI xs = xs := by
  induction xs with
  | nil => intro _; rfl
  | cons y ys ih =>
    intro h
    obtain ⟨h1, h2⟩ := List.nodup_cons.mp h
    unfold ddI
    rw [if_neg (fun z => h1 (List.contains_iff_mem.mp z)), ih h2]
def lenSetO (xs : List Int) : Option Int := if xs.length < 4000 then some ((ddI xs).length : Int) else none
def tLsT (K : PySem.W.Frag) (te : TE) : TE := fun σ H Q => te σ H fun x G => ∃ (l : Addr) (zs : List Int), x = V.ref l ∧ SqT K G l (zs.map V.int) ∧ zs.length < 4000 ∧ Q (.int (ddI zs).length) G
theorem pe_lsT {X : Cx} {a : Expr} {te : TE} {p p2 q pos : Pos} (hc : X.calm = true) (hl : Gl X "len") (ml : X.mg "len" = none) (hs : Gl X "set") (ms : X.mg "set" = none) (he : PE X a te) (na : starEach [a] X.env = (false, eval a X.env) :: starEach [] X.env := by rfl) :
    PE X (.Call (.Name "len" p) [.Call (.Name "set" p2) [a] [] q] [] pos) (tLsT X.K te) := ⟨fun pins s σ H Q I hw =>
  Call_ (ld_blt I hl ml PySem.boot_len (callWith_builtin1 (args_cons (Call_ (ld_blt I hs ms boot_set (callWith_type1 (args_cons (thn (he.run pins s σ H _ I hw) fun v s1 ⟨x, G, I1, r1, l, zs, ex, sq, hz, q1⟩ => args_nil (by
    subst ex
    cases r1
    obtain ⟨its, r, pl, _⟩ := I1.tuple sq
    refine call_set_tupI zs (I1.ok.hd hc) pl (by simpa using r.ints) (by unfold scanBound; omega) fun h' tk c R _ hk => args_nil ?_
    obtain ⟨o, es, ep, t, ho, hex, hd, _, nd, mem, sb, hf, hn, _⟩ := R
    have pm : (es.toList.map keyOf).Perm (ddI zs) := (List.perm_ext_iff_of_nodup nd (ddI_nodup zs)).mpr fun k => by
      rw [← mem k, ddI_mem]
      exact decide_eq_true_iff
    have el : es.size = (ddI zs).length := by
      have := pm.length_eq
      rw [List.length_map, Array.length_toList] at this
      exact this
    have I2 : Inv X pins σ G { s1 with heap := h', toks := tk } := I1.kept hk
    exact call_len_set ho hex hd hf (by unfold scanBound at sb; omega) ⟨.int (ddI zs).length, G, I2.tok _, ⟨_, by rw [el]⟩, q1⟩)) na) na rfl))) rfl) rfl rfl))⟩
/-! ### sorted(t), t a tuple -/
section
variable {prog : Program} {w : World} {A : Around} {E : Value → Shared → Prop} {s : Shared}
theorem collect_tup {l : Addr} {us : List Value} {R : List Value → Shared → Prop} (hl : s.heap.IsTuple l us.toArray) (hz : us.length ≤ sizeLine) (q : R us { s with heap := (s.heap.push (seqObj "list" #[] 0)).update s.heap.objs.size (Obj.mapSeq (· ++ us.toArray)) }) :
    wpAny (model prog w) A (collect (.ref l)) R E s := by
  obtain ⟨o, ho, hc, n, hd⟩ := id hl
  have new : ∀ h : Heap, (h.push (seqObj "list" #[] 0)).get? h.objs.size = some (seqObj "list" #[] 0) := fun h => Heap.get?_push_size _ rfl
  have old : (s.heap.push (seqObj "list" #[] 0)).get? l = some o := Heap.get?_push_of_some _ ho
  have tt : ((Value.type "tuple" == Value.type "list") || (Value.type "tuple" == Value.type "tuple")) = true := by rfl
  unfold collect
  refine wpAny_bind (wpAny_runValue (codeAny_builtin entry_proto_collect' (show wpAny _ _ (do again (.builtin "list.__iadd__" ⟨[← newList [], .ref l], []⟩)) _ _ s from wpAny_bind (wpAny_newList (wpAny_pure ⟨Code.quiet_builtin _ (by decide +kernel), codeAny_builtin entry_list_iadd' (show wpAny _ _ (Builtin.List.listExtendWith (.ref s.heap.objs.size) (.ref l) (.ref s.heap.objs.size)) _ _ { s with heap := s.heap.push (seqObj "list" #[] 0) } from ?_)⟩)))))
  unfold Builtin.List.listExtendWith
  refine wpAny_bind (wpAny_typeOf (T := "tuple") ⟨o, old, hc⟩ ?_); rw [if_pos (by rw [Bool.or_assoc, tt, Bool.or_true])]
  refine wpAny_bind (listItems_at old hd (wpAny_bind (listItems_at (xs := #[]) (n := 0) (new _) rfl ?_))); rw [if_neg (by simp)]
  refine wpAny_bind (listUpdate_at (xs := #[]) (n := 0) (new _) rfl (wpAny_pure ?_) (Nat.zero_le _) (by show (#[] ++ us.toArray).size ≤ sizeLine + 1; simp only [Array.size_append, List.size_toArray, List.length_nil]; omega))
  show wpAny (model prog w) A (do
      let o ← load s.heap.objs.size
      match o.data with
      | .seq xs _ => pure xs.toList
      | _ => unsupported "internal:collect") R E { s with heap := (s.heap.push (seqObj "list" #[] 0)).update s.heap.objs.size (Obj.mapSeq (· ++ us.toArray)) }
  refine wpAny_bind (wpAny_load (get?_update_seq (new _) _) (show wpAny _ _ (pure ((#[] : Array Value) ++ us.toArray).toList) R E _ from ?_)); rw [show ((#[] : Array Value) ++ us.toArray).toList = us by simp]; exact wpAny_pure q
theorem sorted_tup {l : Addr} {us : List Value} {lt : Value → Value → Bool} {R : Value → Shared → Prop} (O : SrtO.Swo lt) (hl : s.heap.IsTuple l us.toArray) (hz : us.length ≤ sizeLine)
    (hS : 2 ≤ us.length → ∀ (h₁ : Heap) (a : Addr), h₁.get? a = some (seqObj "list" us.toArray 0) → (∀ b o, s.heap.get? b = some o → b ≠ a ∧ h₁.get? b = some o) → SrtO.SortableO prog w A.in1.in1 { s with heap := h₁ } a us lt)
    (q : ∀ out : List Value, SrtO.Srtd lt out → SrtO.Stb lt out us → R (.ref (s.heap.objs.size + 1)) { s with heap := sortedAll s.heap us out.toArray }) :
    wpAny (model prog w) A (call (.builtin "sorted") [.ref l]) R E s := by
  refine Calls.call_function_entry kind_sorted plain_sorted entry_sorted (args_sorted1 _) ?_
  unfold Builtin.«sorted»
  have sz : ((s.heap.push (seqObj "list" #[] 0)).update s.heap.objs.size (Obj.mapSeq (· ++ us.toArray))).objs.size = s.heap.objs.size + 1 := (Heap.size_update ..).trans (size_push' ..)
  refine wpAny_bind (m := checkCount "sorted" 1 1 _) (wpAny_pure (wpAny_bind (collect_tup hl hz (wpAny_bind (wpAny_newList ?_ hz)))))
  show wpAny _ _ _ _ _ { s with heap := ((s.heap.push (seqObj "list" #[] 0)).update s.heap.objs.size (Obj.mapSeq (· ++ us.toArray))).push (seqObj "list" us.toArray 0) }; rw [sz]
  have at1 : (((s.heap.push (seqObj "list" #[] 0)).update s.heap.objs.size (Obj.mapSeq (· ++ us.toArray))).push (seqObj "list" us.toArray 0)).get? (s.heap.objs.size + 1) = some (seqObj "list" us.toArray 0) := sz ▸ Heap.get?_push_size _ rfl
  refine wpAny_bind (wpAny_holding (wpAny_call_entry slot_list_sort ⟨_, at1, rfl⟩ entry_list_sort (SrtO.list_sort_ord O at1 hz (fun h2 => hS h2 _ _ at1 fun b o e => ?_) fun out h1 h2 => ⟨_, rfl, wpAny_pure ⟨_, rfl, q out h1 h2⟩⟩) (args_list_sort _)))
  have lt : b < s.heap.objs.size := Heap.lt_size e
  exact ⟨Nat.ne_of_lt (Nat.lt_succ_of_lt lt), Heap.get?_push_of_some _ ((Heap.get?_update_ne _ _ _ _ (Nat.ne_of_lt lt)).trans (Heap.get?_push_of_some _ e))⟩
end
def rSortedTI (K : PySem.W.Frag) : List V → Hp → VK → Prop := fun vs H Q => ∃ (a : Addr) (ns : List Int), vs = [V.ref a] ∧ SqT K H a (ns.map V.int) ∧ ∀ (ms : List Int) (p : Addr), ms.Perm ns → ms.Pairwise (· ≤ ·) → H p = none → Q (.ref p) (upd H p (.lst (ms.map V.int)))
theorem cr_sortedTI {X : Cx} : CallR X (.builtin "sorted") (rSortedTI X.K) := by
  intro pins s σ H vs us Q I r ⟨a, ns, e, hs, q⟩
  subst e
  obtain ⟨its, rv, hl, hz⟩ := I.tuple hs
  rw [Vals.ref1 r]
  refine sorted_tup SrtO.swo_int hl (by rw [← rv.length]; exact hz) (fun h2 h₁ a' _ _ => SrtO.ints_sortable rv.ints h2) fun out h1 h2 => ?_
  obtain ⟨k1, k2, k3⟩ := SrtO.ints_out rv.ints h1 h2
  obtain ⟨ep, at2⟩ := PyProof.Rows.sortedAll_at s.heap its out.toArray
  have len : ((out.map SrtO.iv).map V.int).length ≤ sizeLine := by rw [List.length_map, k2.length_eq]; rw [List.length_map] at hz; exact hz
  exact ⟨.ref _, upd H (s.heap.objs.size + 1) (.lst ((out.map SrtO.iv).map V.int)), I.laid (t' := s.toks) (fun _ _ z => PyProof.Rows.sortedAll_old z) (Nat.le_succ _) ⟨len, out, ep, vals_of_ints k1, at2⟩, rfl, q _ _ k2 k3 (I.hok.fresh (Nat.le_succ _))⟩
section
variable {m : Type → Type} [Mn m] {X : Cx} {M : Bool} {ρ : List Slot} {a : Expr} {p pos : Pos}
theorem JL.sortedTI {wa : m (List Int)} (hg : Gl X "sorted") (hm : X.mg "sorted" = none) (ha : JE X M a ρ (eT eI) wa) (hs : St1 X a := by rfl) : JL X M (.Call (.Name "sorted" p) [a] [] pos) ρ eI (bd wa fun xs => rt (sortI xs)) :=
  JL.fn1p (fun xs : List Int => sortI xs) (fun ta hta => pe_callB cr_sortedTI hg hm (by decide +kernel) hta (by decide) (by decide) hs rfl) (fun O H v xs r Q q => by
    obtain ⟨p, vs, rfl, hs, rs⟩ := r.seqT
    have rs : Reps X.K X.mg O H vs (xs.map D.i) := rs
    rw [rs.ints] at hs
    exact ⟨p, xs, rfl, hs, fun ms d pm pw hd => by
      rw [sorted_eq (pm.trans (sortI_perm xs).symm) pw (sortI_sorted xs)]
      exact q d _ hd (Reps.of_ints _)⟩) ha hs
end
section
variable {m : Type → Type} [Mn m] {α β γ κ τ : Type} {X : Cx} {M : Bool} {ρ : List Slot} {E : α → D} {a : Expr} {p p2 q pos : Pos}
theorem JE.lenSetT {wa : m (List Int)} (hc : X.calm = true) (hl : Gl X "len") (ml : X.mg "len" = none) (hs : Gl X "set") (ms : X.mg "set" = none) (ha : JE X false a ρ (eT eI) wa) (na : starEach [a] X.env = (false, eval a X.env) :: starEach [] X.env := by rfl) :
    JE X M (.Call (.Name "len" p) [.Call (.Name "set" p2) [a] [] q] [] pos) ρ eI (bd wa fun xs => lf (lenSetO xs)) :=
  ⟨⟨pe_weak (pe_lsT hc hl ml hs ms ha.b.pe na) fun σ H Q ⟨sr, O, H0, ad, he, hw⟩ => ⟨sr, O, H0, ad, he, by
      have hw := le1 (f := fun xs => lf (m := m) (lenSetO xs)) (g := fun xs => Wp.ofO (lenSetO xs)) (fun _ => Mn.lift_le _) _ hw
      refine (Mn.wp wa).mono (fun xs q v H1 x1 r => ?_) hw
      obtain ⟨y, hy, q⟩ := q
      unfold lenSetO at hy
      split at hy
      · rename_i hz
        cases hy
        obtain ⟨p, vs, rfl, hs, rs⟩ := r.seqT
        have rs : Reps X.K X.mg O H1 vs (xs.map D.i) := rs
        rw [rs.ints] at hs
        exact ⟨p, xs, rfl, hs, hz, q _ H1 x1 (.i _)⟩
      · cases hy⟩⟩⟩
theorem JL.sortedQ {k : Kd} {wa : m (List Int)} (hg : Gl X "sorted") (hm : X.mg "sorted" = none) (ha : JE X M a ρ (eQ k eI) wa) (hs : St1 X a := by rfl) : JL X M (.Call (.Name "sorted" p) [a] [] pos) ρ eI (bd wa fun xs => rt (sortI xs)) := by
  cases k with
  | l => exact JL.sortedI hg hm ha hs
  | t => exact JL.sortedTI hg hm ha hs
end
section
variable {m : Type → Type} [Mn m] {α β γ κ τ ω : Type}
variable {X : Cx} {ex : Expr} {rest : List Stmt} {ρ : List Slot} {F : γ → D} {p2 pos apos cpos : Pos} {n : Str}
variable {E : β → D} {ρx : Option (α → List Slot)} {ρl : τ → List Slot} {e : κ → Fl α τ β}
/-- xs.extend(ys) -/
theorem JS.extend (i : Nat) {xs : List γ} {w : m (List γ)} {k : List γ → m κ} (h : ρ[i]? = some (.l (xs.map F))) (ha : JE X true ex ρ (eL F) w) (hr : ∀ ys, JS X rest (ρ.set i (.l (ys.map F))) E ρx ρl e (k ys)) (hN : X.N[i]? = some n := by rfl) (hv : Vis X.env.scope n := by first | exact Or.inl rfl | exact Or.inr (Or.inl rfl) | exact Or.inr (Or.inr rfl)) (hd : (n == ("__debug__" : Str)) = false := by decide) (hcd : (n == ("__classdict__" : Str)) = false := by decide)
    (hbase : attributeBase (.Name n p2) "extend" X.env (eval (.Name n p2) X.env) = eval (.Name n p2) X.env := by rfl)
    (hfew : ((backTo cpos (starEach [ex] X.env)).all (fun x => !x.1) && (backToKw cpos (keywordEach [] X.env)).all (fun x => x.1.isSome) && decide ([ex].length + ([] : List Keyword).length + (if ([] : List Keyword).isEmpty then 0 else 1) < 30)) = true := by rfl)
    (hline : (apos.endLine == cpos.line) = true := by rfl) (hs : starEach [ex] X.env = (false, eval ex X.env) :: starEach [] X.env := by rfl) (hsw : swapsWith (.Call (.Attribute (.Name n p2) "extend" apos) [ex] [] cpos) none pos.line X.env = pure false := by rfl) :
    JS X (.Expr (.Call (.Attribute (.Name n p2) "extend" apos) [ex] [] cpos) pos :: rest) ρ E ρx ρl e (bd w fun y => bd (lf (catO xs y)) k) :=
  ⟨pss_weak (pss_cons (ps_expr (pe_bm PySem.F.plainAttrs_list PySem.F.slot_list_extend PySem.F.type_list_extend mt_extend (pv i hN hv hd hcd) (pa_cons ha.b.pe pa_nil hs) hbase hfew hline hs rfl) hsw) (pss_ex fun x => (hr x).ps)) fun Dd σ H ⟨sr, O, H0, ad, he, hw⟩ => (by
    obtain ⟨p, vs, e1, e2, e3, rs⟩ := own_at he h
    refine ⟨.ref p, e2, .inl ⟨rfl, vs, .inl (.inl e3)⟩, sr, O, H0, ad, he, (Mn.wp w).mono (fun y q v H1 x1 r => ?_) (bdk hw)⟩
    obtain ⟨ys, hy, q⟩ := Mn.lift_le _ _ (bdk q)
    have he1 := he.ext' x1
    obtain ⟨p', vs', e1', e2', e3', rs'⟩ := own_at he1 h
    have : p' = p := Option.some.inj (e1'.symm.trans e1)
    subst this
    obtain ⟨p3, ws, rfl, hq, _, rw3⟩ := r.seqL
    unfold catO at hy
    split at hy
    · rename_i hz
      cases hy
      refine ⟨p', p3, vs', ws, rfl, rfl, e3', hq, by rw [rs'.length, rw3.length, List.length_map, List.length_map]; exact hz, xs ++ y, sr, O, H0, ad, ?_, q⟩
      refine he1.write (vs := vs') h e1 ?_
      rw [List.map_append]
      exact rs'.append rw3
    · cases hy), fun z => nn_bd fun x => nn_bd fun y => (hr y).nn z⟩
end
section
variable {m : Type → Type} [Mn m] {X : Cx} {M : Bool} {ρ : List Slot} {a b : Expr} {p pos : Pos}
theorem str_eq {x y : Str} : decide (V.str x = V.str y) = decide (x = y) := by
  by_cases h : x = y
  · rw [h, decide_eq_true rfl, decide_eq_true rfl]
  · rw [decide_eq_false h, decide_eq_false (fun z => h (V.str.inj z))]
theorem str_ne {x y : Str} : (!decide (V.str x = V.str y)) = !decide (x = y) := by rw [str_eq]
theorem JE.eqS {wa wb : m Str} (ha : JE X false a ρ eS wa) (hb : JE X false b ρ eS wb) (hm : behindInMarks .Eq b = false := by exact nomark _) : JE X M (.Compare a [.Eq] [b] pos) ρ eB (bd wa fun x => bd wb fun y => rt (decide (x = y))) :=
  ⟨⟨pe_weak (pe_cmpR op_eq ha.b.pe hb.b.pe hm) fun σ H Q ⟨sr, O, H0, ad, he, hw⟩ => ⟨sr, O, H0, ad, he, by
      have hw := le2 (f := fun x y => rt (m := m) (decide (x = y))) (g := fun x y => Wp.pure (decide (x = y))) (fun _ _ => lep) _ hw
      refine (Mn.wp wa).mono (fun x q v H1 x1 r => ⟨sr, O, H0, ad, he.ext' x1, (Mn.wp wb).mono (fun y q2 v2 H2 x2 r2 => ?_) q⟩) hw
      cases r; cases r2
      exact ⟨rfl, by rw [str_eq]; exact q2 _ H2 (x1.trans x2) (.b _)⟩⟩⟩⟩
theorem JT.eqS {wa wb : m Str} (ha : JE X false a ρ eS wa) (hb : JE X false b ρ eS wb) (hm : behindInMarks .Eq b = false := by exact nomark _) : JT X (.Compare a [.Eq] [b] pos) ρ (bd wa fun x => bd wb fun y => rt (decide (x = y))) :=
  ⟨⟨pt_weak (pt_cmpR op_eq ha.b.pe hb.b.pe hm) fun σ H Q ⟨sr, O, H0, ad, he, hw⟩ => ⟨sr, O, H0, ad, he, by
      have hw := le2 (f := fun x y => rt (m := m) (decide (x = y))) (g := fun x y => Wp.pure (decide (x = y))) (fun _ _ => lep) _ hw
      refine (Mn.wp wa).mono (fun x q v H1 x1 r => ⟨sr, O, H0, ad, he.ext' x1, (Mn.wp wb).mono (fun y q2 v2 H2 x2 r2 => ?_) q⟩) hw
      cases r; cases r2
      exact ⟨rfl, _, rfl, by rw [str_eq]; exact q2 H2 (x1.trans x2)⟩⟩⟩⟩
theorem JE.neS {wa wb : m Str} (ha : JE X false a ρ eS wa) (hb : JE X false b ρ eS wb) (hm : behindInMarks .NotEq b = false := by exact nomark _) : JE X M (.Compare a [.NotEq] [b] pos) ρ eB (bd wa fun x => bd wb fun y => rt (!decide (x = y))) :=
  ⟨⟨pe_weak (pe_cmpR op_ne ha.b.pe hb.b.pe hm) fun σ H Q ⟨sr, O, H0, ad, he, hw⟩ => ⟨sr, O, H0, ad, he, by
      have hw := le2 (f := fun x y => rt (m := m) (!decide (x = y))) (g := fun x y => Wp.pure (!decide (x = y))) (fun _ _ => lep) _ hw
      refine (Mn.wp wa).mono (fun x q v H1 x1 r => ⟨sr, O, H0, ad, he.ext' x1, (Mn.wp wb).mono (fun y q2 v2 H2 x2 r2 => ?_) q⟩) hw
      cases r; cases r2
      exact ⟨rfl, by rw [str_ne]; exact q2 _ H2 (x1.trans x2) (.b _)⟩⟩⟩⟩
theorem JT.neS {wa wb : m Str} (ha : JE X false a ρ eS wa) (hb : JE X false b ρ eS wb) (hm : behindInMarks .NotEq b = false := by exact nomark _) : JT X (.Compare a [.NotEq] [b] pos) ρ (bd wa fun x => bd wb fun y => rt (!decide (x = y))) :=
  ⟨⟨pt_weak (pt_cmpR op_ne ha.b.pe hb.b.pe hm) fun σ H Q ⟨sr, O, H0, ad, he, hw⟩ => ⟨sr, O, H0, ad, he, by
      have hw := le2 (f := fun x y => rt (m := m) (!decide (x = y))) (g := fun x y => Wp.pure (!decide (x = y))) (fun _ _ => lep) _ hw
      refine (Mn.wp wa).mono (fun x q v H1 x1 r => ⟨sr, O, H0, ad, he.ext' x1, (Mn.wp wb).mono (fun y q2 v2 H2 x2 r2 => ?_) q⟩) hw
      cases r; cases r2
      exact ⟨rfl, _, rfl, by rw [str_ne]; exact q2 H2 (x1.trans x2)⟩⟩⟩⟩
end
end Wk

namespace Wk
open PySem PySem.Spec PyProof.Rows L2
/-! plain lemmas of the mirrors' words -/
section
variable {α β γ τ : Type}
theorem bd_some (x : α) (f : α → Option β) : bd (some x) f = f x := rfl
theorem bd_none (f : α → Option β) : bd (none : Option α) f = none := rfl
theorem bd_rtO (x : α) (f : α → Option β) : bd (rt x) f = f x := rfl
theorem bd_lfO (x : α) (f : α → Option β) : bd (lf (some x)) f = f x := rfl
theorem bdE {a : Option α} {x : α} {f : α → Option β} (h : a = some x) : bd a f = f x := by rw [h]; rfl
theorem bdL {a : Option α} {x : α} {f : α → Option β} (h : a = some x) : bd (lf a) f = f x := by rw [h]; rfl
theorem bdLG {a : Option α} {x : α} {f : α → G β} (h : a = some x) : bd (lf a) f = f x := by rw [h]; rfl
theorem lf_someO (x : α) : lf (m := Option) (some x) = some x := rfl
theorem bd_rtG (x : α) (f : α → G β) : bd (rt x) f = f x := rfl
theorem bd_lfG (x : α) (f : α → G β) : bd (lf (some x)) f = f x := rfl
theorem lf_someG (x : α) : lf (m := G) (some x) = rt x := rfl
theorem ifM_true {m : Type → Type} [Mn m] (u v : m α) : ifM true u v = u := rfl
theorem ifM_false {m : Type → Type} [Mn m] (u v : m α) : ifM false u v = v := rfl
theorem bd_assocO (a : Option α) (f : α → Option β) (g : β → Option γ) : bd (bd a f) g = bd a fun x => bd (f x) g := by cases a <;> rfl
theorem bind_assocG (f : α → G β) (g : β → G γ) : ∀ a : G α, (a.bind f).bind g = a.bind fun x => (f x).bind g
  | .ret x => rfl
  | .fail => rfl
  | .draw n k => by
    show G.draw n _ = G.draw n _
    congr 1
    funext r
    exact bind_assocG f g (k r)
theorem bd_assocG (a : G α) (f : α → G β) (g : β → G γ) : bd (bd a f) g = bd a fun x => bd (f x) g := bind_assocG f g a
/-! lists -/
theorem mapM_some {f : α → Option β} {g : α → β} : ∀ {xs : List α}, (∀ x ∈ xs, f x = some (g x)) → mapM' f xs = some (xs.map g)
  | [], _ => rfl
  | x :: xs, h => by
    show (f x).bind _ = _
    rw [h x List.mem_cons_self]
    show (mapM' f xs).bind _ = _
    rw [mapM_some fun y hy => h y (List.mem_cons_of_mem _ hy)]
    rfl
theorem lcM_some {c : α → Option Bool} {c' : α → Bool} {f : α → Option β} {g : α → β} : ∀ {xs : List α}, (∀ x ∈ xs, c x = some (c' x)) → (∀ x ∈ xs, c' x = true → f x = some (g x)) → lcM c f xs = some ((xs.filter c').map g)
  | [], _, _ => rfl
  | x :: xs, h, h2 => by
    have ih := lcM_some (fun y hy => h y (List.mem_cons_of_mem _ hy)) (fun y hy => h2 y (List.mem_cons_of_mem _ hy))
    show (c x).bind _ = _
    rw [h x List.mem_cons_self]
    show ifM (c' x) _ _ = _
    cases hc : c' x with
    | false =>
      rw [List.filter_cons, if_neg (by rw [hc]; decide)]
      exact ih
    | true =>
      rw [List.filter_cons, if_pos hc]
      show (f x).bind _ = _
      rw [h2 x List.mem_cons_self hc]
      show (lcM c f xs).bind _ = _
      rw [ih]
      rfl
theorem szO_some {xs : List α} (h : xs.length ≤ 16777216) : szO xs = some xs := if_pos h
theorem sz4_some {xs : List α} (h : xs.length ≤ 4000) : sz4 xs = some xs := if_pos h
theorem flat2_some {g : α → Option (List β)} {g' : α → List β} {f : α → β → Option γ} {f' : α → β → γ} : ∀ {xs : List α}, (∀ x ∈ xs, g x = some (g' x) ∧ (g' x).length ≤ 4000 ∧ ∀ y ∈ g' x, f x y = some (f' x y)) → flat2 g f xs = some (xs.flatMap fun x => (g' x).map (f' x))
  | [], _ => rfl
  | x :: xs, h => by
    obtain ⟨h1, h2, h3⟩ := h x List.mem_cons_self
    show (g x).bind _ = _
    rw [h1]
    show (sz4 (g' x)).bind _ = _
    rw [sz4_some h2]
    show (mapM' (f x) (g' x)).bind _ = _
    rw [mapM_some h3]
    show (flat2 g f xs).bind _ = _
    rw [flat2_some fun y hy => h y (List.mem_cons_of_mem _ hy)]
    rfl
theorem appO_some {xs : List α} {y : α} (h : xs.length < 16777216) : appO xs y = some (xs ++ [y]) := if_pos h
theorem catO_some {xs ys : List α} (h : xs.length + ys.length ≤ 16777216) : catO xs ys = some (xs ++ ys) := if_pos h
theorem fold_cons (f : α → τ → Option τ) (x : α) (xs : List α) (t : τ) : foldM' f (x :: xs) t = (f x t).bind fun t' => foldM' f xs t' := rfl
theorem fold_nil (f : α → τ → Option τ) (t : τ) : foldM' f [] t = some t := rfl
/-- a loop told by plain steps -/
theorem fold_some {f : α → τ → Option τ} {g : α → τ → τ} : ∀ {xs : List α} {t : τ}, (∀ x ∈ xs, ∀ t, f x t = some (g x t)) → foldM' f xs t = some (xs.foldl (fun t x => g x t) t)
  | [], _, _ => rfl
  | x :: xs, t, h => by
    rw [fold_cons, h x List.mem_cons_self t]
    exact fold_some fun y hy => h y (List.mem_cons_of_mem _ hy)
/-- .. with an invariant -/
theorem fold_inv {f : α → τ → Option τ} {g : α → τ → τ} (I : τ → Prop) : ∀ {xs : List α} {t : τ}, I t → (∀ x ∈ xs, ∀ t, I t → f x t = some (g x t) ∧ I (g x t)) → foldM' f xs t = some (xs.foldl (fun t x => g x t) t) ∧ I (xs.foldl (fun t x => g x t) t)
  | [], _, hI, _ => ⟨rfl, hI⟩
  | x :: xs, t, hI, h => by
    obtain ⟨h1, h2⟩ := h x List.mem_cons_self t hI
    rw [fold_cons, h1]
    exact fold_inv I h2 fun y hy => h y (List.mem_cons_of_mem _ hy)
/-- .. that reaches what is told by the turns -/
theorem fold_to {f : α → τ → Option τ} (R : List α → τ → Prop) : ∀ {xs pre : List α} {t : τ}, R pre t → (∀ pre x t, R pre t → (∃ post, xs = post ∨ True) → (∃ suf, pre ++ x :: suf = pre ++ x :: suf) → ∃ t', f x t = some t' ∧ R (pre ++ [x]) t') → ∃ t', foldM' f xs t = some t' ∧ R (pre ++ xs) t'
  | [], pre, t, h, _ => ⟨t, rfl, by rw [List.append_nil]; exact h⟩
  | x :: xs, pre, t, h, k => by
    obtain ⟨t', h1, h2⟩ := k pre x t h ⟨[], .inr trivial⟩ ⟨[], rfl⟩
    obtain ⟨t'', h3, h4⟩ := fold_to (xs := xs) (pre := pre ++ [x]) R h2 fun p y t hp _ _ => k p y t hp ⟨[], .inr trivial⟩ ⟨[], rfl⟩
    exact ⟨t'', by rw [fold_cons, h1]; exact h3, by rw [List.append_assoc] at h4; exact h4⟩
end
/-! numbers -/
def natL (xs : List Nat) : List Int := xs.map Int.ofNat
theorem bdd_nat {n : Nat} (h : n < 4611686018427387904) : bdd (n : Int) = true := by
  unfold bdd
  rw [decide_eq_true (by omega), decide_eq_true (by omega)]; rfl
theorem upFrom_map : ∀ (n a : Nat), upFrom (a : Int) 1 n = (List.range' a n).map Int.ofNat
  | 0, a => rfl
  | n + 1, a => by
    have : ((a : Int) + 1) = ((a + 1 : Nat) : Int) := by omega
    show (a : Int) :: upFrom ((a : Int) + 1) 1 n = _
    rw [this, upFrom_map n (a + 1), List.range'_succ]
    rfl
theorem range1_nat {n : Nat} (h : n < 4611686018427387904) : range1O (n : Int) = some ((List.range n).map Int.ofNat) := by
  unfold range1O
  rw [if_pos (bdd_nat h), List.range_eq_range', ← upFrom_map n 0]
  rfl
theorem range_nat {a b : Nat} (ha : a < 4611686018427387904) (hb : b < 4611686018427387904) : rangeO (a : Int) (b : Int) = some ((List.range' a (b - a)).map Int.ofNat) := by
  unfold rangeO
  rw [if_pos (by rw [bdd_nat ha, bdd_nat hb]; rfl), ← upFrom_map]
  congr 2
  omega
theorem divO_nat {a b : Nat} (h : 0 < b) (h2 : b < 1073741824) : divO (a : Int) (b : Int) = some ((a / b : Nat) : Int) := by
  unfold divO
  rw [if_pos (by omega)]; rfl
theorem modO_nat {a b : Nat} (h : 0 < b) : modO (a : Int) (b : Int) = some ((a % b : Nat) : Int) := by
  unfold modO
  rw [if_pos (by omega)]; rfl
theorem mulO_nat {a b : Nat} (h : a < 2 ^ 64 ∨ b < 2 ^ 64) : mulO (a : Int) (b : Int) = some ((a * b : Nat) : Int) := by
  unfold mulO
  rw [if_pos (by omega), Int.natCast_mul]
theorem ixN_of {n i : Nat} (h : i < n) : ixN n (i : Int) = some i := by
  unfold ixN
  rw [if_pos (by omega), if_pos (by omega)]
  congr 1
theorem ixN_neg {n i : Nat} (h0 : 0 < i) (h : i ≤ n) : ixN n (-(i : Int)) = some (n - i) := by
  unfold ixN
  rw [if_neg (by omega), if_pos (by omega)]
  congr 1
  omega
section
variable {α : Type}
theorem ixO_nat {xs : List α} {j : Nat} {v : α} (h : xs[j]? = some v) : ixO xs (j : Int) = some v := atI_nat h
theorem ixO_neg {xs : List α} {j : Nat} {v : α} (h0 : 0 < j) (h1 : j ≤ xs.length) (h : xs[xs.length - j]? = some v) : ixO xs (-(j : Int)) = some v := by
  unfold ixO L2.atI
  rw [ixN_neg h0 h1]
  exact h
theorem setO_nat {xs : List α} {j : Nat} {y : α} (h : j < xs.length) : setO xs (j : Int) y = some (xs.set j y) := by
  unfold setO
  rw [ixN_of h]
  rfl
theorem sIx_nat (n m : Nat) (d : Nat) : HT.sIx n d (some (m : Int)) = min m n := HT.sIx_nat n d m
theorem cutL_nat (xs : List α) (i j : Nat) : cutL xs (some (i : Int)) (some (j : Int)) = (xs.drop (min i xs.length)).take (min j xs.length - min i xs.length) := by
  unfold cutL
  rw [HT.sIx_nat, HT.sIx_nat]
theorem cutL_to (xs : List α) (j : Nat) : cutL xs none (some (j : Int)) = xs.take j := by
  unfold cutL
  rw [HT.sIx_nat, HT.sIx_none, List.drop_zero, Nat.sub_zero]
  by_cases h : j ≤ xs.length
  · rw [Nat.min_eq_left h]
  · rw [Nat.min_eq_right (by omega), List.take_of_length_le (Nat.le_refl _), List.take_of_length_le (by omega)]
theorem cutL_from (xs : List α) (i : Nat) : cutL xs (some (i : Int)) none = xs.drop i := by
  unfold cutL
  rw [HT.sIx_nat, HT.sIx_none]
  by_cases h : i ≤ xs.length
  · rw [Nat.min_eq_left h, List.take_of_length_le (by rw [List.length_drop]; exact Nat.le_refl _)]
  · rw [Nat.min_eq_right (by omega), List.drop_of_length_le (Nat.le_refl _), List.drop_of_length_le (by omega), List.take_nil]
end
/-! digits, the number of digits -/
def digN (p : Nat) : Nat → Nat → List Nat
  | 0, _ => []
  | c + 1, n => n % p :: digN p c (n / p)
def numN (p : Nat) : List Nat → Nat
  | [] => 0
  | d :: ds => d + p * numN p ds
theorem digN_len (p : Nat) : ∀ c n, (digN p c n).length = c
  | 0, _ => rfl
  | c + 1, n => by rw [digN, List.length_cons, digN_len p c]
theorem digN_lt {p : Nat} (hp : 0 < p) : ∀ c n, ∀ d ∈ digN p c n, d < p
  | 0, _, d, h => by cases h
  | c + 1, n, d, h => by
    rcases List.mem_cons.mp h with e | h
    · rw [e]; exact Nat.mod_lt _ hp
    · exact digN_lt hp c _ d h
theorem numN_digN {p : Nat} : ∀ c n, n < p ^ c → numN p (digN p c n) = n
  | 0, n, h => by simp at h; subst h; rfl
  | c + 1, n, h => by
    have hp : 0 < p := by
      rcases Nat.eq_zero_or_pos p with e | e
      · subst e; simp at h
      · exact e
    rw [digN, numN, numN_digN c (n / p) (by rw [Nat.div_lt_iff_lt_mul hp]; rw [Nat.pow_succ] at h; exact h)]
    exact Nat.mod_add_div n p
theorem numN_lt {p : Nat} : ∀ ds : List Nat, (∀ d ∈ ds, d < p) → numN p ds < p ^ ds.length
  | [], _ => by simp [numN]
  | d :: ds, h => by
    have h1 := h d List.mem_cons_self
    have h2 := numN_lt ds fun x hx => h x (List.mem_cons_of_mem _ hx)
    rw [numN, List.length_cons, Nat.pow_succ]
    have : p * (numN p ds + 1) ≤ p * p ^ ds.length := Nat.mul_le_mul_left p h2
    rw [Nat.mul_add] at this
    rw [Nat.mul_comm (p ^ ds.length) p]
    omega
end Wk

namespace Wk
open PySem PySem.Spec PyProof.Rows L2
def topS (i : Nat) : Stmt := PySem.Challenge.pw_codewhole_k84_whole_tests_more_and_fewer.main.body.getD i (.Pass ⟨0, 0, 0, 0⟩)

structure TestsR where
  count : Int
  tests : (List (List Int))
deriving DecidableEq
def fl_Tests (x : TestsR) : List D := [eI x.count, (eT (eT eI)) x.tests]
def e_Tests : TestsR → D := fun x => .o "Tests" ["count", "tests"] (fl_Tests x)
inductive Cl_tell where
  | k_alike (a0 : Int) (a1 : (List Int)) (a2 : (List Int))
  | k_tells (a0 : Int)
deriving DecidableEq
def e_Cl_tell : Cl_tell → D
  | .k_alike a0 a1 a2 => .t [.s "alike", eI a0, (eT eI) a1, (eT eI) a2]
  | .k_tells a0 => .t [.s "tells", eI a0]
def Cl_tell.word : Cl_tell → Str
  | .k_alike a0 a1 a2 => "alike"
  | .k_tells a0 => "tells"
def Cl_tell.at1 : Cl_tell → Option Int
  | .k_alike a0 a1 a2 => some a0
  | .k_tells a0 => some a0
def Cl_tell.at2 : Cl_tell → Option (List Int)
  | .k_alike a0 a1 a2 => some a1
  | .k_tells a0 => none
def Cl_tell.at3 : Cl_tell → Option (List Int)
  | .k_alike a0 a1 a2 => some a2
  | .k_tells a0 => none
theorem nl_Cl_tell : NL e_Cl_tell := fun x => by cases x <;> trivial
theorem pure_Cl_tell : PureE e_Cl_tell := fun x => match x with
  | .k_alike a0 a1 a2 => .t (List.forall_mem_cons.mpr ⟨.s _, (List.forall_mem_cons.mpr ⟨(pure_I) _, (List.forall_mem_cons.mpr ⟨((pure_T pure_I)) _, (List.forall_mem_cons.mpr ⟨((pure_T pure_I)) _, (fun _ h => nomatch h)⟩)⟩)⟩)⟩)
  | .k_tells a0 => .t (List.forall_mem_cons.mpr ⟨.s _, (List.forall_mem_cons.mpr ⟨(pure_I) _, (fun _ h => nomatch h)⟩)⟩)
inductive Cl_clear where
  | k_covered (a0 : Int) (a1 : Int) (a2 : (List Int))
  | k_clears (a0 : Int)
deriving DecidableEq
def e_Cl_clear : Cl_clear → D
  | .k_covered a0 a1 a2 => .t [.s "covered", eI a0, eI a1, (eT eI) a2]
  | .k_clears a0 => .t [.s "clears", eI a0]
def Cl_clear.word : Cl_clear → Str
  | .k_covered a0 a1 a2 => "covered"
  | .k_clears a0 => "clears"
def Cl_clear.at1 : Cl_clear → Option Int
  | .k_covered a0 a1 a2 => some a0
  | .k_clears a0 => some a0
def Cl_clear.at2 : Cl_clear → Option Int
  | .k_covered a0 a1 a2 => some a1
  | .k_clears a0 => none
def Cl_clear.at3 : Cl_clear → Option (List Int)
  | .k_covered a0 a1 a2 => some a2
  | .k_clears a0 => none
theorem nl_Cl_clear : NL e_Cl_clear := fun x => by cases x <;> trivial
theorem pure_Cl_clear : PureE e_Cl_clear := fun x => match x with
  | .k_covered a0 a1 a2 => .t (List.forall_mem_cons.mpr ⟨.s _, (List.forall_mem_cons.mpr ⟨(pure_I) _, (List.forall_mem_cons.mpr ⟨(pure_I) _, (List.forall_mem_cons.mpr ⟨((pure_T pure_I)) _, (fun _ h => nomatch h)⟩)⟩)⟩)⟩)
  | .k_clears a0 => .t (List.forall_mem_cons.mpr ⟨.s _, (List.forall_mem_cons.mpr ⟨(pure_I) _, (fun _ h => nomatch h)⟩)⟩)
structure Txt (K : PySem.W.Frag) (mg : Str → Option Value) : Prop where
  m_all : mg "all" = none
  m_any : mg "any" = none
  m_enumerate : mg "enumerate" = none
  m_int : mg "int" = none
  m_len : mg "len" = none
  m_list : mg "list" = none
  m_max : mg "max" = none
  m_min : mg "min" = none
  m_range : mg "range" = none
  m_set : mg "set" = none
  m_sorted : mg "sorted" = none
  m_tuple : mg "tuple" = none
  m_zip : mg "zip" = none
  g_MOST_TESTS : ∃ t, mg "MOST_TESTS" = some (.int 40 t)
  g_MOST_THINGS : ∃ t, mg "MOST_THINGS" = some (.int 24 t)
  n_Tests_count : ∀ C, mg "Tests" = some (.ref C) → Cls K C ∧ NoAttr K C "count"
  n_Tests_tests : ∀ C, mg "Tests" = some (.ref C) → Cls K C ∧ NoAttr K C "tests"
  f_subsets : ∃ f fd, mg "subsets" = some (.ref f) ∧ Fun K "subsets" "subsets" (topS 5) f fd ∧ Binds K fd ["things", "size"] []
  f_mk_Tests : ∃ C f fd, mg "Tests" = some (.ref C) ∧ Cls K C ∧ Mk K C f ∧ Fun K "__init__" "Tests.__init__" (inClass (topS 9) 0) f fd ∧ Binds K fd ["self", "count", "tests"] []
  f_Tests_answers : ∃ C f fd, mg "Tests" = some (.ref C) ∧ Cls K C ∧ Meth K C "answers" f ∧ Fun K "answers" "Tests.answers" (inClass (topS 9) 2) f fd ∧ Binds K fd ["self", "bad"] []
  f_Tests_of : ∃ C f fd, mg "Tests" = some (.ref C) ∧ Cls K C ∧ Meth K C "of" f ∧ Fun K "of" "Tests.of" (inClass (topS 9) 3) f fd ∧ Binds K fd ["self", "thing"] []
  f_telling : ∃ f fd, mg "telling" = some (.ref f) ∧ Fun K "telling" "telling" (topS 10) f fd ∧ Binds K fd ["tests", "most"] []
  f_clearing : ∃ f fd, mg "clearing" = some (.ref f) ∧ Fun K "clearing" "clearing" (topS 11) f fd ∧ Binds K fd ["tests", "most"] []
  f_is_covered : ∃ f fd, mg "_is_covered" = some (.ref f) ∧ Fun K "_is_covered" "_is_covered" (topS 12) f fd ∧ Binds K fd ["tests", "thing", "bad"] []
  f_suspects : ∃ f fd, mg "suspects" = some (.ref f) ∧ Fun K "suspects" "suspects" (topS 13) f fd ∧ Binds K fd ["tests", "answers"] []
  f_explained : ∃ f fd, mg "explained" = some (.ref f) ∧ Fun K "explained" "explained" (topS 14) f fd ∧ Binds K fd ["tests", "answers", "most"] []
  f_law_cell : ∃ f fd, mg "_law_cell" = some (.ref f) ∧ Fun K "_law_cell" "_law_cell" (topS 16) f fd ∧ Binds K fd ["script", "k"] []
  f_law_source : ∃ f fd, mg "_law_source" = some (.ref f) ∧ Fun K "_law_source" "_law_source" (topS 17) f fd ∧ Binds K fd ["cell", "k"] []
  f_law_pick : ∃ f fd, mg "_law_pick" = some (.ref f) ∧ Fun K "_law_pick" "_law_pick" (topS 18) f fd ∧ Binds K fd ["source", "many"] []
  f_law_mixed : ∃ f fd, mg "_law_mixed" = some (.ref f) ∧ Fun K "_law_mixed" "_law_mixed" (topS 19) f fd ∧ Binds K fd ["source", "things"] []
  f_law_drawn : ∃ f fd, mg "_law_drawn" = some (.ref f) ∧ Fun K "_law_drawn" "_law_drawn" (topS 20) f fd ∧ Binds K fd ["source", "count"] []
  f_law_right : ∃ f fd, mg "_law_right" = some (.ref f) ∧ Fun K "_law_right" "_law_right" (topS 21) f fd ∧ Binds K fd ["source"] []
abbrev s_Tests_answers : Stmt := inClass (topS 9) 2
theorem sc_Tests_answers : FnScope ["self", "bad", "thing", "test"] ["self", "bad"] (defScope s_Tests_answers) := ⟨rfl, rfl, rfl, by decide +kernel, rfl, by decide +kernel, by decide +kernel⟩
def M.Tests_answers (p_self : TestsR) (p_bad : (List Int)) : Option (List Int) :=
 bd (bd (bd (lf (szO p_self.tests)) fun xs33 =>
 mapM' (fun (test28 : (List Int)) => bd (bd (bd (lf (szO test28)) fun xs30 =>
 rt (xs30.map fun (thing29 : Int) => (p_bad.contains thing29))) fun x31 =>
 rt (x31.any id)) fun x32 =>
 rt (if x32 then 1 else 0)) xs33) fun x34 =>
 rt x34) fun x35 =>
 rt x35
def F_Tests_answers : List D → (D → Prop) → Prop := fun ds P => ∃ (k1 : Kd) (x0 : TestsR) (x1 : (List Int)) (r : (List Int)), ds = [e_Tests x0, (eQ k1 eI) x1] ∧ M.Tests_answers x0 x1 = some r ∧ P ((eT eI) r)
theorem t_Tests_answers {P : Program} {w : World} {K : PySem.W.Frag} {mg : Str → Option Value} {base : Heap} {f : Addr} {cdv : Value} {A : Around} {outer : List PySem.Env} {s : Shared} {H : Hp} {E : XK} (T : Txt K mg) (hr : Room 0 (Cxf P w K mg base ["self", "bad", "thing", "test"] "Tests.answers" s_Tests_answers f cdv A outer s H E).A) {k1 : Kd} (p_self : TestsR) (p_bad : (List Int)) : Tail (Cxf P w K mg base ["self", "bad", "thing", "test"] "Tests.answers" s_Tests_answers f cdv A outer s H E) (defBody s_Tests_answers) [.d (e_Tests p_self), .d ((eQ k1 eI) p_bad), .u, .u] (eT eI) (M.Tests_answers p_self p_bad) := by
 unfold M.Tests_answers
 exact (JS.ret (c := id) (fun _ => rfl) nl_T (JE.cl (JE.tupleL (E := eI) (by rfl) T.m_tuple (JL.je (JL.lc0 (M0 := false) (own := [("test", 3)]) (up := fun ρ x => ρ.set 3 (.d ((eT eI) x))) (E := (eT eI)) (F := eI) (f := fun (test28 : (List Int)) => bd (bd (bd (lf (szO test28)) fun xs30 =>
 rt (xs30.map fun (thing29 : Int) => (p_bad.contains thing29))) fun x31 =>
 rt (x31.any id)) fun x32 =>
 rt (if x32 then 1 else 0)) rfl sc_Tests_answers.nd (JI.tup (E := (eT eI)) (JE.fld (E := e_Tests) (F := (eT (eT eI))) (fun x => x.tests) 1 (by decide +kernel) (fun _ => ⟨_, rfl, rfl⟩) T.n_Tests_tests (JE.var (E := e_Tests) 0 rfl))) (by first | exact blkOk_by (own := [("test", 3)]) (by show blkC ["self", "bad", "thing", "test"] (defScope s_Tests_answers) _ _ = true; decide +kernel) | exact blkOk_in (sc0 := defScope s_Tests_answers) (own := [("test", 3)]) rfl (by show blkC ["self", "bad", "thing", "test"] _ _ _ = true; decide +kernel)) (by decide) rfl (fun s H C cl fp => (JG.name 3 sc_Tests_answers.nd rfl (by first | exact Or.inl rfl | exact Or.inr rfl) (by first | exact Or.inl rfl | exact Or.inr rfl))) (fun s H C cl fp test28 => JE.cl (JE.intB (by rfl) T.m_int (JE.any rfl (by rfl) T.m_any (JL.je (JL.mapP (g := fun (thing29 : Int) => (p_bad.contains thing29)) (JL.lc0 (M0 := false) (own := [("thing", 2)]) (up := fun ρ x => ρ.set 2 (.d (eI x))) (E := eI) (F := eB) (f := fun (thing29 : Int) => rt (p_bad.contains thing29)) rfl sc_Tests_answers.nd (JI.tup (E := eI) (JE.var (E := (eT eI)) 3 rfl)) (by first | exact blkOk_by (own := [("thing", 2)]) (by show blkC ["self", "bad", "thing", "test"] (defScope s_Tests_answers) _ _ = true; decide +kernel) | exact blkOk_in (sc0 := defScope s_Tests_answers) (own := [("thing", 2)]) rfl (by show blkC ["self", "bad", "thing", "test"] _ _ _ = true; decide +kernel)) (by decide) rfl (fun s H C cl fp => (JG.name 2 sc_Tests_answers.nd rfl (by first | exact Or.inl rfl | exact Or.inr rfl) (by first | exact Or.inl rfl | exact Or.inr rfl))) (fun s H C cl fp thing29 => JE.cl (JE.inI (k := k1) (JE.var (E := eI) 2 rfl) (JE.var (E := (eQ k1 eI)) 1 rfl)) (by first | with_reducible rfl | (simp only [rtbO, rtbG]; done) | (simp only [rtbO, rtbG]; congr; done) | rfl))))))) (by first | with_reducible rfl | (simp only [rtbO, rtbG]; done) | (simp only [rtbO, rtbG]; congr; done) | rfl))))) (by first | with_reducible rfl | (simp only [rtbO, rtbG]; done) | (simp only [rtbO, rtbG]; congr; done) | rfl)))
theorem ok_Tests_answers {P : Program} {w : World} {K : PySem.W.Frag} {mg : Str → Option Value} {base : Heap} (T : Txt K mg) {f : Addr} {fd : FuncData} (Fu : Fun K "answers" "Tests.answers" s_Tests_answers f fd) : FnOk P w K mg base CX0 1 f fd ["self", "bad"] (spF K mg F_Tests_answers) :=
 fn_ok Fu sc_Tests_answers F_Tests_answers (fun ds Q h => by obtain ⟨k1, x0, x1, r, rfl, hm, hq⟩ := h; rfl) (by decide) fun cdv A outer s H E hr ds Q hF => by
  obtain ⟨k1, x0, x1, r, rfl, hm, hq⟩ := hF
  exact ⟨_, _, _, t_Tests_answers T hr x0 x1, r, hm, hq⟩
theorem c_Tests_answers {X : Cx} (T : Txt X.K X.mg) (hr : Room 1 X.A) : MethOk X "Tests" "answers" F_Tests_answers := by
 obtain ⟨C, f, fd, hm, hc, hM, Fu, hb⟩ := T.f_Tests_answers
 exact ⟨1, C, f, fd, _, ok_Tests_answers T Fu, hr, hm, hc, hM, hb⟩
abbrev s_Tests_of : Stmt := inClass (topS 9) 3
theorem sc_Tests_of : FnScope ["self", "thing", "at", "test"] ["self", "thing"] (defScope s_Tests_of) := ⟨rfl, rfl, rfl, by decide +kernel, rfl, by decide +kernel, by decide +kernel⟩
def M.Tests_of (p_self : TestsR) (p_thing : Int) : Option (List Int) :=
 bd (bd (lf (szO (enumL 0 p_self.tests))) fun xs37 =>
 rt ((xs37.filter fun (at36 : (Int × (List Int))) => (at36.2.contains p_thing)).map fun (at36 : (Int × (List Int))) => at36.1)) fun x38 =>
 rt x38
def F_Tests_of : List D → (D → Prop) → Prop := fun ds P => ∃ (x0 : TestsR) (x1 : Int) (r : (List Int)), ds = [e_Tests x0, eI x1] ∧ M.Tests_of x0 x1 = some r ∧ P ((eL eI) r)
theorem t_Tests_of {P : Program} {w : World} {K : PySem.W.Frag} {mg : Str → Option Value} {base : Heap} {f : Addr} {cdv : Value} {A : Around} {outer : List PySem.Env} {s : Shared} {H : Hp} {E : XK} (T : Txt K mg) (hr : Room 0 (Cxf P w K mg base ["self", "thing", "at", "test"] "Tests.of" s_Tests_of f cdv A outer s H E).A) (p_self : TestsR) (p_thing : Int) : Tail (Cxf P w K mg base ["self", "thing", "at", "test"] "Tests.of" s_Tests_of f cdv A outer s H E) (defBody s_Tests_of) [.d (e_Tests p_self), .d (eI p_thing), .u, .u] (eL eI) (M.Tests_of p_self p_thing) := by
 unfold M.Tests_of
 exact (JS.retL (c := id) (fun _ => rfl) (JL.cl (JL.filP (c := fun (at36 : (Int × (List Int))) => (at36.2.contains p_thing)) (g := fun (at36 : (Int × (List Int))) => at36.1) (JL.lc (M0 := false) (own := [("at", 2), ("test", 3)]) (up := fun ρ x => (ρ.set 2 (.d (eI x.1))).set 3 (.d ((eT eI) x.2))) (E := (eP eI (eT eI))) (F := eI) (cM := fun (at36 : (Int × (List Int))) => rt (at36.2.contains p_thing)) (f := fun (at36 : (Int × (List Int))) => rt at36.1) rfl sc_Tests_of.nd (JI.enumT (E := (eT eI)) (by rfl) T.m_enumerate (JE.fld (E := e_Tests) (F := (eT (eT eI))) (fun x => x.tests) 1 (by decide +kernel) (fun _ => ⟨_, rfl, rfl⟩) T.n_Tests_tests (JE.var (E := e_Tests) 0 rfl))) (by first | exact blkOk_by (own := [("at", 2), ("test", 3)]) (by show blkC ["self", "thing", "at", "test"] (defScope s_Tests_of) _ _ = true; decide +kernel) | exact blkOk_in (sc0 := defScope s_Tests_of) (own := [("at", 2), ("test", 3)]) rfl (by show blkC ["self", "thing", "at", "test"] _ _ _ = true; decide +kernel)) (by decide) rfl (fun s H C cl fp => (JG.pair 2 3 rfl sc_Tests_of.nd rfl (by first | exact Or.inl rfl | exact Or.inr rfl) (by first | exact Or.inl rfl | exact Or.inr rfl) rfl (by first | exact Or.inl rfl | exact Or.inr rfl) (by first | exact Or.inl rfl | exact Or.inr rfl))) (fun s H C cl fp at36 => JTs.one (JT.cl (JT.inI (k := .t) (JE.var (E := eI) 1 rfl) (JE.var (E := (eT eI)) 3 rfl)) (by first | with_reducible rfl | (simp only [rtbO, rtbG]; done) | (simp only [rtbO, rtbG]; congr; done) | rfl))) (fun s H C cl fp at36 => JE.cl (JE.var (E := eI) 2 rfl) (by first | with_reducible rfl | (simp only [rtbO, rtbG]; done) | (simp only [rtbO, rtbG]; congr; done) | rfl)))) (by first | with_reducible rfl | (simp only [rtbO, rtbG]; done) | (simp only [rtbO, rtbG]; congr; done) | rfl)))
theorem ok_Tests_of {P : Program} {w : World} {K : PySem.W.Frag} {mg : Str → Option Value} {base : Heap} (T : Txt K mg) {f : Addr} {fd : FuncData} (Fu : Fun K "of" "Tests.of" s_Tests_of f fd) : FnOk P w K mg base CX0 1 f fd ["self", "thing"] (spF K mg F_Tests_of) :=
 fn_ok Fu sc_Tests_of F_Tests_of (fun ds Q h => by obtain ⟨x0, x1, r, rfl, hm, hq⟩ := h; rfl) (by decide) fun cdv A outer s H E hr ds Q hF => by
  obtain ⟨x0, x1, r, rfl, hm, hq⟩ := hF
  exact ⟨_, _, _, t_Tests_of T hr x0 x1, r, hm, hq⟩
theorem c_Tests_of {X : Cx} (T : Txt X.K X.mg) (hr : Room 1 X.A) : MethOk X "Tests" "of" F_Tests_of := by
 obtain ⟨C, f, fd, hm, hc, hM, Fu, hb⟩ := T.f_Tests_of
 exact ⟨1, C, f, fd, _, ok_Tests_of T Fu, hr, hm, hc, hM, hb⟩
/-! ### the script's cells -/
abbrev s_law_cell : Stmt := topS 16
theorem sc_law_cell : FnScope ["script", "k"] ["script", "k"] (defScope s_law_cell) := ⟨rfl, rfl, rfl, by decide +kernel, rfl, by decide +kernel, by decide +kernel⟩
def spCell (K : PySem.W.Frag) : Sp := fun vs H Q _ => ∃ (a : Addr) (ns : List Int) (k : Nat), vs = [.ref a, .int k] ∧ SqL K H a (ns.map V.int) ∧ ∀ z, Q (.int z) H
theorem ok_law_cell {P : Program} {w : World} {K : PySem.W.Frag} {mg : Str → Option Value} {base : Heap} (T : Txt K mg) {f : Addr} {fd : FuncData} (Fu : Fun K "_law_cell" "_law_cell" s_law_cell f fd) : FnOk P w K mg base CX0 1 f fd ["script", "k"] (spCell K) := by
  refine Fu.ok sc_law_cell (fun vs H Q E hs => ?_) (fun cdv A outer s H vs Q E hr hs => ?_)
  · obtain ⟨a, ns, k, rfl, _⟩ := hs
    rfl
  · obtain ⟨a, ns, k, rfl, hS, q⟩ := hs
    refine ⟨_, pss_cons (ps_if (pt_cmpR op_lt (pv 1) (pe_callB call_len_seq (by rfl) T.m_len PySem.boot_len (pa_cons (pv 0) pa_nil (by rfl)) (by decide) (by decide) (by rfl) (by rfl)) (nomark _)) (pss_one (ps_ret (pe_ix ix_seq (pv 0) (pv 1) (fun _ _ => rfl)))) pss_nil) (pss_one (ps_ret pe_int)), ?_⟩
    refine ⟨_, rfl, .ref a, rfl, a, ns.map V.int, rfl, .inl hS, k, _, rfl, rfl, _, rfl, ite2 (fun hc => ?_) (fun hc => ?_)⟩
    · have hk : k < ns.length := by
        have := of_decide_eq_true hc
        rw [List.length_map] at this
        omega
      exact ⟨.ref a, rfl, .int k, rfl, .inl ⟨a, _, k, .int ns[k], rfl, rfl, hS, atI_nat (by rw [List.getElem?_map, List.getElem?_eq_getElem hk]; rfl), q _⟩⟩
    · exact q _
abbrev s_law_source : Stmt := topS 17
theorem sc_law_source : FnScope ["cell", "k"] ["cell", "k"] (defScope s_law_source) := ⟨rfl, rfl, rfl, by decide +kernel, rfl, by decide +kernel, by decide +kernel⟩
def M.law_source (p_cell : Int) (p_k : Int) : Option (List Int) :=
 bd (bd (lf (powO 10 18)) fun x97 =>
 rt (decide (x97 ≤ p_cell))) fun b101 => ifM b101 (bd (bd (bd (lf (powO 10 18)) fun x98 =>
 rt (p_cell - x98)) fun x99 =>
 rt [x99, (p_k + 1)]) fun x100 =>
 rt x100) (rt [0, ((((p_cell * 7919) + (p_k * 104729)) + 1) % 2147483647)])
def F_law_source : List D → (D → Prop) → Prop := fun ds P => ∃ (x0 : Int) (x1 : Int) (r : (List Int)), ds = [eI x0, eI x1] ∧ M.law_source x0 x1 = some r ∧ P ((eL eI) r)
theorem t_law_source {P : Program} {w : World} {K : PySem.W.Frag} {mg : Str → Option Value} {base : Heap} {f : Addr} {cdv : Value} {A : Around} {outer : List PySem.Env} {s : Shared} {H : Hp} {E : XK} (T : Txt K mg) (hr : Room 0 (Cxf P w K mg base ["cell", "k"] "_law_source" s_law_source f cdv A outer s H E).A) (p_cell : Int) (p_k : Int) : Tail (Cxf P w K mg base ["cell", "k"] "_law_source" s_law_source f cdv A outer s H E) (defBody s_law_source) [.d (eI p_cell), .d (eI p_k)] (eL eI) (M.law_source p_cell p_k) := by
 unfold M.law_source
 exact (JS.ifT (JT.cl (JT.ge (JE.var (E := eI) 0 rfl) (JE.pow JE.int JE.int)) (by first | with_reducible rfl | (simp only [rtbO, rtbG]; done) | (simp only [rtbO, rtbG]; congr; done) | rfl)) (JS.retL (c := id) (fun _ => rfl) (JL.cl (JL.lst (JH.cons (E := eI) (JE.sub (JE.var (E := eI) 0 rfl) (JE.pow JE.int JE.int)) (JH.cons (E := eI) (JE.add (JE.var (E := eI) 1 rfl) JE.int) (JH.nil (E := eI))))) (by first | with_reducible rfl | (simp only [rtbO, rtbG]; done) | (simp only [rtbO, rtbG]; congr; done) | rfl))) (JS.retLP (c := id) (fun _ => rfl) (JL.cl (JL.lst (JH.cons (E := eI) JE.int (JH.cons (E := eI) (JE.modR (by decide) (JE.intI (by rfl) T.m_int (JE.add (JE.add (JE.mulR (by decide) (JE.var (E := eI) 0 rfl)) (JE.mulR (by decide) (JE.var (E := eI) 1 rfl))) JE.int))) (JH.nil (E := eI))))) (by first | with_reducible rfl | (simp only [rtbO, rtbG]; done) | (simp only [rtbO, rtbG]; congr; done) | rfl))))
theorem ok_law_source {P : Program} {w : World} {K : PySem.W.Frag} {mg : Str → Option Value} {base : Heap} (T : Txt K mg) {f : Addr} {fd : FuncData} (Fu : Fun K "_law_source" "_law_source" s_law_source f fd) : FnOk P w K mg base CX0 1 f fd ["cell", "k"] (spF K mg F_law_source) :=
 fn_ok Fu sc_law_source F_law_source (fun ds Q h => by obtain ⟨x0, x1, r, rfl, hm, hq⟩ := h; rfl) (by decide) fun cdv A outer s H E hr ds Q hF => by
  obtain ⟨x0, x1, r, rfl, hm, hq⟩ := hF
  exact ⟨_, _, _, t_law_source T hr x0 x1, r, hm, hq⟩
theorem c_law_source {X : Cx} (T : Txt X.K X.mg) (hr : Room 1 X.A) : CallOk X "_law_source" F_law_source := by
 obtain ⟨f, fd, hm, Fu, hb⟩ := T.f_law_source
 exact ⟨1, f, fd, _, ok_law_source T Fu, hr, hm, Fu.kp, hb⟩
abbrev s_law_pick : Stmt := topS 18
theorem sc_law_pick : FnScope ["source", "many", "picked", "mixed"] ["source", "many"] (defScope s_law_pick) := ⟨rfl, rfl, rfl, by decide +kernel, rfl, by decide +kernel, by decide +kernel⟩
theorem ok_law_pick {P : Program} {w : World} {K : PySem.W.Frag} {mg : Str → Option Value} {base : Heap} (T : Txt K mg) {f : Addr} {fd : FuncData} (Fu : Fun K "_law_pick" "_law_pick" s_law_pick f fd) : FnOk P w K mg base CX0 1 f fd ["source", "many"] (spG K mg F_pick) := by
  have m_int := T.m_int
  refine Fu.ok sc_law_pick (fun vs H Q E hs => ?_) (fun cdv A outer s H vs Q E hr hs => ?_)
  · obtain ⟨S, O, rest, ds, rfl, hS, hA, hO, r, n, rfl, hq⟩ := hs
    rw [List.length_cons, r.length]; rfl
  · obtain ⟨S, O, rest, ds, rfl, hS, ⟨i, j, hA⟩, hO, r, n, rfl, hq⟩ := hs
    cases r with
    | cons r1 r2 =>
    cases r1
    cases r2
    unfold pickM at hq
    split at hq
    · rename_i hn
      obtain ⟨_, hq⟩ := hq
      have hq : ∀ r, 0 ≤ r → r < n → ∀ H', Fin (some S) H H' → Q (.int r) H' := fun r h1 h2 H' hf => hq r h1 h2 _ H' hf ⟨.i r, trivial⟩
      have fin : ∀ u1 u2 : V, (∃ a b : Int, u1 = .int a ∧ u2 = .int b) → Fin (some S) H (upd H S (.lst [u1, u2])) := fun u1 u2 ⟨a, b, e1, e2⟩ => by
        subst e1 e2
        exact ⟨fun a o e ne => by rw [upd_ne (fun z => ne (by rw [z]))]; exact e, fun S' e => by cases e; exact ⟨a, b, upd_same⟩⟩
      refine ⟨_, pss_cons (ps_if (pt_cmpR op_gt (pe_ix ix_seq (pv 0) pe_int (fun _ _ => rfl)) pe_int (nomark _))
          (pss_cons (ps_set (i := 2) sc_law_pick.nd rfl (.inl rfl) (pe_op op_mod (pe_callTy call_int1 (by rfl) m_int (by decide +kernel) (pa_cons (pe_ix ix_seq (pv 0) pe_int (fun _ _ => rfl)) pa_nil (by rfl)) (by decide) (by decide) (by rfl) (by rfl)) (pv 1)))
            (pss_cons (ps_asg (pe_op op_fdiv (pe_ix ix_seq (pv 0) pe_int (fun _ _ => rfl)) (pv 1)) (pg_sub (pv 0) pe_int set_list))
              (pss_one (ps_ret (pv 2))))) pss_nil)
        (pss_cons (ps_asg (pe_op op_mod (pe_callTy call_int1 (by rfl) m_int (by decide +kernel) (pa_cons (pe_op op_add (pe_op op_mul (pe_ix ix_seq (pv 0) pe_int (fun _ _ => rfl)) pe_int) pe_int) pa_nil (by rfl)) (by decide) (by decide) (by rfl) (by rfl)) pe_int) (pg_sub (pv 0) pe_int set_list))
        (pss_cons (ps_set (i := 3) sc_law_pick.nd rfl (.inl rfl) (pe_op op_mod (pe_callTy call_int1 (by rfl) m_int (by decide +kernel) (pa_cons (pe_op op_add (pe_op op_add (pe_op op_mul (pe_ix ix_seq (pv 0) pe_int (fun _ _ => rfl)) pe_int) (pe_op op_fdiv (pe_ix ix_seq (pv 0) pe_int (fun _ _ => rfl)) pe_int)) pe_int) pa_nil (by rfl)) (by decide) (by decide) (by rfl) (by rfl)) pe_int))
        (pss_one (ps_ret (pe_op op_mod (pe_callTy call_int1 (by rfl) m_int (by decide +kernel) (pa_cons (pe_op op_fdiv (pv 3) pe_int) pa_nil (by rfl)) (by decide) (by decide) (by rfl) (by rfl)) (pv 1)))))), ?_⟩
      have rd : ∀ {H' : Hp} {a b : V}, H' S = some (.lst [a, b]) → SqL K H' S [a, b] := fun h => .inl (.inl h)
      refine ⟨.ref S, rfl, .inl ⟨S, _, 0, .int i, rfl, rfl, rd hA, rfl, i, 1, rfl, rfl, _, rfl, ?_⟩⟩
      refine ite2 (fun hc => ?_) (fun hc => ?_)
      · refine ⟨.ref S, rfl, .inl ⟨S, _, 0, .int i, rfl, rfl, rd hA, rfl, .inl ⟨i, rfl, _, rfl, i, n, rfl, rfl, hn.1, ?_⟩⟩⟩
        refine ⟨.ref S, rfl, .inl ⟨S, _, 0, .int i, rfl, rfl, rd hA, rfl, _, rfl, i, n, rfl, rfl, hn, ?_⟩⟩
        refine ⟨.ref S, rfl, S, _, 0, 0, rfl, rfl, hA, rfl, ?_⟩
        exact ⟨_, rfl, hq _ (Int.emod_nonneg _ (by omega)) (Int.emod_lt_of_pos _ hn.1) _ (fin _ _ ⟨_, _, rfl, rfl⟩)⟩
      · refine ⟨.ref S, rfl, .inl ⟨S, _, 1, .int j, rfl, rfl, rd hA, rfl, j, 48271, rfl, rfl, .inr (by decide), _, 12345, rfl, rfl, .inl ⟨_, rfl, _, 2147483647, rfl, rfl, (by show (0 : Int) < 2147483647; decide), ?_⟩⟩⟩
        refine ⟨.ref S, rfl, S, _, 1, 1, rfl, rfl, hA, rfl, ?_⟩
        refine ⟨.ref S, rfl, .inl ⟨S, _, 1, _, rfl, rfl, rd upd_same, rfl, _, 69621, rfl, rfl, .inr (by decide), .ref S, rfl, .inl ⟨S, _, 1, _, rfl, rfl, rd upd_same, rfl, _, 127, rfl, rfl, (by show (0 : Int) < 127 ∧ (127 : Int) < 1073741824; decide), _, _, rfl, rfl, _, 7, rfl, rfl, .inl ⟨_, rfl, _, 2147483629, rfl, rfl, (by show (0 : Int) < 2147483629; decide), ?_⟩⟩⟩⟩
        refine ⟨_, rfl, _, 16, rfl, rfl, (by show (0 : Int) < 16 ∧ (16 : Int) < 1073741824; decide), .inl ⟨_, rfl, _, rfl, _, n, rfl, rfl, hn.1, ?_⟩⟩
        exact hq _ (Int.emod_nonneg _ (by omega)) (Int.emod_lt_of_pos _ hn.1) _ (fin _ _ ⟨_, _, rfl, rfl⟩)
    · exact hq.elim
theorem c_law_pick {X : Cx} (T : Txt X.K X.mg) (hr : Room 1 X.A) : GCallOk X "_law_pick" F_pick := by
  obtain ⟨f, fd, hm, Fu, hb⟩ := T.f_law_pick
  exact ⟨1, f, fd, _, ok_law_pick T Fu, hr, hm, Fu.kp, hb⟩
abbrev s_mk_Tests : Stmt := inClass (topS 9) 0
theorem sc_mk_Tests : FnScope ["self", "count", "tests", "test", "thing"] ["self", "count", "tests"] (defScope s_mk_Tests) := ⟨rfl, rfl, rfl, by decide +kernel, rfl, by decide +kernel, by decide +kernel⟩
def M.mk_Tests (p_count : Int) (p_tests : (List (List Int))) : Option TestsR :=
 bd (rt p_count) fun count12 =>
 bd (bd (bd (lf (szO p_tests)) fun xs14 =>
 rt (xs14.map fun (test13 : (List Int)) => (sortI test13))) fun x15 =>
 rt x15) fun tests16 =>
 ifM ((!((decide (1 ≤ p_count)) && (decide (p_count ≤ 24)))) || (!((decide (1 ≤ (tests16.length : Int))) && (decide ((tests16.length : Int) ≤ 40))))) (lf none) (bd (bd (bd (lf (szO tests16)) fun xs19 =>
 mapM' (fun (test17 : (List Int)) => bd (lf (lenSetO test17)) fun x18 =>
 rt (!decide (x18 = (test17.length : Int)))) xs19) fun x20 =>
 rt (x20.any id)) fun b27 => ifM b27 (lf none) (bd (bd (bd (bd (lf (sz4 tests16)) fun xs23 =>
 flat2 (fun (test21 : (List Int)) => rt test21) (fun (test21 : (List Int)) (thing22 : Int) => rt ((decide (0 ≤ thing22)) && (decide (thing22 < p_count)))) xs23) fun x24 =>
 rt (x24.all id)) fun x25 =>
 rt (!x25)) fun b26 => ifM b26 (lf none) (rt (TestsR.mk count12 tests16))))
def F_mk_Tests : List D → (List D → Prop) → Prop := fun ds P => ∃ (k1 : Kd) (x0 : Int) (x1 : (List (List Int))) (r : TestsR), ds = [eI x0, (eL (eQ k1 eI)) x1] ∧ M.mk_Tests x0 x1 = some r ∧ P (fl_Tests r)
theorem t_mk_Tests {P : Program} {w : World} {K : PySem.W.Frag} {mg : Str → Option Value} {base : Heap} {f : Addr} {cdv : Value} {A : Around} {outer : List PySem.Env} {s : Shared} {H : Hp} {E : XK} (T : Txt K mg) (hr : Room 0 (Cxf P w K mg base ["self", "count", "tests", "test", "thing"] "Tests.__init__" s_mk_Tests f cdv A outer s H E).A) (p_self : Addr) {k1 : Kd} (p_count : Int) (p_tests : (List (List Int))) : JS (Cxf P w K mg base ["self", "count", "tests", "test", "thing"] "Tests.__init__" s_mk_Tests f cdv A outer s H E) (defBody s_mk_Tests) [.ob p_self "Tests" [] [], .d (eI p_count), .d ((eL (eQ k1 eI)) p_tests), .u, .u] eN (some fun t : TestsR => .ob p_self "Tests" ["count", "tests"] (fl_Tests t) :: [.u, .u, .u, .u]) (fun _ : Empty => []) (Fl.nx : TestsR → Fl TestsR Empty Unit) (M.mk_Tests p_count p_tests) := by
 unfold M.mk_Tests
 exact (JS.fldN (F := eI) 0 rfl ⟨⟨by decide +kernel, rfl⟩, (Nat.le_of_ble_eq_true rfl)⟩ T.n_Tests_count (JE.cl (JE.var (E := eI) 1 rfl) (by first | with_reducible rfl | (simp only [rtbO, rtbG]; done) | (simp only [rtbO, rtbG]; congr; done) | rfl)) (fun count12 => (JS.fldN (F := (eT (eT eI))) 0 rfl ⟨⟨by decide +kernel, rfl⟩, (Nat.le_of_ble_eq_true rfl)⟩ T.n_Tests_tests (JE.cl (JE.tupleL (E := (eT eI)) (by rfl) T.m_tuple (JL.je (JL.mapP (g := fun (test13 : (List Int)) => (sortI test13)) (JL.lc0 (M0 := false) (own := [("test", 3)]) (up := fun ρ x => ρ.set 3 (.d ((eQ k1 eI) x))) (E := (eQ k1 eI)) (F := (eT eI)) (f := fun (test13 : (List Int)) => rt (sortI test13)) rfl sc_mk_Tests.nd (JI.list (E := (eQ k1 eI)) (JE.var (E := (eL (eQ k1 eI))) 2 rfl)) (by first | exact blkOk_by (own := [("test", 3)]) (by show blkC ["self", "count", "tests", "test", "thing"] (defScope s_mk_Tests) _ _ = true; decide +kernel) | exact blkOk_in (sc0 := defScope s_mk_Tests) (own := [("test", 3)]) rfl (by show blkC ["self", "count", "tests", "test", "thing"] _ _ _ = true; decide +kernel)) (by decide) rfl (fun s H C cl fp => (JG.name 3 sc_mk_Tests.nd rfl (by first | exact Or.inl rfl | exact Or.inr rfl) (by first | exact Or.inl rfl | exact Or.inr rfl))) (fun s H C cl fp test13 => JE.cl (JE.tupleL (E := eI) (by rfl) T.m_tuple (JL.je (JL.sortedQ (k := k1) (by rfl) T.m_sorted (JE.var (E := (eQ k1 eI)) 3 rfl)))) (by first | with_reducible rfl | (simp only [rtbO, rtbG]; done) | (simp only [rtbO, rtbG]; congr; done) | rfl)))))) (by first | with_reducible rfl | (simp only [rtbO, rtbG]; done) | (simp only [rtbO, rtbG]; congr; done) | rfl)) (fun tests16 => (JS.ifTP (JT.cl (JW.jt (JW.orP (JT.not (JT.chainP op_le op_le (by with_unfolding_all rfl) JE.int (JE.var (E := eI) 1 rfl) (JE.globI T.g_MOST_THINGS))) (JW.or1 (JT.not (JT.chainP op_le op_le (by with_unfolding_all rfl) JE.int (JE.len (E := (eT eI)) (k := .t) (by rfl) T.m_len (JE.fldOb (F := (eT (eT eI))) 0 1 rfl (by decide +kernel) rfl T.n_Tests_tests)) (JE.globI T.g_MOST_TESTS)))))) (by first | with_reducible rfl | (simp only [rtbO, rtbG]; done) | (simp only [rtbO, rtbG]; congr; done) | rfl)) JS.never (JS.ifT (JT.cl (JT.val (JE.any rfl (by rfl) T.m_any (JL.je (JL.lc0 (M0 := false) (own := [("test", 3)]) (up := fun ρ x => ρ.set 3 (.d ((eT eI) x))) (E := (eT eI)) (F := eB) (f := fun (test17 : (List Int)) => bd (lf (lenSetO test17)) fun x18 =>
 rt (!decide (x18 = (test17.length : Int)))) rfl sc_mk_Tests.nd (JI.tup (E := (eT eI)) (JE.fldOb (F := (eT (eT eI))) 0 1 rfl (by decide +kernel) rfl T.n_Tests_tests)) (by first | exact blkOk_by (own := [("test", 3)]) (by show blkC ["self", "count", "tests", "test", "thing"] (defScope s_mk_Tests) _ _ = true; decide +kernel) | exact blkOk_in (sc0 := defScope s_mk_Tests) (own := [("test", 3)]) rfl (by show blkC ["self", "count", "tests", "test", "thing"] _ _ _ = true; decide +kernel)) (by decide) rfl (fun s H C cl fp => (JG.name 3 sc_mk_Tests.nd rfl (by first | exact Or.inl rfl | exact Or.inr rfl) (by first | exact Or.inl rfl | exact Or.inr rfl))) (fun s H C cl fp test17 => JE.cl (JE.ne (JE.lenSetT rfl (by rfl) T.m_len (by rfl) T.m_set (JE.var (E := (eT eI)) 3 rfl)) (JE.len (E := eI) (k := .t) (by rfl) T.m_len (JE.var (E := (eT eI)) 3 rfl))) (by first | with_reducible rfl | (simp only [rtbO, rtbG]; done) | (simp only [rtbO, rtbG]; congr; done) | rfl)))))) (by first | with_reducible rfl | (simp only [rtbO, rtbG]; done) | (simp only [rtbO, rtbG]; congr; done) | rfl)) JS.never (JS.ifT (JT.cl (JT.not (JT.val (JE.all rfl (by rfl) T.m_all (JL.je (JL.lc20 (M0 := false) (M1 := false) (own := [("test", 3), ("thing", 4)]) (vs1 := [4]) (up := fun ρ x => ρ.set 3 (.d ((eT eI) x))) (up1 := fun ρ x => ρ.set 4 (.d (eI x))) (E := (eT eI)) (F2 := eI) (G := eB) (g2 := fun (test21 : (List Int)) => rt test21) (f2 := fun (test21 : (List Int)) (thing22 : Int) => rt ((decide (0 ≤ thing22)) && (decide (thing22 < p_count)))) rfl sc_mk_Tests.nd (JI.tup (E := (eT eI)) (JE.fldOb (F := (eT (eT eI))) 0 1 rfl (by decide +kernel) rfl T.n_Tests_tests)) (by first | exact blkOk_by (own := [("test", 3), ("thing", 4)]) (by show blkC ["self", "count", "tests", "test", "thing"] (defScope s_mk_Tests) _ _ = true; decide +kernel) | exact blkOk_in (sc0 := defScope s_mk_Tests) (own := [("test", 3), ("thing", 4)]) rfl (by show blkC ["self", "count", "tests", "test", "thing"] _ _ _ = true; decide +kernel)) (by decide) rfl (by decide) (by decide) (fun s H C cl fp => (JG.name 3 sc_mk_Tests.nd rfl (by first | exact Or.inl rfl | exact Or.inr rfl) (by first | exact Or.inl rfl | exact Or.inr rfl))) (fun s H C cl fp test21 => JI.cl (JI.tup (E := eI) (JE.var (E := (eT eI)) 3 rfl)) (by first | with_reducible rfl | (simp only [rtbO, rtbG]; done) | (simp only [rtbO, rtbG]; congr; done) | rfl)) (fun s H C cl fp => (JG.name 4 sc_mk_Tests.nd rfl (by first | exact Or.inl rfl | exact Or.inr rfl) (by first | exact Or.inl rfl | exact Or.inr rfl))) (fun s H C cl fp test21 thing22 => JE.cl (JE.chainP op_le op_lt (by with_unfolding_all rfl) JE.int (JE.var (E := eI) 4 rfl) (JE.var (E := eI) 1 rfl)) (by first | with_reducible rfl | (simp only [rtbO, rtbG]; done) | (simp only [rtbO, rtbG]; congr; done) | rfl))))))) (by first | with_reducible rfl | (simp only [rtbO, rtbG]; done) | (simp only [rtbO, rtbG]; congr; done) | rfl)) JS.never (JS.nil (TestsR.mk count12 tests16) rfl (.same (.drop (.drop (.same (.same (.nil))))))))))))))
theorem ok_mk_Tests {P : Program} {w : World} {K : PySem.W.Frag} {mg : Str → Option Value} {base : Heap} (T : Txt K mg) {f : Addr} {fd : FuncData} (Fu : Fun K "__init__" "Tests.__init__" s_mk_Tests f fd) : FnOk P w K mg base CX0 1 f fd ["self", "count", "tests"] (spI K mg "Tests" ["count", "tests"] F_mk_Tests) :=
 fn_okI Fu sc_mk_Tests F_mk_Tests (fun ds Q h => by obtain ⟨k1, x0, x1, r, rfl, hm, hq⟩ := h; rfl) (by decide) fun cdv A outer s H E hr p ds Q hF => by
  obtain ⟨k1, x0, x1, r, rfl, hm, hq⟩ := hF
  exact ⟨_, _, _, _, t_mk_Tests T hr p x0 x1, r, hm, hq⟩
theorem c_mk_Tests {X : Cx} (T : Txt X.K X.mg) (hr : Room 2 X.A) : MakeOk X "Tests" ["count", "tests"] F_mk_Tests := by
 obtain ⟨C, f, fd, hm, hc, mk, Fu, hb⟩ := T.f_mk_Tests
 exact ⟨1, C, f, fd, _, ok_mk_Tests T Fu, hr, hm, mk, hb⟩
abbrev s_is_covered : Stmt := topS 12
theorem sc_is_covered : FnScope ["tests", "thing", "bad", "own", "at"] ["tests", "thing", "bad"] (defScope s_is_covered) := ⟨rfl, rfl, rfl, by decide +kernel, rfl, by decide +kernel, by decide +kernel⟩
def M.is_covered (p_tests : TestsR) (p_thing : Int) (p_bad : (List Int)) : Option Bool :=
 bd (bd (bd (lf (M.Tests_of p_tests p_thing)) fun x69 =>
 bd (lf (szO x69)) fun xs68 =>
 mapM' (fun (at63 : Int) => bd (bd (lf (szO p_bad)) fun xs66 =>
 mapM' (fun (own64 : Int) => bd (lf (ixO p_tests.tests at63)) fun x65 =>
 rt (x65.contains own64)) xs66) fun x67 =>
 rt (x67.any id)) xs68) fun x70 =>
 rt (x70.all id)) fun x71 =>
 rt x71
def F_is_covered : List D → (D → Prop) → Prop := fun ds P => ∃ (x0 : TestsR) (x1 : Int) (x2 : (List Int)) (r : Bool), ds = [e_Tests x0, eI x1, (eT eI) x2] ∧ M.is_covered x0 x1 x2 = some r ∧ P (eB r)
theorem t_is_covered {P : Program} {w : World} {K : PySem.W.Frag} {mg : Str → Option Value} {base : Heap} {f : Addr} {cdv : Value} {A : Around} {outer : List PySem.Env} {s : Shared} {H : Hp} {E : XK} (T : Txt K mg) (hr : Room 1 (Cxf P w K mg base ["tests", "thing", "bad", "own", "at"] "_is_covered" s_is_covered f cdv A outer s H E).A) (p_tests : TestsR) (p_thing : Int) (p_bad : (List Int)) : Tail (Cxf P w K mg base ["tests", "thing", "bad", "own", "at"] "_is_covered" s_is_covered f cdv A outer s H E) (defBody s_is_covered) [.d (e_Tests p_tests), .d (eI p_thing), .d ((eT eI) p_bad), .u, .u] eB (M.is_covered p_tests p_thing p_bad) := by
 unfold M.is_covered
 exact (JS.ret (c := id) (fun _ => rfl) nl_B (JE.cl (JE.all rfl (by rfl) T.m_all (JL.je (JL.lc0 (M0 := false) (own := [("at", 4)]) (up := fun ρ x => ρ.set 4 (.d (eI x))) (E := eI) (F := eB) (f := fun (at63 : Int) => bd (bd (lf (szO p_bad)) fun xs66 =>
 mapM' (fun (own64 : Int) => bd (lf (ixO p_tests.tests at63)) fun x65 =>
 rt (x65.contains own64)) xs66) fun x67 =>
 rt (x67.any id)) rfl sc_is_covered.nd (JI.list (E := eI) (JL.je (JL.meth1 (E0 := e_Tests) (E1 := eI) (pl := _) (f := M.Tests_of) (G := eI) (fun _ => ⟨_, rfl⟩) (by decide +kernel) (fun x0 x1 r P h q => ⟨x0, x1, r, rfl, h, q⟩) (c_Tests_of T (hr.mono (by decide))) (JE.var (E := e_Tests) 0 rfl) (JE.var (E := eI) 1 rfl)))) (by first | exact blkOk_by (own := [("at", 4)]) (by show blkC ["tests", "thing", "bad", "own", "at"] (defScope s_is_covered) _ _ = true; decide +kernel) | exact blkOk_in (sc0 := defScope s_is_covered) (own := [("at", 4)]) rfl (by show blkC ["tests", "thing", "bad", "own", "at"] _ _ _ = true; decide +kernel)) (by decide) rfl (fun s H C cl fp => (JG.name 4 sc_is_covered.nd rfl (by first | exact Or.inl rfl | exact Or.inr rfl) (by first | exact Or.inl rfl | exact Or.inr rfl))) (fun s H C cl fp at63 => JE.cl (JE.any rfl (by rfl) T.m_any (JL.je (JL.lc0 (M0 := false) (own := [("own", 3)]) (up := fun ρ x => ρ.set 3 (.d (eI x))) (E := eI) (F := eB) (f := fun (own64 : Int) => bd (lf (ixO p_tests.tests at63)) fun x65 =>
 rt (x65.contains own64)) rfl sc_is_covered.nd (JI.tup (E := eI) (JE.var (E := (eT eI)) 2 rfl)) (by first | exact blkOk_by (own := [("own", 3)]) (by show blkC ["tests", "thing", "bad", "own", "at"] (defScope s_is_covered) _ _ = true; decide +kernel) | exact blkOk_in (sc0 := defScope s_is_covered) (own := [("own", 3)]) rfl (by show blkC ["tests", "thing", "bad", "own", "at"] _ _ _ = true; decide +kernel)) (by decide) rfl (fun s H C cl fp => (JG.name 3 sc_is_covered.nd rfl (by first | exact Or.inl rfl | exact Or.inr rfl) (by first | exact Or.inl rfl | exact Or.inr rfl))) (fun s H C cl fp own64 => JE.cl (JE.inI (k := .t) (JE.var (E := eI) 3 rfl) (JE.ix (E := (eT eI)) (k := .t) (fun _ _ => rfl) (JE.fld (E := e_Tests) (F := (eT (eT eI))) (fun x => x.tests) 1 (by decide +kernel) (fun _ => ⟨_, rfl, rfl⟩) T.n_Tests_tests (JE.var (E := e_Tests) 0 rfl)) (JE.var (E := eI) 4 rfl))) (by first | with_reducible rfl | (simp only [rtbO, rtbG]; done) | (simp only [rtbO, rtbG]; congr; done) | rfl))))) (by first | with_reducible rfl | (simp only [rtbO, rtbG]; done) | (simp only [rtbO, rtbG]; congr; done) | rfl))))) (by first | with_reducible rfl | (simp only [rtbO, rtbG]; done) | (simp only [rtbO, rtbG]; congr; done) | rfl)))
theorem ok_is_covered {P : Program} {w : World} {K : PySem.W.Frag} {mg : Str → Option Value} {base : Heap} (T : Txt K mg) {f : Addr} {fd : FuncData} (Fu : Fun K "_is_covered" "_is_covered" s_is_covered f fd) : FnOk P w K mg base CX0 2 f fd ["tests", "thing", "bad"] (spF K mg F_is_covered) :=
 fn_ok Fu sc_is_covered F_is_covered (fun ds Q h => by obtain ⟨x0, x1, x2, r, rfl, hm, hq⟩ := h; rfl) (by decide) fun cdv A outer s H E hr ds Q hF => by
  obtain ⟨x0, x1, x2, r, rfl, hm, hq⟩ := hF
  exact ⟨_, _, _, t_is_covered T hr x0 x1 x2, r, hm, hq⟩
theorem c_is_covered {X : Cx} (T : Txt X.K X.mg) (hr : Room 2 X.A) : CallOk X "_is_covered" F_is_covered := by
 obtain ⟨f, fd, hm, Fu, hb⟩ := T.f_is_covered
 exact ⟨2, f, fd, _, ok_is_covered T Fu, hr, hm, Fu.kp, hb⟩
abbrev s_suspects : Stmt := topS 13
theorem sc_suspects : FnScope ["tests", "answers", "answer", "thing", "at"] ["tests", "answers"] (defScope s_suspects) := ⟨rfl, rfl, rfl, by decide +kernel, rfl, by decide +kernel, by decide +kernel⟩
def M.suspects (p_tests : TestsR) (p_answers : (List Int)) : Option (List Int) :=
 bd (ifM (!decide ((p_answers.length : Int) = (p_tests.tests.length : Int))) (rt true) (bd (bd (lf (szO p_answers)) fun xs74 =>
 rt (xs74.map fun (answer73 : Int) => (![0, 1].contains answer73))) fun x75 =>
 rt (x75.any id))) fun b85 => ifM b85 (lf none) (bd (bd (lf (range1O p_tests.count)) fun x83 =>
 bd (lf (szO x83)) fun xs82 =>
 lcM (fun (thing76 : Int) => bd (bd (lf (M.Tests_of p_tests thing76)) fun x80 =>
 bd (lf (szO x80)) fun xs79 =>
 mapM' (fun (at77 : Int) => bd (lf (ixO p_answers at77)) fun x78 =>
 rt (decide (x78 = 1))) xs79) fun x81 =>
 rt (x81.all id)) (fun (thing76 : Int) => rt thing76) xs82) fun x84 =>
 rt x84)
def F_suspects : List D → (D → Prop) → Prop := fun ds P => ∃ (x0 : TestsR) (x1 : (List Int)) (r : (List Int)), ds = [e_Tests x0, (eT eI) x1] ∧ M.suspects x0 x1 = some r ∧ P ((eL eI) r)
theorem t_suspects {P : Program} {w : World} {K : PySem.W.Frag} {mg : Str → Option Value} {base : Heap} {f : Addr} {cdv : Value} {A : Around} {outer : List PySem.Env} {s : Shared} {H : Hp} {E : XK} (T : Txt K mg) (hr : Room 1 (Cxf P w K mg base ["tests", "answers", "answer", "thing", "at"] "suspects" s_suspects f cdv A outer s H E).A) (p_tests : TestsR) (p_answers : (List Int)) : Tail (Cxf P w K mg base ["tests", "answers", "answer", "thing", "at"] "suspects" s_suspects f cdv A outer s H E) (defBody s_suspects) [.d (e_Tests p_tests), .d ((eT eI) p_answers), .u, .u, .u] (eL eI) (M.suspects p_tests p_answers) := by
 unfold M.suspects
 exact (JS.asgV (i := 1) (F := (eT eI)) (v := p_answers) (JAsE.of sc_suspects.nd rfl (by first | exact Or.inl rfl | exact Or.inr rfl) (by first | exact Or.inl rfl | exact Or.inr rfl) (JE.cl (JE.tupleT (E := eI) (by rfl) T.m_tuple (JE.var (E := (eT eI)) 1 rfl)) (by first | with_reducible rfl | (simp only [rtbO, rtbG]; done) | (simp only [rtbO, rtbG]; congr; done) | rfl))) (JS.ifT (JT.cl (JW.jt (JW.or (JT.ne (JE.len (E := eI) (k := .t) (by rfl) T.m_len (JE.var (E := (eT eI)) 1 rfl)) (JE.len (E := (eT eI)) (k := .t) (by rfl) T.m_len (JE.fld (E := e_Tests) (F := (eT (eT eI))) (fun x => x.tests) 1 (by decide +kernel) (fun _ => ⟨_, rfl, rfl⟩) T.n_Tests_tests (JE.var (E := e_Tests) 0 rfl)))) (JW.or1 (JT.val (JE.any rfl (by rfl) T.m_any (JL.je (JL.mapP (g := fun (answer73 : Int) => (![0, 1].contains answer73)) (JL.lc0 (M0 := false) (own := [("answer", 2)]) (up := fun ρ x => ρ.set 2 (.d (eI x))) (E := eI) (F := eB) (f := fun (answer73 : Int) => rt (![0, 1].contains answer73)) rfl sc_suspects.nd (JI.tup (E := eI) (JE.var (E := (eT eI)) 1 rfl)) (by first | exact blkOk_by (own := [("answer", 2)]) (by show blkC ["tests", "answers", "answer", "thing", "at"] (defScope s_suspects) _ _ = true; decide +kernel) | exact blkOk_in (sc0 := defScope s_suspects) (own := [("answer", 2)]) rfl (by show blkC ["tests", "answers", "answer", "thing", "at"] _ _ _ = true; decide +kernel)) (by decide) rfl (fun s H C cl fp => (JG.name 2 sc_suspects.nd rfl (by first | exact Or.inl rfl | exact Or.inr rfl) (by first | exact Or.inl rfl | exact Or.inr rfl))) (fun s H C cl fp answer73 => JE.cl (JE.ninI (k := .t) (JE.var (E := eI) 2 rfl) (JE.tup (JH.cons (E := eI) JE.int (JH.cons (E := eI) JE.int (JH.nil (E := eI)))))) (by first | with_reducible rfl | (simp only [rtbO, rtbG]; done) | (simp only [rtbO, rtbG]; congr; done) | rfl)))))))))) (by first | with_reducible rfl | (simp only [rtbO, rtbG]; done) | (simp only [rtbO, rtbG]; congr; done) | rfl)) JS.never (JS.retL (c := id) (fun _ => rfl) (JL.cl (JL.lc (M0 := false) (own := [("thing", 3)]) (up := fun ρ x => ρ.set 3 (.d (eI x))) (E := eI) (F := eI) (cM := fun (thing76 : Int) => bd (bd (lf (M.Tests_of p_tests thing76)) fun x80 =>
 bd (lf (szO x80)) fun xs79 =>
 mapM' (fun (at77 : Int) => bd (lf (ixO p_answers at77)) fun x78 =>
 rt (decide (x78 = 1))) xs79) fun x81 =>
 rt (x81.all id)) (f := fun (thing76 : Int) => rt thing76) rfl sc_suspects.nd (JI.range1 (by rfl) T.m_range (JE.fld (E := e_Tests) (F := eI) (fun x => x.count) 0 (by decide +kernel) (fun _ => ⟨_, rfl, rfl⟩) T.n_Tests_count (JE.var (E := e_Tests) 0 rfl))) (by first | exact blkOk_by (own := [("thing", 3)]) (by show blkC ["tests", "answers", "answer", "thing", "at"] (defScope s_suspects) _ _ = true; decide +kernel) | exact blkOk_in (sc0 := defScope s_suspects) (own := [("thing", 3)]) rfl (by show blkC ["tests", "answers", "answer", "thing", "at"] _ _ _ = true; decide +kernel)) (by decide) rfl (fun s H C cl fp => (JG.name 3 sc_suspects.nd rfl (by first | exact Or.inl rfl | exact Or.inr rfl) (by first | exact Or.inl rfl | exact Or.inr rfl))) (fun s H C cl fp thing76 => JTs.one (JT.cl (JT.val (JE.all rfl (by rfl) T.m_all (JL.je (JL.lc0 (M0 := false) (own := [("at", 4)]) (up := fun ρ x => ρ.set 4 (.d (eI x))) (E := eI) (F := eB) (f := fun (at77 : Int) => bd (lf (ixO p_answers at77)) fun x78 =>
 rt (decide (x78 = 1))) rfl sc_suspects.nd (JI.list (E := eI) (JL.je (JL.meth1 (E0 := e_Tests) (E1 := eI) (pl := _) (f := M.Tests_of) (G := eI) (fun _ => ⟨_, rfl⟩) (by decide +kernel) (fun x0 x1 r P h q => ⟨x0, x1, r, rfl, h, q⟩) (c_Tests_of T (hr.mono (by decide))) (JE.var (E := e_Tests) 0 rfl) (JE.var (E := eI) 3 rfl)))) (by first | exact blkOk_by (own := [("at", 4)]) (by show blkC ["tests", "answers", "answer", "thing", "at"] (defScope s_suspects) _ _ = true; decide +kernel) | exact blkOk_in (sc0 := defScope s_suspects) (own := [("at", 4)]) rfl (by show blkC ["tests", "answers", "answer", "thing", "at"] _ _ _ = true; decide +kernel)) (by decide) rfl (fun s H C cl fp => (JG.name 4 sc_suspects.nd rfl (by first | exact Or.inl rfl | exact Or.inr rfl) (by first | exact Or.inl rfl | exact Or.inr rfl))) (fun s H C cl fp at77 => JE.cl (JE.eq (JE.ix (E := eI) (k := .t) (fun _ _ => rfl) (JE.var (E := (eT eI)) 1 rfl) (JE.var (E := eI) 4 rfl)) JE.int) (by first | with_reducible rfl | (simp only [rtbO, rtbG]; done) | (simp only [rtbO, rtbG]; congr; done) | rfl)))))) (by first | with_reducible rfl | (simp only [rtbO, rtbG]; done) | (simp only [rtbO, rtbG]; congr; done) | rfl))) (fun s H C cl fp thing76 => JE.cl (JE.var (E := eI) 3 rfl) (by first | with_reducible rfl | (simp only [rtbO, rtbG]; done) | (simp only [rtbO, rtbG]; congr; done) | rfl))) (by first | with_reducible rfl | (simp only [rtbO, rtbG]; done) | (simp only [rtbO, rtbG]; congr; done) | rfl)))))
theorem ok_suspects {P : Program} {w : World} {K : PySem.W.Frag} {mg : Str → Option Value} {base : Heap} (T : Txt K mg) {f : Addr} {fd : FuncData} (Fu : Fun K "suspects" "suspects" s_suspects f fd) : FnOk P w K mg base CX0 2 f fd ["tests", "answers"] (spF K mg F_suspects) :=
 fn_ok Fu sc_suspects F_suspects (fun ds Q h => by obtain ⟨x0, x1, r, rfl, hm, hq⟩ := h; rfl) (by decide) fun cdv A outer s H E hr ds Q hF => by
  obtain ⟨x0, x1, r, rfl, hm, hq⟩ := hF
  exact ⟨_, _, _, t_suspects T hr x0 x1, r, hm, hq⟩
theorem c_suspects {X : Cx} (T : Txt X.K X.mg) (hr : Room 2 X.A) : CallOk X "suspects" F_suspects := by
 obtain ⟨f, fd, hm, Fu, hb⟩ := T.f_suspects
 exact ⟨2, f, fd, _, ok_suspects T Fu, hr, hm, Fu.kp, hb⟩
abbrev s_law_mixed : Stmt := topS 19
theorem sc_law_mixed : FnScope ["source", "things", "left", "found", "k"] ["source", "things"] (defScope s_law_mixed) := ⟨rfl, rfl, rfl, by decide +kernel, rfl, by decide +kernel, by decide +kernel⟩
def M.law_mixed (p_things : (List Int)) : G (List Int) :=
 bd (rt ([] : List Int)) fun found103 =>
 bd (lf (range1O (p_things.length : Int))) fun xs110 =>
 bd (foldM' (fun (k105 : Int) (t104 : ((List Int) × (List Int))) => bd (bd (pickM (t104.1.length : Int)) fun i109 => lf (popO t104.1 i109)) fun pr108 =>
 bd (lf (appO t104.2 pr108.1)) fun found106 =>
 (fun left107 => rt (left107, found106)) pr108.2) xs110 (p_things, found103)) fun t104 =>
 rt t104.2
def F_law_mixed : List D → (D → Prop) → Prop := fun ds P => ∃ (k1 : Kd) (x0 : (List Int)), ds = [(eQ k1 eI) x0] ∧ (M.law_mixed x0).wp fun r => P ((eL eI) r)
theorem t_law_mixed {P : Program} {w : World} {K : PySem.W.Frag} {mg : Str → Option Value} {base : Heap} {f : Addr} {cdv : Value} {A : Around} {outer : List PySem.Env} {s : Shared} {H : Hp} {E : XK} (T : Txt K mg) (hr : Room 1 (Cxf P w K mg base ["source", "things", "left", "found", "k"] "_law_mixed" s_law_mixed f cdv A outer s H E).A) {k1 : Kd} (p_things : (List Int)) : Tail (Cxf P w K mg base ["source", "things", "left", "found", "k"] "_law_mixed" s_law_mixed f cdv A outer s H E) (defBody s_law_mixed) [.src, .d ((eQ k1 eI) p_things), .u, .u, .u] (eL eI) (M.law_mixed p_things) := by
 unfold M.law_mixed
 exact (JS.asgLV (i := 2) (F := eI) (v := p_things) (JAsL.of sc_law_mixed.nd rfl (by first | exact Or.inl rfl | exact Or.inr rfl) (by first | exact Or.inl rfl | exact Or.inr rfl) (JL.cl (JL.list (E := eI) (k := k1) (by rfl) T.m_list (JE.var (E := (eQ k1 eI)) 1 rfl)) (by first | with_reducible rfl | (simp only [rtbO, rtbG]; done) | (simp only [rtbO, rtbG]; congr; done) | rfl))) (Nat.le_of_ble_eq_true rfl) (JS.asgL (i := 3) (F := eI) (JAsL.of sc_law_mixed.nd rfl (by first | exact Or.inl rfl | exact Or.inr rfl) (by first | exact Or.inl rfl | exact Or.inr rfl) (JL.cl (JL.lst (E := eI) JH.nil) (by first | with_reducible rfl | (simp only [rtbO, rtbG]; done) | (simp only [rtbO, rtbG]; congr; done) | rfl))) (Nat.le_of_ble_eq_true rfl) (fun found103 => (JS.forS (up := fun ρ x => ρ.set 4 (.d (eI x))) (Ei := eI) (fun (t104 : ((List Int) × (List Int))) => [.src, .u, .l (t104.1.map eI), .l (t104.2.map eI), .u]) (p_things, found103) PassesOwn.never rfl (JI.cl (JI.range1 (by rfl) T.m_range (JE.len (E := eI) (k := k1) (by rfl) T.m_len (JE.var (E := (eQ k1 eI)) 1 rfl))) (by first | with_reducible rfl | (simp only [rtbO, rtbG]; done) | (simp only [rtbO, rtbG]; congr; done) | rfl)) (JG.name 4 sc_law_mixed.nd rfl (by first | exact Or.inl rfl | exact Or.inr rfl) (by first | exact Or.inl rfl | exact Or.inr rfl)) (.same (.drop (.same (.same (.same (.nil)))))) (fun k105 t104 => (JS.appendPop (F := eI) (k := fun found106 left107 => rt (left107, found106)) 3 2 rfl rfl (by decide) (JE.cl (JE.pick 0 rfl (c_law_pick T (hr.mono (by decide))) (JE.len (E := eI) (k := .l) (by rfl) T.m_len (JE.varL (E := eI) 2 rfl))) (by first | with_reducible rfl | (simp only [rtbO, rtbG]; done) | (simp only [rtbO, rtbG]; congr; done) | rfl)) (fun found106 left107 => (JS.nil (left107, found106) rfl (.same (.same (.same (.same (.drop (.nil)))))))))) (fun t104 => (JS.retV (E := eI) (c := id) 3 (fun _ => rfl) rfl))))))
theorem ok_law_mixed {P : Program} {w : World} {K : PySem.W.Frag} {mg : Str → Option Value} {base : Heap} (T : Txt K mg) {f : Addr} {fd : FuncData} (Fu : Fun K "_law_mixed" "_law_mixed" s_law_mixed f fd) : FnOk P w K mg base CX0 2 f fd ["source", "things"] (spG K mg F_law_mixed) :=
 fn_okG Fu sc_law_mixed F_law_mixed (fun ds Q h => by obtain ⟨k1, x0, rfl, hq⟩ := h; rfl) (by decide) fun cdv A outer s H E hr ds Q hF => by
  obtain ⟨k1, x0, rfl, hq⟩ := hF
  refine ⟨_, _, _, t_law_mixed T hr x0, ?_⟩
  first | with_reducible exact hq | exact hq
theorem c_law_mixed {X : Cx} (T : Txt X.K X.mg) (hr : Room 2 X.A) : GCallOk X "_law_mixed" F_law_mixed := by
 obtain ⟨f, fd, hm, Fu, hb⟩ := T.f_law_mixed
 exact ⟨2, f, fd, _, ok_law_mixed T Fu, hr, hm, Fu.kp, hb⟩
abbrev s_law_mixed_2 : Stmt := topS 19
theorem sc_law_mixed_2 : FnScope ["source", "things", "left", "found", "k"] ["source", "things"] (defScope s_law_mixed_2) := ⟨rfl, rfl, rfl, by decide +kernel, rfl, by decide +kernel, by decide +kernel⟩
def M.law_mixed_2 (p_things : (List (List Int))) : G (List (List Int)) :=
 bd (rt ([] : List (List Int))) fun found112 =>
 bd (lf (range1O (p_things.length : Int))) fun xs119 =>
 bd (foldM' (fun (k114 : Int) (t113 : ((List (List Int)) × (List (List Int)))) => bd (bd (pickM (t113.1.length : Int)) fun i118 => lf (popO t113.1 i118)) fun pr117 =>
 bd (lf (appO t113.2 pr117.1)) fun found115 =>
 (fun left116 => rt (left116, found115)) pr117.2) xs119 (p_things, found112)) fun t113 =>
 rt t113.2
def F_law_mixed_2 : List D → (D → Prop) → Prop := fun ds P => ∃ (k1 : Kd) (x0 : (List (List Int))), ds = [(eQ k1 (eT eI)) x0] ∧ (M.law_mixed_2 x0).wp fun r => P ((eL (eT eI)) r)
theorem t_law_mixed_2 {P : Program} {w : World} {K : PySem.W.Frag} {mg : Str → Option Value} {base : Heap} {f : Addr} {cdv : Value} {A : Around} {outer : List PySem.Env} {s : Shared} {H : Hp} {E : XK} (T : Txt K mg) (hr : Room 1 (Cxf P w K mg base ["source", "things", "left", "found", "k"] "_law_mixed" s_law_mixed_2 f cdv A outer s H E).A) {k1 : Kd} (p_things : (List (List Int))) : Tail (Cxf P w K mg base ["source", "things", "left", "found", "k"] "_law_mixed" s_law_mixed_2 f cdv A outer s H E) (defBody s_law_mixed_2) [.src, .d ((eQ k1 (eT eI)) p_things), .u, .u, .u] (eL (eT eI)) (M.law_mixed_2 p_things) := by
 unfold M.law_mixed_2
 exact (JS.asgLV (i := 2) (F := (eT eI)) (v := p_things) (JAsL.of sc_law_mixed_2.nd rfl (by first | exact Or.inl rfl | exact Or.inr rfl) (by first | exact Or.inl rfl | exact Or.inr rfl) (JL.cl (JL.list (E := (eT eI)) (k := k1) (by rfl) T.m_list (JE.var (E := (eQ k1 (eT eI))) 1 rfl)) (by first | with_reducible rfl | (simp only [rtbO, rtbG]; done) | (simp only [rtbO, rtbG]; congr; done) | rfl))) (Nat.le_of_ble_eq_true rfl) (JS.asgL (i := 3) (F := (eT eI)) (JAsL.of sc_law_mixed_2.nd rfl (by first | exact Or.inl rfl | exact Or.inr rfl) (by first | exact Or.inl rfl | exact Or.inr rfl) (JL.cl (JL.lst (E := (eT eI)) JH.nil) (by first | with_reducible rfl | (simp only [rtbO, rtbG]; done) | (simp only [rtbO, rtbG]; congr; done) | rfl))) (Nat.le_of_ble_eq_true rfl) (fun found112 => (JS.forS (up := fun ρ x => ρ.set 4 (.d (eI x))) (Ei := eI) (fun (t113 : ((List (List Int)) × (List (List Int)))) => [.src, .u, .l (t113.1.map (eT eI)), .l (t113.2.map (eT eI)), .u]) (p_things, found112) PassesOwn.never rfl (JI.cl (JI.range1 (by rfl) T.m_range (JE.len (E := (eT eI)) (k := k1) (by rfl) T.m_len (JE.var (E := (eQ k1 (eT eI))) 1 rfl))) (by first | with_reducible rfl | (simp only [rtbO, rtbG]; done) | (simp only [rtbO, rtbG]; congr; done) | rfl)) (JG.name 4 sc_law_mixed_2.nd rfl (by first | exact Or.inl rfl | exact Or.inr rfl) (by first | exact Or.inl rfl | exact Or.inr rfl)) (.same (.drop (.same (.same (.same (.nil)))))) (fun k114 t113 => (JS.appendPop (F := (eT eI)) (k := fun found115 left116 => rt (left116, found115)) 3 2 rfl rfl (by decide) (JE.cl (JE.pick 0 rfl (c_law_pick T (hr.mono (by decide))) (JE.len (E := (eT eI)) (k := .l) (by rfl) T.m_len (JE.varL (E := (eT eI)) 2 rfl))) (by first | with_reducible rfl | (simp only [rtbO, rtbG]; done) | (simp only [rtbO, rtbG]; congr; done) | rfl)) (fun found115 left116 => (JS.nil (left116, found115) rfl (.same (.same (.same (.same (.drop (.nil)))))))))) (fun t113 => (JS.retV (E := (eT eI)) (c := id) 3 (fun _ => rfl) rfl))))))
theorem ok_law_mixed_2 {P : Program} {w : World} {K : PySem.W.Frag} {mg : Str → Option Value} {base : Heap} (T : Txt K mg) {f : Addr} {fd : FuncData} (Fu : Fun K "_law_mixed" "_law_mixed" s_law_mixed_2 f fd) : FnOk P w K mg base CX0 2 f fd ["source", "things"] (spG K mg F_law_mixed_2) :=
 fn_okG Fu sc_law_mixed_2 F_law_mixed_2 (fun ds Q h => by obtain ⟨k1, x0, rfl, hq⟩ := h; rfl) (by decide) fun cdv A outer s H E hr ds Q hF => by
  obtain ⟨k1, x0, rfl, hq⟩ := hF
  refine ⟨_, _, _, t_law_mixed_2 T hr x0, ?_⟩
  first | with_reducible exact hq | exact hq
theorem c_law_mixed_2 {X : Cx} (T : Txt X.K X.mg) (hr : Room 2 X.A) : GCallOk X "_law_mixed" F_law_mixed_2 := by
 obtain ⟨f, fd, hm, Fu, hb⟩ := T.f_law_mixed
 exact ⟨2, f, fd, _, ok_law_mixed_2 T Fu, hr, hm, Fu.kp, hb⟩
abbrev s_law_drawn : Stmt := topS 20
theorem sc_law_drawn : FnScope ["source", "count", "thing", "turn"] ["source", "count"] (defScope s_law_drawn) := ⟨rfl, rfl, rfl, by decide +kernel, rfl, by decide +kernel, by decide +kernel⟩
def M.law_drawn (p_count : Int) : G (List (List Int)) :=
 bd (bd (bd (bd (pickM 8) fun x120 =>
 rt (1 + x120)) fun x121 =>
 lf (range1O x121)) fun x129 =>
 bd (lf (szO x129)) fun xs128 =>
 mapM' (fun (turn122 : Int) => bd (bd (lf (range1O p_count)) fun x126 =>
 bd (lf (szO x126)) fun xs125 =>
 lcM (fun (thing123 : Int) => bd (pickM 3) fun x124 =>
 rt (decide (x124 = 0))) (fun (thing123 : Int) => rt thing123) xs125) fun x127 =>
 rt x127) xs128) fun x130 =>
 rt x130
def F_law_drawn : List D → (D → Prop) → Prop := fun ds P => ∃ (x0 : Int), ds = [eI x0] ∧ (M.law_drawn x0).wp fun r => P ((eL (eT eI)) r)
theorem t_law_drawn {P : Program} {w : World} {K : PySem.W.Frag} {mg : Str → Option Value} {base : Heap} {f : Addr} {cdv : Value} {A : Around} {outer : List PySem.Env} {s : Shared} {H : Hp} {E : XK} (T : Txt K mg) (hr : Room 1 (Cxf P w K mg base ["source", "count", "thing", "turn"] "_law_drawn" s_law_drawn f cdv A outer s H E).A) (p_count : Int) : Tail (Cxf P w K mg base ["source", "count", "thing", "turn"] "_law_drawn" s_law_drawn f cdv A outer s H E) (defBody s_law_drawn) [.src, .d (eI p_count), .u, .u] (eL (eT eI)) (M.law_drawn p_count) := by
 unfold M.law_drawn
 exact (JS.retL (c := id) (fun _ => rfl) (JL.cl (JL.lc0 (M0 := false) (own := [("turn", 3)]) (up := fun ρ x => ρ.set 3 (.d (eI x))) (E := eI) (F := (eT eI)) (f := fun (turn122 : Int) => bd (bd (lf (range1O p_count)) fun x126 =>
 bd (lf (szO x126)) fun xs125 =>
 lcM (fun (thing123 : Int) => bd (pickM 3) fun x124 =>
 rt (decide (x124 = 0))) (fun (thing123 : Int) => rt thing123) xs125) fun x127 =>
 rt x127) rfl sc_law_drawn.nd (JI.range1 (by rfl) T.m_range (JE.add JE.int (JE.pick 0 rfl (c_law_pick T (hr.mono (by decide))) JE.int))) (by first | exact blkOk_by (own := [("turn", 3)]) (by show blkC ["source", "count", "thing", "turn"] (defScope s_law_drawn) _ _ = true; decide +kernel) | exact blkOk_in (sc0 := defScope s_law_drawn) (own := [("turn", 3)]) rfl (by show blkC ["source", "count", "thing", "turn"] _ _ _ = true; decide +kernel)) (by decide) rfl (fun s H C cl fp => (JG.name 3 sc_law_drawn.nd rfl (by first | exact Or.inl rfl | exact Or.inr rfl) (by first | exact Or.inl rfl | exact Or.inr rfl))) (fun s H C cl fp turn122 => JE.cl (JE.tupleL (E := eI) (by rfl) T.m_tuple (JL.je (JL.lc (M0 := false) (own := [("thing", 2)]) (up := fun ρ x => ρ.set 2 (.d (eI x))) (E := eI) (F := eI) (cM := fun (thing123 : Int) => bd (pickM 3) fun x124 =>
 rt (decide (x124 = 0))) (f := fun (thing123 : Int) => rt thing123) rfl sc_law_drawn.nd (JI.range1 (by rfl) T.m_range (JE.var (E := eI) 1 rfl)) (by first | exact blkOk_by (own := [("thing", 2)]) (by show blkC ["source", "count", "thing", "turn"] (defScope s_law_drawn) _ _ = true; decide +kernel) | exact blkOk_in (sc0 := defScope s_law_drawn) (own := [("thing", 2)]) rfl (by show blkC ["source", "count", "thing", "turn"] _ _ _ = true; decide +kernel)) (by decide) rfl (fun s H C cl fp => (JG.name 2 sc_law_drawn.nd rfl (by first | exact Or.inl rfl | exact Or.inr rfl) (by first | exact Or.inl rfl | exact Or.inr rfl))) (fun s H C cl fp thing123 => JTs.one (JT.cl (JT.eq (JE.pick 0 rfl (c_law_pick T (hr.mono (by decide))) JE.int) JE.int) (by first | with_reducible rfl | (simp only [rtbO, rtbG]; done) | (simp only [rtbO, rtbG]; congr; done) | rfl))) (fun s H C cl fp thing123 => JE.cl (JE.var (E := eI) 2 rfl) (by first | with_reducible rfl | (simp only [rtbO, rtbG]; done) | (simp only [rtbO, rtbG]; congr; done) | rfl))))) (by first | with_reducible rfl | (simp only [rtbO, rtbG]; done) | (simp only [rtbO, rtbG]; congr; done) | rfl))) (by first | with_reducible rfl | (simp only [rtbO, rtbG]; done) | (simp only [rtbO, rtbG]; congr; done) | rfl)))
theorem ok_law_drawn {P : Program} {w : World} {K : PySem.W.Frag} {mg : Str → Option Value} {base : Heap} (T : Txt K mg) {f : Addr} {fd : FuncData} (Fu : Fun K "_law_drawn" "_law_drawn" s_law_drawn f fd) : FnOk P w K mg base CX0 2 f fd ["source", "count"] (spG K mg F_law_drawn) :=
 fn_okG Fu sc_law_drawn F_law_drawn (fun ds Q h => by obtain ⟨x0, rfl, hq⟩ := h; rfl) (by decide) fun cdv A outer s H E hr ds Q hF => by
  obtain ⟨x0, rfl, hq⟩ := hF
  refine ⟨_, _, _, t_law_drawn T hr x0, ?_⟩
  first | with_reducible exact hq | exact hq
theorem c_law_drawn {X : Cx} (T : Txt X.K X.mg) (hr : Room 2 X.A) : GCallOk X "_law_drawn" F_law_drawn := by
 obtain ⟨f, fd, hm, Fu, hb⟩ := T.f_law_drawn
 exact ⟨2, f, fd, _, ok_law_drawn T Fu, hr, hm, Fu.kp, hb⟩
abbrev s_subsets : Stmt := topS 5
theorem sc_subsets : FnScope ["things", "size", "found", "at", "rest"] ["things", "size"] (defScope s_subsets) := ⟨rfl, rfl, rfl, by decide +kernel, rfl, by decide +kernel, by decide +kernel⟩
def M.subsets_body (rec : (List Int) → Int → Option (List (List Int))) (p_things : (List Int)) (p_size : Int) : Option (List (List Int)) :=
 ifM (decide (p_size = 0)) (rt [([] : List Int)]) (bd (rt ([] : List (List Int))) fun found1 =>
 bd (lf (range1O (((p_things.length : Int) - p_size) + 1))) fun xs11 =>
 bd (foldM' (fun (at3 : Int) (t2 : (List (List Int))) => bd (bd (lf (rec (cutL p_things (some (at3 + 1)) none) (p_size - 1))) fun x8 =>
 bd (lf (szO x8)) fun xs7 =>
 mapM' (fun (rest4 : (List Int)) => bd (bd (lf (ixO p_things at3)) fun x5 =>
 rt [x5]) fun x6 =>
 lf (catO x6 rest4)) xs7) fun y10 =>
 bd (lf (catO t2 y10)) fun found9 =>
 rt found9) xs11 found1) fun t2 =>
 rt t2)
def M.subsets : Nat → (List Int) → Int → Option (List (List Int))
  | 0 => fun _ _ => none
  | d + 1 => M.subsets_body (M.subsets d)
def F_subsets (d : Nat) : List D → (D → Prop) → Prop := fun ds P => ∃ (x0 : (List Int)) (x1 : Int) (r : (List (List Int))), ds = [(eL eI) x0, eI x1] ∧ M.subsets d x0 x1 = some r ∧ P ((eL (eT eI)) r)
theorem t_subsets {P : Program} {w : World} {K : PySem.W.Frag} {mg : Str → Option Value} {base : Heap} {f : Addr} {cdv : Value} {A : Around} {outer : List PySem.Env} {s : Shared} {H : Hp} {E : XK} (T : Txt K mg) (d : Nat) (hr : Room (1 + d) (Cxf P w K mg base ["things", "size", "found", "at", "rest"] "subsets" s_subsets f cdv A outer s H E).A) (C : CallOk (Cxf P w K mg base ["things", "size", "found", "at", "rest"] "subsets" s_subsets f cdv A outer s H E) "subsets" (F_subsets d)) (p_things : (List Int)) (p_size : Int) : Tail (Cxf P w K mg base ["things", "size", "found", "at", "rest"] "subsets" s_subsets f cdv A outer s H E) (defBody s_subsets) [.d ((eL eI) p_things), .d (eI p_size), .u, .u, .u] (eL (eT eI)) (M.subsets_body (M.subsets d) p_things p_size) := by
 unfold M.subsets_body
 exact (JS.ifTP (JT.cl (JT.eq (JE.var (E := eI) 1 rfl) JE.int) (by first | with_reducible rfl | (simp only [rtbO, rtbG]; done) | (simp only [rtbO, rtbG]; congr; done) | rfl)) (JS.retLP (c := id) (fun _ => rfl) (JL.cl (JL.lst (JH.cons (E := (eT eI)) (JE.tup (E := eI) JH.nil) (JH.nil (E := (eT eI))))) (by first | with_reducible rfl | (simp only [rtbO, rtbG]; done) | (simp only [rtbO, rtbG]; congr; done) | rfl))) (JS.asgL (i := 2) (F := (eT eI)) (JAsL.of sc_subsets.nd rfl (by first | exact Or.inl rfl | exact Or.inr rfl) (by first | exact Or.inl rfl | exact Or.inr rfl) (JL.cl (JL.lst (E := (eT eI)) JH.nil) (by first | with_reducible rfl | (simp only [rtbO, rtbG]; done) | (simp only [rtbO, rtbG]; congr; done) | rfl))) (Nat.le_of_ble_eq_true rfl) (fun found1 => (JS.forS (up := fun ρ x => ρ.set 3 (.d (eI x))) (Ei := eI) (fun (t2 : (List (List Int))) => [.d ((eL eI) p_things), .d (eI p_size), .l (t2.map (eT eI)), .u, .u]) found1 PassesOwn.never rfl (JI.cl (JI.range1 (by rfl) T.m_range (JE.add (JE.sub (JE.len (E := eI) (k := .l) (by rfl) T.m_len (JE.var (E := (eL eI)) 0 rfl)) (JE.var (E := eI) 1 rfl)) JE.int)) (by first | with_reducible rfl | (simp only [rtbO, rtbG]; done) | (simp only [rtbO, rtbG]; congr; done) | rfl)) (JG.name 3 sc_subsets.nd rfl (by first | exact Or.inl rfl | exact Or.inr rfl) (by first | exact Or.inl rfl | exact Or.inr rfl)) (.same (.same (.same (.same (.same (.nil)))))) (fun at3 t2 => (JS.extend (F := (eT eI)) 2 rfl (JE.cl (JL.je (JL.lc0 (M0 := false) (own := [("rest", 4)]) (up := fun ρ x => ρ.set 4 (.d ((eT eI) x))) (E := (eT eI)) (F := (eT eI)) (f := fun (rest4 : (List Int)) => bd (bd (lf (ixO p_things at3)) fun x5 =>
 rt [x5]) fun x6 =>
 lf (catO x6 rest4)) rfl sc_subsets.nd (JI.list (E := (eT eI)) (JL.je (JL.call2 (E1 := (eL eI)) (E2 := eI) (f := (M.subsets d)) (G := (eT eI)) (fun x1 x2 r P h q => ⟨x1, x2, r, rfl, h, q⟩) C (JL.je (JL.sl (E := eI) (JE.var (E := (eL eI)) 0 rfl) (JO.of (JE.add (JE.var (E := eI) 3 rfl) JE.int)) JO.no)) (JE.sub (JE.var (E := eI) 1 rfl) JE.int)))) (by first | exact blkOk_by (own := [("rest", 4)]) (by show blkC ["things", "size", "found", "at", "rest"] (defScope s_subsets) _ _ = true; decide +kernel) | exact blkOk_in (sc0 := defScope s_subsets) (own := [("rest", 4)]) rfl (by show blkC ["things", "size", "found", "at", "rest"] _ _ _ = true; decide +kernel)) (by decide) rfl (fun s H C cl fp => (JG.name 4 sc_subsets.nd rfl (by first | exact Or.inl rfl | exact Or.inr rfl) (by first | exact Or.inl rfl | exact Or.inr rfl))) (fun s H C cl fp rest4 => JE.cl (JE.catT (E := eI) (JE.tup (JH.cons (E := eI) (JE.ix (E := eI) (k := .l) (fun _ _ => rfl) (JE.var (E := (eL eI)) 0 rfl) (JE.var (E := eI) 3 rfl)) (JH.nil (E := eI)))) (JE.var (E := (eT eI)) 4 rfl)) (by first | with_reducible rfl | (simp only [rtbO, rtbG]; done) | (simp only [rtbO, rtbG]; congr; done) | rfl)))) (by first | with_reducible rfl | (simp only [rtbO, rtbG]; done) | (simp only [rtbO, rtbG]; congr; done) | rfl)) (fun found9 => (JS.nil found9 rfl (.same (.same (.same (.drop (.same (.nil)))))))))) (fun t2 => (JS.retV (E := (eT eI)) (c := id) 2 (fun _ => rfl) rfl))))))
theorem ok_subsets {P : Program} {w : World} {K : PySem.W.Frag} {mg : Str → Option Value} {base : Heap} (T : Txt K mg) {f : Addr} {fd : FuncData} (hmg : mg "subsets" = some (.ref f)) (Fu : Fun K "subsets" "subsets" s_subsets f fd) (hb : Binds K fd ["things", "size"] []) : ∀ d, FnOk P w K mg base CX0 (1 + d) f fd ["things", "size"] (spF K mg (F_subsets d))
  | 0 => fn_ok (k := 0) Fu sc_subsets (F_subsets 0) (fun ds Q h => by obtain ⟨x0, x1, r, rfl, hm, hq⟩ := h; rfl) (by decide) fun cdv A outer s H E hr ds Q hF => by
    obtain ⟨x0, x1, r, rfl, hm, hq⟩ := hF
    cases hm
  | d + 1 => fn_ok (k := 1 + d) Fu sc_subsets (F_subsets (d + 1)) (fun ds Q h => by obtain ⟨x0, x1, r, rfl, hm, hq⟩ := h; rfl) (by decide) fun cdv A outer s H E hr ds Q hF => by
    obtain ⟨x0, x1, r, rfl, hm, hq⟩ := hF
    exact ⟨_, _, _, t_subsets T d hr ⟨1 + d, f, fd, _, ok_subsets T hmg Fu hb d, hr, hmg, Fu.kp, hb⟩ x0 x1, r, hm, hq⟩
theorem c_subsets {X : Cx} (d : Nat) (T : Txt X.K X.mg) (hr : Room (1 + d) X.A) : CallOk X "subsets" (F_subsets d) := by
 obtain ⟨f, fd, hm, Fu, hb⟩ := T.f_subsets
 exact ⟨1 + d, f, fd, _, ok_subsets T hm Fu hb d, hr, hm, Fu.kp, hb⟩
abbrev s_telling : Stmt := topS 10
theorem sc_telling : FnScope ["tests", "most", "seen", "size", "bad", "told"] ["tests", "most"] (defScope s_telling) := ⟨rfl, rfl, rfl, by decide +kernel, rfl, by decide +kernel, by decide +kernel⟩
def M.telling (p_tests : TestsR) (p_most : Int) : Option Cl_tell :=
 ifM (!((decide (0 ≤ p_most)) && (decide (p_most ≤ 4)))) (lf none) (bd (lf (range1O (p_most + 1))) fun xs51 =>
 bd (loopM (fun (size40 : Int) (t39 : (List ((List Int) × (List Int)))) => bd (bd (lf (rgO 0 p_tests.count)) fun x41 =>
 lf (M.subsets 6 x41 size40)) fun xs50 =>
 bd (loopM (fun (bad43 : (List Int)) (t42 : (List ((List Int) × (List Int)))) => bd (lf (M.Tests_answers p_tests bad43)) fun told44 =>
 ifM (hasG t42 told44) (bd (bd (lf (getG t42 told44)) fun x45 =>
 rt (Cl_tell.k_alike p_most x45 bad43)) fun x46 =>
 rt (Fl.rt x46)) (bd (rt bad43) fun y48 =>
 bd (rt told44) fun j49 =>
 bd (lf (putO t42 j49 y48)) fun seen47 =>
 rt (Fl.nx seen47))) xs50 t39) (outM Fl.rt fun t42 =>
 rt (Fl.nx t42))) xs51 ([] : (List ((List Int) × (List Int))))) (outM id fun t39 =>
 rt (Cl_tell.k_tells p_most)))
def F_telling : List D → (D → Prop) → Prop := fun ds P => ∃ (x0 : TestsR) (x1 : Int) (r : Cl_tell), ds = [e_Tests x0, eI x1] ∧ M.telling x0 x1 = some r ∧ P (e_Cl_tell r)
theorem t_telling {P : Program} {w : World} {K : PySem.W.Frag} {mg : Str → Option Value} {base : Heap} {f : Addr} {cdv : Value} {A : Around} {outer : List PySem.Env} {s : Shared} {H : Hp} {E : XK} (T : Txt K mg) (hr : Room 7 (Cxf P w K mg base ["tests", "most", "seen", "size", "bad", "told"] "telling" s_telling f cdv A outer s H E).A) (p_tests : TestsR) (p_most : Int) : Tail (Cxf P w K mg base ["tests", "most", "seen", "size", "bad", "told"] "telling" s_telling f cdv A outer s H E) (defBody s_telling) [.d (e_Tests p_tests), .d (eI p_most), .u, .u, .u, .u] e_Cl_tell (M.telling p_tests p_most) := by
 unfold M.telling
 exact (JS.ifTP (JT.cl (JT.not (JT.chainP op_le op_le (by with_unfolding_all rfl) JE.int (JE.var (E := eI) 1 rfl) JE.int)) (by first | with_reducible rfl | (simp only [rtbO, rtbG]; done) | (simp only [rtbO, rtbG]; congr; done) | rfl)) JS.never (JS.newW (d := (eMT kIs (eT eI)) ([] : (List ((List Int) × (List Int))))) 2 (.dT []) (.inr ⟨rfl, rfl⟩) sc_telling.nd rfl (Nat.le_of_ble_eq_true rfl) (by first | exact Or.inl rfl | exact Or.inr rfl) (by first | exact Or.inl rfl | exact Or.inr rfl) (JS.for (up := fun ρ x => ρ.set 3 (.d (eI x))) (Ei := eI) (fun (t39 : (List ((List Int) × (List Int)))) => [.d (e_Tests p_tests), .d (eI p_most), .w ((eMT kIs (eT eI)) t39), .u, .u, .u]) ([] : (List ((List Int) × (List Int)))) id (fun _ => rfl) PassesOwn.never rfl (JI.cl (JI.range1 (by rfl) T.m_range (JE.add (JE.var (E := eI) 1 rfl) JE.int)) (by first | with_reducible rfl | (simp only [rtbO, rtbG]; done) | (simp only [rtbO, rtbG]; congr; done) | rfl)) (JG.name 3 sc_telling.nd rfl (by first | exact Or.inl rfl | exact Or.inr rfl) (by first | exact Or.inl rfl | exact Or.inr rfl)) (.same (.same (.same (.same (.same (.same (.nil))))))) (fun size40 t39 => (JS.for (up := fun ρ x => ρ.set 4 (.d ((eT eI) x))) (Ei := (eT eI)) (fun (t42 : (List ((List Int) × (List Int)))) => [.d (e_Tests p_tests), .d (eI p_most), .w ((eMT kIs (eT eI)) t42), .u, .u, .u]) t39 Fl.rt (fun _ => rfl) PassesOwn.never rfl (JI.cl (JI.list (E := (eT eI)) (JL.je (JL.call2 (E1 := (eL eI)) (E2 := eI) (f := (M.subsets 6)) (G := (eT eI)) (fun x1 x2 r P h q => ⟨x1, x2, r, rfl, h, q⟩) (c_subsets 6 T (hr.mono (by decide))) (JL.je (JL.listRange rfl (by rfl) T.m_list (by rfl) T.m_range (JE.fld (E := e_Tests) (F := eI) (fun x => x.count) 0 (by decide +kernel) (fun _ => ⟨_, rfl, rfl⟩) T.n_Tests_count (JE.var (E := e_Tests) 0 rfl)))) (JE.var (E := eI) 3 rfl)))) (by first | with_reducible rfl | (simp only [rtbO, rtbG]; done) | (simp only [rtbO, rtbG]; congr; done) | rfl)) (JG.name 4 sc_telling.nd rfl (by first | exact Or.inl rfl | exact Or.inr rfl) (by first | exact Or.inl rfl | exact Or.inr rfl)) (.same (.same (.same (.drop (.same (.same (.nil))))))) (fun bad43 t42 => (JS.asg (i := 5) (F := (eT eI)) (JAsE.of sc_telling.nd rfl (by first | exact Or.inl rfl | exact Or.inr rfl) (by first | exact Or.inl rfl | exact Or.inr rfl) (JE.cl (JE.meth1 (E0 := e_Tests) (E1 := (eT eI)) (pl := _) (f := M.Tests_answers) (G := (eT eI)) (fun _ => ⟨_, rfl⟩) (by decide +kernel) (fun x0 x1 r P h q => ⟨.t, x0, x1, r, rfl, h, q⟩) (c_Tests_answers T (hr.mono (by decide))) (JE.var (E := e_Tests) 0 rfl) (JE.var (E := (eT eI)) 4 rfl)) (by first | with_reducible rfl | (simp only [rtbO, rtbG]; done) | (simp only [rtbO, rtbG]; congr; done) | rfl))) (fun told44 => (JS.ifTP (JT.cl (JT.hasG (E := (eT eI)) (dictT keyT_Is (eT eI)) (hu_of hr) (JE.var (E := (eT eI)) 5 rfl) (JE.varW (Ex := (eMT kIs (eT eI))) 2 rfl)) (by first | with_reducible rfl | (simp only [rtbO, rtbG]; done) | (simp only [rtbO, rtbG]; congr; done) | rfl)) (JS.ret (c := Fl.rt) (fun _ => rfl) nl_Cl_tell (JE.cl (JE.up (JE.con3 (F := e_Cl_tell) (g := Cl_tell.k_alike) (fun _ _ _ => rfl) (JE.var (E := eI) 1 rfl) (JE.getG (E := (eT eI)) (dictT keyT_Is (eT eI)) (hu_of hr) (JE.varW (Ex := (eMT kIs (eT eI))) 2 rfl) (JE.var (E := (eT eI)) 5 rfl)) (JE.var (E := (eT eI)) 4 rfl)) pure_Cl_tell) (by first | with_reducible rfl | (simp only [rtbO, rtbG]; done) | (simp only [rtbO, rtbG]; congr; done) | rfl))) (JS.putW (G := (eMT kIs (eT eI))) 2 (dictT keyT_Is (eT eI)) (hu_of hr) rfl (JE.cl (JE.var (E := (eT eI)) 4 rfl) (by first | with_reducible rfl | (simp only [rtbO, rtbG]; done) | (simp only [rtbO, rtbG]; congr; done) | rfl)) (JE.cl (JE.var (E := (eT eI)) 5 rfl) (by first | with_reducible rfl | (simp only [rtbO, rtbG]; done) | (simp only [rtbO, rtbG]; congr; done) | rfl)) (fun seen47 => (JS.nil (Fl.nx seen47) rfl (.same (.same (.same (.same (.drop (.drop (.nil)))))))))))))) (fun t42 => (JS.nil (Fl.nx t42) rfl (.same (.same (.same (.same (.same (.same (.nil))))))))))) (fun t39 => (JS.retP (c := id) (fun _ => rfl) nl_Cl_tell (JE.cl (JE.con1 (F := e_Cl_tell) (g := Cl_tell.k_tells) (fun _ => rfl) (JE.var (E := eI) 1 rfl)) (by first | with_reducible rfl | (simp only [rtbO, rtbG]; done) | (simp only [rtbO, rtbG]; congr; done) | rfl)))))))
theorem ok_telling {P : Program} {w : World} {K : PySem.W.Frag} {mg : Str → Option Value} {base : Heap} (T : Txt K mg) {f : Addr} {fd : FuncData} (Fu : Fun K "telling" "telling" s_telling f fd) : FnOk P w K mg base CX0 8 f fd ["tests", "most"] (spF K mg F_telling) :=
 fn_ok Fu sc_telling F_telling (fun ds Q h => by obtain ⟨x0, x1, r, rfl, hm, hq⟩ := h; rfl) (by decide) fun cdv A outer s H E hr ds Q hF => by
  obtain ⟨x0, x1, r, rfl, hm, hq⟩ := hF
  exact ⟨_, _, _, t_telling T hr x0 x1, r, hm, hq⟩
theorem c_telling {X : Cx} (T : Txt X.K X.mg) (hr : Room 8 X.A) : CallOk X "telling" F_telling := by
 obtain ⟨f, fd, hm, Fu, hb⟩ := T.f_telling
 exact ⟨8, f, fd, _, ok_telling T Fu, hr, hm, Fu.kp, hb⟩
abbrev s_clearing : Stmt := topS 11
theorem sc_clearing : FnScope ["tests", "most", "size", "bad", "thing"] ["tests", "most"] (defScope s_clearing) := ⟨rfl, rfl, rfl, by decide +kernel, rfl, by decide +kernel, by decide +kernel⟩
def M.clearing (p_tests : TestsR) (p_most : Int) : Option Cl_clear :=
 ifM (!((decide (0 ≤ p_most)) && (decide (p_most ≤ 4)))) (lf none) (bd (lf (range1O (p_most + 1))) fun xs62 =>
 bd (loopM (fun (size53 : Int) (t52 : Unit) => bd (bd (lf (rgO 0 p_tests.count)) fun x54 =>
 lf (M.subsets 6 x54 size53)) fun xs61 =>
 bd (loopM (fun (bad56 : (List Int)) (t55 : Unit) => bd (lf (range1O p_tests.count)) fun xs60 =>
 bd (loopM (fun (thing58 : Int) (t57 : Unit) => bd (ifM (!bad56.contains thing58) (lf (M.is_covered p_tests thing58 bad56)) (rt false)) fun b59 => ifM b59 (rt (Fl.rt (Cl_clear.k_covered p_most thing58 bad56))) (rt (Fl.nx ()))) xs60 ()) (outM Fl.rt fun t57 =>
 rt (Fl.nx ()))) xs61 ()) (outM Fl.rt fun t55 =>
 rt (Fl.nx ()))) xs62 ()) (outM id fun t52 =>
 rt (Cl_clear.k_clears p_most)))
def F_clearing : List D → (D → Prop) → Prop := fun ds P => ∃ (x0 : TestsR) (x1 : Int) (r : Cl_clear), ds = [e_Tests x0, eI x1] ∧ M.clearing x0 x1 = some r ∧ P (e_Cl_clear r)
theorem t_clearing {P : Program} {w : World} {K : PySem.W.Frag} {mg : Str → Option Value} {base : Heap} {f : Addr} {cdv : Value} {A : Around} {outer : List PySem.Env} {s : Shared} {H : Hp} {E : XK} (T : Txt K mg) (hr : Room 7 (Cxf P w K mg base ["tests", "most", "size", "bad", "thing"] "clearing" s_clearing f cdv A outer s H E).A) (p_tests : TestsR) (p_most : Int) : Tail (Cxf P w K mg base ["tests", "most", "size", "bad", "thing"] "clearing" s_clearing f cdv A outer s H E) (defBody s_clearing) [.d (e_Tests p_tests), .d (eI p_most), .u, .u, .u] e_Cl_clear (M.clearing p_tests p_most) := by
 unfold M.clearing
 exact (JS.ifTP (JT.cl (JT.not (JT.chainP op_le op_le (by with_unfolding_all rfl) JE.int (JE.var (E := eI) 1 rfl) JE.int)) (by first | with_reducible rfl | (simp only [rtbO, rtbG]; done) | (simp only [rtbO, rtbG]; congr; done) | rfl)) JS.never (JS.for (up := fun ρ x => ρ.set 2 (.d (eI x))) (Ei := eI) (fun (t52 : Unit) => [.d (e_Tests p_tests), .d (eI p_most), .u, .u, .u]) () id (fun _ => rfl) PassesOwn.never rfl (JI.cl (JI.range1 (by rfl) T.m_range (JE.add (JE.var (E := eI) 1 rfl) JE.int)) (by first | with_reducible rfl | (simp only [rtbO, rtbG]; done) | (simp only [rtbO, rtbG]; congr; done) | rfl)) (JG.name 2 sc_clearing.nd rfl (by first | exact Or.inl rfl | exact Or.inr rfl) (by first | exact Or.inl rfl | exact Or.inr rfl)) (.same (.same (.same (.same (.same (.nil)))))) (fun size53 t52 => (JS.for (up := fun ρ x => ρ.set 3 (.d ((eT eI) x))) (Ei := (eT eI)) (fun (t55 : Unit) => [.d (e_Tests p_tests), .d (eI p_most), .u, .u, .u]) () Fl.rt (fun _ => rfl) PassesOwn.never rfl (JI.cl (JI.list (E := (eT eI)) (JL.je (JL.call2 (E1 := (eL eI)) (E2 := eI) (f := (M.subsets 6)) (G := (eT eI)) (fun x1 x2 r P h q => ⟨x1, x2, r, rfl, h, q⟩) (c_subsets 6 T (hr.mono (by decide))) (JL.je (JL.listRange rfl (by rfl) T.m_list (by rfl) T.m_range (JE.fld (E := e_Tests) (F := eI) (fun x => x.count) 0 (by decide +kernel) (fun _ => ⟨_, rfl, rfl⟩) T.n_Tests_count (JE.var (E := e_Tests) 0 rfl)))) (JE.var (E := eI) 2 rfl)))) (by first | with_reducible rfl | (simp only [rtbO, rtbG]; done) | (simp only [rtbO, rtbG]; congr; done) | rfl)) (JG.name 3 sc_clearing.nd rfl (by first | exact Or.inl rfl | exact Or.inr rfl) (by first | exact Or.inl rfl | exact Or.inr rfl)) (.same (.same (.drop (.same (.same (.nil)))))) (fun bad56 t55 => (JS.for (up := fun ρ x => ρ.set 4 (.d (eI x))) (Ei := eI) (fun (t57 : Unit) => [.d (e_Tests p_tests), .d (eI p_most), .u, .d ((eT eI) bad56), .u]) () Fl.rt (fun _ => rfl) PassesOwn.never rfl (JI.cl (JI.range1 (by rfl) T.m_range (JE.fld (E := e_Tests) (F := eI) (fun x => x.count) 0 (by decide +kernel) (fun _ => ⟨_, rfl, rfl⟩) T.n_Tests_count (JE.var (E := e_Tests) 0 rfl))) (by first | with_reducible rfl | (simp only [rtbO, rtbG]; done) | (simp only [rtbO, rtbG]; congr; done) | rfl)) (JG.name 4 sc_clearing.nd rfl (by first | exact Or.inl rfl | exact Or.inr rfl) (by first | exact Or.inl rfl | exact Or.inr rfl)) (.same (.same (.same (.same (.same (.nil)))))) (fun thing58 t57 => (JS.ifT (JT.cl (JW.jt (JW.and (JT.ninI (k := .t) (JE.var (E := eI) 4 rfl) (JE.var (E := (eT eI)) 3 rfl)) (JW.and1 (JT.val (JE.call3 (E1 := e_Tests) (E2 := eI) (E3 := (eT eI)) (f := M.is_covered) (G := eB) (fun x1 x2 x3 r P h q => ⟨x1, x2, x3, r, rfl, h, q⟩) (c_is_covered T (hr.mono (by decide))) (JE.var (E := e_Tests) 0 rfl) (JE.var (E := eI) 4 rfl) (JE.var (E := (eT eI)) 3 rfl)))))) (by first | with_reducible rfl | (simp only [rtbO, rtbG]; done) | (simp only [rtbO, rtbG]; congr; done) | rfl)) (JS.retP (c := Fl.rt) (fun _ => rfl) nl_Cl_clear (JE.cl (JE.con3 (F := e_Cl_clear) (g := Cl_clear.k_covered) (fun _ _ _ => rfl) (JE.var (E := eI) 1 rfl) (JE.var (E := eI) 4 rfl) (JE.var (E := (eT eI)) 3 rfl)) (by first | with_reducible rfl | (simp only [rtbO, rtbG]; done) | (simp only [rtbO, rtbG]; congr; done) | rfl))) (JS.nil (Fl.nx ()) rfl (.same (.same (.same (.same (.drop (.nil))))))))) (fun t57 => (JS.nil (Fl.nx ()) rfl (.same (.same (.same (.drop (.same (.nil)))))))))) (fun t55 => (JS.nil (Fl.nx ()) rfl (.same (.same (.same (.same (.same (.nil)))))))))) (fun t52 => (JS.retP (c := id) (fun _ => rfl) nl_Cl_clear (JE.cl (JE.con1 (F := e_Cl_clear) (g := Cl_clear.k_clears) (fun _ => rfl) (JE.var (E := eI) 1 rfl)) (by first | with_reducible rfl | (simp only [rtbO, rtbG]; done) | (simp only [rtbO, rtbG]; congr; done) | rfl))))))
theorem ok_clearing {P : Program} {w : World} {K : PySem.W.Frag} {mg : Str → Option Value} {base : Heap} (T : Txt K mg) {f : Addr} {fd : FuncData} (Fu : Fun K "clearing" "clearing" s_clearing f fd) : FnOk P w K mg base CX0 8 f fd ["tests", "most"] (spF K mg F_clearing) :=
 fn_ok Fu sc_clearing F_clearing (fun ds Q h => by obtain ⟨x0, x1, r, rfl, hm, hq⟩ := h; rfl) (by decide) fun cdv A outer s H E hr ds Q hF => by
  obtain ⟨x0, x1, r, rfl, hm, hq⟩ := hF
  exact ⟨_, _, _, t_clearing T hr x0 x1, r, hm, hq⟩
theorem c_clearing {X : Cx} (T : Txt X.K X.mg) (hr : Room 8 X.A) : CallOk X "clearing" F_clearing := by
 obtain ⟨f, fd, hm, Fu, hb⟩ := T.f_clearing
 exact ⟨8, f, fd, _, ok_clearing T Fu, hr, hm, Fu.kp, hb⟩
abbrev s_explained : Stmt := topS 14
theorem sc_explained : FnScope ["tests", "answers", "most", "own", "found", "size", "bad"] ["tests", "answers", "most"] (defScope s_explained) := ⟨rfl, rfl, rfl, by decide +kernel, rfl, by decide +kernel, by decide +kernel⟩
def M.explained (p_tests : TestsR) (p_answers : (List Int)) (p_most : Int) : Option (List (List Int)) :=
 bd (lf (M.suspects p_tests p_answers)) fun own86 =>
 bd (rt ([] : List (List Int))) fun found87 =>
 bd (lf (range1O (p_most + 1))) fun xs96 =>
 bd (foldM' (fun (size89 : Int) (t88 : (List (List Int))) => bd (bd (lf (M.subsets 6 own86 size89)) fun x93 =>
 bd (lf (szO x93)) fun xs92 =>
 lcM (fun (bad90 : (List Int)) => bd (lf (M.Tests_answers p_tests bad90)) fun x91 =>
 rt (decide (x91 = p_answers))) (fun (bad90 : (List Int)) => rt bad90) xs92) fun y95 =>
 bd (lf (catO t88 y95)) fun found94 =>
 rt found94) xs96 found87) fun t88 =>
 rt t88
def F_explained : List D → (D → Prop) → Prop := fun ds P => ∃ (x0 : TestsR) (x1 : (List Int)) (x2 : Int) (r : (List (List Int))), ds = [e_Tests x0, (eT eI) x1, eI x2] ∧ M.explained x0 x1 x2 = some r ∧ P ((eL (eT eI)) r)
theorem t_explained {P : Program} {w : World} {K : PySem.W.Frag} {mg : Str → Option Value} {base : Heap} {f : Addr} {cdv : Value} {A : Around} {outer : List PySem.Env} {s : Shared} {H : Hp} {E : XK} (T : Txt K mg) (hr : Room 7 (Cxf P w K mg base ["tests", "answers", "most", "own", "found", "size", "bad"] "explained" s_explained f cdv A outer s H E).A) (p_tests : TestsR) (p_answers : (List Int)) (p_most : Int) : Tail (Cxf P w K mg base ["tests", "answers", "most", "own", "found", "size", "bad"] "explained" s_explained f cdv A outer s H E) (defBody s_explained) [.d (e_Tests p_tests), .d ((eT eI) p_answers), .d (eI p_most), .u, .u, .u, .u] (eL (eT eI)) (M.explained p_tests p_answers p_most) := by
 unfold M.explained
 exact (JS.asg (i := 3) (F := (eL eI)) (JAsL.ofL (JAsL.of sc_explained.nd rfl (by first | exact Or.inl rfl | exact Or.inr rfl) (by first | exact Or.inl rfl | exact Or.inr rfl) (JL.cl (JL.call2 (E1 := e_Tests) (E2 := (eT eI)) (f := M.suspects) (G := eI) (fun x1 x2 r P h q => ⟨x1, x2, r, rfl, h, q⟩) (c_suspects T (hr.mono (by decide))) (JE.var (E := e_Tests) 0 rfl) (JE.var (E := (eT eI)) 1 rfl)) (by first | with_reducible rfl | (simp only [rtbO, rtbG]; done) | (simp only [rtbO, rtbG]; congr; done) | rfl)))) (fun own86 => (JS.asgL (i := 4) (F := (eT eI)) (JAsL.of sc_explained.nd rfl (by first | exact Or.inl rfl | exact Or.inr rfl) (by first | exact Or.inl rfl | exact Or.inr rfl) (JL.cl (JL.lst (E := (eT eI)) JH.nil) (by first | with_reducible rfl | (simp only [rtbO, rtbG]; done) | (simp only [rtbO, rtbG]; congr; done) | rfl))) (Nat.le_of_ble_eq_true rfl) (fun found87 => (JS.forS (up := fun ρ x => ρ.set 5 (.d (eI x))) (Ei := eI) (fun (t88 : (List (List Int))) => [.d (e_Tests p_tests), .d ((eT eI) p_answers), .u, .d ((eL eI) own86), .l (t88.map (eT eI)), .u, .u]) found87 PassesOwn.never rfl (JI.cl (JI.range1 (by rfl) T.m_range (JE.add (JE.var (E := eI) 2 rfl) JE.int)) (by first | with_reducible rfl | (simp only [rtbO, rtbG]; done) | (simp only [rtbO, rtbG]; congr; done) | rfl)) (JG.name 5 sc_explained.nd rfl (by first | exact Or.inl rfl | exact Or.inr rfl) (by first | exact Or.inl rfl | exact Or.inr rfl)) (.same (.same (.drop (.same (.same (.same (.same (.nil)))))))) (fun size89 t88 => (JS.extend (F := (eT eI)) 4 rfl (JE.cl (JL.je (JL.lc (M0 := false) (own := [("bad", 6)]) (up := fun ρ x => ρ.set 6 (.d ((eT eI) x))) (E := (eT eI)) (F := (eT eI)) (cM := fun (bad90 : (List Int)) => bd (lf (M.Tests_answers p_tests bad90)) fun x91 =>
 rt (decide (x91 = p_answers))) (f := fun (bad90 : (List Int)) => rt bad90) rfl sc_explained.nd (JI.list (E := (eT eI)) (JL.je (JL.call2 (E1 := (eL eI)) (E2 := eI) (f := (M.subsets 6)) (G := (eT eI)) (fun x1 x2 r P h q => ⟨x1, x2, r, rfl, h, q⟩) (c_subsets 6 T (hr.mono (by decide))) (JE.var (E := (eL eI)) 3 rfl) (JE.var (E := eI) 5 rfl)))) (by first | exact blkOk_by (own := [("bad", 6)]) (by show blkC ["tests", "answers", "most", "own", "found", "size", "bad"] (defScope s_explained) _ _ = true; decide +kernel) | exact blkOk_in (sc0 := defScope s_explained) (own := [("bad", 6)]) rfl (by show blkC ["tests", "answers", "most", "own", "found", "size", "bad"] _ _ _ = true; decide +kernel)) (by decide) rfl (fun s H C cl fp => (JG.name 6 sc_explained.nd rfl (by first | exact Or.inl rfl | exact Or.inr rfl) (by first | exact Or.inl rfl | exact Or.inr rfl))) (fun s H C cl fp bad90 => JTs.one (JT.cl (JT.eqF (E := (eT eI)) hr.units (fth_Q fth_I) (shp_Q shp_I) (by decide) (JE.meth1 (E0 := e_Tests) (E1 := (eT eI)) (pl := _) (f := M.Tests_answers) (G := (eT eI)) (fun _ => ⟨_, rfl⟩) (by decide +kernel) (fun x0 x1 r P h q => ⟨.t, x0, x1, r, rfl, h, q⟩) (c_Tests_answers T (hr.mono (by decide))) (JE.var (E := e_Tests) 0 rfl) (JE.var (E := (eT eI)) 6 rfl)) (JE.tupleT (E := eI) (by rfl) T.m_tuple (JE.var (E := (eT eI)) 1 rfl))) (by first | with_reducible rfl | (simp only [rtbO, rtbG]; done) | (simp only [rtbO, rtbG]; congr; done) | rfl))) (fun s H C cl fp bad90 => JE.cl (JE.var (E := (eT eI)) 6 rfl) (by first | with_reducible rfl | (simp only [rtbO, rtbG]; done) | (simp only [rtbO, rtbG]; congr; done) | rfl)))) (by first | with_reducible rfl | (simp only [rtbO, rtbG]; done) | (simp only [rtbO, rtbG]; congr; done) | rfl)) (fun found94 => (JS.nil found94 rfl (.same (.same (.same (.same (.same (.drop (.same (.nil)))))))))))) (fun t88 => (JS.retV (E := (eT eI)) (c := id) 4 (fun _ => rfl) rfl)))))))
theorem ok_explained {P : Program} {w : World} {K : PySem.W.Frag} {mg : Str → Option Value} {base : Heap} (T : Txt K mg) {f : Addr} {fd : FuncData} (Fu : Fun K "explained" "explained" s_explained f fd) : FnOk P w K mg base CX0 8 f fd ["tests", "answers", "most"] (spF K mg F_explained) :=
 fn_ok Fu sc_explained F_explained (fun ds Q h => by obtain ⟨x0, x1, x2, r, rfl, hm, hq⟩ := h; rfl) (by decide) fun cdv A outer s H E hr ds Q hF => by
  obtain ⟨x0, x1, x2, r, rfl, hm, hq⟩ := hF
  exact ⟨_, _, _, t_explained T hr x0 x1 x2, r, hm, hq⟩
theorem c_explained {X : Cx} (T : Txt X.K X.mg) (hr : Room 8 X.A) : CallOk X "explained" F_explained := by
 obtain ⟨f, fd, hm, Fu, hb⟩ := T.f_explained
 exact ⟨8, f, fd, _, ok_explained T Fu, hr, hm, Fu.kp, hb⟩
abbrev s_law_right : Stmt := topS 21
theorem sc_law_right : FnScope ["source", "count", "sets", "tests", "one", "other", "both", "first", "second", "told", "own", "wide", "some", "more", "again", "order", "moved", "out", "fewer", "most", "tells", "clears", "single", "thing", "a", "b", "bad", "test"] ["source"] (defScope s_law_right) := ⟨rfl, rfl, rfl, by decide +kernel, rfl, by decide +kernel, by decide +kernel⟩
def M.law_right  : G Bool :=
 bd (bd (pickM 9) fun x131 =>
 rt (2 + x131)) fun count132 =>
 bd (M.law_drawn count132) fun sets133 =>
 bd (bd (bd (pickM 3) fun x134 =>
 rt (decide (x134 = 0))) fun b279 => ifM b279 (bd (bd (bd (lf (range1O count132)) fun x145 =>
 bd (lf (szO x145)) fun xs144 =>
 lcM (fun (thing142 : Int) => bd (pickM 4) fun x143 =>
 rt (decide (0 < x143))) (fun (thing142 : Int) => rt [thing142]) xs144) fun x146 =>
 lf (catO sets133 x146)) fun sets147 =>
 rt sets147) (rt sets133)) fun (t141 : (List (List Int))) =>
 bd (lf (M.mk_Tests count132 t141)) fun tests148 =>
 bd (bd (lf (range1O count132)) fun x152 =>
 bd (lf (szO x152)) fun xs151 =>
 lcM (fun (thing149 : Int) => bd (pickM 4) fun x150 =>
 rt (decide (x150 = 0))) (fun (thing149 : Int) => rt thing149) xs151) fun one153 =>
 bd (bd (lf (range1O count132)) fun x157 =>
 bd (lf (szO x157)) fun xs156 =>
 lcM (fun (thing154 : Int) => bd (pickM 4) fun x155 =>
 rt (decide (x155 = 0))) (fun (thing154 : Int) => rt thing154) xs156) fun other158 =>
 bd (bd (bd (bd (lf (szO other158)) fun xs160 =>
 rt ((xs160.filter fun (thing159 : Int) => (!one153.contains thing159)).map fun (thing159 : Int) => thing159)) fun x161 =>
 lf (catO one153 x161)) fun x162 =>
 rt (sortI x162)) fun both163 =>
 bd (lf (M.Tests_answers tests148 one153)) fun first164 =>
 bd (lf (M.Tests_answers tests148 other158)) fun second165 =>
 bd (lf (M.Tests_answers tests148 both163)) fun told166 =>
 bd (bd (bd (bd (bd (lf (szO (first164.zip second165))) fun xs168 =>
 rt (xs168.map fun (a167 : (Int × Int)) => (if a167.2 > a167.1 then a167.2 else a167.1))) fun x169 =>
 rt x169) fun x170 =>
 rt (!decide (told166 = x170))) fun x173 =>
 ifM x173 (rt true) (bd (lf (M.Tests_answers tests148 ([] : List Int))) fun x171 =>
 bd (lf (repO [0] (t141.length : Int))) fun x172 =>
 rt (!decide (x171 = x172)))) fun b278 => ifM b278 (rt false) (bd (lf (M.suspects tests148 first164)) fun own174 =>
 bd (lf (M.suspects tests148 told166)) fun wide175 =>
 bd (bd (bd (bd (lf (szO one153)) fun xs177 =>
 rt ((xs177.filter fun (thing176 : Int) => (!own174.contains thing176)).map fun (thing176 : Int) => thing176)) fun x178 =>
 rt (!decide (x178 = ([] : (List Int))))) fun x184 =>
 ifM x184 (rt true) (bd (bd (bd (lf (szO own174)) fun xs180 =>
 rt ((xs180.filter fun (thing179 : Int) => (!wide175.contains thing179)).map fun (thing179 : Int) => thing179)) fun x181 =>
 rt (!decide (x181 = ([] : (List Int))))) fun x183 =>
 ifM x183 (rt true) (bd (lf (M.Tests_answers tests148 own174)) fun x182 =>
 rt (!decide (x182 = first164))))) fun b277 => ifM b277 (rt false) (bd (lf (M.explained tests148 first164 2)) fun some185 =>
 bd (ifM ((decide ((one153.length : Int) ≤ 2)) && (!decide (one153 ∈ some185))) (rt true) (bd (bd (lf (szO some185)) fun xs192 =>
 lcM (fun (bad186 : (List Int)) => bd (bd (lf (M.Tests_answers tests148 bad186)) fun x187 =>
 rt (!decide (x187 = first164))) fun x191 =>
 ifM x191 (rt true) (bd (bd (lf (szO bad186)) fun xs189 =>
 rt ((xs189.filter fun (thing188 : Int) => (!own174.contains thing188)).map fun (thing188 : Int) => thing188)) fun x190 =>
 rt (!decide (x190 = ([] : (List Int)))))) (fun (bad186 : (List Int)) => rt bad186) xs192) fun x193 =>
 rt (!decide (x193 = ([] : (List (List Int))))))) fun b276 => ifM b276 (rt false) (bd (bd (bd (bd (M.law_drawn count132) fun x194 =>
 rt (cutL x194 none (some 2))) fun x195 =>
 lf (catO t141 x195)) fun x196 =>
 lf (M.mk_Tests count132 x196)) fun more197 =>
 bd (bd (bd (lf (catO t141 (cutL t141 none (some 1)))) fun x198 =>
 M.law_mixed_2 x198) fun x199 =>
 lf (M.mk_Tests count132 x199)) fun again200 =>
 bd (bd (lf (rgO 0 count132)) fun x201 =>
 M.law_mixed x201) fun order202 =>
 bd (bd (bd (lf (szO t141)) fun xs206 =>
 mapM' (fun (test203 : (List Int)) => bd (lf (szO test203)) fun xs205 =>
 mapM' (fun (thing204 : Int) => lf (ixO order202 thing204)) xs205) xs206) fun x207 =>
 lf (M.mk_Tests count132 x207)) fun moved208 =>
 bd (pickM count132) fun out209 =>
 bd (bd (bd (lf (szO t141)) fun xs213 =>
 mapM' (fun (test210 : (List Int)) => bd (lf (szO test210)) fun xs212 =>
 rt ((xs212.filter fun (thing211 : Int) => (!decide (thing211 = out209))).map fun (thing211 : Int) => (thing211 - (if (decide (out209 < thing211)) then 1 else 0)))) xs213) fun x214 =>
 lf (M.mk_Tests (count132 - 1) x214)) fun fewer215 =>
 bd (lf (range1O 3)) fun xs275 =>
 bd (loopM (fun (most228 : Int) (t216 : Unit) => bd (bd (bd (lf (M.telling tests148 most228)) fun x229 =>
 rt x229.word) fun x230 =>
 rt (decide (x230 = ("tells" : Str)))) fun tells231 =>
 bd (bd (bd (lf (M.clearing tests148 most228)) fun x232 =>
 rt x232.word) fun x233 =>
 rt (decide (x233 = ("clears" : Str)))) fun clears234 =>
 bd (ifM (clears234 && (!tells231)) (rt true) (bd (bd (bd (lf (M.telling again200 most228)) fun x235 =>
 rt x235.word) fun x237 =>
 bd (bd (lf (M.telling tests148 most228)) fun x236 =>
 rt x236.word) fun x238 =>
 rt (!decide (x237 = x238))) fun x243 =>
 ifM x243 (rt true) (bd (bd (lf (M.clearing again200 most228)) fun x239 =>
 rt x239.word) fun x241 =>
 bd (bd (lf (M.clearing tests148 most228)) fun x240 =>
 rt x240.word) fun x242 =>
 rt (!decide (x241 = x242))))) fun b274 => ifM b274 (rt (Fl.rt false)) (bd (bd (bd (bd (lf (M.telling moved208 most228)) fun x244 =>
 rt x244.word) fun x246 =>
 bd (bd (lf (M.telling tests148 most228)) fun x245 =>
 rt x245.word) fun x247 =>
 rt (!decide (x246 = x247))) fun x252 =>
 ifM x252 (rt true) (bd (bd (lf (M.clearing moved208 most228)) fun x248 =>
 rt x248.word) fun x250 =>
 bd (bd (lf (M.clearing tests148 most228)) fun x249 =>
 rt x249.word) fun x251 =>
 rt (!decide (x250 = x251)))) fun b273 => ifM b273 (rt (Fl.rt false)) (bd (ifM tells231 (bd (bd (bd (lf (M.telling more197 most228)) fun x253 =>
 rt x253.word) fun x254 =>
 rt (!decide (x254 = ("tells" : Str)))) fun x257 =>
 ifM x257 (rt true) (bd (bd (lf (M.telling fewer215 most228)) fun x255 =>
 rt x255.word) fun x256 =>
 rt (!decide (x256 = ("tells" : Str))))) (rt false)) fun b272 => ifM b272 (rt (Fl.rt false)) (bd (ifM clears234 (bd (bd (bd (lf (M.clearing more197 most228)) fun x258 =>
 rt x258.word) fun x259 =>
 rt (!decide (x259 = ("clears" : Str)))) fun x262 =>
 ifM x262 (rt true) (bd (bd (lf (M.clearing fewer215 most228)) fun x260 =>
 rt x260.word) fun x261 =>
 rt (!decide (x261 = ("clears" : Str))))) (rt false)) fun b271 => ifM b271 (rt (Fl.rt false)) (bd (bd (bd (bd (lf (M.telling tests148 (most228 + 1))) fun x263 =>
 rt x263.word) fun x264 =>
 rt (decide (x264 = ("tells" : Str)))) fun x265 =>
 ifM x265 (rt (!(tells231 && clears234))) (rt false)) fun b270 => ifM b270 (rt (Fl.rt false)) (bd (bd (bd (bd (lf (M.clearing tests148 (most228 + 1))) fun x266 =>
 rt x266.word) fun x267 =>
 rt (decide (x267 = ("clears" : Str)))) fun x268 =>
 ifM x268 (rt (!clears234)) (rt false)) fun b269 => ifM b269 (rt (Fl.rt false)) (rt (Fl.nx ())))))))) xs275 ()) (outM id fun t216 =>
 bd (bd (bd (lf (range1O count132)) fun x219 =>
 bd (lf (szO x219)) fun xs218 =>
 rt (xs218.map fun (thing217 : Int) => [thing217])) fun x220 =>
 lf (M.mk_Tests count132 x220)) fun single221 =>
 bd (bd (bd (bd (lf (M.clearing single221 3)) fun x222 =>
 rt x222.word) fun x223 =>
 rt (decide (x223 = ("clears" : Str)))) fun x226 =>
 ifM x226 (bd (bd (lf (M.Tests_answers single221 both163)) fun x224 =>
 lf (M.suspects single221 x224)) fun x225 =>
 rt (decide (x225 = both163))) (rt false)) fun x227 =>
 rt x227))))
def F_law_right : List D → (D → Prop) → Prop := fun ds P => ds = [] ∧ (M.law_right ).wp fun r => P (eB r)
theorem t_law_right {P : Program} {w : World} {K : PySem.W.Frag} {mg : Str → Option Value} {base : Heap} {f : Addr} {cdv : Value} {A : Around} {outer : List PySem.Env} {s : Shared} {H : Hp} {E : XK} (T : Txt K mg) (hr : Room 8 (Cxf P w K mg base ["source", "count", "sets", "tests", "one", "other", "both", "first", "second", "told", "own", "wide", "some", "more", "again", "order", "moved", "out", "fewer", "most", "tells", "clears", "single", "thing", "a", "b", "bad", "test"] "_law_right" s_law_right f cdv A outer s H E).A)  : Tail (Cxf P w K mg base ["source", "count", "sets", "tests", "one", "other", "both", "first", "second", "told", "own", "wide", "some", "more", "again", "order", "moved", "out", "fewer", "most", "tells", "clears", "single", "thing", "a", "b", "bad", "test"] "_law_right" s_law_right f cdv A outer s H E) (defBody s_law_right) [.src, .u, .u, .u, .u, .u, .u, .u, .u, .u, .u, .u, .u, .u, .u, .u, .u, .u, .u, .u, .u, .u, .u, .u, .u, .u, .u, .u] eB (M.law_right ) := by
 unfold M.law_right
 exact (JS.asg (i := 1) (F := eI) (JAsE.of sc_law_right.nd rfl (by first | exact Or.inl rfl | exact Or.inr rfl) (by first | exact Or.inl rfl | exact Or.inr rfl) (JE.cl (JE.add JE.int (JE.pick 0 rfl (c_law_pick T (hr.mono (by decide))) JE.int)) (by first | with_reducible rfl | (simp only [rtbO, rtbG]; done) | (simp only [rtbO, rtbG]; congr; done) | rfl))) (fun count132 => (JS.to (ρ' := [.src, .d (eI count132), .u, .u, .u, .u, .u, .u, .u, .u, .u, .u, .u, .u, .u, .u, .u, .u, .u, .u, .u, .u, .u, .u, .u, .u, .u, .u]) rfl (JS.asg (i := 2) (F := (eL (eT eI))) (JAsL.ofL (JAsL.of sc_law_right.nd rfl (by first | exact Or.inl rfl | exact Or.inr rfl) (by first | exact Or.inl rfl | exact Or.inr rfl) (JL.cl (JL.gcall1 (E1 := eI) (f := M.law_drawn) (G' := (eT eI)) 0 rfl (fun x1 P h => ⟨x1, rfl, by first | with_reducible exact h | exact h⟩) (c_law_drawn T (hr.mono (by decide))) (JE.var (E := eI) 1 rfl)) (by first | with_reducible rfl | (simp only [rtbO, rtbG]; done) | (simp only [rtbO, rtbG]; congr; done) | rfl)))) (fun sets133 => (JS.to (ρ' := [.src, .d (eI count132), .d ((eL (eT eI)) sets133), .u, .u, .u, .u, .u, .u, .u, .u, .u, .u, .u, .u, .u, .u, .u, .u, .u, .u, .u, .u, .u, .u, .u, .u, .u]) rfl (JS.ifJ (f := fun (t141 : (List (List Int))) => [.src, .d (eI count132), .d ((eL (eT eI)) t141), .u, .u, .u, .u, .u, .u, .u, .u, .u, .u, .u, .u, .u, .u, .u, .u, .u, .u, .u, .u, .u, .u, .u, .u, .u]) (JT.cl (JT.eq (JE.pick 0 rfl (c_law_pick T (hr.mono (by decide))) JE.int) JE.int) (by first | with_reducible rfl | (simp only [rtbO, rtbG]; done) | (simp only [rtbO, rtbG]; congr; done) | rfl)) (JS.asg (i := 2) (F := (eL (eT eI))) (JAsL.ofL (JAsL.of sc_law_right.nd rfl (by first | exact Or.inl rfl | exact Or.inr rfl) (by first | exact Or.inl rfl | exact Or.inr rfl) (JL.cl (JL.cat (E := (eT eI)) (JE.var (E := (eL (eT eI))) 2 rfl) (JL.je (JL.lc (M0 := false) (own := [("thing", 23)]) (up := fun ρ x => ρ.set 23 (.d (eI x))) (E := eI) (F := (eT eI)) (cM := fun (thing142 : Int) => bd (pickM 4) fun x143 =>
 rt (decide (0 < x143))) (f := fun (thing142 : Int) => rt [thing142]) rfl sc_law_right.nd (JI.range1 (by rfl) T.m_range (JE.var (E := eI) 1 rfl)) (by first | exact blkOk_by (own := [("thing", 23)]) (by show blkC ["source", "count", "sets", "tests", "one", "other", "both", "first", "second", "told", "own", "wide", "some", "more", "again", "order", "moved", "out", "fewer", "most", "tells", "clears", "single", "thing", "a", "b", "bad", "test"] (defScope s_law_right) _ _ = true; decide +kernel) | exact blkOk_in (sc0 := defScope s_law_right) (own := [("thing", 23)]) rfl (by show blkC ["source", "count", "sets", "tests", "one", "other", "both", "first", "second", "told", "own", "wide", "some", "more", "again", "order", "moved", "out", "fewer", "most", "tells", "clears", "single", "thing", "a", "b", "bad", "test"] _ _ _ = true; decide +kernel)) (by decide) rfl (fun s H C cl fp => (JG.name 23 sc_law_right.nd rfl (by first | exact Or.inl rfl | exact Or.inr rfl) (by first | exact Or.inl rfl | exact Or.inr rfl))) (fun s H C cl fp thing142 => JTs.one (JT.cl (JT.gt (JE.pick 0 rfl (c_law_pick T (hr.mono (by decide))) JE.int) JE.int) (by first | with_reducible rfl | (simp only [rtbO, rtbG]; done) | (simp only [rtbO, rtbG]; congr; done) | rfl))) (fun s H C cl fp thing142 => JE.cl (JE.tup (JH.cons (E := eI) (JE.var (E := eI) 23 rfl) (JH.nil (E := eI)))) (by first | with_reducible rfl | (simp only [rtbO, rtbG]; done) | (simp only [rtbO, rtbG]; congr; done) | rfl))))) (by first | with_reducible rfl | (simp only [rtbO, rtbG]; done) | (simp only [rtbO, rtbG]; congr; done) | rfl)))) (fun sets147 => (JS.to (ρ' := [.src, .d (eI count132), .d ((eL (eT eI)) sets147), .u, .u, .u, .u, .u, .u, .u, .u, .u, .u, .u, .u, .u, .u, .u, .u, .u, .u, .u, .u, .u, .u, .u, .u, .u]) rfl (JS.nil sets147 rfl (.same (.same (.same (.same (.same (.same (.same (.same (.same (.same (.same (.same (.same (.same (.same (.same (.same (.same (.same (.same (.same (.same (.same (.same (.same (.same (.same (.same (.nil))))))))))))))))))))))))))))))))) (JS.nil sets133 rfl (.same (.same (.same (.same (.same (.same (.same (.same (.same (.same (.same (.same (.same (.same (.same (.same (.same (.same (.same (.same (.same (.same (.same (.same (.same (.same (.same (.same (.nil)))))))))))))))))))))))))))))) (fun t141 => (JS.asg (i := 3) (F := e_Tests) (JAsE.of sc_law_right.nd rfl (by first | exact Or.inl rfl | exact Or.inr rfl) (by first | exact Or.inl rfl | exact Or.inr rfl) (JE.cl (JE.make2 (E1 := eI) (E2 := (eL (eT eI))) (f := M.mk_Tests) (E := e_Tests) (fl := fl_Tests) (fun x1 x2 r P h q => ⟨.t, x1, x2, r, rfl, h, q⟩) (fun _ => rfl) (c_mk_Tests T (hr.mono (by decide))) (JE.var (E := eI) 1 rfl) (JE.var (E := (eL (eT eI))) 2 rfl)) (by first | with_reducible rfl | (simp only [rtbO, rtbG]; done) | (simp only [rtbO, rtbG]; congr; done) | rfl))) (fun tests148 => (JS.to (ρ' := [.src, .d (eI count132), .d ((eL (eT eI)) t141), .d (e_Tests tests148), .u, .u, .u, .u, .u, .u, .u, .u, .u, .u, .u, .u, .u, .u, .u, .u, .u, .u, .u, .u, .u, .u, .u, .u]) rfl (JS.asg (i := 4) (F := (eL eI)) (JAsL.ofL (JAsL.of sc_law_right.nd rfl (by first | exact Or.inl rfl | exact Or.inr rfl) (by first | exact Or.inl rfl | exact Or.inr rfl) (JL.cl (JL.lc (M0 := false) (own := [("thing", 23)]) (up := fun ρ x => ρ.set 23 (.d (eI x))) (E := eI) (F := eI) (cM := fun (thing149 : Int) => bd (pickM 4) fun x150 =>
 rt (decide (x150 = 0))) (f := fun (thing149 : Int) => rt thing149) rfl sc_law_right.nd (JI.range1 (by rfl) T.m_range (JE.var (E := eI) 1 rfl)) (by first | exact blkOk_by (own := [("thing", 23)]) (by show blkC ["source", "count", "sets", "tests", "one", "other", "both", "first", "second", "told", "own", "wide", "some", "more", "again", "order", "moved", "out", "fewer", "most", "tells", "clears", "single", "thing", "a", "b", "bad", "test"] (defScope s_law_right) _ _ = true; decide +kernel) | exact blkOk_in (sc0 := defScope s_law_right) (own := [("thing", 23)]) rfl (by show blkC ["source", "count", "sets", "tests", "one", "other", "both", "first", "second", "told", "own", "wide", "some", "more", "again", "order", "moved", "out", "fewer", "most", "tells", "clears", "single", "thing", "a", "b", "bad", "test"] _ _ _ = true; decide +kernel)) (by decide) rfl (fun s H C cl fp => (JG.name 23 sc_law_right.nd rfl (by first | exact Or.inl rfl | exact Or.inr rfl) (by first | exact Or.inl rfl | exact Or.inr rfl))) (fun s H C cl fp thing149 => JTs.one (JT.cl (JT.eq (JE.pick 0 rfl (c_law_pick T (hr.mono (by decide))) JE.int) JE.int) (by first | with_reducible rfl | (simp only [rtbO, rtbG]; done) | (simp only [rtbO, rtbG]; congr; done) | rfl))) (fun s H C cl fp thing149 => JE.cl (JE.var (E := eI) 23 rfl) (by first | with_reducible rfl | (simp only [rtbO, rtbG]; done) | (simp only [rtbO, rtbG]; congr; done) | rfl))) (by first | with_reducible rfl | (simp only [rtbO, rtbG]; done) | (simp only [rtbO, rtbG]; congr; done) | rfl)))) (fun one153 => (JS.to (ρ' := [.src, .d (eI count132), .d ((eL (eT eI)) t141), .d (e_Tests tests148), .d ((eL eI) one153), .u, .u, .u, .u, .u, .u, .u, .u, .u, .u, .u, .u, .u, .u, .u, .u, .u, .u, .u, .u, .u, .u, .u]) rfl (JS.asg (i := 5) (F := (eL eI)) (JAsL.ofL (JAsL.cl (JAsL.lc (M0 := false) (own := [("thing", 23)]) (up := fun ρ x => ρ.set 23 (.d (eI x))) (E := eI) (F := eI) (cM := fun (thing154 : Int) => bd (pickM 4) fun x155 =>
 rt (decide (x155 = 0))) (f := fun (thing154 : Int) => rt thing154) rfl sc_law_right.nd rfl rfl (sw_true rfl rfl rfl (by decide +kernel)) (JI.range1 (by rfl) T.m_range (JE.var (E := eI) 1 rfl)) (by first | exact blkOk_by (own := [("thing", 23)]) (by show blkC ["source", "count", "sets", "tests", "one", "other", "both", "first", "second", "told", "own", "wide", "some", "more", "again", "order", "moved", "out", "fewer", "most", "tells", "clears", "single", "thing", "a", "b", "bad", "test"] (defScope s_law_right) _ _ = true; decide +kernel) | exact blkOk_in (sc0 := defScope s_law_right) (own := [("thing", 23)]) rfl (by show blkC ["source", "count", "sets", "tests", "one", "other", "both", "first", "second", "told", "own", "wide", "some", "more", "again", "order", "moved", "out", "fewer", "most", "tells", "clears", "single", "thing", "a", "b", "bad", "test"] _ _ _ = true; decide +kernel)) (by decide) rfl (fun s H C cl fp => (JG.name 23 sc_law_right.nd rfl (by first | exact Or.inl rfl | exact Or.inr rfl) (by first | exact Or.inl rfl | exact Or.inr rfl))) (fun s H C cl fp thing154 => JTs.one (JT.cl (JT.eq (JE.pick 0 rfl (c_law_pick T (hr.mono (by decide))) JE.int) JE.int) (by first | with_reducible rfl | (simp only [rtbO, rtbG]; done) | (simp only [rtbO, rtbG]; congr; done) | rfl))) (fun s H C cl fp thing154 => JE.cl (JE.var (E := eI) 23 rfl) (by first | with_reducible rfl | (simp only [rtbO, rtbG]; done) | (simp only [rtbO, rtbG]; congr; done) | rfl))) (by first | with_reducible rfl | (simp only [rtbO, rtbG]; done) | (simp only [rtbO, rtbG]; congr; done) | rfl))) (fun other158 => (JS.to (ρ' := [.src, .d (eI count132), .d ((eL (eT eI)) t141), .d (e_Tests tests148), .d ((eL eI) one153), .d ((eL eI) other158), .u, .u, .u, .u, .u, .u, .u, .u, .u, .u, .u, .u, .u, .u, .u, .u, .u, .u, .u, .u, .u, .u]) rfl (JS.asg (i := 6) (F := (eL eI)) (JAsL.ofL (JAsL.of sc_law_right.nd rfl (by first | exact Or.inl rfl | exact Or.inr rfl) (by first | exact Or.inl rfl | exact Or.inr rfl) (JL.cl (JL.sortedI (by rfl) T.m_sorted (JL.je (JL.cat (E := eI) (JE.var (E := (eL eI)) 4 rfl) (JL.je (JL.filP (c := fun (thing159 : Int) => (!one153.contains thing159)) (g := fun (thing159 : Int) => thing159) (JL.lc (M0 := false) (own := [("thing", 23)]) (up := fun ρ x => ρ.set 23 (.d (eI x))) (E := eI) (F := eI) (cM := fun (thing159 : Int) => rt (!one153.contains thing159)) (f := fun (thing159 : Int) => rt thing159) rfl sc_law_right.nd (JI.list (E := eI) (JE.var (E := (eL eI)) 5 rfl)) (by first | exact blkOk_by (own := [("thing", 23)]) (by show blkC ["source", "count", "sets", "tests", "one", "other", "both", "first", "second", "told", "own", "wide", "some", "more", "again", "order", "moved", "out", "fewer", "most", "tells", "clears", "single", "thing", "a", "b", "bad", "test"] (defScope s_law_right) _ _ = true; decide +kernel) | exact blkOk_in (sc0 := defScope s_law_right) (own := [("thing", 23)]) rfl (by show blkC ["source", "count", "sets", "tests", "one", "other", "both", "first", "second", "told", "own", "wide", "some", "more", "again", "order", "moved", "out", "fewer", "most", "tells", "clears", "single", "thing", "a", "b", "bad", "test"] _ _ _ = true; decide +kernel)) (by decide) rfl (fun s H C cl fp => (JG.name 23 sc_law_right.nd rfl (by first | exact Or.inl rfl | exact Or.inr rfl) (by first | exact Or.inl rfl | exact Or.inr rfl))) (fun s H C cl fp thing159 => JTs.one (JT.cl (JT.ninI (k := .l) (JE.var (E := eI) 23 rfl) (JE.var (E := (eL eI)) 4 rfl)) (by first | with_reducible rfl | (simp only [rtbO, rtbG]; done) | (simp only [rtbO, rtbG]; congr; done) | rfl))) (fun s H C cl fp thing159 => JE.cl (JE.var (E := eI) 23 rfl) (by first | with_reducible rfl | (simp only [rtbO, rtbG]; done) | (simp only [rtbO, rtbG]; congr; done) | rfl)))))))) (by first | with_reducible rfl | (simp only [rtbO, rtbG]; done) | (simp only [rtbO, rtbG]; congr; done) | rfl)))) (fun both163 => (JS.to (ρ' := [.src, .d (eI count132), .d ((eL (eT eI)) t141), .d (e_Tests tests148), .d ((eL eI) one153), .d ((eL eI) other158), .d ((eL eI) both163), .u, .u, .u, .u, .u, .u, .u, .u, .u, .u, .u, .u, .u, .u, .u, .u, .u, .u, .u, .u, .u]) rfl (JS.asg (i := 7) (F := (eT eI)) (JAsE.of sc_law_right.nd rfl (by first | exact Or.inl rfl | exact Or.inr rfl) (by first | exact Or.inl rfl | exact Or.inr rfl) (JE.cl (JE.meth1 (E0 := e_Tests) (E1 := (eL eI)) (pl := _) (f := M.Tests_answers) (G := (eT eI)) (fun _ => ⟨_, rfl⟩) (by decide +kernel) (fun x0 x1 r P h q => ⟨.l, x0, x1, r, rfl, h, q⟩) (c_Tests_answers T (hr.mono (by decide))) (JE.var (E := e_Tests) 3 rfl) (JE.var (E := (eL eI)) 4 rfl)) (by first | with_reducible rfl | (simp only [rtbO, rtbG]; done) | (simp only [rtbO, rtbG]; congr; done) | rfl))) (fun first164 => (JS.to (ρ' := [.src, .d (eI count132), .d ((eL (eT eI)) t141), .d (e_Tests tests148), .d ((eL eI) one153), .d ((eL eI) other158), .d ((eL eI) both163), .d ((eT eI) first164), .u, .u, .u, .u, .u, .u, .u, .u, .u, .u, .u, .u, .u, .u, .u, .u, .u, .u, .u, .u]) rfl (JS.asg (i := 8) (F := (eT eI)) (JAsE.of sc_law_right.nd rfl (by first | exact Or.inl rfl | exact Or.inr rfl) (by first | exact Or.inl rfl | exact Or.inr rfl) (JE.cl (JE.meth1 (E0 := e_Tests) (E1 := (eL eI)) (pl := _) (f := M.Tests_answers) (G := (eT eI)) (fun _ => ⟨_, rfl⟩) (by decide +kernel) (fun x0 x1 r P h q => ⟨.l, x0, x1, r, rfl, h, q⟩) (c_Tests_answers T (hr.mono (by decide))) (JE.var (E := e_Tests) 3 rfl) (JE.var (E := (eL eI)) 5 rfl)) (by first | with_reducible rfl | (simp only [rtbO, rtbG]; done) | (simp only [rtbO, rtbG]; congr; done) | rfl))) (fun second165 => (JS.to (ρ' := [.src, .d (eI count132), .d ((eL (eT eI)) t141), .d (e_Tests tests148), .d ((eL eI) one153), .d ((eL eI) other158), .d ((eL eI) both163), .d ((eT eI) first164), .d ((eT eI) second165), .u, .u, .u, .u, .u, .u, .u, .u, .u, .u, .u, .u, .u, .u, .u, .u, .u, .u, .u]) rfl (JS.asg (i := 9) (F := (eT eI)) (JAsE.of sc_law_right.nd rfl (by first | exact Or.inl rfl | exact Or.inr rfl) (by first | exact Or.inl rfl | exact Or.inr rfl) (JE.cl (JE.meth1 (E0 := e_Tests) (E1 := (eL eI)) (pl := _) (f := M.Tests_answers) (G := (eT eI)) (fun _ => ⟨_, rfl⟩) (by decide +kernel) (fun x0 x1 r P h q => ⟨.l, x0, x1, r, rfl, h, q⟩) (c_Tests_answers T (hr.mono (by decide))) (JE.var (E := e_Tests) 3 rfl) (JE.var (E := (eL eI)) 6 rfl)) (by first | with_reducible rfl | (simp only [rtbO, rtbG]; done) | (simp only [rtbO, rtbG]; congr; done) | rfl))) (fun told166 => (JS.to (ρ' := [.src, .d (eI count132), .d ((eL (eT eI)) t141), .d (e_Tests tests148), .d ((eL eI) one153), .d ((eL eI) other158), .d ((eL eI) both163), .d ((eT eI) first164), .d ((eT eI) second165), .d ((eT eI) told166), .u, .u, .u, .u, .u, .u, .u, .u, .u, .u, .u, .u, .u, .u, .u, .u, .u, .u]) rfl (JS.ifT (JT.cl (JW.jt (JW.or (JT.neF (E := (eT eI)) hr.units (fth_Q fth_I) (shp_Q shp_I) (by decide) (JE.var (E := (eT eI)) 9 rfl) (JE.tupleL (E := eI) (by rfl) T.m_tuple (JL.je (JL.mapP (g := fun (a167 : (Int × Int)) => (if a167.2 > a167.1 then a167.2 else a167.1)) (JL.lc0 (M0 := false) (own := [("a", 24), ("b", 25)]) (up := fun ρ x => (ρ.set 24 (.d (eI x.1))).set 25 (.d (eI x.2))) (E := (eP eI eI)) (F := eI) (f := fun (a167 : (Int × Int)) => rt (if a167.2 > a167.1 then a167.2 else a167.1)) rfl sc_law_right.nd (JI.zip (E := eI) (F := eI) (k := .t) (by rfl) T.m_zip (JE.var (E := (eT eI)) 7 rfl) (JE.var (E := (eT eI)) 8 rfl)) (by first | exact blkOk_by (own := [("a", 24), ("b", 25)]) (by show blkC ["source", "count", "sets", "tests", "one", "other", "both", "first", "second", "told", "own", "wide", "some", "more", "again", "order", "moved", "out", "fewer", "most", "tells", "clears", "single", "thing", "a", "b", "bad", "test"] (defScope s_law_right) _ _ = true; decide +kernel) | exact blkOk_in (sc0 := defScope s_law_right) (own := [("a", 24), ("b", 25)]) rfl (by show blkC ["source", "count", "sets", "tests", "one", "other", "both", "first", "second", "told", "own", "wide", "some", "more", "again", "order", "moved", "out", "fewer", "most", "tells", "clears", "single", "thing", "a", "b", "bad", "test"] _ _ _ = true; decide +kernel)) (by decide) rfl (fun s H C cl fp => (JG.pair 24 25 rfl sc_law_right.nd rfl (by first | exact Or.inl rfl | exact Or.inr rfl) (by first | exact Or.inl rfl | exact Or.inr rfl) rfl (by first | exact Or.inl rfl | exact Or.inr rfl) (by first | exact Or.inl rfl | exact Or.inr rfl))) (fun s H C cl fp a167 => JE.cl (JE.max2 rfl (by rfl) T.m_max (JE.var (E := eI) 24 rfl) (JE.var (E := eI) 25 rfl)) (by first | with_reducible rfl | (simp only [rtbO, rtbG]; done) | (simp only [rtbO, rtbG]; congr; done) | rfl))))))) (JW.or1 (JT.neF (E := (eT eI)) hr.units (fth_Q fth_I) (shp_Q shp_I) (by decide) (JE.meth1 (E0 := e_Tests) (E1 := (eL eI)) (pl := _) (f := M.Tests_answers) (G := (eT eI)) (fun _ => ⟨_, rfl⟩) (by decide +kernel) (fun x0 x1 r P h q => ⟨.l, x0, x1, r, rfl, h, q⟩) (c_Tests_answers T (hr.mono (by decide))) (JE.var (E := e_Tests) 3 rfl) (JL.je (JL.lst (E := eI) JH.nil))) (JE.repT (E := eI) (JE.tup (JH.cons (E := eI) JE.int (JH.nil (E := eI)))) (JE.len (E := (eT eI)) (k := .l) (by rfl) T.m_len (JE.var (E := (eL (eT eI))) 2 rfl))))))) (by first | with_reducible rfl | (simp only [rtbO, rtbG]; done) | (simp only [rtbO, rtbG]; congr; done) | rfl)) (JS.retP (c := id) (fun _ => rfl) nl_B (JE.cl JE.bl (by first | with_reducible rfl | (simp only [rtbO, rtbG]; done) | (simp only [rtbO, rtbG]; congr; done) | rfl))) (JS.asg (i := 10) (F := (eL eI)) (JAsL.ofL (JAsL.of sc_law_right.nd rfl (by first | exact Or.inl rfl | exact Or.inr rfl) (by first | exact Or.inl rfl | exact Or.inr rfl) (JL.cl (JL.call2 (E1 := e_Tests) (E2 := (eT eI)) (f := M.suspects) (G := eI) (fun x1 x2 r P h q => ⟨x1, x2, r, rfl, h, q⟩) (c_suspects T (hr.mono (by decide))) (JE.var (E := e_Tests) 3 rfl) (JE.var (E := (eT eI)) 7 rfl)) (by first | with_reducible rfl | (simp only [rtbO, rtbG]; done) | (simp only [rtbO, rtbG]; congr; done) | rfl)))) (fun own174 => (JS.to (ρ' := [.src, .d (eI count132), .d ((eL (eT eI)) t141), .d (e_Tests tests148), .d ((eL eI) one153), .d ((eL eI) other158), .d ((eL eI) both163), .d ((eT eI) first164), .d ((eT eI) second165), .d ((eT eI) told166), .d ((eL eI) own174), .u, .u, .u, .u, .u, .u, .u, .u, .u, .u, .u, .u, .u, .u, .u, .u, .u]) rfl (JS.asg (i := 11) (F := (eL eI)) (JAsL.ofL (JAsL.of sc_law_right.nd rfl (by first | exact Or.inl rfl | exact Or.inr rfl) (by first | exact Or.inl rfl | exact Or.inr rfl) (JL.cl (JL.call2 (E1 := e_Tests) (E2 := (eT eI)) (f := M.suspects) (G := eI) (fun x1 x2 r P h q => ⟨x1, x2, r, rfl, h, q⟩) (c_suspects T (hr.mono (by decide))) (JE.var (E := e_Tests) 3 rfl) (JE.var (E := (eT eI)) 9 rfl)) (by first | with_reducible rfl | (simp only [rtbO, rtbG]; done) | (simp only [rtbO, rtbG]; congr; done) | rfl)))) (fun wide175 => (JS.to (ρ' := [.src, .d (eI count132), .d ((eL (eT eI)) t141), .d (e_Tests tests148), .d ((eL eI) one153), .d ((eL eI) other158), .d ((eL eI) both163), .d ((eT eI) first164), .d ((eT eI) second165), .d ((eT eI) told166), .d ((eL eI) own174), .d ((eL eI) wide175), .u, .u, .u, .u, .u, .u, .u, .u, .u, .u, .u, .u, .u, .u, .u, .u]) rfl (JS.ifT (JT.cl (JW.jt (JW.or (JT.neF (E := (eL eI)) hr.units (fth_Q fth_I) (shp_Q shp_I) (by decide) (JL.je (JL.filP (c := fun (thing176 : Int) => (!own174.contains thing176)) (g := fun (thing176 : Int) => thing176) (JL.lc (M0 := false) (own := [("thing", 23)]) (up := fun ρ x => ρ.set 23 (.d (eI x))) (E := eI) (F := eI) (cM := fun (thing176 : Int) => rt (!own174.contains thing176)) (f := fun (thing176 : Int) => rt thing176) rfl sc_law_right.nd (JI.list (E := eI) (JE.var (E := (eL eI)) 4 rfl)) (by first | exact blkOk_by (own := [("thing", 23)]) (by show blkC ["source", "count", "sets", "tests", "one", "other", "both", "first", "second", "told", "own", "wide", "some", "more", "again", "order", "moved", "out", "fewer", "most", "tells", "clears", "single", "thing", "a", "b", "bad", "test"] (defScope s_law_right) _ _ = true; decide +kernel) | exact blkOk_in (sc0 := defScope s_law_right) (own := [("thing", 23)]) rfl (by show blkC ["source", "count", "sets", "tests", "one", "other", "both", "first", "second", "told", "own", "wide", "some", "more", "again", "order", "moved", "out", "fewer", "most", "tells", "clears", "single", "thing", "a", "b", "bad", "test"] _ _ _ = true; decide +kernel)) (by decide) rfl (fun s H C cl fp => (JG.name 23 sc_law_right.nd rfl (by first | exact Or.inl rfl | exact Or.inr rfl) (by first | exact Or.inl rfl | exact Or.inr rfl))) (fun s H C cl fp thing176 => JTs.one (JT.cl (JT.ninI (k := .l) (JE.var (E := eI) 23 rfl) (JE.var (E := (eL eI)) 10 rfl)) (by first | with_reducible rfl | (simp only [rtbO, rtbG]; done) | (simp only [rtbO, rtbG]; congr; done) | rfl))) (fun s H C cl fp thing176 => JE.cl (JE.var (E := eI) 23 rfl) (by first | with_reducible rfl | (simp only [rtbO, rtbG]; done) | (simp only [rtbO, rtbG]; congr; done) | rfl))))) (JL.je (JL.lst (E := eI) JH.nil))) (JW.or (JT.neF (E := (eL eI)) hr.units (fth_Q fth_I) (shp_Q shp_I) (by decide) (JL.je (JL.filP (c := fun (thing179 : Int) => (!wide175.contains thing179)) (g := fun (thing179 : Int) => thing179) (JL.lc (M0 := false) (own := [("thing", 23)]) (up := fun ρ x => ρ.set 23 (.d (eI x))) (E := eI) (F := eI) (cM := fun (thing179 : Int) => rt (!wide175.contains thing179)) (f := fun (thing179 : Int) => rt thing179) rfl sc_law_right.nd (JI.list (E := eI) (JE.var (E := (eL eI)) 10 rfl)) (by first | exact blkOk_by (own := [("thing", 23)]) (by show blkC ["source", "count", "sets", "tests", "one", "other", "both", "first", "second", "told", "own", "wide", "some", "more", "again", "order", "moved", "out", "fewer", "most", "tells", "clears", "single", "thing", "a", "b", "bad", "test"] (defScope s_law_right) _ _ = true; decide +kernel) | exact blkOk_in (sc0 := defScope s_law_right) (own := [("thing", 23)]) rfl (by show blkC ["source", "count", "sets", "tests", "one", "other", "both", "first", "second", "told", "own", "wide", "some", "more", "again", "order", "moved", "out", "fewer", "most", "tells", "clears", "single", "thing", "a", "b", "bad", "test"] _ _ _ = true; decide +kernel)) (by decide) rfl (fun s H C cl fp => (JG.name 23 sc_law_right.nd rfl (by first | exact Or.inl rfl | exact Or.inr rfl) (by first | exact Or.inl rfl | exact Or.inr rfl))) (fun s H C cl fp thing179 => JTs.one (JT.cl (JT.ninI (k := .l) (JE.var (E := eI) 23 rfl) (JE.var (E := (eL eI)) 11 rfl)) (by first | with_reducible rfl | (simp only [rtbO, rtbG]; done) | (simp only [rtbO, rtbG]; congr; done) | rfl))) (fun s H C cl fp thing179 => JE.cl (JE.var (E := eI) 23 rfl) (by first | with_reducible rfl | (simp only [rtbO, rtbG]; done) | (simp only [rtbO, rtbG]; congr; done) | rfl))))) (JL.je (JL.lst (E := eI) JH.nil))) (JW.or1 (JT.neF (E := (eT eI)) hr.units (fth_Q fth_I) (shp_Q shp_I) (by decide) (JE.meth1 (E0 := e_Tests) (E1 := (eL eI)) (pl := _) (f := M.Tests_answers) (G := (eT eI)) (fun _ => ⟨_, rfl⟩) (by decide +kernel) (fun x0 x1 r P h q => ⟨.l, x0, x1, r, rfl, h, q⟩) (c_Tests_answers T (hr.mono (by decide))) (JE.var (E := e_Tests) 3 rfl) (JE.var (E := (eL eI)) 10 rfl)) (JE.var (E := (eT eI)) 7 rfl)))))) (by first | with_reducible rfl | (simp only [rtbO, rtbG]; done) | (simp only [rtbO, rtbG]; congr; done) | rfl)) (JS.retP (c := id) (fun _ => rfl) nl_B (JE.cl JE.bl (by first | with_reducible rfl | (simp only [rtbO, rtbG]; done) | (simp only [rtbO, rtbG]; congr; done) | rfl))) (JS.asg (i := 12) (F := (eL (eT eI))) (JAsL.ofL (JAsL.of sc_law_right.nd rfl (by first | exact Or.inl rfl | exact Or.inr rfl) (by first | exact Or.inl rfl | exact Or.inr rfl) (JL.cl (JL.call3 (E1 := e_Tests) (E2 := (eT eI)) (E3 := eI) (f := M.explained) (G := (eT eI)) (fun x1 x2 x3 r P h q => ⟨x1, x2, x3, r, rfl, h, q⟩) (c_explained T (hr.mono (by decide))) (JE.var (E := e_Tests) 3 rfl) (JE.var (E := (eT eI)) 7 rfl) JE.int) (by first | with_reducible rfl | (simp only [rtbO, rtbG]; done) | (simp only [rtbO, rtbG]; congr; done) | rfl)))) (fun some185 => (JS.to (ρ' := [.src, .d (eI count132), .d ((eL (eT eI)) t141), .d (e_Tests tests148), .d ((eL eI) one153), .d ((eL eI) other158), .d ((eL eI) both163), .d ((eT eI) first164), .d ((eT eI) second165), .d ((eT eI) told166), .d ((eL eI) own174), .d ((eL eI) wide175), .d ((eL (eT eI)) some185), .u, .u, .u, .u, .u, .u, .u, .u, .u, .u, .u, .u, .u, .u, .u]) rfl (JS.ifT (JT.cl (JW.jt (JW.or (JW.jt (JW.andP (JT.le (JE.len (E := eI) (k := .l) (by rfl) T.m_len (JE.var (E := (eL eI)) 4 rfl)) JE.int) (JW.and1 (JT.ninD (E := (eT eI)) (k := .l) (hu65 hr) (fth_Q fth_I) (shp_Q shp_I) (by decide) (JE.tupleL (E := eI) (by rfl) T.m_tuple (JE.var (E := (eL eI)) 4 rfl)) (JE.var (E := (eL (eT eI))) 12 rfl))))) (JW.or1 (JT.neF (E := (eL (eT eI))) hr.units (fth_Q (fth_Q fth_I)) (shp_Q (shp_Q shp_I)) (by decide) (JL.je (JL.lc (M0 := false) (own := [("bad", 26)]) (up := fun ρ x => ρ.set 26 (.d ((eT eI) x))) (E := (eT eI)) (F := (eT eI)) (cM := fun (bad186 : (List Int)) => bd (bd (lf (M.Tests_answers tests148 bad186)) fun x187 =>
 rt (!decide (x187 = first164))) fun x191 =>
 ifM x191 (rt true) (bd (bd (lf (szO bad186)) fun xs189 =>
 rt ((xs189.filter fun (thing188 : Int) => (!own174.contains thing188)).map fun (thing188 : Int) => thing188)) fun x190 =>
 rt (!decide (x190 = ([] : (List Int)))))) (f := fun (bad186 : (List Int)) => rt bad186) rfl sc_law_right.nd (JI.list (E := (eT eI)) (JE.var (E := (eL (eT eI))) 12 rfl)) (by first | exact blkOk_by (own := [("bad", 26)]) (by show blkC ["source", "count", "sets", "tests", "one", "other", "both", "first", "second", "told", "own", "wide", "some", "more", "again", "order", "moved", "out", "fewer", "most", "tells", "clears", "single", "thing", "a", "b", "bad", "test"] (defScope s_law_right) _ _ = true; decide +kernel) | exact blkOk_in (sc0 := defScope s_law_right) (own := [("bad", 26)]) rfl (by show blkC ["source", "count", "sets", "tests", "one", "other", "both", "first", "second", "told", "own", "wide", "some", "more", "again", "order", "moved", "out", "fewer", "most", "tells", "clears", "single", "thing", "a", "b", "bad", "test"] _ _ _ = true; decide +kernel)) (by decide) rfl (fun s H C cl fp => (JG.name 26 sc_law_right.nd rfl (by first | exact Or.inl rfl | exact Or.inr rfl) (by first | exact Or.inl rfl | exact Or.inr rfl))) (fun s H C cl fp bad186 => JTs.one (JT.cl (JW.jt (JW.or (JT.neF (E := (eT eI)) hr.units (fth_Q fth_I) (shp_Q shp_I) (by decide) (JE.meth1 (E0 := e_Tests) (E1 := (eT eI)) (pl := _) (f := M.Tests_answers) (G := (eT eI)) (fun _ => ⟨_, rfl⟩) (by decide +kernel) (fun x0 x1 r P h q => ⟨.t, x0, x1, r, rfl, h, q⟩) (c_Tests_answers T (hr.mono (by decide))) (JE.var (E := e_Tests) 3 rfl) (JE.var (E := (eT eI)) 26 rfl)) (JE.var (E := (eT eI)) 7 rfl)) (JW.or1 (JT.neF (E := (eL eI)) hr.units (fth_Q fth_I) (shp_Q shp_I) (by decide) (JL.je (JL.filP (c := fun (thing188 : Int) => (!own174.contains thing188)) (g := fun (thing188 : Int) => thing188) (JL.lc (M0 := false) (own := [("thing", 23)]) (up := fun ρ x => ρ.set 23 (.d (eI x))) (E := eI) (F := eI) (cM := fun (thing188 : Int) => rt (!own174.contains thing188)) (f := fun (thing188 : Int) => rt thing188) rfl sc_law_right.nd (JI.tup (E := eI) (JE.var (E := (eT eI)) 26 rfl)) (by first | exact blkOk_by (own := [("thing", 23)]) (by show blkC ["source", "count", "sets", "tests", "one", "other", "both", "first", "second", "told", "own", "wide", "some", "more", "again", "order", "moved", "out", "fewer", "most", "tells", "clears", "single", "thing", "a", "b", "bad", "test"] (defScope s_law_right) _ _ = true; decide +kernel) | exact blkOk_in (sc0 := defScope s_law_right) (own := [("thing", 23)]) rfl (by show blkC ["source", "count", "sets", "tests", "one", "other", "both", "first", "second", "told", "own", "wide", "some", "more", "again", "order", "moved", "out", "fewer", "most", "tells", "clears", "single", "thing", "a", "b", "bad", "test"] _ _ _ = true; decide +kernel)) (by decide) rfl (fun s H C cl fp => (JG.name 23 sc_law_right.nd rfl (by first | exact Or.inl rfl | exact Or.inr rfl) (by first | exact Or.inl rfl | exact Or.inr rfl))) (fun s H C cl fp thing188 => JTs.one (JT.cl (JT.ninI (k := .l) (JE.var (E := eI) 23 rfl) (JE.var (E := (eL eI)) 10 rfl)) (by first | with_reducible rfl | (simp only [rtbO, rtbG]; done) | (simp only [rtbO, rtbG]; congr; done) | rfl))) (fun s H C cl fp thing188 => JE.cl (JE.var (E := eI) 23 rfl) (by first | with_reducible rfl | (simp only [rtbO, rtbG]; done) | (simp only [rtbO, rtbG]; congr; done) | rfl))))) (JL.je (JL.lst (E := eI) JH.nil)))))) (by first | with_reducible rfl | (simp only [rtbO, rtbG]; done) | (simp only [rtbO, rtbG]; congr; done) | rfl))) (fun s H C cl fp bad186 => JE.cl (JE.var (E := (eT eI)) 26 rfl) (by first | with_reducible rfl | (simp only [rtbO, rtbG]; done) | (simp only [rtbO, rtbG]; congr; done) | rfl)))) (JL.je (JL.lst (E := (eT eI)) JH.nil)))))) (by first | with_reducible rfl | (simp only [rtbO, rtbG]; done) | (simp only [rtbO, rtbG]; congr; done) | rfl)) (JS.retP (c := id) (fun _ => rfl) nl_B (JE.cl JE.bl (by first | with_reducible rfl | (simp only [rtbO, rtbG]; done) | (simp only [rtbO, rtbG]; congr; done) | rfl))) (JS.asg (i := 13) (F := e_Tests) (JAsE.of sc_law_right.nd rfl (by first | exact Or.inl rfl | exact Or.inr rfl) (by first | exact Or.inl rfl | exact Or.inr rfl) (JE.cl (JE.make2 (E1 := eI) (E2 := (eL (eT eI))) (f := M.mk_Tests) (E := e_Tests) (fl := fl_Tests) (fun x1 x2 r P h q => ⟨.t, x1, x2, r, rfl, h, q⟩) (fun _ => rfl) (c_mk_Tests T (hr.mono (by decide))) (JE.var (E := eI) 1 rfl) (JL.je (JL.cat (E := (eT eI)) (JE.var (E := (eL (eT eI))) 2 rfl) (JL.je (JL.sl (E := (eT eI)) (JL.je (JL.gcall1 (E1 := eI) (f := M.law_drawn) (G' := (eT eI)) 0 rfl (fun x1 P h => ⟨x1, rfl, by first | with_reducible exact h | exact h⟩) (c_law_drawn T (hr.mono (by decide))) (JE.var (E := eI) 1 rfl))) JO.no (JO.of JE.int)))))) (by first | with_reducible rfl | (simp only [rtbO, rtbG]; done) | (simp only [rtbO, rtbG]; congr; done) | rfl))) (fun more197 => (JS.to (ρ' := [.src, .d (eI count132), .d ((eL (eT eI)) t141), .d (e_Tests tests148), .d ((eL eI) one153), .d ((eL eI) other158), .d ((eL eI) both163), .d ((eT eI) first164), .d ((eT eI) second165), .d ((eT eI) told166), .d ((eL eI) own174), .d ((eL eI) wide175), .d ((eL (eT eI)) some185), .d (e_Tests more197), .u, .u, .u, .u, .u, .u, .u, .u, .u, .u, .u, .u, .u, .u]) rfl (JS.asg (i := 14) (F := e_Tests) (JAsE.of sc_law_right.nd rfl (by first | exact Or.inl rfl | exact Or.inr rfl) (by first | exact Or.inl rfl | exact Or.inr rfl) (JE.cl (JE.make2 (E1 := eI) (E2 := (eL (eT eI))) (f := M.mk_Tests) (E := e_Tests) (fl := fl_Tests) (fun x1 x2 r P h q => ⟨.t, x1, x2, r, rfl, h, q⟩) (fun _ => rfl) (c_mk_Tests T (hr.mono (by decide))) (JE.var (E := eI) 1 rfl) (JL.je (JL.gcall1 (E1 := (eL (eT eI))) (f := M.law_mixed_2) (G' := (eT eI)) 0 rfl (fun x1 P h => ⟨.l, x1, rfl, by first | with_reducible exact h | exact h⟩) (c_law_mixed_2 T (hr.mono (by decide))) (JL.je (JL.cat (E := (eT eI)) (JE.var (E := (eL (eT eI))) 2 rfl) (JL.je (JL.sl (E := (eT eI)) (JE.var (E := (eL (eT eI))) 2 rfl) JO.no (JO.of JE.int)))))))) (by first | with_reducible rfl | (simp only [rtbO, rtbG]; done) | (simp only [rtbO, rtbG]; congr; done) | rfl))) (fun again200 => (JS.to (ρ' := [.src, .d (eI count132), .d ((eL (eT eI)) t141), .d (e_Tests tests148), .d ((eL eI) one153), .d ((eL eI) other158), .d ((eL eI) both163), .d ((eT eI) first164), .d ((eT eI) second165), .d ((eT eI) told166), .d ((eL eI) own174), .d ((eL eI) wide175), .d ((eL (eT eI)) some185), .d (e_Tests more197), .d (e_Tests again200), .u, .u, .u, .u, .u, .u, .u, .u, .u, .u, .u, .u, .u]) rfl (JS.asg (i := 15) (F := (eL eI)) (JAsL.ofL (JAsL.of sc_law_right.nd rfl (by first | exact Or.inl rfl | exact Or.inr rfl) (by first | exact Or.inl rfl | exact Or.inr rfl) (JL.cl (JL.gcall1 (E1 := (eL eI)) (f := M.law_mixed) (G' := eI) 0 rfl (fun x1 P h => ⟨.l, x1, rfl, by first | with_reducible exact h | exact h⟩) (c_law_mixed T (hr.mono (by decide))) (JL.je (JL.listRange rfl (by rfl) T.m_list (by rfl) T.m_range (JE.var (E := eI) 1 rfl)))) (by first | with_reducible rfl | (simp only [rtbO, rtbG]; done) | (simp only [rtbO, rtbG]; congr; done) | rfl)))) (fun order202 => (JS.to (ρ' := [.src, .d (eI count132), .d ((eL (eT eI)) t141), .d (e_Tests tests148), .d ((eL eI) one153), .d ((eL eI) other158), .d ((eL eI) both163), .d ((eT eI) first164), .d ((eT eI) second165), .d ((eT eI) told166), .d ((eL eI) own174), .d ((eL eI) wide175), .d ((eL (eT eI)) some185), .d (e_Tests more197), .d (e_Tests again200), .d ((eL eI) order202), .u, .u, .u, .u, .u, .u, .u, .u, .u, .u, .u, .u]) rfl (JS.asg (i := 16) (F := e_Tests) (JAsE.of sc_law_right.nd rfl (by first | exact Or.inl rfl | exact Or.inr rfl) (by first | exact Or.inl rfl | exact Or.inr rfl) (JE.cl (JE.make2 (E1 := eI) (E2 := (eL (eL eI))) (f := M.mk_Tests) (E := e_Tests) (fl := fl_Tests) (fun x1 x2 r P h q => ⟨.l, x1, x2, r, rfl, h, q⟩) (fun _ => rfl) (c_mk_Tests T (hr.mono (by decide))) (JE.var (E := eI) 1 rfl) (JL.je (JL.lc0 (M0 := false) (own := [("test", 27)]) (up := fun ρ x => ρ.set 27 (.d ((eT eI) x))) (E := (eT eI)) (F := (eL eI)) (f := fun (test203 : (List Int)) => bd (lf (szO test203)) fun xs205 =>
 mapM' (fun (thing204 : Int) => lf (ixO order202 thing204)) xs205) rfl sc_law_right.nd (JI.list (E := (eT eI)) (JE.var (E := (eL (eT eI))) 2 rfl)) (by first | exact blkOk_by (own := [("test", 27)]) (by show blkC ["source", "count", "sets", "tests", "one", "other", "both", "first", "second", "told", "own", "wide", "some", "more", "again", "order", "moved", "out", "fewer", "most", "tells", "clears", "single", "thing", "a", "b", "bad", "test"] (defScope s_law_right) _ _ = true; decide +kernel) | exact blkOk_in (sc0 := defScope s_law_right) (own := [("test", 27)]) rfl (by show blkC ["source", "count", "sets", "tests", "one", "other", "both", "first", "second", "told", "own", "wide", "some", "more", "again", "order", "moved", "out", "fewer", "most", "tells", "clears", "single", "thing", "a", "b", "bad", "test"] _ _ _ = true; decide +kernel)) (by decide) rfl (fun s H C cl fp => (JG.name 27 sc_law_right.nd rfl (by first | exact Or.inl rfl | exact Or.inr rfl) (by first | exact Or.inl rfl | exact Or.inr rfl))) (fun s H C cl fp test203 => JE.cl (JL.je (JL.lc0 (M0 := false) (own := [("thing", 23)]) (up := fun ρ x => ρ.set 23 (.d (eI x))) (E := eI) (F := eI) (f := fun (thing204 : Int) => lf (ixO order202 thing204)) rfl sc_law_right.nd (JI.tup (E := eI) (JE.var (E := (eT eI)) 27 rfl)) (by first | exact blkOk_by (own := [("thing", 23)]) (by show blkC ["source", "count", "sets", "tests", "one", "other", "both", "first", "second", "told", "own", "wide", "some", "more", "again", "order", "moved", "out", "fewer", "most", "tells", "clears", "single", "thing", "a", "b", "bad", "test"] (defScope s_law_right) _ _ = true; decide +kernel) | exact blkOk_in (sc0 := defScope s_law_right) (own := [("thing", 23)]) rfl (by show blkC ["source", "count", "sets", "tests", "one", "other", "both", "first", "second", "told", "own", "wide", "some", "more", "again", "order", "moved", "out", "fewer", "most", "tells", "clears", "single", "thing", "a", "b", "bad", "test"] _ _ _ = true; decide +kernel)) (by decide) rfl (fun s H C cl fp => (JG.name 23 sc_law_right.nd rfl (by first | exact Or.inl rfl | exact Or.inr rfl) (by first | exact Or.inl rfl | exact Or.inr rfl))) (fun s H C cl fp thing204 => JE.cl (JE.ix (E := eI) (k := .l) (fun _ _ => rfl) (JE.var (E := (eL eI)) 15 rfl) (JE.var (E := eI) 23 rfl)) (by first | with_reducible rfl | (simp only [rtbO, rtbG]; done) | (simp only [rtbO, rtbG]; congr; done) | rfl)))) (by first | with_reducible rfl | (simp only [rtbO, rtbG]; done) | (simp only [rtbO, rtbG]; congr; done) | rfl))))) (by first | with_reducible rfl | (simp only [rtbO, rtbG]; done) | (simp only [rtbO, rtbG]; congr; done) | rfl))) (fun moved208 => (JS.to (ρ' := [.src, .d (eI count132), .d ((eL (eT eI)) t141), .d (e_Tests tests148), .d ((eL eI) one153), .d ((eL eI) other158), .d ((eL eI) both163), .d ((eT eI) first164), .d ((eT eI) second165), .d ((eT eI) told166), .d ((eL eI) own174), .d ((eL eI) wide175), .d ((eL (eT eI)) some185), .d (e_Tests more197), .d (e_Tests again200), .d ((eL eI) order202), .d (e_Tests moved208), .u, .u, .u, .u, .u, .u, .u, .u, .u, .u, .u]) rfl (JS.asg (i := 17) (F := eI) (JAsE.of sc_law_right.nd rfl (by first | exact Or.inl rfl | exact Or.inr rfl) (by first | exact Or.inl rfl | exact Or.inr rfl) (JE.cl (JE.pick 0 rfl (c_law_pick T (hr.mono (by decide))) (JE.var (E := eI) 1 rfl)) (by first | with_reducible rfl | (simp only [rtbO, rtbG]; done) | (simp only [rtbO, rtbG]; congr; done) | rfl))) (fun out209 => (JS.to (ρ' := [.src, .d (eI count132), .d ((eL (eT eI)) t141), .d (e_Tests tests148), .d ((eL eI) one153), .d ((eL eI) other158), .d ((eL eI) both163), .d ((eT eI) first164), .d ((eT eI) second165), .d ((eT eI) told166), .d ((eL eI) own174), .d ((eL eI) wide175), .d ((eL (eT eI)) some185), .d (e_Tests more197), .d (e_Tests again200), .d ((eL eI) order202), .d (e_Tests moved208), .d (eI out209), .u, .u, .u, .u, .u, .u, .u, .u, .u, .u]) rfl (JS.asg (i := 18) (F := e_Tests) (JAsE.of sc_law_right.nd rfl (by first | exact Or.inl rfl | exact Or.inr rfl) (by first | exact Or.inl rfl | exact Or.inr rfl) (JE.cl (JE.make2 (E1 := eI) (E2 := (eL (eL eI))) (f := M.mk_Tests) (E := e_Tests) (fl := fl_Tests) (fun x1 x2 r P h q => ⟨.l, x1, x2, r, rfl, h, q⟩) (fun _ => rfl) (c_mk_Tests T (hr.mono (by decide))) (JE.sub (JE.var (E := eI) 1 rfl) JE.int) (JL.je (JL.lc0 (M0 := false) (own := [("test", 27)]) (up := fun ρ x => ρ.set 27 (.d ((eT eI) x))) (E := (eT eI)) (F := (eL eI)) (f := fun (test210 : (List Int)) => bd (lf (szO test210)) fun xs212 =>
 rt ((xs212.filter fun (thing211 : Int) => (!decide (thing211 = out209))).map fun (thing211 : Int) => (thing211 - (if (decide (out209 < thing211)) then 1 else 0)))) rfl sc_law_right.nd (JI.list (E := (eT eI)) (JE.var (E := (eL (eT eI))) 2 rfl)) (by first | exact blkOk_by (own := [("test", 27)]) (by show blkC ["source", "count", "sets", "tests", "one", "other", "both", "first", "second", "told", "own", "wide", "some", "more", "again", "order", "moved", "out", "fewer", "most", "tells", "clears", "single", "thing", "a", "b", "bad", "test"] (defScope s_law_right) _ _ = true; decide +kernel) | exact blkOk_in (sc0 := defScope s_law_right) (own := [("test", 27)]) rfl (by show blkC ["source", "count", "sets", "tests", "one", "other", "both", "first", "second", "told", "own", "wide", "some", "more", "again", "order", "moved", "out", "fewer", "most", "tells", "clears", "single", "thing", "a", "b", "bad", "test"] _ _ _ = true; decide +kernel)) (by decide) rfl (fun s H C cl fp => (JG.name 27 sc_law_right.nd rfl (by first | exact Or.inl rfl | exact Or.inr rfl) (by first | exact Or.inl rfl | exact Or.inr rfl))) (fun s H C cl fp test210 => JE.cl (JL.je (JL.filP (c := fun (thing211 : Int) => (!decide (thing211 = out209))) (g := fun (thing211 : Int) => (thing211 - (if (decide (out209 < thing211)) then 1 else 0))) (JL.lc (M0 := false) (own := [("thing", 23)]) (up := fun ρ x => ρ.set 23 (.d (eI x))) (E := eI) (F := eI) (cM := fun (thing211 : Int) => rt (!decide (thing211 = out209))) (f := fun (thing211 : Int) => rt (thing211 - (if (decide (out209 < thing211)) then 1 else 0))) rfl sc_law_right.nd (JI.tup (E := eI) (JE.var (E := (eT eI)) 27 rfl)) (by first | exact blkOk_by (own := [("thing", 23)]) (by show blkC ["source", "count", "sets", "tests", "one", "other", "both", "first", "second", "told", "own", "wide", "some", "more", "again", "order", "moved", "out", "fewer", "most", "tells", "clears", "single", "thing", "a", "b", "bad", "test"] (defScope s_law_right) _ _ = true; decide +kernel) | exact blkOk_in (sc0 := defScope s_law_right) (own := [("thing", 23)]) rfl (by show blkC ["source", "count", "sets", "tests", "one", "other", "both", "first", "second", "told", "own", "wide", "some", "more", "again", "order", "moved", "out", "fewer", "most", "tells", "clears", "single", "thing", "a", "b", "bad", "test"] _ _ _ = true; decide +kernel)) (by decide) rfl (fun s H C cl fp => (JG.name 23 sc_law_right.nd rfl (by first | exact Or.inl rfl | exact Or.inr rfl) (by first | exact Or.inl rfl | exact Or.inr rfl))) (fun s H C cl fp thing211 => JTs.one (JT.cl (JT.ne (JE.var (E := eI) 23 rfl) (JE.var (E := eI) 17 rfl)) (by first | with_reducible rfl | (simp only [rtbO, rtbG]; done) | (simp only [rtbO, rtbG]; congr; done) | rfl))) (fun s H C cl fp thing211 => JE.cl (JE.sub (JE.var (E := eI) 23 rfl) (JE.intB (by rfl) T.m_int (JE.gt (JE.var (E := eI) 23 rfl) (JE.var (E := eI) 17 rfl)))) (by first | with_reducible rfl | (simp only [rtbO, rtbG]; done) | (simp only [rtbO, rtbG]; congr; done) | rfl))))) (by first | with_reducible rfl | (simp only [rtbO, rtbG]; done) | (simp only [rtbO, rtbG]; congr; done) | rfl))))) (by first | with_reducible rfl | (simp only [rtbO, rtbG]; done) | (simp only [rtbO, rtbG]; congr; done) | rfl))) (fun fewer215 => (JS.to (ρ' := [.src, .d (eI count132), .d ((eL (eT eI)) t141), .d (e_Tests tests148), .d ((eL eI) one153), .d ((eL eI) other158), .d ((eL eI) both163), .d ((eT eI) first164), .d ((eT eI) second165), .d ((eT eI) told166), .d ((eL eI) own174), .d ((eL eI) wide175), .d ((eL (eT eI)) some185), .d (e_Tests more197), .d (e_Tests again200), .d ((eL eI) order202), .d (e_Tests moved208), .d (eI out209), .d (e_Tests fewer215), .u, .u, .u, .u, .u, .u, .u, .u, .u]) rfl (JS.for (up := fun ρ x => ρ.set 19 (.d (eI x))) (Ei := eI) (fun (t216 : Unit) => [.src, .d (eI count132), .u, .d (e_Tests tests148), .u, .u, .d ((eL eI) both163), .u, .u, .u, .u, .u, .u, .d (e_Tests more197), .d (e_Tests again200), .u, .d (e_Tests moved208), .u, .d (e_Tests fewer215), .u, .u, .u, .u, .u, .u, .u, .u, .u]) () id (fun _ => rfl) PassesOwn.never rfl (JI.cl (JI.range1 (by rfl) T.m_range JE.int) (by first | with_reducible rfl | (simp only [rtbO, rtbG]; done) | (simp only [rtbO, rtbG]; congr; done) | rfl)) (JG.name 19 sc_law_right.nd rfl (by first | exact Or.inl rfl | exact Or.inr rfl) (by first | exact Or.inl rfl | exact Or.inr rfl)) (.same (.same (.drop (.same (.drop (.drop (.same (.drop (.drop (.drop (.drop (.drop (.drop (.same (.same (.drop (.same (.drop (.same (.same (.same (.same (.same (.same (.same (.same (.same (.same (.nil))))))))))))))))))))))))))))) (fun most228 t216 => (JS.asg (i := 20) (F := eB) (JAsE.of sc_law_right.nd rfl (by first | exact Or.inl rfl | exact Or.inr rfl) (by first | exact Or.inl rfl | exact Or.inr rfl) (JE.cl (JE.eqS (JE.itemP (E := eS) (F := e_Cl_tell) (g := Cl_tell.word) (n := 0) rfl (fun _ _ => rfl) (fun x => by cases x <;> exact ⟨_, rfl, rfl⟩) (JE.call2 (E1 := e_Tests) (E2 := eI) (f := M.telling) (G := e_Cl_tell) (fun x1 x2 r P h q => ⟨x1, x2, r, rfl, h, q⟩) (c_telling T (hr.mono (by decide))) (JE.var (E := e_Tests) 3 rfl) (JE.var (E := eI) 19 rfl))) JE.str) (by first | with_reducible rfl | (simp only [rtbO, rtbG]; done) | (simp only [rtbO, rtbG]; congr; done) | rfl))) (fun tells231 => (JS.to (ρ' := [.src, .d (eI count132), .u, .d (e_Tests tests148), .u, .u, .d ((eL eI) both163), .u, .u, .u, .u, .u, .u, .d (e_Tests more197), .d (e_Tests again200), .u, .d (e_Tests moved208), .u, .d (e_Tests fewer215), .d (eI most228), .d (eB tells231), .u, .u, .u, .u, .u, .u, .u]) rfl (JS.asg (i := 21) (F := eB) (JAsE.of sc_law_right.nd rfl (by first | exact Or.inl rfl | exact Or.inr rfl) (by first | exact Or.inl rfl | exact Or.inr rfl) (JE.cl (JE.eqS (JE.itemP (E := eS) (F := e_Cl_clear) (g := Cl_clear.word) (n := 0) rfl (fun _ _ => rfl) (fun x => by cases x <;> exact ⟨_, rfl, rfl⟩) (JE.call2 (E1 := e_Tests) (E2 := eI) (f := M.clearing) (G := e_Cl_clear) (fun x1 x2 r P h q => ⟨x1, x2, r, rfl, h, q⟩) (c_clearing T (hr.mono (by decide))) (JE.var (E := e_Tests) 3 rfl) (JE.var (E := eI) 19 rfl))) JE.str) (by first | with_reducible rfl | (simp only [rtbO, rtbG]; done) | (simp only [rtbO, rtbG]; congr; done) | rfl))) (fun clears234 => (JS.to (ρ' := [.src, .d (eI count132), .u, .d (e_Tests tests148), .u, .u, .d ((eL eI) both163), .u, .u, .u, .u, .u, .u, .d (e_Tests more197), .d (e_Tests again200), .u, .d (e_Tests moved208), .u, .d (e_Tests fewer215), .d (eI most228), .d (eB tells231), .d (eB clears234), .u, .u, .u, .u, .u, .u]) rfl (JS.ifT (JT.cl (JW.jt (JW.or (JW.jt (JW.andP (JT.val (JE.var (E := eB) 21 rfl)) (JW.and1 (JT.not (JT.val (JE.var (E := eB) 20 rfl)))))) (JW.or (JT.neS (JE.itemP (E := eS) (F := e_Cl_tell) (g := Cl_tell.word) (n := 0) rfl (fun _ _ => rfl) (fun x => by cases x <;> exact ⟨_, rfl, rfl⟩) (JE.call2 (E1 := e_Tests) (E2 := eI) (f := M.telling) (G := e_Cl_tell) (fun x1 x2 r P h q => ⟨x1, x2, r, rfl, h, q⟩) (c_telling T (hr.mono (by decide))) (JE.var (E := e_Tests) 14 rfl) (JE.var (E := eI) 19 rfl))) (JE.itemP (E := eS) (F := e_Cl_tell) (g := Cl_tell.word) (n := 0) rfl (fun _ _ => rfl) (fun x => by cases x <;> exact ⟨_, rfl, rfl⟩) (JE.call2 (E1 := e_Tests) (E2 := eI) (f := M.telling) (G := e_Cl_tell) (fun x1 x2 r P h q => ⟨x1, x2, r, rfl, h, q⟩) (c_telling T (hr.mono (by decide))) (JE.var (E := e_Tests) 3 rfl) (JE.var (E := eI) 19 rfl)))) (JW.or1 (JT.neS (JE.itemP (E := eS) (F := e_Cl_clear) (g := Cl_clear.word) (n := 0) rfl (fun _ _ => rfl) (fun x => by cases x <;> exact ⟨_, rfl, rfl⟩) (JE.call2 (E1 := e_Tests) (E2 := eI) (f := M.clearing) (G := e_Cl_clear) (fun x1 x2 r P h q => ⟨x1, x2, r, rfl, h, q⟩) (c_clearing T (hr.mono (by decide))) (JE.var (E := e_Tests) 14 rfl) (JE.var (E := eI) 19 rfl))) (JE.itemP (E := eS) (F := e_Cl_clear) (g := Cl_clear.word) (n := 0) rfl (fun _ _ => rfl) (fun x => by cases x <;> exact ⟨_, rfl, rfl⟩) (JE.call2 (E1 := e_Tests) (E2 := eI) (f := M.clearing) (G := e_Cl_clear) (fun x1 x2 r P h q => ⟨x1, x2, r, rfl, h, q⟩) (c_clearing T (hr.mono (by decide))) (JE.var (E := e_Tests) 3 rfl) (JE.var (E := eI) 19 rfl)))))))) (by first | with_reducible rfl | (simp only [rtbO, rtbG]; done) | (simp only [rtbO, rtbG]; congr; done) | rfl)) (JS.retP (c := Fl.rt) (fun _ => rfl) nl_B (JE.cl JE.bl (by first | with_reducible rfl | (simp only [rtbO, rtbG]; done) | (simp only [rtbO, rtbG]; congr; done) | rfl))) (JS.ifT (JT.cl (JW.jt (JW.or (JT.neS (JE.itemP (E := eS) (F := e_Cl_tell) (g := Cl_tell.word) (n := 0) rfl (fun _ _ => rfl) (fun x => by cases x <;> exact ⟨_, rfl, rfl⟩) (JE.call2 (E1 := e_Tests) (E2 := eI) (f := M.telling) (G := e_Cl_tell) (fun x1 x2 r P h q => ⟨x1, x2, r, rfl, h, q⟩) (c_telling T (hr.mono (by decide))) (JE.var (E := e_Tests) 16 rfl) (JE.var (E := eI) 19 rfl))) (JE.itemP (E := eS) (F := e_Cl_tell) (g := Cl_tell.word) (n := 0) rfl (fun _ _ => rfl) (fun x => by cases x <;> exact ⟨_, rfl, rfl⟩) (JE.call2 (E1 := e_Tests) (E2 := eI) (f := M.telling) (G := e_Cl_tell) (fun x1 x2 r P h q => ⟨x1, x2, r, rfl, h, q⟩) (c_telling T (hr.mono (by decide))) (JE.var (E := e_Tests) 3 rfl) (JE.var (E := eI) 19 rfl)))) (JW.or1 (JT.neS (JE.itemP (E := eS) (F := e_Cl_clear) (g := Cl_clear.word) (n := 0) rfl (fun _ _ => rfl) (fun x => by cases x <;> exact ⟨_, rfl, rfl⟩) (JE.call2 (E1 := e_Tests) (E2 := eI) (f := M.clearing) (G := e_Cl_clear) (fun x1 x2 r P h q => ⟨x1, x2, r, rfl, h, q⟩) (c_clearing T (hr.mono (by decide))) (JE.var (E := e_Tests) 16 rfl) (JE.var (E := eI) 19 rfl))) (JE.itemP (E := eS) (F := e_Cl_clear) (g := Cl_clear.word) (n := 0) rfl (fun _ _ => rfl) (fun x => by cases x <;> exact ⟨_, rfl, rfl⟩) (JE.call2 (E1 := e_Tests) (E2 := eI) (f := M.clearing) (G := e_Cl_clear) (fun x1 x2 r P h q => ⟨x1, x2, r, rfl, h, q⟩) (c_clearing T (hr.mono (by decide))) (JE.var (E := e_Tests) 3 rfl) (JE.var (E := eI) 19 rfl))))))) (by first | with_reducible rfl | (simp only [rtbO, rtbG]; done) | (simp only [rtbO, rtbG]; congr; done) | rfl)) (JS.retP (c := Fl.rt) (fun _ => rfl) nl_B (JE.cl JE.bl (by first | with_reducible rfl | (simp only [rtbO, rtbG]; done) | (simp only [rtbO, rtbG]; congr; done) | rfl))) (JS.ifT (JT.cl (JW.jt (JW.and (JT.val (JE.var (E := eB) 20 rfl)) (JW.and1 (JW.jt (JW.or (JT.neS (JE.itemP (E := eS) (F := e_Cl_tell) (g := Cl_tell.word) (n := 0) rfl (fun _ _ => rfl) (fun x => by cases x <;> exact ⟨_, rfl, rfl⟩) (JE.call2 (E1 := e_Tests) (E2 := eI) (f := M.telling) (G := e_Cl_tell) (fun x1 x2 r P h q => ⟨x1, x2, r, rfl, h, q⟩) (c_telling T (hr.mono (by decide))) (JE.var (E := e_Tests) 13 rfl) (JE.var (E := eI) 19 rfl))) JE.str) (JW.or1 (JT.neS (JE.itemP (E := eS) (F := e_Cl_tell) (g := Cl_tell.word) (n := 0) rfl (fun _ _ => rfl) (fun x => by cases x <;> exact ⟨_, rfl, rfl⟩) (JE.call2 (E1 := e_Tests) (E2 := eI) (f := M.telling) (G := e_Cl_tell) (fun x1 x2 r P h q => ⟨x1, x2, r, rfl, h, q⟩) (c_telling T (hr.mono (by decide))) (JE.var (E := e_Tests) 18 rfl) (JE.var (E := eI) 19 rfl))) JE.str))))))) (by first | with_reducible rfl | (simp only [rtbO, rtbG]; done) | (simp only [rtbO, rtbG]; congr; done) | rfl)) (JS.retP (c := Fl.rt) (fun _ => rfl) nl_B (JE.cl JE.bl (by first | with_reducible rfl | (simp only [rtbO, rtbG]; done) | (simp only [rtbO, rtbG]; congr; done) | rfl))) (JS.ifT (JT.cl (JW.jt (JW.and (JT.val (JE.var (E := eB) 21 rfl)) (JW.and1 (JW.jt (JW.or (JT.neS (JE.itemP (E := eS) (F := e_Cl_clear) (g := Cl_clear.word) (n := 0) rfl (fun _ _ => rfl) (fun x => by cases x <;> exact ⟨_, rfl, rfl⟩) (JE.call2 (E1 := e_Tests) (E2 := eI) (f := M.clearing) (G := e_Cl_clear) (fun x1 x2 r P h q => ⟨x1, x2, r, rfl, h, q⟩) (c_clearing T (hr.mono (by decide))) (JE.var (E := e_Tests) 13 rfl) (JE.var (E := eI) 19 rfl))) JE.str) (JW.or1 (JT.neS (JE.itemP (E := eS) (F := e_Cl_clear) (g := Cl_clear.word) (n := 0) rfl (fun _ _ => rfl) (fun x => by cases x <;> exact ⟨_, rfl, rfl⟩) (JE.call2 (E1 := e_Tests) (E2 := eI) (f := M.clearing) (G := e_Cl_clear) (fun x1 x2 r P h q => ⟨x1, x2, r, rfl, h, q⟩) (c_clearing T (hr.mono (by decide))) (JE.var (E := e_Tests) 18 rfl) (JE.var (E := eI) 19 rfl))) JE.str))))))) (by first | with_reducible rfl | (simp only [rtbO, rtbG]; done) | (simp only [rtbO, rtbG]; congr; done) | rfl)) (JS.retP (c := Fl.rt) (fun _ => rfl) nl_B (JE.cl JE.bl (by first | with_reducible rfl | (simp only [rtbO, rtbG]; done) | (simp only [rtbO, rtbG]; congr; done) | rfl))) (JS.ifT (JT.cl (JW.jt (JW.and (JT.eqS (JE.itemP (E := eS) (F := e_Cl_tell) (g := Cl_tell.word) (n := 0) rfl (fun _ _ => rfl) (fun x => by cases x <;> exact ⟨_, rfl, rfl⟩) (JE.call2 (E1 := e_Tests) (E2 := eI) (f := M.telling) (G := e_Cl_tell) (fun x1 x2 r P h q => ⟨x1, x2, r, rfl, h, q⟩) (c_telling T (hr.mono (by decide))) (JE.var (E := e_Tests) 3 rfl) (JE.add (JE.var (E := eI) 19 rfl) JE.int))) JE.str) (JW.and1 (JT.not (JW.jt (JW.andP (JT.val (JE.var (E := eB) 20 rfl)) (JW.and1 (JT.val (JE.var (E := eB) 21 rfl))))))))) (by first | with_reducible rfl | (simp only [rtbO, rtbG]; done) | (simp only [rtbO, rtbG]; congr; done) | rfl)) (JS.retP (c := Fl.rt) (fun _ => rfl) nl_B (JE.cl JE.bl (by first | with_reducible rfl | (simp only [rtbO, rtbG]; done) | (simp only [rtbO, rtbG]; congr; done) | rfl))) (JS.ifT (JT.cl (JW.jt (JW.and (JT.eqS (JE.itemP (E := eS) (F := e_Cl_clear) (g := Cl_clear.word) (n := 0) rfl (fun _ _ => rfl) (fun x => by cases x <;> exact ⟨_, rfl, rfl⟩) (JE.call2 (E1 := e_Tests) (E2 := eI) (f := M.clearing) (G := e_Cl_clear) (fun x1 x2 r P h q => ⟨x1, x2, r, rfl, h, q⟩) (c_clearing T (hr.mono (by decide))) (JE.var (E := e_Tests) 3 rfl) (JE.add (JE.var (E := eI) 19 rfl) JE.int))) JE.str) (JW.and1 (JT.not (JT.val (JE.var (E := eB) 21 rfl)))))) (by first | with_reducible rfl | (simp only [rtbO, rtbG]; done) | (simp only [rtbO, rtbG]; congr; done) | rfl)) (JS.retP (c := Fl.rt) (fun _ => rfl) nl_B (JE.cl JE.bl (by first | with_reducible rfl | (simp only [rtbO, rtbG]; done) | (simp only [rtbO, rtbG]; congr; done) | rfl))) (JS.nil (Fl.nx ()) rfl (.same (.same (.same (.same (.same (.same (.same (.same (.same (.same (.same (.same (.same (.same (.same (.same (.same (.same (.same (.drop (.drop (.drop (.same (.same (.same (.same (.same (.same (.nil))))))))))))))))))))))))))))))))))))))))))) (fun t216 => (JS.asg (i := 22) (F := e_Tests) (JAsE.of sc_law_right.nd rfl (by first | exact Or.inl rfl | exact Or.inr rfl) (by first | exact Or.inl rfl | exact Or.inr rfl) (JE.cl (JE.make2 (E1 := eI) (E2 := (eL (eT eI))) (f := M.mk_Tests) (E := e_Tests) (fl := fl_Tests) (fun x1 x2 r P h q => ⟨.t, x1, x2, r, rfl, h, q⟩) (fun _ => rfl) (c_mk_Tests T (hr.mono (by decide))) (JE.var (E := eI) 1 rfl) (JL.je (JL.mapP (g := fun (thing217 : Int) => [thing217]) (JL.lc0 (M0 := false) (own := [("thing", 23)]) (up := fun ρ x => ρ.set 23 (.d (eI x))) (E := eI) (F := (eT eI)) (f := fun (thing217 : Int) => rt [thing217]) rfl sc_law_right.nd (JI.range1 (by rfl) T.m_range (JE.var (E := eI) 1 rfl)) (by first | exact blkOk_by (own := [("thing", 23)]) (by show blkC ["source", "count", "sets", "tests", "one", "other", "both", "first", "second", "told", "own", "wide", "some", "more", "again", "order", "moved", "out", "fewer", "most", "tells", "clears", "single", "thing", "a", "b", "bad", "test"] (defScope s_law_right) _ _ = true; decide +kernel) | exact blkOk_in (sc0 := defScope s_law_right) (own := [("thing", 23)]) rfl (by show blkC ["source", "count", "sets", "tests", "one", "other", "both", "first", "second", "told", "own", "wide", "some", "more", "again", "order", "moved", "out", "fewer", "most", "tells", "clears", "single", "thing", "a", "b", "bad", "test"] _ _ _ = true; decide +kernel)) (by decide) rfl (fun s H C cl fp => (JG.name 23 sc_law_right.nd rfl (by first | exact Or.inl rfl | exact Or.inr rfl) (by first | exact Or.inl rfl | exact Or.inr rfl))) (fun s H C cl fp thing217 => JE.cl (JE.tup (JH.cons (E := eI) (JE.var (E := eI) 23 rfl) (JH.nil (E := eI)))) (by first | with_reducible rfl | (simp only [rtbO, rtbG]; done) | (simp only [rtbO, rtbG]; congr; done) | rfl)))))) (by first | with_reducible rfl | (simp only [rtbO, rtbG]; done) | (simp only [rtbO, rtbG]; congr; done) | rfl))) (fun single221 => (JS.to (ρ' := [.src, .d (eI count132), .u, .d (e_Tests tests148), .u, .u, .d ((eL eI) both163), .u, .u, .u, .u, .u, .u, .d (e_Tests more197), .d (e_Tests again200), .u, .d (e_Tests moved208), .u, .d (e_Tests fewer215), .u, .u, .u, .d (e_Tests single221), .u, .u, .u, .u, .u]) rfl (JS.ret (c := id) (fun _ => rfl) nl_B (JE.cl (JE.and (JE.eqS (JE.itemP (E := eS) (F := e_Cl_clear) (g := Cl_clear.word) (n := 0) rfl (fun _ _ => rfl) (fun x => by cases x <;> exact ⟨_, rfl, rfl⟩) (JE.call2 (E1 := e_Tests) (E2 := eI) (f := M.clearing) (G := e_Cl_clear) (fun x1 x2 r P h q => ⟨x1, x2, r, rfl, h, q⟩) (c_clearing T (hr.mono (by decide))) (JE.var (E := e_Tests) 22 rfl) JE.int)) JE.str) (JE.and1 (JE.eqF (E := (eL eI)) hr.units (fth_Q fth_I) (shp_Q shp_I) (by decide) (JL.je (JL.call2 (E1 := e_Tests) (E2 := (eT eI)) (f := M.suspects) (G := eI) (fun x1 x2 r P h q => ⟨x1, x2, r, rfl, h, q⟩) (c_suspects T (hr.mono (by decide))) (JE.var (E := e_Tests) 22 rfl) (JE.meth1 (E0 := e_Tests) (E1 := (eL eI)) (pl := _) (f := M.Tests_answers) (G := (eT eI)) (fun _ => ⟨_, rfl⟩) (by decide +kernel) (fun x0 x1 r P h q => ⟨.l, x0, x1, r, rfl, h, q⟩) (c_Tests_answers T (hr.mono (by decide))) (JE.var (E := e_Tests) 22 rfl) (JE.var (E := (eL eI)) 6 rfl)))) (JE.var (E := (eL eI)) 6 rfl)))) (by first | with_reducible rfl | (simp only [rtbO, rtbG]; done) | (simp only [rtbO, rtbG]; congr; done) | rfl)))))))))))))))))))))))))))))))))))))))))))))))))))))))))))))))))))
theorem ok_law_right {P : Program} {w : World} {K : PySem.W.Frag} {mg : Str → Option Value} {base : Heap} (T : Txt K mg) {f : Addr} {fd : FuncData} (Fu : Fun K "_law_right" "_law_right" s_law_right f fd) : FnOk P w K mg base CX0 9 f fd ["source"] (spG K mg F_law_right) :=
 fn_okG Fu sc_law_right F_law_right (fun ds Q h => by obtain ⟨rfl, hq⟩ := h; rfl) (by decide) fun cdv A outer s H E hr ds Q hF => by
  obtain ⟨rfl, hq⟩ := hF
  refine ⟨_, _, _, t_law_right T hr , ?_⟩
  first | with_reducible exact hq | exact hq
theorem c_law_right {X : Cx} (T : Txt X.K X.mg) (hr : Room 9 X.A) : GCallOk X "_law_right" F_law_right := by
 obtain ⟨f, fd, hm, Fu, hb⟩ := T.f_law_right
 exact ⟨9, f, fd, _, ok_law_right T Fu, hr, hm, Fu.kp, hb⟩

/-! ### the law -/
abbrev s_law : Stmt := topS 22
theorem sc_law : FnScope ["script", "k"] ["script"] (defScope s_law) := ⟨rfl, rfl, rfl, by decide +kernel, rfl, by decide +kernel, by decide +kernel⟩
def spLaw (K : PySem.W.Frag) : Sp := fun vs H Q _ => ∃ (a : Addr) (ns : List Int), vs = [.ref a] ∧ SqL K H a (ns.map V.int) ∧ ns.length ≤ 63 ∧ ∀ H', Q (.bl true) H'
theorem source_is (c k : Int) : ∃ i j, M.law_source c k = some [i, j] := by
  unfold M.law_source
  have e : powO 10 18 = some 1000000000000000000 := by decide
  simp only [bdO, lfO, rtO, e, Option.bind_some]
  by_cases h : (1000000000000000000 : Int) ≤ c
  · refine ⟨c - 1000000000000000000, k + 1, ?_⟩
    unfold ifM
    rw [if_pos (decide_eq_true h)]
  · refine ⟨0, (c * 7919 + k * 104729 + 1) % 2147483647, ?_⟩
    unfold ifM
    rw [if_neg (by rw [decide_eq_false h]; decide)]
theorem ok_law {P : Program} {w : World} {K : PySem.W.Frag} {mg : Str → Option Value} {base : Heap} (T : Txt K mg) (right : M.law_right.wp fun b => b = true) {f : Addr} {fd : FuncData} (Fu : Fun K "law" "law" s_law f fd) : FnOk P w K mg base CX0 10 f fd ["script"] (spLaw K) := by
  obtain ⟨fc, fdc, hmc, Fc, bc⟩ := T.f_law_cell
  obtain ⟨fs, fds, hms, Fs, bs⟩ := T.f_law_source
  obtain ⟨fr, fdr, hmr, Fr, br⟩ := T.f_law_right
  have C : FnOk P w K mg base CX0 1 fc fdc ["script", "k"] (spCell K) := ok_law_cell T Fc
  have S : FnOk P w K mg base CX0 1 fs fds ["cell", "k"] (spF K mg F_law_source) := ok_law_source T Fs
  have R : FnOk P w K mg base CX0 9 fr fdr ["source"] (spG K mg F_law_right) := ok_law_right T Fr
  refine Fu.ok sc_law (fun vs H Q E hs => ?_) (fun cdv A outer s H vs Q E hr hs => ?_)
  · obtain ⟨a, ns, rfl, _⟩ := hs
    rfl
  · obtain ⟨a, ns, rfl, hS, hl, q⟩ := hs
    refine ⟨_, pss_cons (ps_for PassesOwn.never rfl (pi_range1 (by rfl) T.m_range (pa_cons (pe_op op_add (pe_callB (call_min2 rfl) (by rfl) T.m_min (by decide +kernel) (pa_cons (pe_callB call_len_seq (by rfl) T.m_len PySem.boot_len (pa_cons (pv 0) pa_nil (by rfl)) (by decide) (by decide) (by rfl) (by rfl)) (pa_cons pe_int pa_nil (by rfl)) (by rfl)) (by decide) (by decide) (by rfl) (by rfl)) pe_int) pa_nil (by rfl))) (pg_name (i := 1) sc_law.nd rfl (.inl rfl))
        (pss_one (ps_if (pt_not (pt_val (pe_call R (hr.mono (by decide)) (by rfl) hmr Fr.kp br .nil pass0 (pa_cons (pe_call S (hr.mono (by decide)) (by rfl) hms Fs.kp bs .nil pass0 (pa_cons (pe_call C (hr.mono (by decide)) (by rfl) hmc Fc.kp bc .nil pass0 (pa_cons (pv 0) (pa_cons (pv 1) pa_nil (by rfl)) (by rfl)) (by decide) (by rfl) (by rfl)) (pa_cons (pv 1) pa_nil (by rfl)) (by rfl)) (by decide) (by rfl) (by rfl)) pa_nil (by rfl)) (by decide) (by rfl) (by rfl)))) (pss_one (ps_ret pe_bl)) pss_nil)))
      (pss_one (ps_ret pe_bl)), ?_⟩
    refine ⟨.ref a, rfl, a, ns.map V.int, rfl, .inl hS, _, _, rfl, _, _, rfl, rfl, _, rfl, ?_, ?_, ?_⟩
    · rw [List.length_map]; split <;> omega
    · rw [List.length_map]; split <;> omega
    refine for_range (fun i σ H' => ∃ v, σ = [some (.ref a), v] ∧ Same H H') ⟨_, rfl, Same.refl H⟩ ?_ ?_
    · rintro i σ H1 hi ⟨v, rfl, sm⟩
      have hS1 : SqL K H1 a (ns.map V.int) := sm.seq hS
      refine ⟨.ref a, rfl, .int (0 + (i : Int)), rfl, a, ns, i, by rw [Int.zero_add]; rfl, hS1, fun z => ?_⟩
      refine ⟨.int (0 + (i : Int)), rfl, ?_⟩
      obtain ⟨x, y, hxy⟩ := source_is z (0 + (i : Int))
      refine ⟨fun _ => False, _, fun _ h => h.elim, .cons (.i z) (.cons (.i _) .nil), z, 0 + (i : Int), [x, y], rfl, hxy, ?_⟩
      rintro v2 H2 al ⟨_, p, vs, rfl, np, hp, rs⟩
      have hvs : vs = [.int x, .int y] := Reps.ints (ns := [x, y]) rs
      subst hvs
      refine ⟨p, fun b => b = p, [], [], rfl, rfl, ⟨x, y, hp⟩, fun b hb => by rw [hb, hp]; trivial, .nil, rfl, G.wp_mono (fun b hb => ?_) _ right⟩
      subst hb
      rintro v3 H3 ⟨hf, _⟩ ⟨r3, _⟩
      cases r3
      refine ⟨_, rfl, ?_⟩
      show (if (!true) = true then _ else _)
      rw [if_neg (by decide)]
      refine ⟨_, rfl, fun b o e => hf b o (al b o (sm b o e)) fun z => ?_⟩
      cases z
      rw [sm.free np] at e
      cases e
    · rintro σ H1 ⟨v, rfl, sm⟩
      exact q _
theorem all_mk {l : PySem.W.OpenLaw} {w : World} {K : PySem.W.Frag} {h : Heap} {mg : Str → Option Value} {fa f1 f2 f3 f4 f5 f6 f7 f8 f9 f10 f11 f12 f13 f14 f15 f16 C_Tests : Addr} {od1 an1 od2 an2 od3 an3 od4 an4 od5 an5 od6 an6 od7 an7 od8 an8 od9 an9 od10 an10 od11 an11 od12 an12 od13 an13 od14 an14 od15 an15 od16 an16 : Option Addr} {sl1 sl2 sl3 sl4 sl5 sl6 sl7 sl8 sl9 sl10 sl11 sl12 sl13 sl14 sl15 sl16 : Array (Option Value)} {oc1 kV1 dc1 pm1 cd1 ct1 oc2 kV2 dc2 pm2 cd2 ct2 oc3 kV3 dc3 pm3 cd3 ct3 oc4 kV4 dc4 pm4 cd4 ct4 oc5 kV5 dc5 pm5 cd5 ct5 oc6 kV6 dc6 pm6 cd6 ct6 oc7 kV7 dc7 pm7 cd7 ct7 oc8 kV8 dc8 pm8 cd8 ct8 oc9 kV9 dc9 pm9 cd9 ct9 oc10 kV10 dc10 pm10 cd10 ct10 oc11 kV11 dc11 pm11 cd11 ct11 oc12 kV12 dc12 pm12 cd12 ct12 oc13 kV13 dc13 pm13 cd13 ct13 oc14 kV14 dc14 pm14 cd14 ct14 oc15 kV15 dc15 pm15 cd15 ct15 oc16 kV16 dc16 pm16 cd16 ct16 : Value} {t_MOST_TESTS t_MOST_THINGS : _} (X : K.In h) (G : h.Ns mainGlobals mg) (hfa : mg "law" = some (.ref fa))
    (aC_Tests : PySem.W.nsIn K mainGlobals "Tests" = some (some (.ref C_Tests)))
    (pg_Tests : PySem.W.plainGet K C_Tests Str.empty = true)
    (hd_Tests : PySem.W.hasDictIn K C_Tests = true)
    (po_Tests : PySem.W.plainOver K C_Tests = true)
    (sa_Tests : PySem.W.findIn K (.ref C_Tests) "__setattr__" = some (some (.builtin "object.__setattr__")))
    (mk_Tests : PySem.W.makesIn K C_Tests = true)
    (kc_Tests : PySem.W.keepIn K (.ref C_Tests) = true)
    (n_Tests_count : PySem.W.findIn K (.ref C_Tests) "count" = some none)
    (n_Tests_tests : PySem.W.findIn K (.ref C_Tests) "tests" = some none)
    (z_all : PySem.W.nsIn K mainGlobals "all" = some none)
    (z_any : PySem.W.nsIn K mainGlobals "any" = some none)
    (z_enumerate : PySem.W.nsIn K mainGlobals "enumerate" = some none)
    (z_int : PySem.W.nsIn K mainGlobals "int" = some none)
    (z_len : PySem.W.nsIn K mainGlobals "len" = some none)
    (z_list : PySem.W.nsIn K mainGlobals "list" = some none)
    (z_max : PySem.W.nsIn K mainGlobals "max" = some none)
    (z_min : PySem.W.nsIn K mainGlobals "min" = some none)
    (z_range : PySem.W.nsIn K mainGlobals "range" = some none)
    (z_set : PySem.W.nsIn K mainGlobals "set" = some none)
    (z_sorted : PySem.W.nsIn K mainGlobals "sorted" = some none)
    (z_tuple : PySem.W.nsIn K mainGlobals "tuple" = some none)
    (z_zip : PySem.W.nsIn K mainGlobals "zip" = some none)
    (g_MOST_TESTS : PySem.W.nsIn K mainGlobals "MOST_TESTS" = some (some (.int 40 t_MOST_TESTS)))
    (g_MOST_THINGS : PySem.W.nsIn K mainGlobals "MOST_THINGS" = some (some (.int 24 t_MOST_THINGS)))
    (a1 : PySem.W.nsIn K mainGlobals "subsets" = some (some (.ref f1)))
    (l1 : K.lookup f1 = some ⟨oc1, od1, .func (PySem.W.fnOf "subsets" "subsets" (defArgs s_subsets) (defBody s_subsets) (defScope s_subsets) .none kV1 dc1 pm1 an1 cd1 ct1), sl1⟩)
    (c1 : PySem.W.codeIn K cd1 "subsets" = true)
    (k1 : PySem.W.keepIn K (.ref f1) = true)
    (a2 : PySem.W.findIn K (.ref C_Tests) "__init__" = some (some (.ref f2)))
    (i2 : PySem.W.isFn K (.ref f2) = true)
    (l2 : K.lookup f2 = some ⟨oc2, od2, .func (PySem.W.fnOf "__init__" "Tests.__init__" (defArgs s_mk_Tests) (defBody s_mk_Tests) (defScope s_mk_Tests) .none kV2 dc2 pm2 an2 cd2 ct2), sl2⟩)
    (c2 : PySem.W.codeIn K cd2 "Tests.__init__" = true)
    (k2 : PySem.W.keepIn K (.ref f2) = true)
    (a3 : PySem.W.findIn K (.ref C_Tests) "answers" = some (some (.ref f3)))
    (i3 : PySem.W.isFn K (.ref f3) = true)
    (l3 : K.lookup f3 = some ⟨oc3, od3, .func (PySem.W.fnOf "answers" "Tests.answers" (defArgs s_Tests_answers) (defBody s_Tests_answers) (defScope s_Tests_answers) .none kV3 dc3 pm3 an3 cd3 ct3), sl3⟩)
    (c3 : PySem.W.codeIn K cd3 "Tests.answers" = true)
    (k3 : PySem.W.keepIn K (.ref f3) = true)
    (a4 : PySem.W.findIn K (.ref C_Tests) "of" = some (some (.ref f4)))
    (i4 : PySem.W.isFn K (.ref f4) = true)
    (l4 : K.lookup f4 = some ⟨oc4, od4, .func (PySem.W.fnOf "of" "Tests.of" (defArgs s_Tests_of) (defBody s_Tests_of) (defScope s_Tests_of) .none kV4 dc4 pm4 an4 cd4 ct4), sl4⟩)
    (c4 : PySem.W.codeIn K cd4 "Tests.of" = true)
    (k4 : PySem.W.keepIn K (.ref f4) = true)
    (a5 : PySem.W.nsIn K mainGlobals "telling" = some (some (.ref f5)))
    (l5 : K.lookup f5 = some ⟨oc5, od5, .func (PySem.W.fnOf "telling" "telling" (defArgs s_telling) (defBody s_telling) (defScope s_telling) .none kV5 dc5 pm5 an5 cd5 ct5), sl5⟩)
    (c5 : PySem.W.codeIn K cd5 "telling" = true)
    (k5 : PySem.W.keepIn K (.ref f5) = true)
    (a6 : PySem.W.nsIn K mainGlobals "clearing" = some (some (.ref f6)))
    (l6 : K.lookup f6 = some ⟨oc6, od6, .func (PySem.W.fnOf "clearing" "clearing" (defArgs s_clearing) (defBody s_clearing) (defScope s_clearing) .none kV6 dc6 pm6 an6 cd6 ct6), sl6⟩)
    (c6 : PySem.W.codeIn K cd6 "clearing" = true)
    (k6 : PySem.W.keepIn K (.ref f6) = true)
    (a7 : PySem.W.nsIn K mainGlobals "_is_covered" = some (some (.ref f7)))
    (l7 : K.lookup f7 = some ⟨oc7, od7, .func (PySem.W.fnOf "_is_covered" "_is_covered" (defArgs s_is_covered) (defBody s_is_covered) (defScope s_is_covered) .none kV7 dc7 pm7 an7 cd7 ct7), sl7⟩)
    (c7 : PySem.W.codeIn K cd7 "_is_covered" = true)
    (k7 : PySem.W.keepIn K (.ref f7) = true)
    (a8 : PySem.W.nsIn K mainGlobals "suspects" = some (some (.ref f8)))
    (l8 : K.lookup f8 = some ⟨oc8, od8, .func (PySem.W.fnOf "suspects" "suspects" (defArgs s_suspects) (defBody s_suspects) (defScope s_suspects) .none kV8 dc8 pm8 an8 cd8 ct8), sl8⟩)
    (c8 : PySem.W.codeIn K cd8 "suspects" = true)
    (k8 : PySem.W.keepIn K (.ref f8) = true)
    (a9 : PySem.W.nsIn K mainGlobals "explained" = some (some (.ref f9)))
    (l9 : K.lookup f9 = some ⟨oc9, od9, .func (PySem.W.fnOf "explained" "explained" (defArgs s_explained) (defBody s_explained) (defScope s_explained) .none kV9 dc9 pm9 an9 cd9 ct9), sl9⟩)
    (c9 : PySem.W.codeIn K cd9 "explained" = true)
    (k9 : PySem.W.keepIn K (.ref f9) = true)
    (a10 : PySem.W.nsIn K mainGlobals "_law_cell" = some (some (.ref f10)))
    (l10 : K.lookup f10 = some ⟨oc10, od10, .func (PySem.W.fnOf "_law_cell" "_law_cell" (defArgs s_law_cell) (defBody s_law_cell) (defScope s_law_cell) .none kV10 dc10 pm10 an10 cd10 ct10), sl10⟩)
    (c10 : PySem.W.codeIn K cd10 "_law_cell" = true)
    (k10 : PySem.W.keepIn K (.ref f10) = true)
    (a11 : PySem.W.nsIn K mainGlobals "_law_source" = some (some (.ref f11)))
    (l11 : K.lookup f11 = some ⟨oc11, od11, .func (PySem.W.fnOf "_law_source" "_law_source" (defArgs s_law_source) (defBody s_law_source) (defScope s_law_source) .none kV11 dc11 pm11 an11 cd11 ct11), sl11⟩)
    (c11 : PySem.W.codeIn K cd11 "_law_source" = true)
    (k11 : PySem.W.keepIn K (.ref f11) = true)
    (a12 : PySem.W.nsIn K mainGlobals "_law_pick" = some (some (.ref f12)))
    (l12 : K.lookup f12 = some ⟨oc12, od12, .func (PySem.W.fnOf "_law_pick" "_law_pick" (defArgs s_law_pick) (defBody s_law_pick) (defScope s_law_pick) .none kV12 dc12 pm12 an12 cd12 ct12), sl12⟩)
    (c12 : PySem.W.codeIn K cd12 "_law_pick" = true)
    (k12 : PySem.W.keepIn K (.ref f12) = true)
    (a13 : PySem.W.nsIn K mainGlobals "_law_mixed" = some (some (.ref f13)))
    (l13 : K.lookup f13 = some ⟨oc13, od13, .func (PySem.W.fnOf "_law_mixed" "_law_mixed" (defArgs s_law_mixed) (defBody s_law_mixed) (defScope s_law_mixed) .none kV13 dc13 pm13 an13 cd13 ct13), sl13⟩)
    (c13 : PySem.W.codeIn K cd13 "_law_mixed" = true)
    (k13 : PySem.W.keepIn K (.ref f13) = true)
    (a14 : PySem.W.nsIn K mainGlobals "_law_drawn" = some (some (.ref f14)))
    (l14 : K.lookup f14 = some ⟨oc14, od14, .func (PySem.W.fnOf "_law_drawn" "_law_drawn" (defArgs s_law_drawn) (defBody s_law_drawn) (defScope s_law_drawn) .none kV14 dc14 pm14 an14 cd14 ct14), sl14⟩)
    (c14 : PySem.W.codeIn K cd14 "_law_drawn" = true)
    (k14 : PySem.W.keepIn K (.ref f14) = true)
    (a15 : PySem.W.nsIn K mainGlobals "_law_right" = some (some (.ref f15)))
    (l15 : K.lookup f15 = some ⟨oc15, od15, .func (PySem.W.fnOf "_law_right" "_law_right" (defArgs s_law_right) (defBody s_law_right) (defScope s_law_right) .none kV15 dc15 pm15 an15 cd15 ct15), sl15⟩)
    (c15 : PySem.W.codeIn K cd15 "_law_right" = true)
    (k15 : PySem.W.keepIn K (.ref f15) = true)
    (a16 : PySem.W.nsIn K mainGlobals "law" = some (some (.ref f16)))
    (l16 : K.lookup f16 = some ⟨oc16, od16, .func (PySem.W.fnOf "law" "law" (defArgs s_law) (defBody s_law) (defScope s_law) .none kV16 dc16 pm16 an16 cd16 ct16), sl16⟩)
    (c16 : PySem.W.codeIn K cd16 "law" = true)
    (k16 : PySem.W.keepIn K (.ref f16) = true)
    (right : M.law_right.wp fun b => b = true) : ∃ fd : FuncData, (∀ (s : Shared) (v : Value), BindsTo s fd ⟨[v], []⟩ [("script", v)]) ∧ ∀ base : Heap, K.In base → base.Ns mainGlobals mg → FnOk l.prog w K mg base CX0 10 fa fd ["script"] (spLaw K) := by
  have e := hfa.symm.trans (PySem.W.mg_of X G a16)
  cases e
  have F1 := fun_mk (st := s_subsets) l1 c1 k1
  have b1 := F1.binds (ps := ["things", "size"]) fun _ _ _ _ _ _ us hl => match us, hl with | [_, _], _ => rfl
  have F2 := fun_mk (st := s_mk_Tests) l2 c2 k2
  have b2 := F2.binds (ps := ["self", "count", "tests"]) fun _ _ _ _ _ _ us hl => match us, hl with | [_, _, _], _ => rfl
  have F3 := fun_mk (st := s_Tests_answers) l3 c3 k3
  have b3 := F3.binds (ps := ["self", "bad"]) fun _ _ _ _ _ _ us hl => match us, hl with | [_, _], _ => rfl
  have F4 := fun_mk (st := s_Tests_of) l4 c4 k4
  have b4 := F4.binds (ps := ["self", "thing"]) fun _ _ _ _ _ _ us hl => match us, hl with | [_, _], _ => rfl
  have F5 := fun_mk (st := s_telling) l5 c5 k5
  have b5 := F5.binds (ps := ["tests", "most"]) fun _ _ _ _ _ _ us hl => match us, hl with | [_, _], _ => rfl
  have F6 := fun_mk (st := s_clearing) l6 c6 k6
  have b6 := F6.binds (ps := ["tests", "most"]) fun _ _ _ _ _ _ us hl => match us, hl with | [_, _], _ => rfl
  have F7 := fun_mk (st := s_is_covered) l7 c7 k7
  have b7 := F7.binds (ps := ["tests", "thing", "bad"]) fun _ _ _ _ _ _ us hl => match us, hl with | [_, _, _], _ => rfl
  have F8 := fun_mk (st := s_suspects) l8 c8 k8
  have b8 := F8.binds (ps := ["tests", "answers"]) fun _ _ _ _ _ _ us hl => match us, hl with | [_, _], _ => rfl
  have F9 := fun_mk (st := s_explained) l9 c9 k9
  have b9 := F9.binds (ps := ["tests", "answers", "most"]) fun _ _ _ _ _ _ us hl => match us, hl with | [_, _, _], _ => rfl
  have F10 := fun_mk (st := s_law_cell) l10 c10 k10
  have b10 := F10.binds (ps := ["script", "k"]) fun _ _ _ _ _ _ us hl => match us, hl with | [_, _], _ => rfl
  have F11 := fun_mk (st := s_law_source) l11 c11 k11
  have b11 := F11.binds (ps := ["cell", "k"]) fun _ _ _ _ _ _ us hl => match us, hl with | [_, _], _ => rfl
  have F12 := fun_mk (st := s_law_pick) l12 c12 k12
  have b12 := F12.binds (ps := ["source", "many"]) fun _ _ _ _ _ _ us hl => match us, hl with | [_, _], _ => rfl
  have F13 := fun_mk (st := s_law_mixed) l13 c13 k13
  have b13 := F13.binds (ps := ["source", "things"]) fun _ _ _ _ _ _ us hl => match us, hl with | [_, _], _ => rfl
  have F14 := fun_mk (st := s_law_drawn) l14 c14 k14
  have b14 := F14.binds (ps := ["source", "count"]) fun _ _ _ _ _ _ us hl => match us, hl with | [_, _], _ => rfl
  have F15 := fun_mk (st := s_law_right) l15 c15 k15
  have b15 := F15.binds (ps := ["source"]) fun _ _ _ _ _ _ us hl => match us, hl with | [_], _ => rfl
  have F16 := fun_mk (st := s_law) l16 c16 k16
  have T : Txt K mg := ⟨PySem.W.mg_none_of X G z_all,
    PySem.W.mg_none_of X G z_any,
    PySem.W.mg_none_of X G z_enumerate,
    PySem.W.mg_none_of X G z_int,
    PySem.W.mg_none_of X G z_len,
    PySem.W.mg_none_of X G z_list,
    PySem.W.mg_none_of X G z_max,
    PySem.W.mg_none_of X G z_min,
    PySem.W.mg_none_of X G z_range,
    PySem.W.mg_none_of X G z_set,
    PySem.W.mg_none_of X G z_sorted,
    PySem.W.mg_none_of X G z_tuple,
    PySem.W.mg_none_of X G z_zip,
    ⟨_, PySem.W.mg_of X G g_MOST_TESTS⟩,
    ⟨_, PySem.W.mg_of X G g_MOST_THINGS⟩,
    fun C hC => by
      have e := hC.symm.trans (PySem.W.mg_of X G aC_Tests)
      cases e
      exact ⟨⟨pg_Tests, hd_Tests, po_Tests, sa_Tests⟩, n_Tests_count⟩,
    fun C hC => by
      have e := hC.symm.trans (PySem.W.mg_of X G aC_Tests)
      cases e
      exact ⟨⟨pg_Tests, hd_Tests, po_Tests, sa_Tests⟩, n_Tests_tests⟩,
    ⟨f1, _, PySem.W.mg_of X G a1, F1, b1⟩,
    ⟨C_Tests, f2, _, PySem.W.mg_of X G aC_Tests, ⟨pg_Tests, hd_Tests, po_Tests, sa_Tests⟩, ⟨mk_Tests, a2, i2, kc_Tests⟩, F2, b2⟩,
    ⟨C_Tests, f3, _, PySem.W.mg_of X G aC_Tests, ⟨pg_Tests, hd_Tests, po_Tests, sa_Tests⟩, ⟨a3, i3, k3⟩, F3, b3⟩,
    ⟨C_Tests, f4, _, PySem.W.mg_of X G aC_Tests, ⟨pg_Tests, hd_Tests, po_Tests, sa_Tests⟩, ⟨a4, i4, k4⟩, F4, b4⟩,
    ⟨f5, _, PySem.W.mg_of X G a5, F5, b5⟩,
    ⟨f6, _, PySem.W.mg_of X G a6, F6, b6⟩,
    ⟨f7, _, PySem.W.mg_of X G a7, F7, b7⟩,
    ⟨f8, _, PySem.W.mg_of X G a8, F8, b8⟩,
    ⟨f9, _, PySem.W.mg_of X G a9, F9, b9⟩,
    ⟨f10, _, PySem.W.mg_of X G a10, F10, b10⟩,
    ⟨f11, _, PySem.W.mg_of X G a11, F11, b11⟩,
    ⟨f12, _, PySem.W.mg_of X G a12, F12, b12⟩,
    ⟨f13, _, PySem.W.mg_of X G a13, F13, b13⟩,
    ⟨f14, _, PySem.W.mg_of X G a14, F14, b14⟩,
    ⟨f15, _, PySem.W.mg_of X G a15, F15, b15⟩⟩
  exact ⟨PySem.W.fnOf "law" "law" (defArgs s_law) (defBody s_law) (defScope s_law) .none kV16 dc16 pm16 an16 cd16 ct16, fun s v => .of_eq rfl, fun base _ _ => ok_law T right F16⟩
end Wk

namespace Wk
open PySem PySem.Spec PyProof.Rows L2
/-! ### draws -/
section
variable {α β γ τ κ : Type}
theorem wp_bdG {a : G α} {f : α → G β} {P : β → Prop} (h : a.wp fun x => (f x).wp P) : (bd a f).wp P := (G.wp_bind a).mpr h
theorem wp_pick {n : Int} {k : Int → G α} {P : α → Prop} (h0 : 0 < n) (h1 : n < 1073741824) (h : ∀ r : Nat, (r : Int) < n → (k (r : Int)).wp P) : (bd (pickM n) k).wp P := by
  refine wp_bdG ?_
  unfold pickM
  rw [if_pos ⟨h0, h1⟩]
  refine ⟨h0, fun r h2 h3 => ?_⟩
  obtain ⟨i, rfl⟩ := Int.eq_ofNat_of_zero_le h2
  exact h i h3
theorem wp_pick1 {n : Int} {P : Int → Prop} (h0 : 0 < n) (h1 : n < 1073741824) (h : ∀ r : Nat, (r : Int) < n → P (r : Int)) : (pickM n).wp P := by
  unfold pickM
  rw [if_pos ⟨h0, h1⟩]
  refine ⟨h0, fun r h2 h3 => ?_⟩
  obtain ⟨i, rfl⟩ := Int.eq_ofNat_of_zero_le h2
  exact h i h3
theorem wp_lf {a : Option α} {x : α} {f : α → G β} {P : β → Prop} (e : a = some x) (h : (f x).wp P) : (bd (lf a) f).wp P := by rw [bdLG e]; exact h
/-- a loop whose turns all fall through -/
theorem wp_loop {f : γ → τ → G (Fl τ τ β)} {c : β → κ} {k : τ → G κ} {P : κ → Prop} (I : τ → Prop) : ∀ {xs : List γ} {t : τ}, I t → (∀ x ∈ xs, ∀ t, I t → (f x t).wp fun fl => ∃ t', (fl = .nx t' ∨ fl = .ct t') ∧ I t') → (∀ t, I t → (k t).wp P) → (bd (loopM f xs t) (outM c k)).wp P
  | [], t, hI, _, hk => hk t hI
  | x :: xs, t, hI, hf, hk => by
    refine wp_bdG ?_
    show (bd (f x t) _).wp _
    refine wp_bdG (G.wp_mono (fun fl h => ?_) _ (hf x List.mem_cons_self t hI))
    obtain ⟨t', e, hI'⟩ := h
    have ih := wp_loop (c := c) I (xs := xs) hI' (fun y hy => hf y (List.mem_cons_of_mem _ hy)) hk
    rcases e with e | e <;> (subst e; exact (G.wp_bind _).mp ih)
end
end Wk

namespace Wk
open PySem PySem.Spec PyProof.Rows L2
/-! ### steps of the mirrors, as rewritings -/
section
variable {α β γ τ : Type}
theorem lfbG (x : α) (f : α → G β) : bd (lf (some x)) f = f x := Eq.trans rfl rfl
theorem lfbO (x : α) (f : α → Option β) : bd (lf (some x)) f = f x := Eq.trans rfl rfl
theorem lfsG (x : α) : (lf (some x) : G α) = rt x := Eq.trans rfl rfl
theorem lfsO (x : α) : (lf (some x) : Option α) = some x := Eq.trans rfl rfl
theorem rtsO (x : α) : (rt x : Option α) = some x := Eq.trans rfl rfl
theorem sobO (x : α) (f : α → Option β) : bd (some x) f = f x := Eq.trans rfl rfl
theorem ifT {m : Type → Type} [Mn m] {α : Type} (u v : m α) : ifM true u v = u := Eq.trans rfl rfl
theorem ifF {m : Type → Type} [Mn m] {α : Type} (u v : m α) : ifM false u v = v := Eq.trans rfl rfl
theorem ifrtG (b c d : Bool) : (ifM b (rt c) (rt d) : G Bool) = rt (if b then c else d) := by cases b <;> rfl
theorem ifsO {b : Bool} {x y : α} : (ifM b (some x) (some y) : Option α) = some (if b then x else y) := by cases b <;> rfl
theorem wp_rt {x : α} {P : α → Prop} (h : P x) : (rt x : G α).wp P := h
theorem wp_mono {P Q : α → Prop} {g : G α} (h : g.wp P) (k : ∀ x, P x → Q x) : g.wp Q := G.wp_mono k g h
theorem wp_bd {a : G α} {f : α → G β} {P : β → Prop} {Q : α → Prop} (h : a.wp Q) (k : ∀ x, Q x → (f x).wp P) : (bd a f).wp P := wp_bdG (wp_mono h k)
theorem stepF {c : G Bool} {K : G α} {x : α} {P : α → Prop} (h : c = rt false) (hk : K.wp P) : (bd c fun b => ifM b (rt x) K).wp P := by
  rw [h, rtbG, ifF]; exact hk
/-- a check that holds -/
theorem stepW {c : G Bool} {K : G α} {x : α} {P : α → Prop} (h : c.wp fun b => b = false) (hk : K.wp P) : (bd c fun b => ifM b (rt x) K).wp P :=
  wp_bd h fun b hb => by rw [hb, ifF]; exact hk
theorem wp_and {g : G α} {P Q : α → Prop} (h : g.wp P) (k : g.wp Q) : g.wp fun x => P x ∧ Q x := by
  induction g with
  | ret x => exact ⟨h, k⟩
  | fail => exact h.elim
  | draw n f ih => exact ⟨h.1, fun r h1 h2 => ih r (h.2 r h1 h2) (k.2 r h1 h2)⟩
/-! draws of lists -/
theorem wp_lc {c : α → G Bool} {g : α → β} : ∀ {xs : List α}, (∀ x ∈ xs, (c x).wp fun _ => True) → (lcM c (fun x => rt (g x)) xs).wp fun ys => ∃ zs : List α, zs.Sublist xs ∧ ys = zs.map g
  | [], _ => ⟨[], .slnil, rfl⟩
  | x :: xs, h => by
    have ih := wp_lc (g := g) fun y hy => h y (List.mem_cons_of_mem _ hy)
    refine wp_bd (h x List.mem_cons_self) fun b _ => ?_
    cases b with
    | false =>
      rw [ifF]
      exact wp_mono ih fun ys ⟨zs, h1, h2⟩ => ⟨zs, h1.cons x, h2⟩
    | true =>
      rw [ifT, rtbG]
      refine wp_bd ih fun ys ⟨zs, h1, h2⟩ => ?_
      exact wp_rt ⟨x :: zs, h1.cons₂ x, by rw [h2]; rfl⟩
theorem wp_lc0 {c : α → G Bool} {xs : List α} (h : ∀ x ∈ xs, (c x).wp fun _ => True) : (lcM c (fun x => rt x) xs).wp fun ys => ys.Sublist xs :=
  wp_mono (wp_lc (g := id) h) fun ys ⟨zs, h1, h2⟩ => by rw [h2, List.map_id]; exact h1
theorem wp_mapM {f : α → G β} {Q : β → Prop} : ∀ {xs : List α}, (∀ x ∈ xs, (f x).wp Q) → (mapM' f xs).wp fun ys => ys.length = xs.length ∧ ∀ y ∈ ys, Q y
  | [], _ => ⟨rfl, fun _ h => nomatch h⟩
  | x :: xs, h => by
    refine wp_bd (h x List.mem_cons_self) fun y hy => wp_bd (wp_mapM fun z hz => h z (List.mem_cons_of_mem _ hz)) fun ys hys => wp_rt ⟨?_, ?_⟩
    · rw [List.length_cons, List.length_cons, hys.1]
    · intro z hz
      rcases List.mem_cons.mp hz with e | hz
      · rw [e]; exact hy
      · exact hys.2 z hz
theorem wp_fold {f : γ → τ → G τ} (R : Nat → τ → Prop) {N : Nat} : ∀ {xs : List γ} {i : Nat} {t : τ}, i + xs.length = N → R i t → (∀ x ∈ xs, ∀ i t, i < N → R i t → (f x t).wp (R (i + 1))) → (foldM' f xs t).wp (R N)
  | [], i, t, e, h, _ => by
    have : i = N := e
    subst this
    exact h
  | x :: xs, i, t, e, h, k => by
    rw [List.length_cons] at e
    exact wp_bd (k x List.mem_cons_self i t (by omega) h) fun t' h' => wp_fold R (by omega) h' fun y hy => k y (List.mem_cons_of_mem _ hy)
theorem popO_nat {xs : List α} {i : Nat} {x : α} (h : xs[i]? = some x) (hl : xs.length < 4611686018427387904) : popO xs (i : Int) = some (x, xs.eraseIdx i) := by
  have hi : i < xs.length := (List.getElem?_eq_some_iff.mp h).1
  unfold popO
  rw [if_pos (bdd_nat (by omega)), ixN_of hi, Option.bind_some, h]
  rfl
theorem eraseIdx_perm' : ∀ {xs : List α} {i : Nat} {x : α}, xs[i]? = some x → (x :: xs.eraseIdx i).Perm xs
  | [], _, _, h => by simp at h
  | y :: ys, 0, x, h => by simp at h; subst h; exact .refl _
  | y :: ys, i + 1, x, h => by
    have ih := eraseIdx_perm' (xs := ys) (i := i) (x := x) (by simpa using h)
    rw [List.eraseIdx_cons_succ]
    exact (List.Perm.swap y x _).trans (ih.cons y)
/-- the things in a drawn order -/
theorem mix_perm {xs : List α} (hl : xs.length < 1000) :
    (bd (rt ([] : List α)) fun found => bd (lf (range1O (xs.length : Int))) fun rs => bd (foldM' (fun (_ : Int) (t : List α × List α) => bd (bd (pickM (t.1.length : Int)) fun i => lf (popO t.1 i)) fun pr => bd (lf (appO t.2 pr.1)) fun fd => (fun left => rt (left, fd)) pr.2) rs (xs, found)) fun t => (rt t.2 : G (List α))).wp fun ys => ys.Perm xs := by
  rw [rtbG, range1_nat (by omega), lfbG]
  refine wp_bd (wp_fold (fun n t => (t.1 ++ t.2).Perm xs ∧ t.2.length = n) (N := xs.length) (i := 0) (t := (xs, [])) (by rw [List.length_map, List.length_range, Nat.zero_add]) ⟨by rw [List.append_nil], rfl⟩ ?_) fun t ht => ?_
  · intro x _ i t hi ⟨h1, h2⟩
    have hlen : t.1.length + t.2.length = xs.length := by rw [← List.length_append]; exact h1.length_eq
    · have h0 : 0 < t.1.length := by omega
      refine wp_bdG (wp_bdG (wp_pick1 (by omega) (by omega) fun r hr => ?_))
      have hr : r < t.1.length := by omega
      rw [popO_nat (List.getElem?_eq_getElem hr) (by omega), lfsG]
      refine wp_rt ?_
      rw [appO_some (by omega), lfbG]
      refine wp_rt ⟨?_, by rw [List.length_append, h2]; rfl⟩
      have e := eraseIdx_perm' (List.getElem?_eq_getElem hr)
      refine List.Perm.trans ?_ h1
      have : (List.eraseIdx t.1 r ++ (t.2 ++ [t.1[r]])).Perm (t.1[r] :: List.eraseIdx t.1 r ++ t.2) := by
        rw [← List.append_assoc]
        exact List.perm_append_comm
      exact this.trans (e.append_right t.2)
  · obtain ⟨h1, h2⟩ := ht
    refine wp_rt ?_
    have : t.1.length = 0 := by
      have := h1.length_eq
      rw [List.length_append, h2] at this
      omega
    rw [List.length_eq_zero_iff.mp this, List.nil_append] at h1
    exact h1
end
end Wk

namespace Wk
open PySem PySem.Spec PyProof.Rows L2
/-! ### the numbers below n -/
def rng (n : Nat) : List Int := (List.range n).map Int.ofNat
theorem mem_rng {n : Nat} {x : Int} : x ∈ rng n ↔ 0 ≤ x ∧ x < n := by
  unfold rng
  rw [List.mem_map]
  constructor
  · rintro ⟨a, h, rfl⟩
    have := List.mem_range.mp h
    exact ⟨Int.natCast_nonneg a, by show (a : Int) < n; omega⟩
  · rintro ⟨h1, h2⟩
    exact ⟨x.toNat, List.mem_range.mpr (by omega), Int.toNat_of_nonneg h1⟩
theorem rng_lt (n : Nat) : (rng n).Pairwise (· < ·) := by
  unfold rng
  rw [List.pairwise_map]
  exact List.pairwise_lt_range.imp fun h => by show (_ : Int) < _; exact Int.ofNat_lt.mpr h
theorem rng_nd (n : Nat) : (rng n).Nodup := (rng_lt n).imp fun h => Int.ne_of_lt h
theorem rng_len (n : Nat) : (rng n).length = n := by rw [rng, List.length_map, List.length_range]
theorem few_len {n : Nat} {xs : List Int} (h : xs.Nodup) (k : ∀ x ∈ xs, 0 ≤ x ∧ x < (n : Int)) : xs.length ≤ n := by
  have := h.length_le_of_subset (l₂ := rng n) fun x hx => mem_rng.mpr (k x hx)
  rwa [rng_len] at this
theorem range1_rng {n : Nat} (h : n < 4611686018427387904) : range1O (n : Int) = some (rng n) := range1_nat h
theorem rgO_rng {n : Nat} (h : n ≤ 16777216) : rgO 0 (n : Int) = some (rng n) := by
  unfold rgO
  rw [if_pos (by rw [bdd_nat (by omega), show bdd 0 = true from rfl, decide_eq_true (by omega)]; rfl)]
  congr 1
  unfold rgL rng
  rw [Int.sub_zero, Int.toNat_natCast]
  apply List.map_congr_left
  intro a _
  show (0 : Int) + a = a
  omega
theorem sorted_lt_eq {xs ys : List Int} (h : xs.Pairwise (· < ·)) (k : ys.Pairwise (· < ·)) (e : ∀ x, x ∈ xs ↔ x ∈ ys) : xs = ys := by
  have p : xs.Perm ys := (List.perm_ext_iff_of_nodup (h.imp fun q => Int.ne_of_lt q) (k.imp fun q => Int.ne_of_lt q)).mpr e
  exact sorted_eq p (h.imp fun q => Int.le_of_lt q) (k.imp fun q => Int.le_of_lt q)
theorem sortI_mem {x : Int} {xs : List Int} : x ∈ sortI xs ↔ x ∈ xs := (sortI_perm xs).mem_iff
theorem sortI_nd {xs : List Int} (h : xs.Nodup) : (sortI xs).Nodup := ((sortI_perm xs).nodup_iff).mpr h
theorem sortI_lt {xs : List Int} (h : xs.Nodup) : (sortI xs).Pairwise (· < ·) := by
  have := List.pairwise_and_iff.mpr ⟨sortI_sorted xs, sortI_nd h⟩
  exact this.imp fun q => by omega
/-! ### tests in plain lists -/
def hit (t A : List Int) : Bool := t.any fun x => A.contains x
theorem hit_iff {t A : List Int} : hit t A = true ↔ ∃ x, x ∈ t ∧ x ∈ A := by
  unfold hit
  rw [List.any_eq_true]
  constructor
  · rintro ⟨x, h, k⟩; exact ⟨x, h, List.contains_iff_mem.mp k⟩
  · rintro ⟨x, h, k⟩; exact ⟨x, h, List.contains_iff_mem.mpr k⟩
def ans (ts : List (List Int)) (A : List Int) : List Int := ts.map fun t => if hit t A then 1 else 0
structure TOk (T : TestsR) (n : Nat) : Prop where
  cnt : T.count = (n : Int)
  few : T.tests.length ≤ 40
  n24 : n ≤ 24
  inr : ∀ t ∈ T.tests, ∀ x ∈ t, 0 ≤ x ∧ x < (n : Int)
  nd : ∀ t ∈ T.tests, t.Nodup
theorem TOk.len {T : TestsR} {n : Nat} (h : TOk T n) {t : List Int} (ht : t ∈ T.tests) : t.length ≤ 24 := Nat.le_trans (few_len (h.nd t ht) (h.inr t ht)) h.n24
theorem answers_is {T : TestsR} {n : Nat} (h : TOk T n) (A : List Int) : M.Tests_answers T A = some (ans T.tests A) := by
  have hl := h.few
  unfold M.Tests_answers
  rw [szO_some (by omega), lfbO, mapM_some (g := fun t => if hit t A then 1 else 0)]
  · rfl
  · intro t ht
    have := h.len ht
    rw [szO_some (by omega), lfbO, rtbO, rtbO, rtsO, List.any_map]
    rfl
def ofs (ts : List (List Int)) (x : Int) : List Int := ((enumL 0 ts).filter fun (q : Int × List Int) => q.2.contains x).map (·.1)
theorem of_is {T : TestsR} {n : Nat} (h : TOk T n) (x : Int) : M.Tests_of T x = some (ofs T.tests x) := by
  have hl := h.few
  unfold M.Tests_of
  rw [szO_some (by rw [enumL_len]; omega), lfbO, rtbO]
  rfl
theorem enumL_mem {α : Type} : ∀ {xs : List α} {i : Int} {q : Int × α}, q ∈ enumL i xs → ∃ j : Nat, q.1 = i + j ∧ xs[j]? = some q.2
  | [], _, _, h => by cases h
  | x :: xs, i, q, h => by
    rcases List.mem_cons.mp h with e | h
    · subst e; exact ⟨0, by omega, rfl⟩
    · obtain ⟨j, h1, h2⟩ := enumL_mem h
      exact ⟨j + 1, by omega, h2⟩
theorem mem_ofs {ts : List (List Int)} {x i : Int} : i ∈ ofs ts x ↔ ∃ (j : Nat) (t : List Int), i = (j : Int) ∧ ts[j]? = some t ∧ x ∈ t := by
  unfold ofs
  rw [List.mem_map]
  constructor
  · rintro ⟨q, h, rfl⟩
    obtain ⟨h1, h2⟩ := List.mem_filter.mp h
    obtain ⟨j, h3, h4⟩ := enumL_mem h1
    exact ⟨j, q.2, by omega, h4, List.contains_iff_mem.mp h2⟩
  · rintro ⟨j, t, rfl, h1, h2⟩
    have := enumL_get ts 0 j t h1
    exact ⟨((0 : Int) + j, t), List.mem_filter.mpr ⟨List.mem_of_getElem? this, List.contains_iff_mem.mpr h2⟩, by show (0 : Int) + j = j; omega⟩
theorem ofs_len (ts : List (List Int)) (x : Int) : (ofs ts x).length ≤ ts.length := by
  unfold ofs
  rw [List.length_map]
  exact Nat.le_trans (List.length_filter_le _ _) (Nat.le_of_eq (enumL_len ts 0))
/-- each test of x has one of A -/
def cov (ts : List (List Int)) (x : Int) (A : List Int) : Bool := ts.all fun t => !t.contains x || hit t A
theorem cov_iff {ts : List (List Int)} {x : Int} {A : List Int} : cov ts x A = true ↔ ∀ t ∈ ts, x ∈ t → ∃ y, y ∈ t ∧ y ∈ A := by
  unfold cov
  rw [List.all_eq_true]
  refine forall_congr' fun t => forall_congr' fun _ => ?_
  rw [Bool.or_eq_true, hit_iff, Bool.not_eq_true', ← Bool.not_eq_true, List.contains_iff_mem]
  exact ⟨fun h k => h.resolve_left fun z => z k, fun h => by
    by_cases q : x ∈ t
    · exact .inr (h q)
    · exact .inl q⟩
theorem covered_is {T : TestsR} {n : Nat} (h : TOk T n) (x : Int) {A : List Int} (hA : A.length ≤ 1000) : M.is_covered T x A = some (cov T.tests x A) := by
  have hl := h.few
  unfold M.is_covered
  have e : ∀ i ∈ ofs T.tests x, (bd (bd (lf (szO A)) fun xs66 => mapM' (fun (own64 : Int) => bd (lf (ixO T.tests i)) fun x65 => rt (x65.contains own64)) xs66) fun x67 => (rt (x67.any id) : Option Bool)) = some (hit (T.tests.getD i.toNat []) A) := by
    intro i hi
    obtain ⟨j, t, rfl, ht, hx⟩ := mem_ofs.mp hi
    rw [szO_some (by omega), lfbO, mapM_some (g := fun o => t.contains o)]
    · rw [sobO, rtsO, List.any_map, Int.toNat_natCast, List.getD_eq_getElem?_getD, ht]
      congr 1
      rw [Bool.eq_iff_iff, hit_iff, List.any_eq_true]
      exact ⟨fun ⟨y, a, b⟩ => ⟨y, List.contains_iff_mem.mp b, a⟩, fun ⟨y, a, b⟩ => ⟨y, b, List.contains_iff_mem.mpr a⟩⟩
    · intro o _
      rw [ixO_nat ht, lfbO, rtsO]
  rw [of_is h x, lfbO, szO_some (by have := ofs_len T.tests x; omega), lfbO, mapM_some e, sobO, rtbO, rtsO]
  congr 1
  rw [List.all_map, Bool.eq_iff_iff, List.all_eq_true, cov_iff]
  constructor
  · intro k t ht hx
    obtain ⟨j, hj, e⟩ := List.getElem_of_mem ht
    have := k (j : Int) (mem_ofs.mpr ⟨j, t, rfl, by rw [List.getElem?_eq_getElem hj, e], hx⟩)
    show ∃ y, y ∈ t ∧ y ∈ A
    rw [← hit_iff]
    simpa [List.getD_eq_getElem?_getD, List.getElem?_eq_getElem hj, e] using this
  · intro k i hi
    obtain ⟨j, t, rfl, ht, hx⟩ := mem_ofs.mp hi
    show hit (T.tests.getD (Int.toNat (j : Int)) []) A = true
    rw [Int.toNat_natCast, List.getD_eq_getElem?_getD, ht]
    exact hit_iff.mpr (k t (List.mem_of_getElem? ht) hx)
/-- the suspects by the answers of A: those whose tests all have one of A -/
theorem ans_get {ts : List (List Int)} {A : List Int} {j : Nat} {t : List Int} (h : ts[j]? = some t) : (ans ts A)[j]? = some (if hit t A then 1 else 0) := by
  unfold ans
  rw [List.getElem?_map, h]; rfl
theorem suspects_is {T : TestsR} {n : Nat} (h : TOk T n) (A : List Int) : M.suspects T (ans T.tests A) = some ((rng n).filter fun x => cov T.tests x A) := by
  have hl := h.few
  have hn := h.n24
  have len : (ans T.tests A).length = T.tests.length := List.length_map ..
  unfold M.suspects
  have e1 : (ans T.tests A).map (fun (answer73 : Int) => (![0, 1].contains answer73)) = List.replicate T.tests.length false := by
    unfold ans
    rw [List.map_map]
    apply List.eq_replicate_iff.mpr
    refine ⟨List.length_map .., fun b hb => ?_⟩
    obtain ⟨t, _, rfl⟩ := List.mem_map.mp hb
    show (![0, 1].contains (if hit t A = true then (1 : Int) else 0)) = false
    by_cases q : hit t A = true
    · rw [if_pos q]; rfl
    · rw [if_neg q]; rfl
  rw [len, decide_eq_true rfl, show (!true) = false from rfl, ifF, szO_some (by omega), lfbO, e1, rtbO, rtsO, sobO]
  have e2 : (List.replicate T.tests.length false).any id = false := by
    rw [List.any_eq_false]
    intro b hb
    rw [List.eq_of_mem_replicate hb]; decide
  rw [e2, ifF, h.cnt, range1_rng (by omega), lfbO, szO_some (by rw [rng_len]; omega), lfbO, lcM_some (c' := fun x => cov T.tests x A) (g := id)]
  · rw [sobO, List.map_id, rtsO]
  · intro x hx
    rw [of_is h x, lfbO, szO_some (by have := ofs_len T.tests x; omega), lfbO, mapM_some (g := fun i => decide ((ans T.tests A).getD i.toNat 0 = 1)), sobO, rtsO]
    · congr 1
      rw [List.all_map, Bool.eq_iff_iff, List.all_eq_true, cov_iff]
      constructor
      · intro k t ht hx
        obtain ⟨j, hj, e⟩ := List.getElem_of_mem ht
        have ej : T.tests[j]? = some t := by rw [List.getElem?_eq_getElem hj, e]
        have := k (j : Int) (mem_ofs.mpr ⟨j, t, rfl, ej, hx⟩)
        have := of_decide_eq_true (p := (ans T.tests A).getD (Int.toNat (j : Int)) 0 = 1) this
        rw [Int.toNat_natCast, List.getD_eq_getElem?_getD, ans_get ej] at this
        rw [← hit_iff]
        by_cases q : hit t A = true
        · exact q
        · rw [if_neg q] at this; cases this
      · intro k i hi
        obtain ⟨j, t, rfl, ht, hx⟩ := mem_ofs.mp hi
        refine decide_eq_true (p := (ans T.tests A).getD (Int.toNat (j : Int)) 0 = 1) ?_
        rw [Int.toNat_natCast, List.getD_eq_getElem?_getD, ans_get ht, if_pos (hit_iff.mpr (k t (List.mem_of_getElem? ht) hx))]
        rfl
    · intro i hi
      obtain ⟨j, t, rfl, ht, hx⟩ := mem_ofs.mp hi
      rw [ixO_nat (ans_get ht), lfbO, rtsO, Int.toNat_natCast, List.getD_eq_getElem?_getD, ans_get ht]
      rfl
  · intro x _ _; rfl
end Wk

namespace Wk
open PySem PySem.Spec PyProof.Rows L2
section
variable {α β γ τ : Type}
theorem fold_append (f : α → τ → Option τ) : ∀ (xs ys : List α) (t : τ), foldM' f (xs ++ ys) t = (foldM' f xs t).bind fun t' => foldM' f ys t'
  | [], ys, t => rfl
  | x :: xs, ys, t => by
    rw [List.cons_append, fold_cons, fold_cons]
    cases f x t with
    | none => rfl
    | some t' => exact fold_append f xs ys t'
theorem fold_range {f : Int → τ → Option τ} (F : Nat → τ) : ∀ {n : Nat}, (∀ i, i < n → f (i : Int) (F i) = some (F (i + 1))) → foldM' f ((List.range n).map Int.ofNat) (F 0) = some (F n)
  | 0, _ => rfl
  | n + 1, h => by
    rw [List.range_succ, List.map_append, fold_append, fold_range F fun i hi => h i (by omega)]
    show foldM' f [(n : Int)] (F n) = _
    rw [fold_cons, h n (by omega)]
    rfl
/-- a loop that looks for something -/
theorem loop_search {f : γ → Unit → Option (Fl Unit Unit β)} {ok : γ → Bool} {Q : β → Prop} : ∀ {xs : List γ}, (∀ x ∈ xs, (ok x = true → f x () = some (.nx ())) ∧ (ok x = false → ∃ b, f x () = some (.rt b) ∧ Q b)) → (xs.all ok = true → loopM f xs () = some (.inl ())) ∧ (xs.all ok = false → ∃ b, loopM f xs () = some (.inr b) ∧ Q b)
  | [], _ => ⟨fun _ => rfl, fun h => nomatch h⟩
  | x :: xs, h => by
    have hx := h x List.mem_cons_self
    have ih := loop_search fun y hy => h y (List.mem_cons_of_mem _ hy)
    rw [List.all_cons]
    cases e : ok x with
    | true =>
      have e2 : loopM f (x :: xs) () = loopM f xs () := by
        show (f x ()).bind _ = _
        rw [hx.1 e]; rfl
      rw [e2, Bool.true_and]
      exact ih
    | false =>
      obtain ⟨b, hb, q⟩ := hx.2 e
      refine ⟨fun z => by simp at z, fun _ => ⟨b, ?_, q⟩⟩
      show (f x ()).bind _ = _
      rw [hb]; rfl
end
/-! ### sets of things -/
def subs : List Int → Nat → List (List Int)
  | _, 0 => [[]]
  | [], _ + 1 => []
  | x :: xs, k + 1 => (subs xs k).map (x :: ·) ++ subs xs (k + 1)
theorem subs_zero (xs : List Int) : subs xs 0 = [[]] := by cases xs <;> rfl
theorem subs_short : ∀ {xs : List Int} {k : Nat}, xs.length < k → subs xs k = []
  | [], k + 1, _ => rfl
  | x :: xs, k + 1, h => by
    rw [List.length_cons] at h
    rw [subs, subs_short (k := k) (by omega), subs_short (k := k + 1) (by omega)]
    rfl
theorem subs_len : ∀ (xs : List Int) (k : Nat), (subs xs k).length ≤ 2 ^ xs.length
  | xs, 0 => by rw [subs_zero]; exact Nat.one_le_two_pow
  | [], k + 1 => Nat.zero_le _
  | x :: xs, k + 1 => by
    rw [subs, List.length_append, List.length_map, List.length_cons, Nat.pow_succ]
    have := subs_len xs k
    have := subs_len xs (k + 1)
    omega
theorem mem_subs : ∀ {xs : List Int} {k : Nat} {A : List Int}, A ∈ subs xs k ↔ A.Sublist xs ∧ A.length = k
  | xs, 0, A => by
    rw [subs_zero, List.mem_singleton]
    exact ⟨fun h => by rw [h]; exact ⟨List.nil_sublist _, rfl⟩, fun h => List.length_eq_zero_iff.mp h.2⟩
  | [], k + 1, A => by
    refine ⟨(fun h => nomatch h), fun ⟨h1, h2⟩ => ?_⟩
    rw [List.sublist_nil.mp h1] at h2
    cases h2
  | x :: xs, k + 1, A => by
    rw [subs, List.mem_append, List.mem_map, mem_subs]
    constructor
    · rintro (⟨B, hB, rfl⟩ | ⟨h1, h2⟩)
      · obtain ⟨h1, h2⟩ := mem_subs.mp hB
        exact ⟨h1.cons₂ x, by rw [List.length_cons, h2]⟩
      · exact ⟨h1.cons x, h2⟩
    · rintro ⟨h1, h2⟩
      cases h1 with
      | cons _ h => exact .inr ⟨h, h2⟩
      | cons_cons _ h => exact .inl ⟨_, mem_subs.mpr ⟨h, by simpa using h2⟩, rfl⟩
theorem subs_nd : ∀ {xs : List Int} (k : Nat), xs.Nodup → (subs xs k).Nodup
  | xs, 0, _ => by rw [subs_zero]; simp
  | [], k + 1, _ => .nil
  | x :: xs, k + 1, h => by
    obtain ⟨h1, h2⟩ := List.nodup_cons.mp h
    rw [subs, List.nodup_append]
    refine ⟨?_, subs_nd (k + 1) h2, ?_⟩
    · rw [List.nodup_iff_pairwise_ne, List.pairwise_map]
      exact (List.nodup_iff_pairwise_ne.mp (subs_nd k h2)).imp fun q z => q (List.cons.inj z).2
    · intro A hA B hB e
      obtain ⟨C, _, rfl⟩ := List.mem_map.mp hA
      rw [← e] at hB
      exact h1 ((mem_subs.mp hB).1.subset List.mem_cons_self)
/-- the sets that begin ahead of a place -/
def subsTo (xs : List Int) (k : Nat) : Nat → List (List Int)
  | 0 => []
  | i + 1 => subsTo xs k i ++ (subs (xs.drop (i + 1)) k).map (xs.getD i 0 :: ·)
theorem subsTo_is {xs : List Int} {k : Nat} : ∀ {i : Nat}, i ≤ xs.length → subsTo xs k i ++ subs (xs.drop i) (k + 1) = subs xs (k + 1)
  | 0, _ => rfl
  | i + 1, h => by
    have e : xs.drop i = xs.getD i 0 :: xs.drop (i + 1) := by
      rw [List.drop_eq_getElem_cons (by omega), List.getD_eq_getElem?_getD, List.getElem?_eq_getElem (by omega)]; rfl
    rw [subsTo, List.append_assoc, ← subsTo_is (xs := xs) (k := k) (i := i) (by omega), e]
    rfl
theorem subsets_is : ∀ {d k : Nat} {xs : List Int}, k < d → k ≤ 5 → xs.length ≤ 10 → M.subsets d xs (k : Int) = some (subs xs k)
  | 0, _, _, h, _, _ => absurd h (Nat.not_lt_zero _)
  | d + 1, 0, xs, _, _, _ => by
    show M.subsets_body (M.subsets d) xs 0 = _
    unfold M.subsets_body
    rw [decide_eq_true rfl, ifT, subs_zero, rtsO]
  | d + 1, k + 1, xs, h, h5, hl => by
    show M.subsets_body (M.subsets d) xs ((k + 1 : Nat) : Int) = _
    unfold M.subsets_body
    rw [decide_eq_false (by omega), ifF, rtbO]
    by_cases hk : k + 1 ≤ xs.length
    · have e : ((xs.length : Int) - ((k + 1 : Nat) : Int) + 1) = ((xs.length - k : Nat) : Int) := by omega
      rw [e, range1_nat (by omega), lfbO]
      have step : ∀ i, i < xs.length - k → (fun (at3 : Int) (t2 : (List (List Int))) => (bd (bd (lf (M.subsets d (cutL xs (some (at3 + 1)) none) (((k + 1 : Nat) : Int) - 1))) fun x8 => bd (lf (szO x8)) fun xs7 => mapM' (fun (rest4 : (List Int)) => bd (bd (lf (ixO xs at3)) fun x5 => rt [x5]) fun x6 => lf (catO x6 rest4)) xs7) fun y10 => bd (lf (catO t2 y10)) fun found9 => (rt found9 : Option (List (List Int))))) (i : Int) (subsTo xs k i) = some (subsTo xs k (i + 1)) := by
        intro i hi
        have e2 : (((k + 1 : Nat) : Int) - 1) = (k : Int) := by omega
        have e3 : ((i : Int) + 1) = ((i + 1 : Nat) : Int) := by omega
        have hs := subs_len (xs.drop (i + 1)) k
        have hp : 2 ^ (xs.drop (i + 1)).length ≤ 2 ^ 10 := Nat.pow_le_pow_right (by decide) (by rw [List.length_drop]; omega)
        have ht := subsTo_is (xs := xs) (k := k) (i := i) (by omega)
        have hq := subs_len xs (k + 1)
        have hp2 : 2 ^ xs.length ≤ 2 ^ 10 := Nat.pow_le_pow_right (by decide) hl
        rw [← ht, List.length_append] at hq
        have n10 : (2 : Nat) ^ 10 = 1024 := rfl
        show bd (bd (lf (M.subsets d (cutL xs (some ((i : Int) + 1)) none) (((k + 1 : Nat) : Int) - 1))) _) _ = _
        rw [e2, e3, cutL_from, subsets_is (by omega) (by omega) (by rw [List.length_drop]; omega), lfbO, szO_some (by omega), lfbO, mapM_some (g := fun r => xs.getD i 0 :: r)]
        · rw [sobO, catO_some (by rw [List.length_map]; omega), lfbO, rtsO]
          rfl
        · intro r hr
          have := (mem_subs.mp hr).2
          rw [ixO_nat (List.getElem?_eq_getElem (by omega)), lfbO, rtbO, catO_some (by rw [List.length_cons, List.length_nil]; omega), List.getD_eq_getElem?_getD, List.getElem?_eq_getElem (by omega)]
          rfl
      have r := fold_range (f := (fun (at3 : Int) (t2 : (List (List Int))) => (bd (bd (lf (M.subsets d (cutL xs (some (at3 + 1)) none) (((k + 1 : Nat) : Int) - 1))) fun x8 => bd (lf (szO x8)) fun xs7 => mapM' (fun (rest4 : (List Int)) => bd (bd (lf (ixO xs at3)) fun x5 => rt [x5]) fun x6 => lf (catO x6 rest4)) xs7) fun y10 => bd (lf (catO t2 y10)) fun found9 => (rt found9 : Option (List (List Int)))))) (subsTo xs k) step
      have z : subs (xs.drop (xs.length - k)) (k + 1) = [] := subs_short (by rw [List.length_drop]; omega)
      have w := subsTo_is (xs := xs) (k := k) (i := xs.length - k) (by omega)
      rw [z, List.append_nil] at w
      have r0 : subsTo xs k 0 = [] := rfl
      rw [r0] at r
      rw [r, w, sobO, rtsO]
    · rw [subs_short (by omega)]
      have e : range1O ((xs.length : Int) - ((k + 1 : Nat) : Int) + 1) = some [] := by
        unfold range1O
        rw [if_pos (by unfold bdd; rw [decide_eq_true (by omega), decide_eq_true (by omega)]; rfl), show ((xs.length : Int) - ((k + 1 : Nat) : Int) + 1).toNat = 0 by omega]
        rfl
      rw [e, lfbO]
      rfl
/-! all sets of up to m things -/
def allS (n m : Nat) : List (List Int) := (List.range (m + 1)).flatMap (subs (rng n))
theorem mem_allS {n m : Nat} {A : List Int} : A ∈ allS n m ↔ A.Sublist (rng n) ∧ A.length ≤ m := by
  unfold allS
  rw [List.mem_flatMap]
  constructor
  · rintro ⟨k, hk, h⟩
    have := List.mem_range.mp hk
    obtain ⟨h1, h2⟩ := mem_subs.mp h
    exact ⟨h1, by omega⟩
  · rintro ⟨h1, h2⟩
    exact ⟨A.length, List.mem_range.mpr (by omega), mem_subs.mpr ⟨h1, rfl⟩⟩
theorem allS_succ (n m : Nat) : allS n (m + 1) = allS n m ++ subs (rng n) (m + 1) := by
  unfold allS
  rw [List.range_succ, List.flatMap_append]
  simp
theorem allS_nd (n : Nat) : ∀ m, (allS n m).Nodup
  | 0 => by
    have : allS n 0 = subs (rng n) 0 := by unfold allS; simp [List.range_succ]
    rw [this]; exact subs_nd 0 (rng_nd n)
  | m + 1 => by
    rw [allS_succ, List.nodup_append]
    refine ⟨allS_nd n m, subs_nd _ (rng_nd n), fun A hA B hB e => ?_⟩
    have h1 := (mem_allS.mp hA).2
    have h2 := (mem_subs.mp hB).2
    rw [e] at h1
    omega
end Wk

namespace Wk
open PySem PySem.Spec PyProof.Rows L2
/-! ### clearing -/
def clr (ts : List (List Int)) (n m : Nat) : Bool := (allS n m).all fun A => (rng n).all fun x => A.contains x || !cov ts x A
theorem allS_few {n m : Nat} {A : List Int} (hn : n ≤ 10) (h : A ∈ allS n m) : A.length ≤ 10 := by
  have := (mem_allS.mp h).1.length_le
  rw [rng_len] at this
  omega
theorem mem_allS_of {n m k : Nat} (hk : k < m + 1) {A : List Int} (h : A ∈ subs (rng n) k) : A ∈ allS n m := List.mem_flatMap.mpr ⟨k, List.mem_range.mpr hk, h⟩
theorem clearing_is {T : TestsR} {n m : Nat} (h : TOk T n) (hn : n ≤ 10) (hm : m ≤ 4) : ∃ c, M.clearing T (m : Int) = some c ∧ c.word = if clr T.tests n m then "clears" else "covered" := by
  have hN := loop_search (xs := (List.range (m + 1)).map Int.ofNat) (ok := fun k : Int => (subs (rng n) k.toNat).all fun A => (rng n).all fun x => A.contains x || !cov T.tests x A) (Q := fun c : Cl_clear => c.word = "covered")
    (f := fun (size53 : Int) (t52 : Unit) => bd (bd (lf (rgO 0 T.count)) fun x54 =>
 lf (M.subsets 6 x54 size53)) fun xs61 =>
 bd (loopM (fun (bad56 : (List Int)) (t55 : Unit) => bd (lf (range1O T.count)) fun xs60 =>
 bd (loopM (fun (thing58 : Int) (t57 : Unit) => bd (ifM (!bad56.contains thing58) (lf (M.is_covered T thing58 bad56)) (rt false)) fun b59 => ifM b59 (rt (Fl.rt (Cl_clear.k_covered m thing58 bad56))) (rt (Fl.nx ()))) xs60 ()) (outM Fl.rt fun t57 =>
 rt (Fl.nx ()))) xs61 ()) (outM Fl.rt fun t55 =>
 rt (Fl.nx ()))) ?_
  · have e : (List.range (m + 1)).map Int.ofNat = rng (m + 1) := rfl
    have e2 : (((List.range (m + 1)).map Int.ofNat).all fun k : Int => (subs (rng n) k.toNat).all fun A => (rng n).all fun x => A.contains x || !cov T.tests x A) = clr T.tests n m := by
      unfold clr allS
      rw [List.all_map, List.all_flatMap]
      rfl
    rw [e2] at hN
    unfold M.clearing
    rw [decide_eq_true (by omega), decide_eq_true (by omega), show (!(true && true)) = false from rfl, ifF, show ((m : Int) + 1) = ((m + 1 : Nat) : Int) by omega, range1_nat (by omega), lfbO]
    cases hc : clr T.tests n m with
    | true =>
      rw [hN.1 hc]
      exact ⟨_, rfl, rfl⟩
    | false =>
      obtain ⟨c, h1, h2⟩ := hN.2 hc
      rw [h1]
      exact ⟨c, rfl, h2⟩
  · intro k hk
    obtain ⟨j, hj, ek⟩ := List.mem_map.mp hk
    have ek : k = (j : Int) := ek.symm
    subst ek
    have hj := List.mem_range.mp hj
    have hs := subs_len (rng n) j
    rw [Int.toNat_natCast]
    have hB := loop_search (xs := subs (rng n) j) (ok := fun A : List Int => (rng n).all fun x => A.contains x || !cov T.tests x A) (Q := fun c : Cl_clear => c.word = "covered")
      (f := fun (bad56 : (List Int)) (t55 : Unit) => bd (lf (range1O T.count)) fun xs60 =>
 bd (loopM (fun (thing58 : Int) (t57 : Unit) => bd (ifM (!bad56.contains thing58) (lf (M.is_covered T thing58 bad56)) (rt false)) fun b59 => ifM b59 (rt (Fl.rt (Cl_clear.k_covered m thing58 bad56))) (rt (Fl.nx ()))) xs60 ()) (outM Fl.rt fun t57 =>
 rt (Fl.nx ()))) ?_
    · rw [h.cnt, rgO_rng (by omega), lfbO, subsets_is (by omega) (by omega) (by rw [rng_len]; omega), lfbO]
      rw [h.cnt] at hB
      refine ⟨fun z => ?_, fun z => ?_⟩
      · rw [hB.1 z]; rfl
      · obtain ⟨c, h1, h2⟩ := hB.2 z
        exact ⟨c, by rw [h1]; rfl, h2⟩
    · intro A hA
      have hAl := allS_few (m := j) hn (mem_allS_of (by omega) hA)
      have hC := loop_search (xs := rng n) (ok := fun x : Int => A.contains x || !cov T.tests x A) (Q := fun c : Cl_clear => c.word = "covered")
        (f := fun (thing58 : Int) (t57 : Unit) => bd (ifM (!A.contains thing58) (lf (M.is_covered T thing58 A)) (rt false)) fun b59 => ifM b59 (rt (Fl.rt (Cl_clear.k_covered m thing58 A))) (rt (Fl.nx ()))) ?_
      · rw [h.cnt, range1_rng (by omega), lfbO]
        refine ⟨fun z => ?_, fun z => ?_⟩
        · rw [hC.1 z]; rfl
        · obtain ⟨c, h1, h2⟩ := hC.2 z
          exact ⟨c, by rw [h1]; rfl, h2⟩
      · intro x _
        rw [covered_is h x (by omega)]
        cases A.contains x <;> cases cov T.tests x A <;> first | exact ⟨fun _ => rfl, (fun z => nomatch z)⟩ | exact ⟨(fun z => nomatch z), fun _ => ⟨_, rfl, rfl⟩⟩
/-! ### telling -/
def sn (ts : List (List Int)) (bs : List (List Int)) : List (List Int × List Int) := bs.map fun b => (ans ts b, b)
theorem sn_get {ts bs : List (List Int)} {k : List Int} : getG (sn ts bs) k = none ↔ k ∉ bs.map (ans ts) := by
  unfold getG sn
  rw [Option.map_eq_none_iff, List.find?_eq_none]
  constructor
  · intro h z
    obtain ⟨b, hb, e⟩ := List.mem_map.mp z
    exact h (ans ts b, b) (List.mem_map.mpr ⟨b, hb, rfl⟩) (decide_eq_true e)
  · intro h q hq z
    obtain ⟨b, hb, rfl⟩ := List.mem_map.mp hq
    exact h (List.mem_map.mpr ⟨b, hb, of_decide_eq_true z⟩)
theorem sn_put {ts bs : List (List Int)} {b : List Int} (h : ans ts b ∉ bs.map (ans ts)) : putG (sn ts bs) (ans ts b) b = sn ts (bs ++ [b]) := by
  have : ((sn ts bs).any fun p => decide (p.1 = ans ts b)) = false := by
    rw [List.any_eq_false]
    intro q hq z
    obtain ⟨c, hc, rfl⟩ := List.mem_map.mp hq
    exact h (List.mem_map.mpr ⟨c, hc, of_decide_eq_true z⟩)
  unfold putG
  rw [this, if_neg (by decide)]
  unfold sn
  rw [List.map_append]
  rfl
theorem tell_in {T : TestsR} {n m : Nat} (h : TOk T n) : ∀ {bs ds : List (List Int)}, ds.length + bs.length < 16777216 → (ds.map (ans T.tests)).Nodup →
    (((ds ++ bs).map (ans T.tests)).Nodup → loopM (fun (bad43 : (List Int)) (t42 : (List ((List Int) × (List Int)))) => bd (lf (M.Tests_answers T bad43)) fun told44 =>
 ifM (hasG t42 told44) (bd (bd (lf (getG t42 told44)) fun x45 =>
 rt (Cl_tell.k_alike m x45 bad43)) fun x46 =>
 rt (Fl.rt x46)) (bd (rt bad43) fun y48 =>
 bd (rt told44) fun j49 =>
 bd (lf (putO t42 j49 y48)) fun seen47 =>
 rt (Fl.nx seen47))) bs (sn T.tests ds) = (some (.inl (sn T.tests (ds ++ bs))) : Option (Sum _ Cl_tell))) ∧
    (¬ ((ds ++ bs).map (ans T.tests)).Nodup → ∃ c : Cl_tell, c.word = "alike" ∧ loopM (fun (bad43 : (List Int)) (t42 : (List ((List Int) × (List Int)))) => bd (lf (M.Tests_answers T bad43)) fun told44 =>
 ifM (hasG t42 told44) (bd (bd (lf (getG t42 told44)) fun x45 =>
 rt (Cl_tell.k_alike m x45 bad43)) fun x46 =>
 rt (Fl.rt x46)) (bd (rt bad43) fun y48 =>
 bd (rt told44) fun j49 =>
 bd (lf (putO t42 j49 y48)) fun seen47 =>
 rt (Fl.nx seen47))) bs (sn T.tests ds) = some (.inr c))
  | [], ds, _, hd => by
    rw [List.append_nil]
    exact ⟨fun _ => rfl, fun z => absurd hd z⟩
  | b :: bs, ds, hl, hd => by
    rw [List.length_cons] at hl
    have e0 : ds ++ b :: bs = (ds ++ [b]) ++ bs := by rw [List.append_assoc]; rfl
    by_cases hb : ans T.tests b ∈ ds.map (ans T.tests)
    · have nn : ¬ ((ds ++ b :: bs).map (ans T.tests)).Nodup := fun z => by
        rw [List.map_append, List.map_cons, List.nodup_append] at z
        exact z.2.2 _ hb _ List.mem_cons_self rfl
      refine ⟨fun z => absurd z nn, fun _ => ?_⟩
      cases hg : getG (sn T.tests ds) (ans T.tests b) with
      | none => exact absurd hb (sn_get.mp hg)
      | some a =>
        refine ⟨Cl_tell.k_alike m a b, rfl, ?_⟩
        show Option.bind (bd (lf (M.Tests_answers T b)) _) _ = _
        rw [answers_is h, lfbO, hasG, hg, show (some a : Option (List Int)).isSome = true from rfl, ifT, lfbO]
        rfl
    · have hg := sn_get.mpr hb
      have hd' : ((ds ++ [b]).map (ans T.tests)).Nodup := by
        rw [List.map_append, List.nodup_append]
        refine ⟨hd, by simp, fun x hx y hy e => ?_⟩
        rw [List.map_cons, List.map_nil, List.mem_singleton] at hy
        rw [e, hy] at hx
        exact hb hx
      have ih := tell_in h (m := m) (bs := bs) (ds := ds ++ [b]) (by rw [List.length_append, List.length_cons, List.length_nil]; omega) hd'
      rw [← e0] at ih
      have hp : putO (sn T.tests ds) (ans T.tests b) b = some (sn T.tests (ds ++ [b])) := by
        unfold putO
        rw [if_pos (by unfold sn; rw [List.length_map]; omega), sn_put hb]
      have e : ∀ (K : (Fl (List (List Int × List Int)) (List (List Int × List Int)) Cl_tell) → Option (Sum (List (List Int × List Int)) Cl_tell)), Option.bind (bd (lf (M.Tests_answers T b)) fun told44 =>
 ifM (hasG (sn T.tests ds) told44) (bd (bd (lf (getG (sn T.tests ds) told44)) fun x45 =>
 rt (Cl_tell.k_alike m x45 b)) fun x46 =>
 rt (Fl.rt x46)) (bd (rt b) fun y48 =>
 bd (rt told44) fun j49 =>
 bd (lf (putO (sn T.tests ds) j49 y48)) fun seen47 =>
 rt (Fl.nx seen47))) K = K (Fl.nx (sn T.tests (ds ++ [b]))) := by
        intro K
        rw [answers_is h, lfbO, hasG, hg, show (none : Option (List Int)).isSome = false from rfl, ifF, rtbO, rtbO, hp, lfbO]
        rfl
      refine ⟨fun z => (e _).trans (ih.1 z), fun z => ?_⟩
      obtain ⟨c, h1, h2⟩ := ih.2 z
      exact ⟨c, h1, (e _).trans h2⟩
def tel (ts : List (List Int)) (n m : Nat) : Bool := decide ((allS n m).map (ans ts)).Nodup
theorem tell_out {T : TestsR} {n m : Nat} (h : TOk T n) (hn : n ≤ 10) : ∀ {ks : List Nat} {ds : List (List Int)}, (∀ k ∈ ks, k ≤ 4) → ds.length + ks.length * 1024 < 16777216 → (ds.map (ans T.tests)).Nodup →
    (((ds ++ ks.flatMap (subs (rng n))).map (ans T.tests)).Nodup → loopM (fun (size40 : Int) (t39 : (List ((List Int) × (List Int)))) => bd (bd (lf (rgO 0 T.count)) fun x41 =>
 lf (M.subsets 6 x41 size40)) fun xs50 =>
 bd (loopM (fun (bad43 : (List Int)) (t42 : (List ((List Int) × (List Int)))) => bd (lf (M.Tests_answers T bad43)) fun told44 =>
 ifM (hasG t42 told44) (bd (bd (lf (getG t42 told44)) fun x45 =>
 rt (Cl_tell.k_alike m x45 bad43)) fun x46 =>
 rt (Fl.rt x46)) (bd (rt bad43) fun y48 =>
 bd (rt told44) fun j49 =>
 bd (lf (putO t42 j49 y48)) fun seen47 =>
 rt (Fl.nx seen47))) xs50 t39) (outM Fl.rt fun t42 =>
 rt (Fl.nx t42))) (ks.map Int.ofNat) (sn T.tests ds) = (some (.inl (sn T.tests (ds ++ ks.flatMap (subs (rng n))))) : Option (Sum _ Cl_tell))) ∧
    (¬ ((ds ++ ks.flatMap (subs (rng n))).map (ans T.tests)).Nodup → ∃ c : Cl_tell, c.word = "alike" ∧ loopM (fun (size40 : Int) (t39 : (List ((List Int) × (List Int)))) => bd (bd (lf (rgO 0 T.count)) fun x41 =>
 lf (M.subsets 6 x41 size40)) fun xs50 =>
 bd (loopM (fun (bad43 : (List Int)) (t42 : (List ((List Int) × (List Int)))) => bd (lf (M.Tests_answers T bad43)) fun told44 =>
 ifM (hasG t42 told44) (bd (bd (lf (getG t42 told44)) fun x45 =>
 rt (Cl_tell.k_alike m x45 bad43)) fun x46 =>
 rt (Fl.rt x46)) (bd (rt bad43) fun y48 =>
 bd (rt told44) fun j49 =>
 bd (lf (putO t42 j49 y48)) fun seen47 =>
 rt (Fl.nx seen47))) xs50 t39) (outM Fl.rt fun t42 =>
 rt (Fl.nx t42))) (ks.map Int.ofNat) (sn T.tests ds) = some (.inr c))
  | [], ds, _, _, hd => by
    rw [List.flatMap_nil, List.append_nil]
    exact ⟨fun _ => rfl, fun z => absurd hd z⟩
  | k :: ks, ds, hk, hl, hd => by
    have hk4 := hk k List.mem_cons_self
    rw [List.length_cons] at hl
    have hs := subs_len (rng n) k
    have hp : 2 ^ (rng n).length ≤ 2 ^ 10 := Nat.pow_le_pow_right (by decide) (by rw [rng_len]; omega)
    have n10 : (2 : Nat) ^ 10 = 1024 := rfl
    have t := tell_in h (m := m) (bs := subs (rng n) k) (ds := ds) (by omega) hd
    have e0 : ds ++ (k :: ks).flatMap (subs (rng n)) = (ds ++ subs (rng n) k) ++ ks.flatMap (subs (rng n)) := by rw [List.flatMap_cons, List.append_assoc]
    have es : ∀ (K : List (List Int) → Option (Fl (List (List Int × List Int)) (List (List Int × List Int)) Cl_tell)), (bd (bd (lf (rgO 0 T.count)) fun x41 => lf (M.subsets 6 x41 (k : Int))) K) = K (subs (rng n) k) := by
      intro K
      rw [h.cnt, rgO_rng (by omega), lfbO, subsets_is (by omega) (by omega) (by rw [rng_len]; omega), lfbO]
    by_cases hnd : ((ds ++ subs (rng n) k).map (ans T.tests)).Nodup
    · have ih := tell_out h hn (m := m) (ks := ks) (ds := ds ++ subs (rng n) k) (fun j hj => hk j (List.mem_cons_of_mem _ hj)) (by rw [List.length_append]; omega) hnd
      rw [← e0] at ih
      refine ⟨fun z => ?_, fun z => ?_⟩
      · rw [List.map_cons]
        show Option.bind (bd (bd (lf (rgO 0 T.count)) fun x41 => lf (M.subsets 6 x41 (k : Int))) _) _ = _
        rw [es, t.1 hnd]
        exact ih.1 z
      · obtain ⟨c, h1, h2⟩ := ih.2 z
        refine ⟨c, h1, ?_⟩
        rw [List.map_cons]
        show Option.bind (bd (bd (lf (rgO 0 T.count)) fun x41 => lf (M.subsets 6 x41 (k : Int))) _) _ = _
        rw [es, t.1 hnd]
        exact h2
    · refine ⟨fun z => absurd ?_ hnd, fun z => ?_⟩
      · rw [e0, List.map_append, List.nodup_append] at z
        exact z.1
      · obtain ⟨c, h1, h2⟩ := t.2 hnd
        refine ⟨c, h1, ?_⟩
        rw [List.map_cons]
        show Option.bind (bd (bd (lf (rgO 0 T.count)) fun x41 => lf (M.subsets 6 x41 (k : Int))) _) _ = _
        rw [es, h2]
        rfl
theorem telling_is {T : TestsR} {n m : Nat} (h : TOk T n) (hn : n ≤ 10) (hm : m ≤ 4) : ∃ c, M.telling T (m : Int) = some c ∧ c.word = if tel T.tests n m then "tells" else "alike" := by
  have t := tell_out h hn (m := m) (ks := List.range (m + 1)) (ds := []) (fun k hk => by have := List.mem_range.mp hk; omega) (by rw [List.length_range]; show 0 + _ < _; omega) .nil
  rw [List.nil_append] at t
  unfold M.telling
  rw [decide_eq_true (by omega), decide_eq_true (by omega), show (!(true && true)) = false from rfl, ifF, show ((m : Int) + 1) = ((m + 1 : Nat) : Int) by omega, range1_nat (by omega), lfbO]
  by_cases hc : ((allS n m).map (ans T.tests)).Nodup
  · have := t.1 hc
    rw [show sn T.tests [] = [] from rfl] at this
    rw [this]
    exact ⟨_, rfl, by unfold tel; rw [decide_eq_true hc]; rfl⟩
  · obtain ⟨c, h1, h2⟩ := t.2 hc
    rw [show sn T.tests [] = [] from rfl] at h2
    rw [h2]
    exact ⟨c, rfl, by unfold tel; rw [decide_eq_false hc]; exact h1⟩
end Wk

namespace Wk
open PySem PySem.Spec PyProof.Rows L2
/-! ### what telling and clearing say -/
def inN (n : Nat) (A : List Int) : Prop := ∀ x ∈ A, 0 ≤ x ∧ x < (n : Int)
theorem hit_congr {t A B : List Int} (h : ∀ x, x ∈ A ↔ x ∈ B) : hit t A = hit t B := by
  rw [Bool.eq_iff_iff, hit_iff, hit_iff]
  exact ⟨fun ⟨x, a, b⟩ => ⟨x, a, (h x).mp b⟩, fun ⟨x, a, b⟩ => ⟨x, a, (h x).mpr b⟩⟩
theorem ans_eq {ts : List (List Int)} {A B : List Int} : ans ts A = ans ts B ↔ ∀ t ∈ ts, hit t A = hit t B := by
  unfold ans
  rw [List.map_inj_left]
  refine forall_congr' fun t => forall_congr' fun _ => ?_
  cases hit t A <;> cases hit t B <;> decide
theorem sorted_sub {n : Nat} {A : List Int} (h : A.Pairwise (· < ·)) (k : inN n A) : A.Sublist (rng n) := by
  have : (rng n).filter (fun x => decide (x ∈ A)) = A := sorted_lt_eq ((rng_lt n).filter _) h fun x => by
    rw [List.mem_filter, decide_eq_true_eq]
    exact ⟨fun z => z.2, fun z => ⟨mem_rng.mpr (k x z), z⟩⟩
  rw [← this]
  exact List.filter_sublist
theorem sub_inN {n : Nat} {A : List Int} (h : A.Sublist (rng n)) : inN n A := fun x hx => mem_rng.mp (h.subset hx)
theorem sub_lt {n : Nat} {A : List Int} (h : A.Sublist (rng n)) : A.Pairwise (· < ·) := (rng_lt n).sublist h
theorem sub_nd {n : Nat} {A : List Int} (h : A.Sublist (rng n)) : A.Nodup := (rng_nd n).sublist h
theorem nodup_map_iff {α β : Type} {f : α → β} : ∀ {xs : List α}, xs.Nodup → ((xs.map f).Nodup ↔ ∀ a ∈ xs, ∀ b ∈ xs, f a = f b → a = b)
  | [], _ => ⟨fun _ _ h _ _ _ => (nomatch h), fun _ => .nil⟩
  | x :: xs, h => by
    obtain ⟨h1, h2⟩ := List.nodup_cons.mp h
    rw [List.map_cons, List.nodup_cons, nodup_map_iff h2]
    constructor
    · rintro ⟨k1, k2⟩ a ha b hb e
      rcases List.mem_cons.mp ha with ea | ha' <;> rcases List.mem_cons.mp hb with eb | hb'
      · rw [ea, eb]
      · exact absurd (List.mem_map.mpr ⟨b, hb', by rw [← e, ea]⟩) k1
      · exact absurd (List.mem_map.mpr ⟨a, ha', by rw [e, eb]⟩) k1
      · exact k2 a ha' b hb' e
    · intro k
      refine ⟨fun z => ?_, fun a ha b hb e => k a (List.mem_cons_of_mem _ ha) b (List.mem_cons_of_mem _ hb) e⟩
      obtain ⟨y, hy, e⟩ := List.mem_map.mp z
      have := k y (List.mem_cons_of_mem _ hy) x List.mem_cons_self e
      rw [this] at hy
      exact h1 hy
theorem tel_iff {ts : List (List Int)} {n m : Nat} : tel ts n m = true ↔ ∀ A B : List Int, A.Nodup → B.Nodup → inN n A → inN n B → A.length ≤ m → B.length ≤ m → (∀ t ∈ ts, hit t A = hit t B) → ∀ x, x ∈ A ↔ x ∈ B := by
  unfold tel
  rw [decide_eq_true_eq, nodup_map_iff (allS_nd n m)]
  constructor
  · intro k A B dA dB iA iB lA lB h x
    have mem : ∀ {C : List Int}, C.Nodup → inN n C → C.length ≤ m → sortI C ∈ allS n m := fun {C} d i l =>
      mem_allS.mpr ⟨sorted_sub (sortI_lt d) fun x hx => i x (sortI_mem.mp hx), by rw [(sortI_perm C).length_eq]; exact l⟩
    have := k _ (mem dA iA lA) _ (mem dB iB lB) (ans_eq.mpr fun t ht => by rw [hit_congr (B := A) (fun x => sortI_mem), hit_congr (A := sortI B) (B := B) (fun x => sortI_mem)]; exact h t ht)
    rw [← sortI_mem (xs := A), this, sortI_mem]
  · intro k A hA B hB e
    obtain ⟨sA, lA⟩ := mem_allS.mp hA
    obtain ⟨sB, lB⟩ := mem_allS.mp hB
    exact sorted_lt_eq (sub_lt sA) (sub_lt sB) (k A B (sub_nd sA) (sub_nd sB) (sub_inN sA) (sub_inN sB) lA lB (ans_eq.mp e))
theorem cov_congr {ts : List (List Int)} {x : Int} {A B : List Int} (h : ∀ x, x ∈ A ↔ x ∈ B) : cov ts x A = cov ts x B := by
  rw [Bool.eq_iff_iff, cov_iff, cov_iff]
  exact ⟨fun k t ht hx => let ⟨y, a, b⟩ := k t ht hx; ⟨y, a, (h y).mp b⟩, fun k t ht hx => let ⟨y, a, b⟩ := k t ht hx; ⟨y, a, (h y).mpr b⟩⟩
theorem clr_iff {ts : List (List Int)} {n m : Nat} : clr ts n m = true ↔ ∀ A : List Int, A.Nodup → inN n A → A.length ≤ m → ∀ x : Int, 0 ≤ x → x < n → x ∉ A → cov ts x A = true → False := by
  unfold clr
  rw [List.all_eq_true]
  constructor
  · intro k A d i l x x0 x1 hx hc
    have := k (sortI A) (mem_allS.mpr ⟨sorted_sub (sortI_lt d) fun x hx => i x (sortI_mem.mp hx), by rw [(sortI_perm A).length_eq]; exact l⟩)
    have := List.all_eq_true.mp this x (mem_rng.mpr ⟨x0, x1⟩)
    rw [Bool.or_eq_true, List.contains_iff_mem, sortI_mem, cov_congr (B := A) (fun x => sortI_mem), hc] at this
    exact this.elim hx (by decide)
  · intro k A hA
    obtain ⟨sA, lA⟩ := mem_allS.mp hA
    rw [List.all_eq_true]
    intro x hx
    obtain ⟨x0, x1⟩ := mem_rng.mp hx
    rw [Bool.or_eq_true, List.contains_iff_mem]
    by_cases h : x ∈ A
    · exact .inl h
    · refine .inr ?_
      cases hc : cov ts x A with
      | false => rfl
      | true => exact (k A (sub_nd sA) (sub_inN sA) lA x x0 x1 h hc).elim
/-! ### laws -/
theorem cov_same {ts : List (List Int)} {x : Int} {A B : List Int} (h : ∀ t ∈ ts, hit t A = hit t B) (hx : x ∈ A) : cov ts x B = true := cov_iff.mpr fun t ht hxt => hit_iff.mp (by rw [← h t ht]; exact hit_iff.mpr ⟨x, hxt, hx⟩)
theorem clr_tel {ts : List (List Int)} {n m : Nat} (h : clr ts n m = true) : tel ts n m = true := by
  rw [clr_iff] at h
  refine tel_iff.mpr fun A B dA dB iA iB lA lB k x => ⟨fun hx => ?_, fun hx => ?_⟩
  · by_cases q : x ∈ B
    · exact q
    · exact (h B dB iB lB x (iA x hx).1 (iA x hx).2 q (cov_same k hx)).elim
  · by_cases q : x ∈ A
    · exact q
    · exact (h A dA iA lA x (iB x hx).1 (iB x hx).2 q (cov_same (fun t ht => (k t ht).symm) hx)).elim
theorem tel_le {ts : List (List Int)} {n m : Nat} (h : tel ts n (m + 1) = true) : tel ts n m = true := tel_iff.mpr fun A B dA dB iA iB lA lB k => tel_iff.mp h A B dA dB iA iB (by omega) (by omega) k
theorem clr_le {ts : List (List Int)} {n m : Nat} (h : clr ts n (m + 1) = true) : clr ts n m = true := clr_iff.mpr fun A dA iA lA => clr_iff.mp h A dA iA (by omega)
theorem tel_clr {ts : List (List Int)} {n m : Nat} (h : tel ts n (m + 1) = true) : clr ts n m = true := clr_iff.mpr fun A dA iA lA x x0 x1 hx hc => by
  have := tel_iff.mp h (x :: A) A (List.nodup_cons.mpr ⟨hx, dA⟩) dA (fun y hy => by
    rcases List.mem_cons.mp hy with rfl | hy
    · exact ⟨x0, x1⟩
    · exact iA y hy) iA (by rw [List.length_cons]; omega) (by omega) (fun t ht => by
    rw [Bool.eq_iff_iff, hit_iff, hit_iff]
    constructor
    · rintro ⟨y, a, b⟩
      rcases List.mem_cons.mp b with rfl | b
      · exact cov_iff.mp hc t ht a
      · exact ⟨y, a, b⟩
    · rintro ⟨y, a, b⟩
      exact ⟨y, a, List.mem_cons_of_mem _ b⟩) x
  exact hx (this.mp List.mem_cons_self)
/-- each test of the second is one of the first, things told by s -/
structure Rl (ts ts' : List (List Int)) (n n' : Nat) (s : Int → Int) : Prop where
  into : ∀ x, 0 ≤ x → x < (n : Int) → 0 ≤ s x ∧ s x < (n' : Int)
  inj : ∀ x y, 0 ≤ x → x < (n : Int) → 0 ≤ y → y < (n : Int) → s x = s y → x = y
  at' : ∀ t' ∈ ts', ∃ t ∈ ts, ∀ x, 0 ≤ x → x < (n : Int) → (x ∈ t ↔ s x ∈ t')
theorem Rl.img {ts ts' : List (List Int)} {n n' : Nat} {s : Int → Int} (r : Rl ts ts' n n' s) {A : List Int} (d : A.Nodup) (i : inN n A) : (A.map s).Nodup ∧ inN n' (A.map s) := by
  refine ⟨(nodup_map_iff d).mpr fun a ha b hb e => r.inj a b (i a ha).1 (i a ha).2 (i b hb).1 (i b hb).2 e, fun y hy => ?_⟩
  obtain ⟨x, hx, rfl⟩ := List.mem_map.mp hy
  exact r.into x (i x hx).1 (i x hx).2
theorem Rl.hit {ts ts' : List (List Int)} {n n' : Nat} {s : Int → Int} (r : Rl ts ts' n n' s) {A : List Int} (i : inN n A) {t t' : List Int} (h : ∀ x, 0 ≤ x → x < (n : Int) → (x ∈ t ↔ s x ∈ t')) : Wk.hit t' (A.map s) = Wk.hit t A := by
  rw [Bool.eq_iff_iff, hit_iff, hit_iff]
  constructor
  · rintro ⟨y, a, b⟩
    obtain ⟨x, hx, rfl⟩ := List.mem_map.mp b
    exact ⟨x, (h x (i x hx).1 (i x hx).2).mpr a, hx⟩
  · rintro ⟨x, a, b⟩
    exact ⟨s x, (h x (i x b).1 (i x b).2).mp a, List.mem_map.mpr ⟨x, b, rfl⟩⟩
theorem Rl.mem {ts ts' : List (List Int)} {n n' : Nat} {s : Int → Int} (r : Rl ts ts' n n' s) {A : List Int} (i : inN n A) {x : Int} (x0 : 0 ≤ x) (x1 : x < n) : s x ∈ A.map s ↔ x ∈ A := by
  rw [List.mem_map]
  exact ⟨fun ⟨y, hy, e⟩ => by rw [← r.inj y x (i y hy).1 (i y hy).2 x0 x1 e]; exact hy, fun h => ⟨x, h, rfl⟩⟩
theorem Rl.tel {ts ts' : List (List Int)} {n n' m : Nat} {s : Int → Int} (r : Rl ts ts' n n' s) (h : Wk.tel ts' n' m = true) : Wk.tel ts n m = true := tel_iff.mpr fun A B dA dB iA iB lA lB k => by
  obtain ⟨a1, a2⟩ := r.img dA iA
  obtain ⟨b1, b2⟩ := r.img dB iB
  have q := tel_iff.mp h (A.map s) (B.map s) a1 b1 a2 b2 (by rw [List.length_map]; exact lA) (by rw [List.length_map]; exact lB) (fun t' ht' => by
    obtain ⟨t, ht, e⟩ := r.at' t' ht'
    rw [r.hit iA e, r.hit iB e]
    exact k t ht)
  intro x
  constructor
  · intro hx
    have z := iA x hx
    rw [← r.mem iB z.1 z.2, ← q, r.mem iA z.1 z.2]; exact hx
  · intro hx
    have z := iB x hx
    rw [← r.mem iA z.1 z.2, q, r.mem iB z.1 z.2]; exact hx
theorem Rl.clr {ts ts' : List (List Int)} {n n' m : Nat} {s : Int → Int} (r : Rl ts ts' n n' s) (h : Wk.clr ts' n' m = true) : Wk.clr ts n m = true := clr_iff.mpr fun A dA iA lA x x0 x1 hx hc => by
  obtain ⟨a1, a2⟩ := r.img dA iA
  refine clr_iff.mp h (A.map s) a1 a2 (by rw [List.length_map]; exact lA) (s x) (r.into x x0 x1).1 (r.into x x0 x1).2 (fun z => hx ((r.mem iA x0 x1).mp z)) (cov_iff.mpr fun t' ht' hx' => ?_)
  obtain ⟨t, ht, e⟩ := r.at' t' ht'
  obtain ⟨y, a, b⟩ := cov_iff.mp hc t ht ((e x x0 x1).mpr hx')
  exact ⟨s y, (e y (iA y b).1 (iA y b).2).mp a, List.mem_map.mpr ⟨y, b, rfl⟩⟩
theorem Rl.sub {ts ts' : List (List Int)} {n : Nat} (h : ∀ t' ∈ ts', t' ∈ ts) : Rl ts ts' n n id := ⟨fun x a b => ⟨a, b⟩, fun x y _ _ _ _ e => e, fun t' ht' => ⟨t', h t' ht', fun x _ _ => Iff.rfl⟩⟩
/-- things in another order, forth and back -/
theorem Rl.perm {ts ts' : List (List Int)} {n : Nat} {s r : Int → Int} (hs : ∀ x, 0 ≤ x → x < (n : Int) → 0 ≤ s x ∧ s x < (n : Int) ∧ r (s x) = x) (hr : ∀ x, 0 ≤ x → x < (n : Int) → 0 ≤ r x ∧ r x < (n : Int) ∧ s (r x) = x) (i : ∀ t ∈ ts, inN n t)
    (h1 : ∀ t' ∈ ts', ∃ t ∈ ts, ∀ y, y ∈ t' ↔ y ∈ t.map s) (h2 : ∀ t ∈ ts, ∃ t' ∈ ts', ∀ y, y ∈ t' ↔ y ∈ t.map s) : Rl ts ts' n n s ∧ Rl ts' ts n n r := by
  have key : ∀ {t t' : List Int}, t ∈ ts → (∀ y, y ∈ t' ↔ y ∈ t.map s) → ∀ x, 0 ≤ x → x < (n : Int) → (x ∈ t ↔ s x ∈ t') := fun {t t'} ht e x x0 x1 => by
    rw [e, List.mem_map]
    exact ⟨fun h => ⟨x, h, rfl⟩, fun ⟨y, hy, z⟩ => by
      have := i t ht y hy
      rw [← (hs x x0 x1).2.2, ← z, (hs y this.1 this.2).2.2]; exact hy⟩
  refine ⟨⟨fun x a b => ⟨(hs x a b).1, (hs x a b).2.1⟩, fun x y a b c d e => ?_, fun t' ht' => ?_⟩, ⟨fun x a b => ⟨(hr x a b).1, (hr x a b).2.1⟩, fun x y a b c d e => ?_, fun t ht => ?_⟩⟩
  · rw [← (hs x a b).2.2, e, (hs y c d).2.2]
  · obtain ⟨t, ht, e⟩ := h1 t' ht'
    exact ⟨t, ht, key ht e⟩
  · rw [← (hr x a b).2.2, e, (hr y c d).2.2]
  · obtain ⟨t', ht', e⟩ := h2 t ht
    refine ⟨t', ht', fun y y0 y1 => ?_⟩
    obtain ⟨a, b, c⟩ := hr y y0 y1
    rw [key ht e (r y) a b, c]
/-- one thing fewer -/
theorem Rl.fewer {ts ts' : List (List Int)} {n : Nat} {o : Int} (o0 : 0 ≤ o) (o1 : o < (n + 1 : Nat)) (h : ∀ t ∈ ts, ∃ t' ∈ ts', ∀ y, y ∈ t' ↔ ∃ x ∈ t, x ≠ o ∧ y = x - (if o < x then 1 else 0)) : Rl ts' ts n (n + 1) fun x => if o ≤ x then x + 1 else x := by
  refine ⟨fun x a b => ?_, fun x y a b c d e => ?_, fun t ht => ?_⟩
  · split <;> omega
  · split at e <;> split at e <;> omega
  · obtain ⟨t', ht', k⟩ := h t ht
    refine ⟨t', ht', fun x x0 x1 => ?_⟩
    rw [k]
    constructor
    · rintro ⟨z, hz, ne, e⟩
      by_cases q : o < z
      · rw [if_pos q] at e
        rw [if_pos (by omega), show x + 1 = z by omega]; exact hz
      · rw [if_neg q] at e
        rw [if_neg (by omega), show x = z by omega]; exact hz
    · intro hx
      by_cases q : o ≤ x
      · rw [if_pos q] at hx
        exact ⟨x + 1, hx, by omega, by rw [if_pos (by omega)]; omega⟩
      · rw [if_neg q] at hx
        exact ⟨x, hx, by omega, by rw [if_neg (by omega)]; omega⟩
end Wk

namespace Wk
open PySem PySem.Spec PyProof.Rows L2
theorem mkT_is {n : Nat} {ts : List (List Int)} (n0 : 1 ≤ n) (n1 : n ≤ 24) (l0 : 1 ≤ ts.length) (l1 : ts.length ≤ 40) (nd : ∀ t ∈ ts, t.Nodup) (i : ∀ t ∈ ts, inN n t) : M.mk_Tests (n : Int) ts = some ⟨(n : Int), ts.map sortI⟩ ∧ TOk ⟨(n : Int), ts.map sortI⟩ n := by
  have len : ∀ t ∈ ts, t.length ≤ 24 := fun t ht => Nat.le_trans (few_len (nd t ht) (i t ht)) n1
  have in' : ∀ t ∈ ts.map sortI, ∀ x ∈ t, 0 ≤ x ∧ x < (n : Int) := fun t ht x hx => by
    obtain ⟨u, hu, rfl⟩ := List.mem_map.mp ht
    exact i u hu x (sortI_mem.mp hx)
  have nd' : ∀ t ∈ ts.map sortI, t.Nodup := fun t ht => by
    obtain ⟨u, hu, rfl⟩ := List.mem_map.mp ht
    exact sortI_nd (nd u hu)
  have len' : ∀ t ∈ ts.map sortI, t.length ≤ 24 := fun t ht => by
    obtain ⟨u, hu, rfl⟩ := List.mem_map.mp ht
    rw [(sortI_perm u).length_eq]; exact len u hu
  have ll : (ts.map sortI).length = ts.length := List.length_map ..
  refine ⟨?_, rfl, by rw [ll]; exact l1, n1, in', nd'⟩
  unfold M.mk_Tests
  rw [rtbO, szO_some (by omega), lfbO, rtbO, rtbO]
  have e1 : ((!((decide (1 ≤ (n : Int))) && (decide ((n : Int) ≤ 24)))) || (!((decide (1 ≤ ((ts.map fun (test13 : (List Int)) => (sortI test13)).length : Int))) && (decide (((ts.map fun (test13 : (List Int)) => (sortI test13)).length : Int) ≤ 40))))) = false := by
    rw [List.length_map, decide_eq_true (by omega), decide_eq_true (by omega), decide_eq_true (by omega), decide_eq_true (by omega)]; rfl
  rw [e1, ifF, szO_some (by rw [List.length_map]; omega), lfbO, mapM_some (g := fun _ => false)]
  · rw [sobO, rtsO, sobO]
    have e2 : (List.map (fun _ => false) (ts.map fun (test13 : (List Int)) => (sortI test13))).any id = false := by
      rw [List.any_map, List.any_eq_false]
      intro x _ z; cases z
    rw [e2, ifF, sz4_some (by rw [List.length_map]; omega), lfbO, flat2_some (g' := fun t => t) (f' := fun _ _ => true)]
    · rw [sobO, rtsO, sobO]
      have e3 : ((ts.map fun (test13 : (List Int)) => (sortI test13)).flatMap fun x => (List.map (fun _ => true) x)).all id = true := by
        rw [List.all_eq_true]
        intro b hb
        obtain ⟨t, _, hb⟩ := List.mem_flatMap.mp hb
        obtain ⟨_, _, rfl⟩ := List.mem_map.mp hb
        rfl
      rw [e3]
      rfl
    · intro t ht
      refine ⟨rfl, by have := len' t ht; omega, fun y hy => ?_⟩
      have := in' t ht y hy
      rw [decide_eq_true this.1, decide_eq_true this.2]; rfl
  · intro t ht
    have hl := len' t ht
    unfold lenSetO
    rw [if_pos (by omega), lfbO, ddI_self (nd' t ht), decide_eq_true rfl]
    rfl
def expl (ts : List (List Int)) (own A : List Int) (m : Nat) : List (List Int) := (List.range m).flatMap fun k => (subs own k).filter fun b => decide (ans ts b = ans ts A)
theorem expl_len (ts : List (List Int)) (own A : List Int) (hl : own.length ≤ 10) : ∀ m, (expl ts own A m).length ≤ m * 1024
  | 0 => Nat.zero_le _
  | m + 1 => by
    have := expl_len ts own A hl m
    unfold expl at this ⊢
    rw [List.range_succ, List.flatMap_append, List.length_append]
    have h1 : ([m].flatMap fun k => (subs own k).filter fun b => decide (ans ts b = ans ts A)).length ≤ 1024 := by
      rw [List.flatMap_cons, List.flatMap_nil, List.append_nil]
      refine Nat.le_trans (List.length_filter_le _ _) (Nat.le_trans (subs_len own m) ?_)
      exact Nat.pow_le_pow_right (n := 2) (by decide) hl
    omega
theorem explained_is {T : TestsR} {n : Nat} (h : TOk T n) (hn : n ≤ 10) (A : List Int) : M.explained T (ans T.tests A) 2 = some (expl T.tests ((rng n).filter fun x => cov T.tests x A) A 3) := by
  have hl : ((rng n).filter fun x => cov T.tests x A).length ≤ 10 := Nat.le_trans (List.length_filter_le _ _) (by rw [rng_len]; exact hn)
  generalize hown : (rng n).filter (fun x => cov T.tests x A) = own at hl
  unfold M.explained
  rw [suspects_is h A, hown, lfbO, rtbO, show ((2 : Int) + 1) = ((3 : Nat) : Int) from rfl, range1_nat (by decide), lfbO]
  have r := fold_range (F := expl T.tests own A) (n := 3) (f := fun (size89 : Int) (t88 : (List (List Int))) => bd (bd (lf (M.subsets 6 own size89)) fun x93 =>
 bd (lf (szO x93)) fun xs92 =>
 lcM (fun (bad90 : (List Int)) => bd (lf (M.Tests_answers T bad90)) fun x91 =>
 rt (decide (x91 = ans T.tests A))) (fun (bad90 : (List Int)) => rt bad90) xs92) fun y95 =>
 bd (lf (catO t88 y95)) fun found94 =>
 rt found94) ?_
  · rw [show expl T.tests own A 0 = [] from rfl] at r
    rw [r]
    rfl
  · intro i hi
    have hs := subs_len own i
    have hp : 2 ^ own.length ≤ 2 ^ 10 := Nat.pow_le_pow_right (by decide) hl
    have n10 : (2 : Nat) ^ 10 = 1024 := rfl
    have he := expl_len T.tests own A hl i
    rw [subsets_is (by omega) (by omega) hl, lfbO, szO_some (by omega), lfbO, lcM_some (c' := fun b => decide (ans T.tests b = ans T.tests A)) (g := id), sobO, List.map_id, catO_some (by have := List.length_filter_le (fun b => decide (ans T.tests b = ans T.tests A)) (subs own i); omega), lfbO, rtsO]
    · congr 1
      show _ = (List.range (i + 1)).flatMap _
      rw [List.range_succ, List.flatMap_append, List.flatMap_cons, List.flatMap_nil, List.append_nil]
      rfl
    · intro b _
      rw [answers_is h, lfbO, rtsO]
    · intro b _ _; rfl
theorem mem_expl {ts : List (List Int)} {own A b : List Int} {m : Nat} : b ∈ expl ts own A m ↔ (b.Sublist own ∧ b.length < m) ∧ ans ts b = ans ts A := by
  unfold expl
  rw [List.mem_flatMap]
  constructor
  · rintro ⟨k, hk, h⟩
    obtain ⟨h1, h2⟩ := List.mem_filter.mp h
    obtain ⟨h3, h4⟩ := mem_subs.mp h1
    exact ⟨⟨h3, by have := List.mem_range.mp hk; omega⟩, of_decide_eq_true h2⟩
  · rintro ⟨⟨h1, h2⟩, h3⟩
    exact ⟨b.length, List.mem_range.mpr h2, List.mem_filter.mpr ⟨mem_subs.mpr ⟨h1, rfl⟩, decide_eq_true h3⟩⟩
/-! ### the words -/
theorem telW {T : TestsR} {n m : Nat} (h : TOk T n) (hn : n ≤ 10) (hm : m ≤ 4) : (bd (lf (M.telling T (m : Int))) fun x => (rt x.word : G Str)) = rt (if tel T.tests n m then ("tells" : Str) else "alike") := by
  obtain ⟨c, h1, h2⟩ := telling_is h hn hm
  rw [h1, lfbG, h2]
  cases tel T.tests n m <;> rfl
theorem clrW {T : TestsR} {n m : Nat} (h : TOk T n) (hn : n ≤ 10) (hm : m ≤ 4) : (bd (lf (M.clearing T (m : Int))) fun x => (rt x.word : G Str)) = rt (if clr T.tests n m then ("clears" : Str) else "covered") := by
  obtain ⟨c, h1, h2⟩ := clearing_is h hn hm
  rw [h1, lfbG, h2]
  cases clr T.tests n m <;> rfl
theorem telD (b : Bool) : decide ((if b then "tells" else "alike" : Str) = "tells") = b := by cases b <;> decide
theorem clrD (b : Bool) : decide ((if b then "clears" else "covered" : Str) = "clears") = b := by cases b <;> decide
theorem drawn_wp {n : Nat} (hn : n ≤ 10) : (M.law_drawn (n : Int)).wp fun ts => 1 ≤ ts.length ∧ ts.length ≤ 8 ∧ ∀ t ∈ ts, t.Sublist (rng n) := by
  unfold M.law_drawn
  with_reducible refine wp_bdG (wp_bdG (wp_bdG (wp_bdG (wp_pick1 (by decide) (by decide) fun a ha => ?_))))
  have ha : a < 8 := by omega
  rw [show (1 + (a : Int)) = ((a + 1 : Nat) : Int) by omega]
  refine wp_rt ?_
  rw [range1_rng (by omega), lfsG]
  refine wp_rt ?_
  rw [szO_some (by rw [rng_len]; omega), lfbG]
  refine wp_mono (wp_mapM (Q := fun t => t.Sublist (rng n)) fun x _ => ?_) fun ts h => ?_
  · rw [range1_rng (by omega), lfbG, szO_some (by rw [rng_len]; omega), lfbG]
    refine wp_bdG (wp_mono (wp_lc0 fun x _ => ?_) fun t ht => wp_rt ht)
    exact wp_bdG (wp_pick1 (by decide) (by decide) fun r _ => wp_rt trivial)
  · rw [rng_len] at h
    exact wp_rt ⟨by omega, by omega, h.2⟩
theorem some_wp {n : Nat} {k : Int} (hn : n ≤ 10) (k0 : 0 < k) (k1 : k < 1073741824) {p : Int → Bool} : (bd (lf (range1O (n : Int))) fun x => bd (lf (szO x)) fun xs => lcM (fun (thing : Int) => bd (pickM k) fun x => (rt (p x) : G Bool)) (fun (thing : Int) => rt thing) xs).wp fun A => A.Sublist (rng n) := by
  rw [range1_rng (by omega), lfbG, szO_some (by rw [rng_len]; omega), lfbG]
  exact wp_lc0 fun x _ => wp_bdG (wp_pick1 k0 k1 fun r _ => wp_rt trivial)
end Wk

namespace Wk
open PySem PySem.Spec PyProof.Rows L2
theorem filter_none {α β : Type} [DecidableEq β] {xs : List α} {p : α → Bool} {f : α → β} (h : ∀ x ∈ xs, p x = false) : decide ((xs.filter p).map f = []) = true := by
  rw [decide_eq_true_eq, List.map_eq_nil_iff, List.filter_eq_nil_iff]
  intro x hx
  rw [h x hx]; decide
theorem lcG_none {α β : Type} {c : α → G Bool} {f : α → G β} : ∀ {xs : List α}, (∀ x ∈ xs, c x = rt false) → lcM c f xs = rt []
  | [], _ => rfl
  | x :: xs, h => by
    show bd (c x) _ = _
    rw [h x List.mem_cons_self, rtbG, ifF]
    exact lcG_none fun y hy => h y (List.mem_cons_of_mem _ hy)
theorem mapG_some {α β : Type} {f : α → G β} {g : α → β} : ∀ {xs : List α}, (∀ x ∈ xs, f x = rt (g x)) → mapM' f xs = rt (xs.map g)
  | [], _ => rfl
  | x :: xs, h => by
    show bd (f x) _ = _
    rw [h x List.mem_cons_self, rtbG]
    show bd (mapM' f xs) _ = _
    rw [mapG_some fun y hy => h y (List.mem_cons_of_mem _ hy), rtbG]
    rfl
theorem cutL_nd {α : Type} (xs : List α) (k : Nat) : cutL xs none (some (k : Int)) = xs.take k := cutL_to xs k
theorem right : M.law_right.wp fun b => b = true := by
  unfold M.law_right
  with_reducible refine wp_bdG (wp_bdG (wp_pick1 (by decide) (by decide) fun a ha => wp_rt ?_))
  have hn2 : 2 ≤ a + 2 := by omega
  have hn : a + 2 ≤ 10 := by omega
  rw [show (2 + (a : Int)) = ((a + 2 : Nat) : Int) by omega]
  clear ha
  generalize a + 2 = n at hn2 hn
  with_reducible refine wp_bd (drawn_wp hn) fun sets hsets => ?_
  obtain ⟨s1, s2, s3⟩ := hsets
  with_reducible refine wp_bd (Q := fun ts => 1 ≤ ts.length ∧ ts.length ≤ 18 ∧ ∀ t ∈ ts, t.Nodup ∧ inN n t) ?_ fun ts hts => ?_
  · with_reducible refine wp_bd (Q := fun _ => True) (wp_bdG (wp_pick1 (by decide) (by decide) fun _ _ => wp_rt trivial)) fun b _ => ?_
    cases b with
    | false =>
      rw [ifF]
      exact wp_rt ⟨s1, by omega, fun t ht => ⟨sub_nd (s3 t ht), sub_inN (s3 t ht)⟩⟩
    | true =>
      rw [ifT, range1_rng (by omega), lfbG, szO_some (by rw [rng_len]; omega), lfbG]
      with_reducible refine wp_bdG (wp_bdG (wp_mono (wp_lc (g := fun x : Int => [x]) fun x _ => ?_) fun ys hys => ?_))
      · exact wp_bdG (wp_pick1 (by decide) (by decide) fun r _ => wp_rt trivial)
      · obtain ⟨zs, hz, rfl⟩ := hys
        have hzl := hz.length_le
        rw [rng_len] at hzl
        rw [catO_some (by rw [List.length_map]; omega), lfsG]
        refine wp_rt (wp_rt ⟨by rw [List.length_append]; omega, by rw [List.length_append, List.length_map]; omega, fun t ht => ?_⟩)
        rcases List.mem_append.mp ht with ht | ht
        · exact ⟨sub_nd (s3 t ht), sub_inN (s3 t ht)⟩
        · obtain ⟨x, hx, rfl⟩ := List.mem_map.mp ht
          exact ⟨by simp, fun y hy => by rw [List.mem_singleton.mp hy]; exact sub_inN hz x hx⟩
  clear s1 s2 s3
  obtain ⟨l1, l2, l3⟩ := hts
  obtain ⟨eT, ok⟩ := mkT_is (n := n) (ts := ts) (by omega) (by omega) l1 (by omega) (fun t ht => (l3 t ht).1) (fun t ht => (l3 t ht).2)
  rw [eT, lfbG]
  clear eT
  have hT : (⟨(n : Int), ts.map sortI⟩ : TestsR).tests = ts.map sortI := rfl
  generalize (⟨(n : Int), ts.map sortI⟩ : TestsR) = T at ok hT
  have few := ok.few
  have lT : T.tests.length = ts.length := by rw [hT, List.length_map]
  with_reducible refine wp_bd (some_wp hn (by decide) (by decide)) fun one h1 => ?_
  with_reducible refine wp_bd (some_wp hn (by decide) (by decide)) fun other h2 => ?_
  have len1 := h1.length_le
  have len2 := h2.length_le
  rw [rng_len] at len1 len2
  have len3 := List.length_filter_le (fun (thing159 : Int) => (!one.contains thing159)) other
  rw [szO_some (by omega), lfbG, rtbG, catO_some (by rw [List.length_map]; omega), lfbG, rtbG]
  have hb : ∀ x, x ∈ sortI (one ++ (other.filter fun (thing159 : Int) => (!one.contains thing159)).map fun (thing159 : Int) => thing159) ↔ x ∈ one ∨ x ∈ other := fun x => by
    rw [sortI_mem, List.mem_append, List.map_id', List.mem_filter, Bool.not_eq_true', ← Bool.not_eq_true, List.contains_iff_mem]
    exact ⟨fun z => z.elim .inl fun q => .inr q.1, fun z => z.elim .inl fun q => by
      by_cases w : x ∈ one
      · exact .inl w
      · exact .inr ⟨q, w⟩⟩
  have hbs : (sortI (one ++ (other.filter fun (thing159 : Int) => (!one.contains thing159)).map fun (thing159 : Int) => thing159)).Pairwise (· < ·) := sortI_lt (by
    rw [List.map_id', List.nodup_append]
    refine ⟨sub_nd h1, (sub_nd h2).filter _, fun x hx y hy e => ?_⟩
    obtain ⟨_, hy⟩ := List.mem_filter.mp hy
    rw [Bool.not_eq_true', ← Bool.not_eq_true, List.contains_iff_mem, ← e] at hy
    exact hy hx)
  generalize sortI (one ++ (other.filter fun (thing159 : Int) => (!one.contains thing159)).map fun (thing159 : Int) => thing159) = both at hb hbs
  rw [answers_is ok one, lfbG, answers_is ok other, lfbG, answers_is ok both, lfbG]
  with_reducible refine stepF ?_ ?_
  · rw [szO_some (by rw [List.length_zip]; unfold ans; rw [List.length_map]; omega), lfbG, rtbG, rtbG, rtbG]
    have e1 : ans T.tests both = ((ans T.tests one).zip (ans T.tests other)).map fun (a167 : Int × Int) => (if a167.2 > a167.1 then a167.2 else a167.1) := by
      unfold ans
      rw [List.zip_map', List.map_map]
      apply List.map_congr_left
      intro t _
      have : hit t both = (hit t one || hit t other) := by
        rw [Bool.eq_iff_iff, Bool.or_eq_true, hit_iff, hit_iff, hit_iff]
        constructor
        · rintro ⟨x, a, b⟩
          exact ((hb x).mp b).elim (fun z => .inl ⟨x, a, z⟩) fun z => .inr ⟨x, a, z⟩
        · rintro (⟨x, a, b⟩ | ⟨x, a, b⟩)
          · exact ⟨x, a, (hb x).mpr (.inl b)⟩
          · exact ⟨x, a, (hb x).mpr (.inr b)⟩
      show (if hit t both = true then (1 : Int) else 0) = _
      rw [this]
      show _ = if (if hit t other = true then (1 : Int) else 0) > (if hit t one = true then (1 : Int) else 0) then (if hit t other = true then (1 : Int) else 0) else (if hit t one = true then (1 : Int) else 0)
      cases hit t one <;> cases hit t other <;> decide
    have e2 : repO [(0 : Int)] (ts.length : Int) = some (List.replicate ts.length 0) := by
      unfold repO
      rw [if_pos ⟨by omega, by omega, by rw [Int.toNat_natCast, List.length_cons, List.length_nil]; omega⟩, Int.toNat_natCast]
      congr 1
      exact List.flatten_replicate_singleton
    have e3 : ans T.tests [] = List.replicate ts.length 0 := by
      rw [← lT]
      unfold ans
      apply List.eq_replicate_iff.mpr
      refine ⟨List.length_map .., fun b hb => ?_⟩
      obtain ⟨t, _, rfl⟩ := List.mem_map.mp hb
      rw [if_neg]
      rw [hit_iff]
      rintro ⟨x, _, z⟩
      cases z
    rw [← e1, decide_eq_true rfl, show (!true) = false from rfl, ifF, answers_is ok [], lfbG, e2, lfbG, e3, decide_eq_true rfl]
    rfl
  rw [suspects_is ok one, lfbG, suspects_is ok both, lfbG, explained_is ok hn one]
  have hown : ∀ x, x ∈ (rng n).filter (fun x => cov T.tests x one) ↔ x ∈ rng n ∧ cov T.tests x one = true := fun x => List.mem_filter
  have hwid : ∀ x, x ∈ (rng n).filter (fun x => cov T.tests x both) ↔ x ∈ rng n ∧ cov T.tests x both = true := fun x => List.mem_filter
  have sown : ((rng n).filter (fun x => cov T.tests x one)).Sublist (rng n) := List.filter_sublist
  have expl_len3 := expl_len T.tests ((rng n).filter fun x => cov T.tests x one) one (by have := sown.length_le; rw [rng_len] at this; omega) 3
  have mexp := fun b => mem_expl (ts := T.tests) (own := (rng n).filter fun x => cov T.tests x one) (A := one) (b := b) (m := 3)
  have i1 := sub_inN h1
  have one_own : ∀ x ∈ one, x ∈ (rng n).filter (fun x => cov T.tests x one) := fun x hx => (hown x).mpr ⟨mem_rng.mpr (i1 x hx), cov_same (fun _ _ => rfl) hx⟩
  have own_ans : ans T.tests ((rng n).filter fun x => cov T.tests x one) = ans T.tests one := ans_eq.mpr fun t ht => by
    rw [Bool.eq_iff_iff, hit_iff, hit_iff]
    constructor
    · rintro ⟨x, a, b⟩
      exact cov_iff.mp ((hown x).mp b).2 t ht a
    · rintro ⟨x, a, b⟩
      exact ⟨x, a, one_own x b⟩
  have own_wid : ∀ x ∈ (rng n).filter (fun x => cov T.tests x one), x ∈ (rng n).filter (fun x => cov T.tests x both) := fun x hx => by
    obtain ⟨a, b⟩ := (hown x).mp hx
    exact (hwid x).mpr ⟨a, cov_iff.mpr fun t ht hxt => let ⟨y, c, d⟩ := cov_iff.mp b t ht hxt; ⟨y, c, (hb y).mpr (.inl d)⟩⟩
  have own_len : ((rng n).filter (fun x => cov T.tests x one)).length ≤ 10 := by have := sown.length_le; rw [rng_len] at this; omega
  generalize (rng n).filter (fun x => cov T.tests x one) = own at hown sown expl_len3 mexp one_own own_ans own_wid own_len
  generalize (rng n).filter (fun x => cov T.tests x both) = wide at hwid own_wid
  with_reducible refine stepF ?_ ?_
  · rw [szO_some (by omega), lfbG, rtbG, filter_none (fun x hx => by rw [List.contains_iff_mem.mpr (one_own x hx)]; rfl), show (!true) = false from rfl, rtbG, ifF, szO_some (by omega), lfbG, rtbG, filter_none (fun x hx => by rw [List.contains_iff_mem.mpr (own_wid x hx)]; rfl), show (!true) = false from rfl, rtbG, ifF, answers_is ok own, lfbG, own_ans, decide_eq_true rfl]
    rfl
  rw [lfbG]
  generalize expl T.tests own one 3 = some' at expl_len3 mexp
  with_reducible refine stepF ?_ ?_
  · have e : (decide ((one.length : Int) ≤ 2) && !decide (one ∈ some')) = false := by
      by_cases q : one.length < 3
      · rw [decide_eq_true ((mexp one).mpr ⟨⟨?_, q⟩, rfl⟩)]
        · exact Bool.and_false _
        · have : own.filter (fun x => decide (x ∈ one)) = one := sorted_lt_eq ((sub_lt sown).filter _) (sub_lt h1) fun x => by
            rw [List.mem_filter, decide_eq_true_eq]
            exact ⟨fun z => z.2, fun z => ⟨one_own x z, z⟩⟩
          rw [← this]
          exact List.filter_sublist
      · rw [decide_eq_false (by omega)]; rfl
    rw [e, ifF, szO_some (by omega), lfbG, lcG_none, rtbG, decide_eq_true rfl]
    · rfl
    · intro bad hbad
      obtain ⟨⟨m1, m2⟩, m3⟩ := (mexp bad).mp hbad
      rw [answers_is ok bad, lfbG, m3, decide_eq_true rfl, show (!true) = false from rfl, rtbG, ifF, szO_some (by omega), lfbG, rtbG, filter_none (fun x hx => by rw [List.contains_iff_mem.mpr (m1.subset hx)]; rfl)]
      rfl
  -- more tests
  have T1 : ∃ ex : List (List Int), True := ⟨[], trivial⟩
  with_reducible refine wp_bdG (wp_bdG (wp_bdG (wp_bdG (wp_mono (drawn_wp hn) fun ds hds => wp_rt ?_))))
  obtain ⟨d1, d2, d3⟩ := hds
  rw [show cutL ds none (some 2) = ds.take 2 from cutL_to ds 2]
  have dl : (ds.take 2).length ≤ 2 := by rw [List.length_take]; omega
  rw [catO_some (by omega), lfsG]
  obtain ⟨eM, okM⟩ := mkT_is (n := n) (ts := ts ++ ds.take 2) (by omega) (by omega) (by rw [List.length_append]; omega) (by rw [List.length_append]; omega) (fun t ht => (List.mem_append.mp ht).elim (fun z => (l3 t z).1) fun z => sub_nd (d3 t (List.mem_of_mem_take z))) (fun t ht => (List.mem_append.mp ht).elim (fun z => (l3 t z).2) fun z => sub_inN (d3 t (List.mem_of_mem_take z)))
  with_reducible refine wp_rt ?_
  rw [eM, lfsG]
  with_reducible refine wp_rt ?_
  clear eM
  have rM : Rl (ts.map sortI ++ (ds.take 2).map sortI) (ts.map sortI) n n id := Rl.sub fun t ht => List.mem_append_left _ ht
  rw [← List.map_append] at rM
  have hM : (⟨(n : Int), (ts ++ ds.take 2).map sortI⟩ : TestsR).tests = (ts ++ ds.take 2).map sortI := rfl
  rw [← hM, ← hT] at rM
  clear hM
  generalize (⟨(n : Int), (ts ++ ds.take 2).map sortI⟩ : TestsR) = more at okM rM
  clear T1 d1 d2 d3 dl
  -- again, in another order
  have al : (ts.take 1).length ≤ 1 := by rw [List.length_take]; omega
  rw [show cutL ts none (some 1) = ts.take 1 from cutL_to ts 1, catO_some (by omega), lfbG]
  with_reducible refine wp_bdG (wp_bdG (wp_mono (P := fun ys => ys.Perm (ts ++ ts.take 1)) ?_ fun mx hmx => ?_))
  · unfold M.law_mixed_2
    have hl : (ts ++ ts.take 1).length < 1000 := by rw [List.length_append]; omega
    with_reducible exact mix_perm hl
  have ml := hmx.length_eq
  rw [List.length_append] at ml
  have mm : ∀ t, t ∈ mx ↔ t ∈ ts := fun t => by
    rw [hmx.mem_iff, List.mem_append]
    exact ⟨fun z => z.elim id List.mem_of_mem_take, .inl⟩
  obtain ⟨eA, okA⟩ := mkT_is (n := n) (ts := mx) (by omega) (by omega) (by omega) (by omega) (fun t ht => (l3 t ((mm t).mp ht)).1) (fun t ht => (l3 t ((mm t).mp ht)).2)
  rw [eA, lfsG]
  with_reducible refine wp_rt ?_
  clear eA
  have rA1 : Rl (mx.map sortI) (ts.map sortI) n n id := Rl.sub fun t ht => by
    obtain ⟨u, hu, rfl⟩ := List.mem_map.mp ht
    exact List.mem_map.mpr ⟨u, (mm u).mpr hu, rfl⟩
  have rA2 : Rl (ts.map sortI) (mx.map sortI) n n id := Rl.sub fun t ht => by
    obtain ⟨u, hu, rfl⟩ := List.mem_map.mp ht
    exact List.mem_map.mpr ⟨u, (mm u).mp hu, rfl⟩
  have hA : (⟨(n : Int), mx.map sortI⟩ : TestsR).tests = mx.map sortI := rfl
  rw [← hA, ← hT] at rA1 rA2
  clear hA
  generalize (⟨(n : Int), mx.map sortI⟩ : TestsR) = again at okA rA1 rA2
  clear ml mm hmx mx al
  -- things in another order
  rw [rgO_rng (by omega), lfbG]
  with_reducible refine wp_bdG (wp_mono (P := fun ys => ys.Perm (rng n)) ?_ fun ord hord => ?_)
  · unfold M.law_mixed
    have hl : (rng n).length < 1000 := by rw [rng_len]; omega
    with_reducible exact mix_perm hl
  have ol := hord.length_eq
  rw [rng_len] at ol
  have ond : ord.Nodup := (hord.nodup_iff).mpr (rng_nd n)
  have oin : ∀ y, y ∈ ord ↔ 0 ≤ y ∧ y < (n : Int) := fun y => by rw [hord.mem_iff, mem_rng]
  have og : ∀ x : Int, 0 ≤ x → x < n → ∃ h : x.toNat < ord.length, ixO ord x = some ord[x.toNat] := fun x x0 x1 => by
    obtain ⟨k, rfl⟩ := Int.eq_ofNat_of_zero_le x0
    have hk : k < ord.length := by omega
    exact ⟨by simpa using hk, by rw [ixO_nat (List.getElem?_eq_getElem hk)]; rfl⟩
  have es : ∀ t ∈ ts, (bd (lf (szO t)) fun xs205 => mapM' (fun (thing204 : Int) => lf (ixO ord thing204)) xs205) = (rt (t.map fun x => ord.getD x.toNat 0) : G (List Int)) := fun t ht => by
    have tl := few_len (l3 t ht).1 (l3 t ht).2
    rw [szO_some (by omega), lfbG]
    refine mapG_some fun x hx => ?_
    obtain ⟨h, e⟩ := og x ((l3 t ht).2 x hx).1 ((l3 t ht).2 x hx).2
    rw [e, lfsG, List.getD_eq_getElem?_getD, List.getElem?_eq_getElem h]
    rfl
  rw [szO_some (by omega), lfbG, mapG_some es, rtbG]
  clear es
  have prm := Rl.perm (ts := ts.map sortI) (ts' := (ts.map fun t => t.map fun x => ord.getD x.toNat 0).map sortI) (n := n) (s := fun x => ord.getD x.toNat 0) (r := fun y => (ord.idxOf y : Nat))
    (fun x x0 x1 => by
      obtain ⟨h, _⟩ := og x x0 x1
      have e : ord.getD x.toNat 0 = ord[x.toNat] := by rw [List.getD_eq_getElem?_getD, List.getElem?_eq_getElem h]; rfl
      have := (oin _).mp (List.getElem_mem h)
      rw [e, ond.idxOf_getElem]
      exact ⟨this.1, this.2, Int.toNat_of_nonneg x0⟩)
    (fun y y0 y1 => by
      have hy := (oin y).mpr ⟨y0, y1⟩
      have hl := List.idxOf_lt_length_of_mem hy
      refine ⟨by omega, by omega, ?_⟩
      rw [Int.toNat_natCast, List.getD_eq_getElem?_getD, List.getElem?_eq_getElem hl]
      exact List.getElem_idxOf hl)
    (fun t ht x hx => by
      obtain ⟨u, hu, rfl⟩ := List.mem_map.mp ht
      exact (l3 u hu).2 x (sortI_mem.mp hx))
    (fun t' ht' => by
      obtain ⟨u, hu, rfl⟩ := List.mem_map.mp ht'
      obtain ⟨t, ht, rfl⟩ := List.mem_map.mp hu
      refine ⟨sortI t, List.mem_map.mpr ⟨t, ht, rfl⟩, fun y => ?_⟩
      rw [sortI_mem, List.mem_map, List.mem_map]
      exact ⟨fun ⟨x, a, b⟩ => ⟨x, sortI_mem.mpr a, b⟩, fun ⟨x, a, b⟩ => ⟨x, sortI_mem.mp a, b⟩⟩)
    (fun t ht => by
      obtain ⟨u, hu, rfl⟩ := List.mem_map.mp ht
      refine ⟨sortI (u.map fun x => ord.getD x.toNat 0), List.mem_map.mpr ⟨_, List.mem_map.mpr ⟨u, hu, rfl⟩, rfl⟩, fun y => ?_⟩
      rw [sortI_mem, List.mem_map, List.mem_map]
      exact ⟨fun ⟨x, a, b⟩ => ⟨x, sortI_mem.mpr a, b⟩, fun ⟨x, a, b⟩ => ⟨x, sortI_mem.mp a, b⟩⟩)
  obtain ⟨rV1, rV2⟩ := prm
  have uin : ∀ u ∈ ts.map (fun t => t.map fun x => ord.getD x.toNat 0), u.Nodup ∧ inN n u := fun u hu => by
    obtain ⟨t, ht, rfl⟩ := List.mem_map.mp hu
    refine ⟨(nodup_map_iff (l3 t ht).1).mpr fun x hx y hy e => ?_, fun y hy => ?_⟩
    · exact rV1.inj x y ((l3 t ht).2 x hx).1 ((l3 t ht).2 x hx).2 ((l3 t ht).2 y hy).1 ((l3 t ht).2 y hy).2 e
    · obtain ⟨x, hx, rfl⟩ := List.mem_map.mp hy
      exact rV1.into x ((l3 t ht).2 x hx).1 ((l3 t ht).2 x hx).2
  obtain ⟨eV, okV⟩ := mkT_is (n := n) (ts := ts.map fun t => t.map fun x => ord.getD x.toNat 0) (by omega) (by omega) (by rw [List.length_map]; omega) (by rw [List.length_map]; omega) (fun t ht => (uin t ht).1) (fun t ht => (uin t ht).2)
  rw [eV, lfbG]
  clear eV
  have hV : (⟨(n : Int), (ts.map fun t => t.map fun x => ord.getD x.toNat 0).map sortI⟩ : TestsR).tests = (ts.map fun t => t.map fun x => ord.getD x.toNat 0).map sortI := rfl
  rw [← hV, ← hT] at rV1 rV2
  clear hV
  generalize (⟨(n : Int), (ts.map fun t => t.map fun x => ord.getD x.toNat 0).map sortI⟩ : TestsR) = moved at okV rV1 rV2
  clear uin og oin ond ol hord
  -- one thing fewer
  with_reducible refine wp_bdG (wp_pick1 (by omega) (by omega) fun o ho => ?_)
  have ef : ∀ t ∈ ts, (bd (lf (szO t)) fun xs212 => rt ((xs212.filter fun (thing211 : Int) => (!decide (thing211 = (o : Int)))).map fun (thing211 : Int) => (thing211 - (if (decide ((o : Int) < thing211)) then 1 else 0)))) = (rt ((t.filter fun (thing211 : Int) => (!decide (thing211 = (o : Int)))).map fun (thing211 : Int) => (thing211 - (if (decide ((o : Int) < thing211)) then 1 else 0))) : G (List Int)) := fun t ht => by
    have tl := few_len (l3 t ht).1 (l3 t ht).2
    rw [szO_some (by omega), lfbG]
  rw [lfbG, mapG_some ef, rtbG]
  clear ef
  have fin : ∀ t ∈ ts, ∀ y, y ∈ (t.filter fun (thing211 : Int) => (!decide (thing211 = (o : Int)))).map (fun (thing211 : Int) => (thing211 - (if (decide ((o : Int) < thing211)) then 1 else 0))) ↔ ∃ x ∈ t, x ≠ (o : Int) ∧ y = x - (if (o : Int) < x then 1 else 0) := fun t ht y => by
    rw [List.mem_map]
    constructor
    · rintro ⟨x, hx, rfl⟩
      obtain ⟨a, b⟩ := List.mem_filter.mp hx
      refine ⟨x, a, by simpa using b, ?_⟩
      by_cases q : (o : Int) < x
      · rw [if_pos q, if_pos (decide_eq_true q)]
      · rw [if_neg q, if_neg (by rw [decide_eq_false q]; decide)]
    · rintro ⟨x, a, b, rfl⟩
      refine ⟨x, List.mem_filter.mpr ⟨a, by simpa using b⟩, ?_⟩
      by_cases q : (o : Int) < x
      · rw [if_pos q, if_pos (decide_eq_true q)]
      · rw [if_neg q, if_neg (by rw [decide_eq_false q]; decide)]
  have n1 : n - 1 + 1 = n := by omega
  have uin : ∀ u ∈ ts.map (fun t => (t.filter fun (thing211 : Int) => (!decide (thing211 = (o : Int)))).map (fun (thing211 : Int) => (thing211 - (if (decide ((o : Int) < thing211)) then 1 else 0)))), u.Nodup ∧ inN (n - 1) u := fun u hu => by
    obtain ⟨t, ht, rfl⟩ := List.mem_map.mp hu
    constructor
    · refine (nodup_map_iff ((l3 t ht).1.filter _)).mpr fun x hx y hy e => ?_
      have x1 := (List.mem_filter.mp hx).2
      have y1 := (List.mem_filter.mp hy).2
      simp only [Bool.not_eq_true', decide_eq_false_iff_not, decide_eq_true_eq] at x1 y1 e
      split at e <;> split at e <;> omega
    · intro y hy
      obtain ⟨x, a, b, rfl⟩ := (fin t ht y).mp hy
      have := (l3 t ht).2 x a
      split <;> omega
  rw [show (n : Int) - 1 = ((n - 1 : Nat) : Int) by omega]
  obtain ⟨eF, okF⟩ := mkT_is (n := n - 1) (ts := ts.map fun t => (t.filter fun (thing211 : Int) => (!decide (thing211 = (o : Int)))).map (fun (thing211 : Int) => (thing211 - (if (decide ((o : Int) < thing211)) then 1 else 0)))) (by omega) (by omega) (by rw [List.length_map]; omega) (by rw [List.length_map]; omega) (fun t ht => (uin t ht).1) (fun t ht => (uin t ht).2)
  rw [eF, lfbG]
  clear eF
  have rF := Rl.fewer (ts := ts.map sortI) (ts' := (ts.map fun t => (t.filter fun (thing211 : Int) => (!decide (thing211 = (o : Int)))).map (fun (thing211 : Int) => (thing211 - (if (decide ((o : Int) < thing211)) then 1 else 0)))).map sortI) (n := n - 1) (o := o) (by omega) (by omega) (fun t ht => by
    obtain ⟨u, hu, rfl⟩ := List.mem_map.mp ht
    refine ⟨_, List.mem_map.mpr ⟨_, List.mem_map.mpr ⟨u, hu, rfl⟩, rfl⟩, fun y => ?_⟩
    rw [sortI_mem, fin u hu y]
    exact ⟨fun ⟨x, a, b⟩ => ⟨x, sortI_mem.mpr a, b⟩, fun ⟨x, a, b⟩ => ⟨x, sortI_mem.mp a, b⟩⟩)
  rw [n1] at rF
  have hF : (⟨((n - 1 : Nat) : Int), (ts.map fun t => (t.filter fun (thing211 : Int) => (!decide (thing211 = (o : Int)))).map (fun (thing211 : Int) => (thing211 - (if (decide ((o : Int) < thing211)) then 1 else 0)))).map sortI⟩ : TestsR).tests = (ts.map fun t => (t.filter fun (thing211 : Int) => (!decide (thing211 = (o : Int)))).map (fun (thing211 : Int) => (thing211 - (if (decide ((o : Int) < thing211)) then 1 else 0)))).map sortI := rfl
  rw [← hF, ← hT] at rF
  clear hF
  generalize (⟨((n - 1 : Nat) : Int), (ts.map fun t => (t.filter fun (thing211 : Int) => (!decide (thing211 = (o : Int)))).map (fun (thing211 : Int) => (thing211 - (if (decide ((o : Int) < thing211)) then 1 else 0)))).map sortI⟩ : TestsR) = fewer at okF rF
  clear uin fin
  have hn' : n - 1 ≤ 10 := by omega
  rw [show (3 : Int) = ((3 : Nat) : Int) from rfl, range1_nat (by decide), lfbG]
  with_reducible refine wp_loop (fun _ => True) trivial (fun x hx t _ => ?_) fun t _ => ?_
  · obtain ⟨m, hm, ex⟩ := List.mem_map.mp hx
    have ex : x = (m : Int) := ex.symm
    subst ex
    have hm := List.mem_range.mp hm
    have e4 : (m : Int) + 1 = ((m + 1 : Nat) : Int) := by omega
    rw [telW ok hn (by omega), rtbG, telD, rtbG, clrW ok hn (by omega), rtbG, clrD, rtbG]
    have c1 : clr T.tests n m = true → tel T.tests n m = true := clr_tel
    have a1 : tel again.tests n m = tel T.tests n m := by
      rw [Bool.eq_iff_iff]; exact ⟨rA2.tel, rA1.tel⟩
    have a2 : clr again.tests n m = clr T.tests n m := by
      rw [Bool.eq_iff_iff]; exact ⟨rA2.clr, rA1.clr⟩
    have v1 : tel moved.tests n m = tel T.tests n m := by
      rw [Bool.eq_iff_iff]; exact ⟨rV1.tel, rV2.tel⟩
    have v2 : clr moved.tests n m = clr T.tests n m := by
      rw [Bool.eq_iff_iff]; exact ⟨rV1.clr, rV2.clr⟩
    have m1 : tel T.tests n m = true → tel more.tests n m = true := rM.tel
    have m2 : clr T.tests n m = true → clr more.tests n m = true := rM.clr
    have f1 : tel T.tests n m = true → tel fewer.tests (n - 1) m = true := rF.tel
    have f2 : clr T.tests n m = true → clr fewer.tests (n - 1) m = true := rF.clr
    have t1 : tel T.tests n (m + 1) = true → tel T.tests n m = true := tel_le
    have t2 : tel T.tests n (m + 1) = true → clr T.tests n m = true := tel_clr
    have k1 : clr T.tests n (m + 1) = true → clr T.tests n m = true := clr_le
    rw [e4]
    simp only [telW okA hn (show m ≤ 4 by omega), telW ok hn (show m ≤ 4 by omega), clrW okA hn (show m ≤ 4 by omega), clrW ok hn (show m ≤ 4 by omega), telW okV hn (show m ≤ 4 by omega), clrW okV hn (show m ≤ 4 by omega), telW okM hn (show m ≤ 4 by omega), clrW okM hn (show m ≤ 4 by omega), telW okF hn' (show m ≤ 4 by omega), clrW okF hn' (show m ≤ 4 by omega), telW ok hn (show m + 1 ≤ 4 by omega), clrW ok hn (show m + 1 ≤ 4 by omega), rtbG, a1, a2, v1, v2, decide_true, Bool.not_true, ifF, telD, clrD]
    have g0 : (clr T.tests n m && !tel T.tests n m) = false := by
      cases q : clr T.tests n m with
      | false => rfl
      | true => rw [c1 q]; rfl
    rw [g0, ifF]
    have g1 : (ifM (tel T.tests n m) (ifM (!tel more.tests n m) (rt true) (rt (!tel fewer.tests (n - 1) m))) (rt false) : G Bool) = rt false := by
      cases q : tel T.tests n m with
      | false => rw [ifF]
      | true => rw [ifT, m1 q, f1 q]; rfl
    have g2 : (ifM (clr T.tests n m) (ifM (!clr more.tests n m) (rt true) (rt (!clr fewer.tests (n - 1) m))) (rt false) : G Bool) = rt false := by
      cases q : clr T.tests n m with
      | false => rw [ifF]
      | true => rw [ifT, m2 q, f2 q]; rfl
    have g3 : (ifM (tel T.tests n (m + 1)) (rt (!(tel T.tests n m && clr T.tests n m))) (rt false) : G Bool) = rt false := by
      cases q : tel T.tests n (m + 1) with
      | false => rw [ifF]
      | true => rw [ifT, t1 q, t2 q]; rfl
    have g4 : (ifM (clr T.tests n (m + 1)) (rt (!clr T.tests n m)) (rt false) : G Bool) = rt false := by
      cases q : clr T.tests n (m + 1) with
      | false => rw [ifF]
      | true => rw [ifT, k1 q]; rfl
    rw [g1, rtbG, ifF, g2, rtbG, ifF, g3, rtbG, ifF, g4, rtbG, ifF]
    exact wp_rt ⟨(), .inl rfl, trivial⟩
  · have hsg : ∀ t ∈ (rng n).map (fun (x : Int) => [x]), t.Nodup ∧ inN n t := fun t ht => by
      obtain ⟨x, hx, rfl⟩ := List.mem_map.mp ht
      exact ⟨by simp, fun y hy => by rw [List.mem_singleton.mp hy]; exact mem_rng.mp hx⟩
    have lsg : ((rng n).map (fun (x : Int) => [x])).length = n := by rw [List.length_map, rng_len]
    have hmk := mkT_is (n := n) (ts := (rng n).map (fun (x : Int) => [x])) (by omega) (by omega) (by omega) (by omega) (fun t ht => (hsg t ht).1) (fun t ht => (hsg t ht).2)
    have eS := hmk.1
    have okS := hmk.2
    rw [range1_rng (by omega), lfbG, szO_some (by rw [rng_len]; omega), lfbG, rtbG]
    rw [eS]
    rw [lfbG]
    have hS : (⟨(n : Int), ((rng n).map fun (x : Int) => [x]).map sortI⟩ : TestsR).tests = ((rng n).map fun (x : Int) => [x]).map sortI := rfl
    generalize (⟨(n : Int), ((rng n).map fun (x : Int) => [x]).map sortI⟩ : TestsR) = sg at okS hS
    have cs : ∀ x, 0 ≤ x → x < (n : Int) → ∀ A, cov sg.tests x A = true ↔ x ∈ A := fun x x0 x1 A => by
      rw [cov_iff, hS]
      constructor
      · intro h
        obtain ⟨y, a, b⟩ := h (sortI [x]) (List.mem_map.mpr ⟨[x], List.mem_map.mpr ⟨x, mem_rng.mpr ⟨x0, x1⟩, rfl⟩, rfl⟩) (sortI_mem.mpr List.mem_cons_self)
        rw [← List.mem_singleton.mp (sortI_mem.mp a)]; exact b
      · intro h t ht hx
        exact ⟨x, hx, h⟩
    have c3 : clr sg.tests n 3 = true := clr_iff.mpr fun A _ _ _ x x0 x1 hx hc => hx ((cs x x0 x1 A).mp hc)
    have ib : inN n both := fun x hx => ((hb x).mp hx).elim (fun z => sub_inN h1 x z) fun z => sub_inN h2 x z
    have su : (rng n).filter (fun x => cov sg.tests x both) = both := sorted_lt_eq ((rng_lt n).filter _) hbs fun x => by
      rw [List.mem_filter]
      constructor
      · rintro ⟨a, b⟩
        exact (cs x (mem_rng.mp a).1 (mem_rng.mp a).2 both).mp b
      · intro h
        exact ⟨mem_rng.mpr (ib x h), (cs x (ib x h).1 (ib x h).2 both).mpr h⟩
    rw [clrW okS hn (by decide), rtbG, clrD, c3, rtbG, ifT, answers_is okS both, lfbG, suspects_is okS both, lfbG, su, decide_eq_true rfl, rtbG]
    exact wp_rt rfl
end Wk

open PySem PySem.W PyProof.Rows
set_option maxHeartbeats 0 in
theorem PySem.Challenge.cw_codewhole_k84_whole_tests_more_and_fewer_holds : PySem.Challenge.rw_codewhole_k84_whole_tests_more_and_fewer.Holds := by
  w_on; o_law; k_head; (case hw => w_witness2)
  k_fill
  refine L2.walk_of (l := PySem.Challenge.rw_codewhole_k84_whole_tests_more_and_fewer) (n := 63) (k := 10) (x := "script") (CX := fun _ => L2.CX0) (sp := fun w => Wk.spLaw _) rfl (by decide) rfl ⟨rfl, by decide, by decide⟩ (fun w h Y => PySem.W.kIn_of Y) ?F (fun _ _ a ns hl _ hS => ⟨a, ns, rfl, hS, hl, fun _ => rfl⟩) (fun _ _ _ _ _ h => h)
  case F =>
    intro w mg fa h KX G hmg
    refine' Wk.all_mk KX G hmg ?aC_Tests ?pg_Tests ?hd_Tests ?po_Tests ?sa_Tests ?mk_Tests ?kc_Tests ?n_Tests_count ?n_Tests_tests ?z_all ?z_any ?z_enumerate ?z_int ?z_len ?z_list ?z_max ?z_min ?z_range ?z_set ?z_sorted ?z_tuple ?z_zip ?g_MOST_TESTS ?g_MOST_THINGS ?a1 ?l1 ?c1 ?k1 ?a2 ?i2 ?l2 ?c2 ?k2 ?a3 ?i3 ?l3 ?c3 ?k3 ?a4 ?i4 ?l4 ?c4 ?k4 ?a5 ?l5 ?c5 ?k5 ?a6 ?l6 ?c6 ?k6 ?a7 ?l7 ?c7 ?k7 ?a8 ?l8 ?c8 ?k8 ?a9 ?l9 ?c9 ?k9 ?a10 ?l10 ?c10 ?k10 ?a11 ?l11 ?c11 ?k11 ?a12 ?l12 ?c12 ?k12 ?a13 ?l13 ?c13 ?k13 ?a14 ?l14 ?c14 ?k14 ?a15 ?l15 ?c15 ?k15 ?a16 ?l16 ?c16 ?k16 Wk.right
    (case aC_Tests => k_is)
    (case pg_Tests => k_is)
    (case hd_Tests => k_is)
    (case po_Tests => k_is)
    (case sa_Tests => k_is)
    (case mk_Tests => k_is)
    (case kc_Tests => k_is)
    (case n_Tests_count => k_is)
    (case n_Tests_tests => k_is)
    (case z_all => k_is)
    (case z_any => k_is)
    (case z_enumerate => k_is)
    (case z_int => k_is)
    (case z_len => k_is)
    (case z_list => k_is)
    (case z_max => k_is)
    (case z_min => k_is)
    (case z_range => k_is)
    (case z_set => k_is)
    (case z_sorted => k_is)
    (case z_tuple => k_is)
    (case z_zip => k_is)
    (case g_MOST_TESTS => k_is)
    (case g_MOST_THINGS => k_is)
    (case a1 => k_is)
    (case l1 => k_is)
    (case c1 => k_is)
    (case k1 => k_is)
    (case a2 => k_is)
    (case i2 => k_is)
    (case l2 => k_is)
    (case c2 => k_is)
    (case k2 => k_is)
    (case a3 => k_is)
    (case i3 => k_is)
    (case l3 => k_is)
    (case c3 => k_is)
    (case k3 => k_is)
    (case a4 => k_is)
    (case i4 => k_is)
    (case l4 => k_is)
    (case c4 => k_is)
    (case k4 => k_is)
    (case a5 => k_is)
    (case l5 => k_is)
    (case c5 => k_is)
    (case k5 => k_is)
    (case a6 => k_is)
    (case l6 => k_is)
    (case c6 => k_is)
    (case k6 => k_is)
    (case a7 => k_is)
    (case l7 => k_is)
    (case c7 => k_is)
    (case k7 => k_is)
    (case a8 => k_is)
    (case l8 => k_is)
    (case c8 => k_is)
    (case k8 => k_is)
    (case a9 => k_is)
    (case l9 => k_is)
    (case c9 => k_is)
    (case k9 => k_is)
    (case a10 => k_is)
    (case l10 => k_is)
    (case c10 => k_is)
    (case k10 => k_is)
    (case a11 => k_is)
    (case l11 => k_is)
    (case c11 => k_is)
    (case k11 => k_is)
    (case a12 => k_is)
    (case l12 => k_is)
    (case c12 => k_is)
    (case k12 => k_is)
    (case a13 => k_is)
    (case l13 => k_is)
    (case c13 => k_is)
    (case k13 => k_is)
    (case a14 => k_is)
    (case l14 => k_is)
    (case c14 => k_is)
    (case k14 => k_is)
    (case a15 => k_is)
    (case l15 => k_is)
    (case c15 => k_is)
    (case k15 => k_is)
    (case a16 => k_is)
    (case l16 => k_is)
    (case c16 => k_is)
    (case k16 => k_is)

