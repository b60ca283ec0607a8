import PyProof.Rows.All
import Wide.All
import OpenK.AllK
import Wide.FinOn
import HandS.ForMost
import HandS.Exc
import HandS.ExcOwn
import HandS.TryOnly
import HandS.TryMany
import HandS.CallSlots
import HandS.Defaults
import HandS.IsInst
import HandS.Flow
import HandS.More
import HandS.Conv
import HandS.HeadHook2
import HandS.TupAny
import HandS.TupLe
import HandS.HeadEnd
import HandS.HeadHook4
import HandS.Head2
import HandS.Set
import HandS.Strs
import HandS.SetFor
import HandS.Evl
import PySem.Challenge.RW_cellsatonce_k29_whole_watches_and_histor
set_option Elab.async false
set_option linter.all false
set_option maxRecDepth 100000
set_option autoImplicit false
set_option maxHeartbeats 4000000
namespace DL
open PySem PySem.Spec PyProof.Rows L2

inductive D where
  | non
  | bl (b : Bool)
  | int (i : Int)
  | str (x : Str)
  | tup (l : List D)
  | lst (l : List D)
  | obj (c : Str) (fs : List (Str × D))
  | ref (a : Addr)
  | scr (l : List Int)
  | dic (l : List (Key × D))

abbrev Ex : Hp → Hp → Prop := Evl.Ex
theorem Ex.refl (H : Hp) : Ex H H := Evl.Ex.refl H
theorem Ex.trans {H H1 H2 : Hp} (a : Ex H H1) (b : Ex H1 H2) : Ex H H2 := Evl.Ex.trans a b
theorem Ex.new {H : Hp} {p : Addr} {o : HO} (h : H p = none) : Ex H (upd H p o) := Evl.Ex.new h
theorem Ex.rd {H H' : Hp} {a : Addr} {u : HO} (e : Ex H H') (h : Rd H a u) : Rd H' a u := by
  rcases h with h | ⟨o, h⟩
  · exact Or.inl (e a _ h)
  · exact Or.inr ⟨o, e a _ h⟩
theorem Ex.l {K : PySem.W.Frag} {H H' : Hp} {a : Addr} {xs : List V} (e : Ex H H') (h : SqL K H a xs) : SqL K H' a xs := by
  rcases h with h | h
  · exact Or.inl (e.rd h)
  · exact Or.inr h
theorem Ex.t {K : PySem.W.Frag} {H H' : Hp} {a : Addr} {xs : List V} (e : Ex H H') (h : SqT K H a xs) : SqT K H' a xs := by
  rcases h with h | h
  · exact Or.inl (e.rd h)
  · exact Or.inr h

mutual
/-- a value stands for a datum; F: the part of the heap that never changes -/
inductive Rep (K : PySem.W.Frag) (F : Hp) : V → D → Prop
  | non : Rep K F .non .non
  | bl (b : Bool) : Rep K F (.bl b) (.bl b)
  | int (i : Int) : Rep K F (.int i) (.int i)
  | str (x : Str) : PyData.strOk x = true → Rep K F (.str x) (.str x)
  | tup {a : Addr} {vs : List V} {ds : List D} : SqT K F a vs → Reps K F vs ds → Rep K F (.ref a) (.tup ds)
  | lst {a : Addr} {vs : List V} {ds : List D} : F a = some (.lst vs) → Reps K F vs ds → Rep K F (.ref a) (.lst ds)
  | obj {a dx : Addr} {c : Str} {vs : List (Str × V)} {ds : List (Str × D)} : F a = some (.ins (He.ga K c) dx vs) → RepF K F vs ds → Rep K F (.ref a) (.obj c ds)
  | ref (a : Addr) : Rep K F (.ref a) (.ref a)
  | scr {a : Addr} {l : List Int} : SqL K F a (l.map V.int) → Rep K F (.ref a) (.scr l)
  | dic {a : Addr} {vs : List (Key × V)} {ds : List (Key × D)} : F a = some (.dK vs) → RepK K F vs ds → Rep K F (.ref a) (.dic ds)
inductive Reps (K : PySem.W.Frag) (F : Hp) : List V → List D → Prop
  | nil : Reps K F [] []
  | cons {v : V} {vs : List V} {d : D} {ds : List D} : Rep K F v d → Reps K F vs ds → Reps K F (v :: vs) (d :: ds)
inductive RepF (K : PySem.W.Frag) (F : Hp) : List (Str × V) → List (Str × D) → Prop
  | nil : RepF K F [] []
  | cons {n : Str} {v : V} {vs : List (Str × V)} {d : D} {ds : List (Str × D)} : Rep K F v d → RepF K F vs ds → RepF K F ((n, v) :: vs) ((n, d) :: ds)
inductive RepK (K : PySem.W.Frag) (F : Hp) : List (Key × V) → List (Key × D) → Prop
  | nil : RepK K F [] []
  | cons {n : Key} {v : V} {vs : List (Key × V)} {d : D} {ds : List (Key × D)} : Rep K F v d → RepK K F vs ds → RepK K F ((n, v) :: vs) ((n, d) :: ds)
end

section
variable {K : PySem.W.Frag} {F F' : Hp}
mutual
theorem Rep.mono (e : Ex F F') : ∀ {v : V} {d : D}, Rep K F v d → Rep K F' v d
  | _, _, .non => .non
  | _, _, .bl b => .bl b
  | _, _, .int i => .int i
  | _, _, .str x h => .str x h
  | _, _, .tup h r => .tup (e.t h) (Reps.mono e r)
  | _, _, .lst h r => .lst (e _ _ h) (Reps.mono e r)
  | _, _, .scr h => .scr (e.l h)
  | _, _, .dic h r => .dic (e _ _ h) (RepK.mono e r)
  | _, _, .obj h r => .obj (e _ _ h) (RepF.mono e r)
  | _, _, .ref a => .ref a
theorem Reps.mono (e : Ex F F') : ∀ {vs : List V} {ds : List D}, Reps K F vs ds → Reps K F' vs ds
  | _, _, .nil => .nil
  | _, _, .cons r t => .cons (Rep.mono e r) (Reps.mono e t)
theorem RepF.mono (e : Ex F F') : ∀ {vs : List (Str × V)} {ds : List (Str × D)}, RepF K F vs ds → RepF K F' vs ds
  | _, _, .nil => .nil
  | _, _, .cons r t => .cons (Rep.mono e r) (RepF.mono e t)
theorem RepK.mono (e : Ex F F') : ∀ {vs : List (Key × V)} {ds : List (Key × D)}, RepK K F vs ds → RepK K F' vs ds
  | _, _, .nil => .nil
  | _, _, .cons r t => .cons (Rep.mono e r) (RepK.mono e t)
end
theorem Reps.length : ∀ {vs : List V} {ds : List D}, Reps K F vs ds → vs.length = ds.length
  | _, _, .nil => rfl
  | _, _, .cons _ t => by rw [List.length_cons, List.length_cons, Reps.length t]
theorem Reps.get : ∀ {vs : List V} {ds : List D} {i : Nat} {d : D}, Reps K F vs ds → ds[i]? = some d → ∃ v, vs[i]? = some v ∧ Rep K F v d
  | _, _, _, _, .nil, e => by simp at e
  | _, _, 0, _, .cons r _, e => by simp at e; subst e; exact ⟨_, rfl, r⟩
  | _, _, i + 1, d, .cons _ t, e => by
    obtain ⟨v, h1, h2⟩ := Reps.get (i := i) (d := d) t (by simpa using e)
    exact ⟨v, by simpa using h1, h2⟩
theorem Reps.getV : ∀ {vs : List V} {ds : List D} {i : Nat} {v : V}, Reps K F vs ds → vs[i]? = some v → ∃ d, ds[i]? = some d ∧ Rep K F v d
  | _, _, _, _, .nil, e => by simp at e
  | _, _, 0, _, .cons r _, e => by simp at e; subst e; exact ⟨_, rfl, r⟩
  | _, _, i + 1, v, .cons _ t, e => by
    obtain ⟨d, h1, h2⟩ := Reps.getV (i := i) (v := v) t (by simpa using e)
    exact ⟨d, by simpa using h1, h2⟩
theorem Reps.append : ∀ {vs ws : List V} {ds es : List D}, Reps K F vs ds → Reps K F ws es → Reps K F (vs ++ ws) (ds ++ es)
  | _, _, _, _, .nil, s => s
  | _, _, _, _, .cons r t, s => .cons r (Reps.append t s)
theorem Reps.set {v : V} {d : D} (r : Rep K F v d) : ∀ {vs : List V} {ds : List D} (i : Nat), Reps K F vs ds → Reps K F (vs.set i v) (ds.set i d)
  | _, _, _, .nil => .nil
  | _, _, 0, .cons _ t => .cons r t
  | _, _, i + 1, .cons q t => .cons q (Reps.set r i t)
theorem Reps.take : ∀ {vs : List V} {ds : List D} (n : Nat), Reps K F vs ds → Reps K F (vs.take n) (ds.take n)
  | _, _, 0, _ => .nil
  | _, _, _ + 1, .nil => .nil
  | _, _, n + 1, .cons r t => .cons r (Reps.take n t)
theorem Reps.drop : ∀ {vs : List V} {ds : List D} (n : Nat), Reps K F vs ds → Reps K F (vs.drop n) (ds.drop n)
  | _, _, 0, r => r
  | _, _, _ + 1, .nil => .nil
  | _, _, n + 1, .cons _ t => Reps.drop n t
theorem Reps.reverse {vs : List V} {ds : List D} (h : Reps K F vs ds) : Reps K F vs.reverse ds.reverse := by
  have key : ∀ {vs : List V} {ds : List D}, Reps K F vs ds → Reps K F vs.reverse ds.reverse := by
    intro vs
    induction vs with
    | nil => intro ds h; cases h; exact .nil
    | cons v vs ih =>
      intro ds h
      cases h with
      | cons r t =>
        rw [List.reverse_cons, List.reverse_cons]
        exact (ih t).append (.cons r .nil)
  exact key h
theorem RepF.lookup : ∀ {vs : List (Str × V)} {ds : List (Str × D)} {n : Str} {d : D}, RepF K F vs ds → ds.lookup n = some d → ∃ v, vs.lookup n = some v ∧ Rep K F v d
  | _, _, _, _, .nil, e => by simp at e
  | _, _, n, d, .cons (n := k) r t, e => by
    rw [List.lookup_cons] at e ⊢
    cases q : (n == k) with
    | true =>
      rw [q] at e
      simp at e
      subst e
      exact ⟨_, rfl, r⟩
    | false =>
      rw [q] at e
      exact RepF.lookup t e
theorem RepF.lookupN : ∀ {vs : List (Str × V)} {ds : List (Str × D)} {n : Str}, RepF K F vs ds → ds.lookup n = none → vs.lookup n = none
  | _, _, _, .nil, _ => rfl
  | _, _, n, .cons (n := k) r t, e => by
    rw [List.lookup_cons] at e ⊢
    cases q : (n == k) with
    | true => rw [q] at e; cases e
    | false =>
      rw [q] at e
      exact RepF.lookupN t e
theorem RepF.length : ∀ {vs : List (Str × V)} {ds : List (Str × D)}, RepF K F vs ds → vs.length = ds.length
  | _, _, .nil => rfl
  | _, _, .cons _ t => by rw [List.length_cons, List.length_cons, RepF.length t]
def putD (f : Str) (v : D) : List (Str × D) → List (Str × D)
  | [] => [(f, v)]
  | (g, x) :: r => if g = f then (g, v) :: r else (g, x) :: putD f v r
end

inductive MO where
  | lst (l : List D)
  | ins (c : Str) (fs : List (Str × D))
  | dic (l : List (Key × D))
abbrev Mem := Addr → Option MO
def mset (m : Mem) (a : Addr) (o : MO) : Mem := fun b => if b = a then some o else m b
def mdel (m : Mem) (a : Addr) : Mem := fun b => if b = a then none else m b
@[simp] theorem mset_same {m : Mem} {a : Addr} {o : MO} : mset m a o a = some o := if_pos rfl
theorem mset_ne {m : Mem} {a b : Addr} {o : MO} (h : b ≠ a) : mset m a o b = m b := if_neg h
@[simp] theorem mdel_same {m : Mem} {a : Addr} : mdel m a a = none := if_pos rfl
theorem mdel_ne {m : Mem} {a b : Addr} (h : b ≠ a) : mdel m a b = m b := if_neg h
@[simp] theorem mset_mset {m : Mem} {a : Addr} {o u : MO} : mset (mset m a o) a u = mset m a u := by
  funext b; unfold mset; split <;> rfl
theorem mdel_mset {m : Mem} {a : Addr} {o : MO} : mdel (mset m a o) a = mdel m a := by
  funext b; unfold mset mdel
  by_cases h : b = a
  · rw [if_pos h, if_pos h]
  · rw [if_neg h, if_neg h]; exact if_neg h
theorem mdel_new {m : Mem} {a : Addr} (h : m a = none) : mdel m a = m := by
  funext b; unfold mdel; split
  · rename_i e; rw [e, h]
  · rfl
theorem mdel_back {m : Mem} {a : Addr} {o : MO} (h : m a = none) : mdel (mset m a o) a = m := by rw [mdel_mset, mdel_new h]
theorem mset_comm {m : Mem} {a b : Addr} {o u : MO} (h : a ≠ b) : mset (mset m a o) b u = mset (mset m b u) a o := by
  funext c; unfold mset
  by_cases h1 : c = a
  · by_cases h2 : c = b
    · exact absurd (h1.symm.trans h2) h
    · rw [if_neg h2, if_pos h1, if_pos h1]
  · by_cases h2 : c = b
    · rw [if_pos h2, if_neg h1, if_pos h2]
    · rw [if_neg h2, if_neg h1, if_neg h1, if_neg h2]
theorem mem_ne {m : Mem} {a b : Addr} {o : MO} (h : m a = some o) (h' : m b = none) : a ≠ b := by
  intro e; subst e; rw [h] at h'; cases h'

def MRep (K : PySem.W.Frag) (F H : Hp) (a : Addr) : MO → Prop
  | .lst ds => ∃ vs, H a = some (.lst vs) ∧ Reps K F vs ds
  | .ins c ds => ∃ dx vs, H a = some (.ins (He.ga K c) dx vs) ∧ RepF K F vs ds
  | .dic ds => ∃ vs, H a = some (.dK vs) ∧ RepK K F vs ds
theorem MRep.there {K : PySem.W.Frag} {F H : Hp} {a : Addr} {o : MO} (h : MRep K F H a o) : ∃ u, H a = some u := by
  cases o with
  | lst ds => obtain ⟨vs, h, _⟩ := h; exact ⟨_, h⟩
  | ins c ds => obtain ⟨dx, vs, h, _⟩ := h; exact ⟨_, h⟩
  | dic ds => obtain ⟨vs, h, _⟩ := h; exact ⟨_, h⟩
theorem MRep.mono {K : PySem.W.Frag} {F F' H H' : Hp} {a : Addr} {o : MO} (h : MRep K F H a o) (e : Ex F F') (k : ∀ u, H a = some u → H' a = some u) : MRep K F' H' a o := by
  cases o with
  | lst ds => obtain ⟨vs, h, r⟩ := h; exact ⟨vs, k _ h, r.mono e⟩
  | ins c ds => obtain ⟨dx, vs, h, r⟩ := h; exact ⟨dx, vs, k _ h, r.mono e⟩
  | dic ds => obtain ⟨vs, h, r⟩ := h; exact ⟨vs, k _ h, r.mono e⟩
/-- F: what never changes; m: what the program may change; G: what stands aside -/
structure Rel (K : PySem.W.Frag) (F : Hp) (m : Mem) (G H : Hp) : Prop where
  ex : Ex F H
  mm : ∀ a o, m a = some o → MRep K F H a o ∧ F a = none
  gg : ∀ a o, G a = some o → H a = some o ∧ F a = none ∧ m a = none
section
variable {K : PySem.W.Frag} {F F' G H H' : Hp} {m : Mem} {a : Addr}
theorem Rel.fresh (r : Rel K F m G H) (h : H a = none) : m a = none ∧ F a = none := by
  constructor
  · cases q : m a with
    | none => rfl
    | some o =>
      obtain ⟨u, e⟩ := (r.mm a o q).1.there
      rw [h] at e; cases e
  · cases q : F a with
    | none => rfl
    | some o => rw [r.ex a o q] at h; cases h
theorem Rel.freshG (r : Rel K F m G H) (h : H a = none) : G a = none := by
  cases q : G a with
  | none => rfl
  | some o => rw [(r.gg a o q).1] at h; cases h
theorem Rel.gm (r : Rel K F m G H) {o : MO} (h : m a = some o) : G a = none := by
  cases q : G a with
  | none => rfl
  | some u => rw [(r.gg a u q).2.2] at h; cases h
/-- something new that never changes -/
theorem Rel.newF (r : Rel K F m G H) (h : H a = none) (o : HO) : Rel K (upd F a o) m G (upd H a o) := by
  refine ⟨fun b u e => ?_, fun b u e => ?_, fun b u e => ?_⟩
  · by_cases hb : b = a
    · subst hb; rw [upd_same] at e ⊢; exact e
    · rw [upd_ne hb] at e ⊢; exact r.ex b u e
  · have hb : b ≠ a := mem_ne e (r.fresh h).1
    obtain ⟨h1, h2⟩ := r.mm b u e
    exact ⟨h1.mono (Ex.new (r.fresh h).2) fun u q => by rw [upd_ne hb]; exact q, by rw [upd_ne hb]; exact h2⟩
  · have hb : b ≠ a := ne_of_none e (r.freshG h)
    obtain ⟨h1, h2, h3⟩ := r.gg b u e
    exact ⟨by rw [upd_ne hb]; exact h1, by rw [upd_ne hb]; exact h2, h3⟩
/-- something that nobody looks at -/
theorem Rel.side (r : Rel K F m G H) (hF : F a = none) (hm : m a = none) (hG : G a = none) (o : HO) : Rel K F m G (upd H a o) := by
  refine ⟨fun b u e => ?_, fun b u e => ?_, fun b u e => ?_⟩
  · rw [upd_ne (ne_of_none e hF)]; exact r.ex b u e
  · have hb : b ≠ a := mem_ne e hm
    obtain ⟨h1, h2⟩ := r.mm b u e
    exact ⟨h1.mono (Ex.refl F) fun u q => by rw [upd_ne hb]; exact q, h2⟩
  · have hb : b ≠ a := ne_of_none e hG
    obtain ⟨h1, h2, h3⟩ := r.gg b u e
    exact ⟨by rw [upd_ne hb]; exact h1, h2, h3⟩
theorem Rel.newH (r : Rel K F m G H) (h : H a = none) (o : HO) : Rel K F m G (upd H a o) := r.side (r.fresh h).2 (r.fresh h).1 (r.freshG h) o
/-- it stands aside -/
theorem Rel.aside (r : Rel K F m G H) (hF : F a = none) (hm : m a = none) {o : HO} (h : H a = some o) : Rel K F m (upd G a o) H := by
  refine ⟨r.ex, r.mm, fun b u e => ?_⟩
  by_cases hb : b = a
  · subst hb; rw [upd_same] at e; cases e; exact ⟨h, hF, hm⟩
  · rw [upd_ne hb] at e; exact r.gg b u e
theorem Rel.less {o : HO} (r : Rel K F m (upd G a o) H) (hG : G a = none) : Rel K F m G H := ⟨r.ex, r.mm, fun b u e => r.gg b u (by rw [upd_ne (ne_of_none e hG)]; exact e)⟩
/-- something changeable is laid or changed: F does not know it -/
theorem Rel.put (r : Rel K F m G H) (hF : F a = none) (hG : G a = none) {u : HO} {o : MO} (h : MRep K F (upd H a u) a o) : Rel K F (mset m a o) G (upd H a u) := by
  refine ⟨fun b v e => ?_, fun b v e => ?_, fun b v e => ?_⟩
  · rw [upd_ne (ne_of_none e hF)]; exact r.ex b v e
  · by_cases hb : b = a
    · subst hb; rw [mset_same] at e; cases e; exact ⟨h, hF⟩
    · rw [mset_ne hb] at e
      obtain ⟨h1, h2⟩ := r.mm b v e
      exact ⟨h1.mono (Ex.refl F) fun u q => by rw [upd_ne hb]; exact q, h2⟩
  · have hb : b ≠ a := ne_of_none e hG
    obtain ⟨h1, h2, h3⟩ := r.gg b v e
    exact ⟨by rw [upd_ne hb]; exact h1, h2, by rw [mset_ne hb]; exact h3⟩
theorem Rel.putL (r : Rel K F m G H) (hF : F a = none) (hG : G a = none) {vs : List V} {ds : List D} (h : Reps K F vs ds) : Rel K F (mset m a (.lst ds)) G (upd H a (.lst vs)) :=
  r.put hF hG ⟨vs, upd_same, h⟩
/-- a changeable thing is frozen -/
theorem Rel.freeze (r : Rel K F m G H) {u : HO} (h : H a = some u) (hF : F a = none) (hG : G a = none) : Rel K (upd F a u) (mdel m a) G H := by
  refine ⟨fun b v e => ?_, fun b v e => ?_, fun b v e => ?_⟩
  · by_cases hb : b = a
    · subst hb; rw [upd_same] at e; rw [h]; exact e
    · rw [upd_ne hb] at e; exact r.ex b v e
  · by_cases hb : b = a
    · subst hb; rw [mdel_same] at e; cases e
    · rw [mdel_ne hb] at e
      obtain ⟨h1, h2⟩ := r.mm b v e
      exact ⟨h1.mono (Ex.new hF) fun _ q => q, by rw [upd_ne hb]; exact h2⟩
  · have hb : b ≠ a := ne_of_none e hG
    obtain ⟨h1, h2, h3⟩ := r.gg b v e
    exact ⟨h1, by rw [upd_ne hb]; exact h2, by rw [mdel_ne hb]; exact h3⟩
end

abbrev DSt := List (Option D)
def ORel (K : PySem.W.Frag) (F : Hp) (o : Option V) : Option D → Prop
  | none => True
  | some d => ∃ v, o = some v ∧ Rep K F v d
def SRel (K : PySem.W.Frag) (F : Hp) : L2.St → DSt → Prop
  | [], [] => True
  | o :: σ, q :: δ => ORel K F o q ∧ SRel K F σ δ
  | _, _ => False
section
variable {K : PySem.W.Frag} {F F' : Hp}
theorem ORel.mono (e : Ex F F') {o : Option V} {q : Option D} (h : ORel K F o q) : ORel K F' o q := by
  cases q with
  | none => trivial
  | some d => obtain ⟨v, h1, h2⟩ := h; exact ⟨v, h1, h2.mono e⟩
theorem SRel.mono (e : Ex F F') : ∀ {σ : L2.St} {δ : DSt}, SRel K F σ δ → SRel K F' σ δ
  | [], [], _ => trivial
  | _ :: _, _ :: _, h => ⟨h.1.mono e, SRel.mono e h.2⟩
  | [], _ :: _, h => h.elim
  | _ :: _, [], h => h.elim
theorem SRel.get : ∀ {σ : L2.St} {δ : DSt} {i : Nat} {d : D}, SRel K F σ δ → δ[i]? = some (some d) → ∃ v, σ[i]? = some (some v) ∧ Rep K F v d
  | [], [], _, _, _, e => by simp at e
  | o :: σ, q :: δ, 0, d, h, e => by
    simp at e; subst e
    obtain ⟨v, h1, h2⟩ := h.1
    exact ⟨v, by rw [h1]; rfl, h2⟩
  | o :: σ, q :: δ, i + 1, d, h, e => by
    obtain ⟨v, h1, h2⟩ := SRel.get (i := i) (d := d) h.2 (by simpa using e)
    exact ⟨v, by simpa using h1, h2⟩
  | [], _ :: _, _, _, h, _ => h.elim
  | _ :: _, [], _, _, h, _ => h.elim
theorem SRel.set {v : V} {d : D} (r : Rep K F v d) : ∀ {σ : L2.St} {δ : DSt} (i : Nat), SRel K F σ δ → SRel K F (σ.set i (some v)) (δ.set i (some d))
  | [], [], _, _ => trivial
  | _ :: _, _ :: _, 0, h => ⟨⟨v, rfl, r⟩, h.2⟩
  | _ :: _, _ :: _, i + 1, h => ⟨h.1, SRel.set r i h.2⟩
  | [], _ :: _, _, h => h.elim
  | _ :: _, [], _, h => h.elim
theorem SRel.blank : ∀ {σ : L2.St} {δ : DSt} (i : Nat) (o : Option V), SRel K F σ δ → SRel K F (σ.set i o) (δ.set i none)
  | [], [], _, _, _ => trivial
  | _ :: _, _ :: _, 0, _, h => ⟨trivial, h.2⟩
  | _ :: _, _ :: _, i + 1, o, h => ⟨h.1, SRel.blank i o h.2⟩
  | [], _ :: _, _, _, h => h.elim
  | _ :: _, [], _, _, h => h.elim
theorem SRel.length : ∀ {σ : L2.St} {δ : DSt}, SRel K F σ δ → σ.length = δ.length
  | [], [], _ => rfl
  | _ :: _, _ :: _, h => by rw [List.length_cons, List.length_cons, SRel.length h.2]
  | [], _ :: _, h => h.elim
  | _ :: _, [], h => h.elim
def startD (n : Nat) (ds : List D) : DSt := ds.map some ++ List.replicate (n - ds.length) none
theorem SRel.nones : ∀ n : Nat, SRel K F (List.replicate n none) (List.replicate n none)
  | 0 => trivial
  | n + 1 => ⟨trivial, SRel.nones n⟩
theorem SRel.start {N : List Str} : ∀ {vs : List V} {ds : List D}, Reps K F vs ds → SRel K F (start N vs) (startD N.length ds) := by
  intro vs ds h
  unfold L2.start startD
  have hl := h.length
  rw [hl]
  generalize N.length - ds.length = n
  clear hl
  induction h using Reps.rec (motive_1 := fun _ _ _ => True) (motive_3 := fun _ _ _ => True) (motive_4 := fun _ _ _ => True) with
  | nil => exact SRel.nones n
  | cons r t _ ih => exact ⟨⟨_, rfl, r⟩, ih⟩
  | _ => trivial
end
end DL

namespace DL
open PySem PySem.Spec PyProof.Rows L2

structure Xn where
  cls : Str
  fs : Option (List (Str × D))
structure C (α : Type) where
  run : Mem → (α → Mem → Prop) → (Xn → Mem → Prop) → Prop
  mono : ∀ {m : Mem} {Q Q' : α → Mem → Prop} {E E' : Xn → Mem → Prop}, (∀ a m', Q a m' → Q' a m') → (∀ x m', E x m' → E' x m') → run m Q E → run m Q' E'
section
variable {α β γ : Type}
def C.ret (a : α) : C α := ⟨fun m Q _ => Q a m, fun hQ _ h => hQ _ _ h⟩
def C.bind (c : C α) (k : α → C β) : C β := ⟨fun m Q E => c.run m (fun a m' => (k a).run m' Q E) E, fun hQ hE h => c.mono (fun a _ h' => (k a).mono hQ hE h') hE h⟩
def C.stuck : C α := ⟨fun _ _ _ => False, fun _ _ h => h⟩
def C.raise (x : Xn) : C α := ⟨fun m _ E => E x m, fun _ hE h => hE _ _ h⟩
@[simp] theorem C.run_ret {a : α} {m : Mem} {Q : α → Mem → Prop} {E : Xn → Mem → Prop} : (C.ret a).run m Q E = Q a m := rfl
@[simp] theorem C.run_bind {c : C α} {k : α → C β} {m : Mem} {Q : β → Mem → Prop} {E : Xn → Mem → Prop} : (c.bind k).run m Q E = c.run m (fun a m' => (k a).run m' Q E) E := rfl
@[simp] theorem C.run_stuck {m : Mem} {Q : α → Mem → Prop} {E : Xn → Mem → Prop} : (C.stuck : C α).run m Q E = False := rfl
@[simp] theorem C.run_raise {x : Xn} {m : Mem} {Q : α → Mem → Prop} {E : Xn → Mem → Prop} : (C.raise x : C α).run m Q E = E x m := rfl
end
abbrev DE := DSt → C D
abbrev DT := DSt → C Bool
abbrev DA := DSt → C (List D)
/-- what follows a statement -/
structure Kt where
  nx : DSt → Mem → Prop
  rt : D → Mem → Prop
  bk : DSt → Mem → Prop
  ct : DSt → Mem → Prop
  ex : Xn → DSt → Mem → Prop
structure Kt.Le (A B : Kt) : Prop where
  nx : ∀ δ m, A.nx δ m → B.nx δ m
  rt : ∀ d m, A.rt d m → B.rt d m
  bk : ∀ δ m, A.bk δ m → B.bk δ m
  ct : ∀ δ m, A.ct δ m → B.ct δ m
  ex : ∀ x δ m, A.ex x δ m → B.ex x δ m
structure CS where
  run : DSt → Mem → Kt → Prop
  mono : ∀ {δ : DSt} {m : Mem} {A B : Kt}, A.Le B → run δ m A → run δ m B

section
variable (K : PySem.W.Frag)
def XRep (F H : Hp) (x : Xn) (c : Value) (d : Option Addr) : Prop :=
  c = .ref (He.ga K x.cls) ∧ match x.fs with
    | none => d = none
    | some fs => ∃ a vs, d = some a ∧ H a = some (.xd vs) ∧ RepF K F vs fs
def liftX (F G : Hp) (W : WX) (σ : L2.St) : Xn → Mem → Prop := fun x m' => ∀ F' H' c d, Ex F F' → Rel K F' m' G H' → XRep K F' H' x c d → W c d σ H'
def LR {α : Type} (F G : Hp) (c : C α) (m : Mem) (P : Hp → Hp → α → Prop) (W : WX) (σ : L2.St) : Prop :=
  c.run m (fun a m' => ∀ F' H', Ex F F' → Rel K F' m' G H' → P F' H' a) (liftX K F G W σ)
def tE (W : WX) (e : DE) : TE := fun σ H Q => ∃ F m G δ, Rel K F m G H ∧ SRel K F σ δ ∧ LR K F G (e δ) m (fun F' H' d => ∀ v, Rep K F' v d → Q v H') W σ
def tT (W : WX) (e : DT) : TT := fun σ H Q => ∃ F m G δ, Rel K F m G H ∧ SRel K F σ δ ∧ LR K F G (e δ) m (fun _ H' b => Q b H') W σ
def tA (W : WX) (e : DA) : TA := fun σ H Q => ∃ F m G δ, Rel K F m G H ∧ SRel K F σ δ ∧ LR K F G (e δ) m (fun F' H' ds => ∀ vs, Reps K F' vs ds → Q vs H') W σ
def liftK (F G : Hp) (W : WX) (E : Ends) : Kt where
  nx := fun δ' m' => ∀ F' H' σ', Ex F F' → Rel K F' m' G H' → SRel K F' σ' δ' → E.nx σ' H'
  rt := fun d m' => ∀ F' H' v, Ex F F' → Rel K F' m' G H' → Rep K F' v d → E.rt v H'
  bk := fun δ' m' => ∀ F' H' σ', Ex F F' → Rel K F' m' G H' → SRel K F' σ' δ' → E.bk σ' H'
  ct := fun δ' m' => ∀ F' H' σ', Ex F F' → Rel K F' m' G H' → SRel K F' σ' δ' → E.ct σ' H'
  ex := fun x δ' m' => ∀ F' H' σ' c d, Ex F F' → Rel K F' m' G H' → SRel K F' σ' δ' → XRep K F' H' x c d → W c d σ' H'
def tS (W : WX) (s : CS) : TS := fun E σ H => ∃ F m G δ, Rel K F m G H ∧ SRel K F σ δ ∧ s.run δ m (liftK K F G W E)
end
section
variable {K : PySem.W.Frag} {α β : Type} {F F' G H : Hp} {m : Mem} {W : WX} {σ : L2.St}
theorem liftX.mono (e : Ex F F') {x : Xn} {m' : Mem} (h : liftX K F G W σ x m') : liftX K F' G W σ x m' := fun F1 H1 c d e1 r q => h F1 H1 c d (e.trans e1) r q
theorem LR.imp {c : C α} {P P' : Hp → Hp → α → Prop} (h : LR K F G c m P W σ) (k : ∀ F' H' m' a, Ex F F' → Rel K F' m' G H' → P F' H' a → P' F' H' a) : LR K F G c m P' W σ :=
  c.mono (fun a m' q F1 H1 e r => k F1 H1 m' a e r (q F1 H1 e r)) (fun _ _ q => q) h
theorem LR.bind {c : C α} {k : α → C β} {P : Hp → Hp → β → Prop} (h : LR K F G (c.bind k) m P W σ) : LR K F G c m (fun F1 H1 a => ∃ m1, Rel K F1 m1 G H1 ∧ LR K F1 G (k a) m1 P W σ) W σ :=
  c.mono (fun a m' q F1 H1 e r => ⟨m', r, (k a).mono (fun b m'' q2 F2 H2 e2 r2 => q2 F2 H2 (e.trans e2) r2) (fun _ _ q2 => liftX.mono e q2) q⟩) (fun _ _ q => q) h
theorem LR.ret {a : α} {P : Hp → Hp → α → Prop} (h : LR K F G (C.ret a) m P W σ) (r : Rel K F m G H) : P F H a := h F H (Ex.refl F) r
theorem LR.retE {a : α} {P : Hp → Hp → α → Prop} (h : LR K F G (C.ret a) m P W σ) {F' H' : Hp} (e : Ex F F') (r : Rel K F' m G H') : P F' H' a := h F' H' e r
theorem liftK.mono {E : Ends} (e : Ex F F') : (liftK K F G W E).Le (liftK K F' G W E) :=
  ⟨fun _ _ h F1 H1 s1 e1 => h F1 H1 s1 (e.trans e1), fun _ _ h F1 H1 v e1 => h F1 H1 v (e.trans e1), fun _ _ h F1 H1 s1 e1 => h F1 H1 s1 (e.trans e1), fun _ _ h F1 H1 s1 e1 => h F1 H1 s1 (e.trans e1),
    fun _ _ _ h F1 H1 s1 c d e1 => h F1 H1 s1 c d (e.trans e1)⟩
end

/-- e has the program c (W: what is wished of an exception) -/
def JE (X : Cx) (W : WX) (e : Expr) (c : DE) : Prop := PE X e (tE X.K W c)
def JT (X : Cx) (W : WX) (e : Expr) (c : DT) : Prop := PT X e (tT X.K W c)
def JW (X : Cx) (W : WX) (e : Expr) (c : DT) : Prop := PW X e (tT X.K W c)
def JA (X : Cx) (W : WX) (es : List Expr) (c : DA) : Prop := PA X es (tA X.K W c)
def JS (X : Cx) (W : WX) (s : Stmt) (c : CS) : Prop := PS X s (tS X.K W c)
def JB (X : Cx) (W : WX) (s : List Stmt) (c : CS) : Prop := PSs X s (tS X.K W c)
section
variable {X : Cx}
theorem _root_.L2.PE.dimp {e : Expr} {t t' : TE} (h : PE X e t) (k : ∀ σ H Q, t' σ H Q → t σ H Q) : PE X e t' := ⟨fun pins s σ H Q I q => h.run pins s σ H Q I (k σ H Q q)⟩
theorem _root_.L2.PT.dimp {e : Expr} {t t' : TT} (h : PT X e t) (k : ∀ σ H Q, t' σ H Q → t σ H Q) : PT X e t' := ⟨fun pins s σ H Q I q => h.run pins s σ H Q I (k σ H Q q)⟩
theorem _root_.L2.PW.dimp {e : Expr} {t t' : TT} (h : PW X e t) (k : ∀ σ H Q, t' σ H Q → t σ H Q) : PW X e t' := ⟨fun fin pins s σ H Q I q => h.run fin pins s σ H Q I (k σ H Q q)⟩
theorem _root_.L2.PA.dimp {es : List Expr} {t t' : TA} (h : PA X es t) (k : ∀ σ H Q, t' σ H Q → t σ H Q) : PA X es t' := ⟨fun pos pins s σ H Q I q => h.run pos pins s σ H Q I (k σ H Q q)⟩
theorem _root_.L2.PS.dimp {s : Stmt} {t t' : TS} (h : PS X s t) (k : ∀ E σ H, t' E σ H → t E σ H) : PS X s t' := ⟨fun pins st σ H E I q => h.run pins st σ H E I (k E σ H q)⟩
theorem _root_.L2.PSs.dimp {s : List Stmt} {t t' : TS} (h : PSs X s t) (k : ∀ E σ H, t' E σ H → t E σ H) : PSs X s t' := ⟨fun pins st σ H E I q => h.run pins st σ H E I (k E σ H q)⟩
theorem JW.t {W : WX} {e : Expr} {c : DT} (h : JW X W e c) : JT X W e c := PW.pt h
end

def eVar (i : Nat) : DE := fun δ => match δ[i]? with
  | some (some d) => C.ret d
  | _ => C.stuck
def eC (d : D) : DE := fun _ => C.ret d
def eOp (f : D → D → C D) (a b : DE) : DE := fun δ => (a δ).bind fun x => (b δ).bind fun y => f x y
def eUn (f : D → C D) (a : DE) : DE := fun δ => (a δ).bind f
def aNil : DA := fun _ => C.ret []
def aCons (a : DE) (r : DA) : DA := fun δ => (a δ).bind fun x => (r δ).bind fun xs => C.ret (x :: xs)
def eApp (f : List D → C D) (a : DA) : DE := fun δ => (a δ).bind f
/-- truth of a value -/
def truth : D → C Bool
  | .bl b => C.ret b
  | _ => C.stuck
def tOf (a : DE) : DT := fun δ => (a δ).bind truth
def tAndD (a b : DT) : DT := fun δ => (a δ).bind fun c => if c = true then b δ else C.ret false
def tOrD (a b : DT) : DT := fun δ => (a δ).bind fun c => if c = true then C.ret true else b δ
def tNotD (a : DT) : DT := fun δ => (a δ).bind fun c => C.ret (!c)
def eAnd (a b : DE) : DE := fun δ => (a δ).bind fun x => (truth x).bind fun c => if c = true then b δ else C.ret (.bl false)
def eOr (a b : DE) : DE := fun δ => (a δ).bind fun x => (truth x).bind fun c => if c = true then C.ret (.bl true) else b δ
def eNot (a : DE) : DE := fun δ => (a δ).bind fun x => (truth x).bind fun c => C.ret (.bl (!c))
def eIf (t : DT) (a b : DE) : DE := fun δ => (t δ).bind fun c => if c = true then a δ else b δ

section
variable {X : Cx} {W : WX} {a b e : Expr} {ca cb ce : DE} {es : List Expr} {pos : Pos}
/-- a value's operator is sound: f over data tells what r asks -/
def OpD (X : Cx) (W : WX) (f : D → D → C D) (r : R2) : Prop := ∀ (F : Hp) (m : Mem) (G H : Hp) (σ : L2.St) (x y : D) (v w : V) (Q : VK), Rel X.K F m G H → Rep X.K F v x → Rep X.K F w y →
  LR X.K F G (f x y) m (fun F' H' d => ∀ v, Rep X.K F' v d → Q v H') W σ → r v w H Q
def UnD (X : Cx) (W : WX) (f : D → C D) (r : V → Hp → VK → Prop) : Prop := ∀ (F : Hp) (m : Mem) (G H : Hp) (σ : L2.St) (x : D) (v : V) (Q : VK), Rel X.K F m G H → Rep X.K F v x →
  LR X.K F G (f x) m (fun F' H' d => ∀ v, Rep X.K F' v d → Q v H') W σ → r v H Q
def CallD (X : Cx) (W : WX) (f : List D → C D) (r : List V → Hp → VK → Prop) : Prop := ∀ (F : Hp) (m : Mem) (G H : Hp) (σ : L2.St) (xs : List D) (vs : List V) (Q : VK), Rel X.K F m G H → Reps X.K F vs xs →
  LR X.K F G (f xs) m (fun F' H' d => ∀ v, Rep X.K F' v d → Q v H') W σ → r vs H Q
theorem je_var {i : Nat} {x : Str} (hN : X.N[i]? = some x) (hv : Vis X.env.scope x) (hd : (x == ("__debug__" : Str)) = false := by decide) (hcd : (x == ("__classdict__" : Str)) = false := by decide) : JE X W (.Name x pos) (eVar i) := by
  refine (pe_var hN hv hd hcd).dimp fun σ H Q ⟨F, m, G, δ, r, s, h⟩ => ?_
  unfold eVar at h
  split at h
  · rename_i d e
    obtain ⟨v, h1, h2⟩ := s.get e
    exact ⟨v, h1, h.ret r v h2⟩
  · exact h.elim
theorem je_int {i : Int} {j : Nat} : JE X W (.Constant (.int i) j pos) (eC (.int i)) := pe_int.dimp fun _ _ _ ⟨_, _, _, _, r, _, h⟩ => h.ret r _ (.int i)
theorem je_bl {i : Bool} {j : Nat} : JE X W (.Constant (.bool i) j pos) (eC (.bl i)) := pe_bl.dimp fun _ _ _ ⟨_, _, _, _, r, _, h⟩ => h.ret r _ (.bl i)
theorem je_non {j : Nat} : JE X W (.Constant .none j pos) (eC .non) := pe_non.dimp fun _ _ _ ⟨_, _, _, _, r, _, h⟩ => h.ret r _ .non
theorem je_str {x : Str} {j : Nat} (hx : PyData.strOk x = true) : JE X W (.Constant (.str x) j pos) (eC (.str x)) := pe_str.dimp fun _ _ _ ⟨_, _, _, _, r, _, h⟩ => h.ret r _ (.str x hx)
/-- a module's constant -/
theorem je_glob {x : Str} {v : V} {u : Value} {d : D} (hg : Gl X x) (hm : X.mg x = some u) (rv : RelV v u) (hr : ∀ F : Hp, Rep X.K F v d) (hd : (x == ("__debug__" : Str)) = false := by decide) : JE X W (.Name x pos) (eC d) :=
  (pe_glob hg hm rv hd).dimp fun _ _ _ ⟨F, _, _, _, r, _, h⟩ => h.ret r _ (hr F)
theorem je_op {op : Operator} {r : R2} {f : D → D → C D} (ho : OpR X (binaryOp op) r) (hf : OpD X W f r) (ha : JE X W a ca) (hb : JE X W b cb) : JE X W (.BinOp a op b pos) (eOp f ca cb) :=
  (pe_op ho ha hb).dimp fun σ H Q ⟨F, m, G, δ, rl, s, h⟩ => ⟨F, m, G, δ, rl, s, (LR.bind h).imp fun F1 H1 _ x e1 _ ⟨m1, r1, h1⟩ v rv => ⟨F1, m1, G, δ, r1, s.mono e1, (LR.bind h1).imp fun F2 H2 _ y e2 _ ⟨m2, r2, h2⟩ w rw =>
    hf F2 m2 G H2 σ x y v w Q r2 (rv.mono e2) rw h2⟩⟩
theorem je_cmp {op : CmpOp} {r : R2} {f : D → D → C D} (ho : OpR X (compareOp op) r) (hf : OpD X W f r) (ha : JE X W a ca) (hb : JE X W b cb) (hm : behindInMarks op b = false) : JE X W (.Compare a [op] [b] pos) (eOp f ca cb) :=
  (pe_cmpR ho ha hb hm).dimp fun σ H Q ⟨F, m, G, δ, rl, s, h⟩ => ⟨F, m, G, δ, rl, s, (LR.bind h).imp fun F1 H1 _ x e1 _ ⟨m1, r1, h1⟩ v rv => ⟨F1, m1, G, δ, r1, s.mono e1, (LR.bind h1).imp fun F2 H2 _ y e2 _ ⟨m2, r2, h2⟩ w rw =>
    hf F2 m2 G H2 σ x y v w Q r2 (rv.mono e2) rw h2⟩⟩
/-- a < b < c -/
def eChain (f g : D → D → C D) (a b c : DE) : DE := fun δ => (a δ).bind fun x => (b δ).bind fun y => (f x y).bind fun z => (truth z).bind fun k => if k = true then (c δ).bind fun w => g y w else C.ret (.bl false)
theorem truth_bl {F G : Hp} {m : Mem} {β : Type} {P : Hp → Hp → β → Prop} {K : PySem.W.Frag} {σ : L2.St} {d : D} {k : Bool → C β} (h : LR K F G ((truth d).bind k) m P W σ) : ∃ b, d = .bl b ∧ LR K F G (k b) m P W σ := by
  cases d with
  | bl b => exact ⟨b, rfl, h⟩
  | _ => exact h.elim
theorem je_un {op : UnaryOp} {r : V → Hp → VK → Prop} {f : D → C D} (ho : UnR X (unaryOp op) r) (hf : UnD X W f r) (ha : JE X W a ca) : JE X W (.UnaryOp op a pos) (eUn f ca) :=
  (pe_un ho ha).dimp fun σ H Q ⟨F, m, G, δ, rl, s, h⟩ => ⟨F, m, G, δ, rl, s, (LR.bind h).imp fun F1 H1 _ x e1 _ ⟨m1, r1, h1⟩ v rv => hf F1 m1 G H1 σ x v Q r1 rv h1⟩
theorem ja_nil : JA X W [] aNil := pa_nil.dimp fun _ _ _ ⟨_, _, _, _, r, _, h⟩ => h.ret r _ .nil
theorem ja_cons {r : DA} (ha : JE X W e ce) (hr : JA X W es r) (hs : starEach (e :: es) X.env = (false, eval e X.env) :: starEach es X.env := by rfl) : JA X W (e :: es) (aCons ce r) :=
  (pa_cons ha hr hs).dimp fun σ H Q ⟨F, m, G, δ, rl, s, h⟩ => ⟨F, m, G, δ, rl, s, (LR.bind h).imp fun F1 H1 _ x e1 _ ⟨m1, r1, h1⟩ v rv => ⟨F1, m1, G, δ, r1, s.mono e1, (LR.bind h1).imp fun F2 H2 _ xs e2 _ ⟨m2, r2, h2⟩ vs rvs =>
    h2.ret r2 _ (.cons (rv.mono e2) rvs)⟩⟩
theorem tCB_imp {r : List V → Hp → VK → Prop} {f : List D → C D} {c : DA} (hf : CallD X W f r) {σ : L2.St} {H : Hp} {Q : VK} (h : tE X.K W (eApp f c) σ H Q) : tCB r (tA X.K W c) σ H Q := by
  obtain ⟨F, m, G, δ, rl, s, h⟩ := h
  exact ⟨F, m, G, δ, rl, s, (LR.bind h).imp fun F1 H1 _ xs e1 _ ⟨m1, r1, h1⟩ vs rvs => hf F1 m1 G H1 σ xs vs Q r1 rvs h1⟩
theorem je_callB {x : Str} {p : Pos} {id : String} {r : List V → Hp → VK → Prop} {f : List D → C D} {c : DA} (hc : CallR X (.builtin id) r) (hf : CallD X W f r) (hg : Gl X x) (hm : X.mg x = none) (hv : bootBuiltins x = some (.builtin id)) (ha : JA X W (e :: es) c)
    (hn : x ≠ "__name__" := by decide) (hdb : (x == ("__debug__" : Str)) = false := by decide) (he : starEach (e :: es) X.env = (false, eval e X.env) :: starEach es X.env := by rfl) (hpl : (backTo pos (starEach es X.env)).any (·.1) = false := by rfl) :
    JE X W (.Call (.Name x p) (e :: es) [] pos) (eApp f c) := (pe_callB hc hg hm hv ha hn hdb he hpl).dimp fun _ _ _ h => tCB_imp hf h
theorem je_callTy {x : Str} {p : Pos} {T : String} {r : List V → Hp → VK → Prop} {f : List D → C D} {c : DA} (hc : CallR X (.type T) r) (hf : CallD X W f r) (hg : Gl X x) (hm : X.mg x = none) (hv : bootBuiltins x = some (.type T)) (ha : JA X W (e :: es) c)
    (hn : x ≠ "__name__" := by decide) (hdb : (x == ("__debug__" : Str)) = false := by decide) (he : starEach (e :: es) X.env = (false, eval e X.env) :: starEach es X.env := by rfl) (hpl : (backTo pos (starEach es X.env)).any (·.1) = false := by rfl) :
    JE X W (.Call (.Name x p) (e :: es) [] pos) (eApp f c) := (pe_callTy hc hg hm hv ha hn hdb he hpl).dimp fun _ _ _ h => tCB_imp hf h
theorem jt_val (h : JE X W e ce) (he : ∀ whole, isTrue e X.env whole = (do let v ← whole; standAt e.pos; holding [v] (truthy v)) := by intro _; rfl) : JT X W e (tOf ce) :=
  (pt_val h he).dimp fun σ H Q ⟨F, m, G, δ, rl, s, h⟩ => ⟨F, m, G, δ, rl, s, (LR.bind h).imp fun F1 H1 _ x e1 _ ⟨m1, r1, h1⟩ v rv => by
    obtain ⟨b, rfl, h2⟩ := truth_bl (k := C.ret) h1
    cases rv
    exact ⟨b, rfl, h2.ret r1⟩⟩
variable {ta tb : DT} {rest : List Expr}
theorem jt_not (h : JT X W a ta) : JT X W (.UnaryOp .Not a pos) (tNotD ta) :=
  (pt_not h).dimp fun σ H Q ⟨F, m, G, δ, rl, s, h⟩ => ⟨F, m, G, δ, rl, s, (LR.bind h).imp fun F1 H1 _ x e1 _ ⟨m1, r1, h1⟩ => h1.ret r1⟩
theorem jw_and1 (h : JT X W a ta) : JW X W (.BoolOp .And [a] pos) ta := pw_and1 h
theorem jw_or1 (h : JT X W a ta) : JW X W (.BoolOp .Or [a] pos) ta := pw_or1 h
theorem jw_and (ha : JT X W a ta) (hb : JW X W (.BoolOp .And (b :: rest) pos) tb) : JW X W (.BoolOp .And (a :: b :: rest) pos) (tAndD ta tb) :=
  (pw_and ha hb).dimp fun σ H Q ⟨F, m, G, δ, rl, s, h⟩ => ⟨F, m, G, δ, rl, s, (LR.bind h).imp fun F1 H1 _ c e1 _ ⟨m1, r1, h1⟩ => by
    cases c with
    | true => exact ⟨F1, m1, G, δ, r1, s.mono e1, h1⟩
    | false => exact h1.ret r1⟩
theorem jw_or (ha : JT X W a ta) (hb : JW X W (.BoolOp .Or (b :: rest) pos) tb) : JW X W (.BoolOp .Or (a :: b :: rest) pos) (tOrD ta tb) :=
  (pw_or ha hb).dimp fun σ H Q ⟨F, m, G, δ, rl, s, h⟩ => ⟨F, m, G, δ, rl, s, (LR.bind h).imp fun F1 H1 _ c e1 _ ⟨m1, r1, h1⟩ => by
    cases c with
    | true => exact h1.ret r1
    | false => exact ⟨F1, m1, G, δ, r1, s.mono e1, h1⟩⟩
theorem je_one {op : BoolOp} (h : JE X W a ca) : JE X W (.BoolOp op [a] pos) ca := pe_one h
theorem je_and (ha : JE X W a ca) (hb : JE X W (.BoolOp .And (b :: rest) pos) cb) : JE X W (.BoolOp .And (a :: b :: rest) pos) (eAnd ca cb) :=
  (pe_and ha hb).dimp fun σ H Q ⟨F, m, G, δ, rl, s, h⟩ => ⟨F, m, G, δ, rl, s, (LR.bind h).imp fun F1 H1 _ x e1 _ ⟨m1, r1, h1⟩ v rv => by
    obtain ⟨c, rfl, h2⟩ := truth_bl h1
    cases rv
    refine ⟨c, rfl, ?_⟩
    cases c with
    | true => exact ⟨F1, m1, G, δ, r1, s.mono e1, h2⟩
    | false => exact h2.ret r1 _ (.bl false)⟩
theorem je_or (ha : JE X W a ca) (hb : JE X W (.BoolOp .Or (b :: rest) pos) cb) : JE X W (.BoolOp .Or (a :: b :: rest) pos) (eOr ca cb) :=
  (pe_or ha hb).dimp fun σ H Q ⟨F, m, G, δ, rl, s, h⟩ => ⟨F, m, G, δ, rl, s, (LR.bind h).imp fun F1 H1 _ x e1 _ ⟨m1, r1, h1⟩ v rv => by
    obtain ⟨c, rfl, h2⟩ := truth_bl h1
    cases rv
    refine ⟨c, rfl, ?_⟩
    cases c with
    | true => exact h2.ret r1 _ (.bl true)
    | false => exact ⟨F1, m1, G, δ, r1, s.mono e1, h2⟩⟩
theorem je_not (ha : JE X W a ca) : JE X W (.UnaryOp .Not a pos) (eNot ca) :=
  (pe_not ha).dimp fun σ H Q ⟨F, m, G, δ, rl, s, h⟩ => ⟨F, m, G, δ, rl, s, (LR.bind h).imp fun F1 H1 _ x e1 _ ⟨m1, r1, h1⟩ v rv => by
    obtain ⟨c, rfl, h2⟩ := truth_bl h1
    cases rv
    exact ⟨c, rfl, h2.ret r1 _ (.bl _)⟩⟩
theorem je_if {c : Expr} (hc : JT X W c ta) (ha : JE X W a ca) (hb : JE X W b cb) : JE X W (.IfExp c a b pos) (eIf ta ca cb) :=
  (pe_ifExp hc ha hb).dimp fun σ H Q ⟨F, m, G, δ, rl, s, h⟩ => ⟨F, m, G, δ, rl, s, (LR.bind h).imp fun F1 H1 _ c e1 _ ⟨m1, r1, h1⟩ => by
    cases c with
    | true => exact ⟨F1, m1, G, δ, r1, s.mono e1, h1⟩
    | false => exact ⟨F1, m1, G, δ, r1, s.mono e1, h1⟩⟩
end

def sNext : CS := ⟨fun δ m K => K.nx δ m, fun l h => l.nx _ _ h⟩
def Kt.seq (K : Kt) (b : CS) : Kt := { K with nx := fun δ m => b.run δ m K }
@[simp] theorem Kt.seq_nx {K : Kt} {b : CS} {δ : DSt} {m : Mem} : (K.seq b).nx δ m = b.run δ m K := rfl
@[simp] theorem Kt.seq_rt {K : Kt} {b : CS} : (K.seq b).rt = K.rt := rfl
@[simp] theorem Kt.seq_bk {K : Kt} {b : CS} : (K.seq b).bk = K.bk := rfl
@[simp] theorem Kt.seq_ct {K : Kt} {b : CS} : (K.seq b).ct = K.ct := rfl
@[simp] theorem Kt.seq_ex {K : Kt} {b : CS} : (K.seq b).ex = K.ex := rfl
theorem Kt.Le.seq {A B : Kt} (l : A.Le B) (b : CS) : (A.seq b).Le (B.seq b) := ⟨fun _ _ h => b.mono l h, l.rt, l.bk, l.ct, l.ex⟩
theorem Kt.Le.refl (A : Kt) : A.Le A := ⟨fun _ _ h => h, fun _ _ h => h, fun _ _ h => h, fun _ _ h => h, fun _ _ _ h => h⟩
def sSeq (a b : CS) : CS := ⟨fun δ m K => a.run δ m (K.seq b), fun l h => a.mono (l.seq b) h⟩
def sAsg (i : Nat) (e : DE) : CS := ⟨fun δ m K => (e δ).run m (fun d m' => K.nx (δ.set i (some d)) m') (fun x m' => K.ex x δ m'), fun l h => C.mono _ (fun _ _ q => l.nx _ _ q) (fun _ _ q => l.ex _ _ _ q) h⟩
def sExpr (e : DE) : CS := ⟨fun δ m K => (e δ).run m (fun _ m' => K.nx δ m') (fun x m' => K.ex x δ m'), fun l h => C.mono _ (fun _ _ q => l.nx _ _ q) (fun _ _ q => l.ex _ _ _ q) h⟩
def sRet (e : DE) : CS := ⟨fun δ m K => (e δ).run m (fun d m' => K.rt d m') (fun x m' => K.ex x δ m'), fun l h => C.mono _ (fun _ _ q => l.rt _ _ q) (fun _ _ q => l.ex _ _ _ q) h⟩
def sRetN : CS := ⟨fun δ m K => K.rt .non m, fun l h => l.rt _ _ h⟩
def sIf (t : DT) (a b : CS) : CS := ⟨fun δ m K => (t δ).run m (fun c m' => if c = true then a.run δ m' K else b.run δ m' K) (fun x m' => K.ex x δ m'), fun {δ m A B} l h => C.mono _ (fun c m' q => by
    cases c with
    | true => exact a.mono l q
    | false => exact b.mono l q) (fun _ _ q => l.ex _ _ _ q) h⟩
def sBreak : CS := ⟨fun δ m K => K.bk δ m, fun l h => l.bk _ _ h⟩
def sCont : CS := ⟨fun δ m K => K.ct δ m, fun l h => l.ct _ _ h⟩
def sStuck : CS := ⟨fun _ _ _ => False, fun _ h => h⟩
section
variable {s1 s2 : CS} {δ : DSt} {m : Mem} {K : Kt} {e : DE} {i : Nat} {t : DT}
@[simp] theorem run_next : sNext.run δ m K = K.nx δ m := rfl
@[simp] theorem run_seq : (sSeq s1 s2).run δ m K = s1.run δ m (K.seq s2) := rfl
@[simp] theorem run_asg : (sAsg i e).run δ m K = (e δ).run m (fun d m' => K.nx (δ.set i (some d)) m') (fun x m' => K.ex x δ m') := rfl
@[simp] theorem run_expr : (sExpr e).run δ m K = (e δ).run m (fun _ m' => K.nx δ m') (fun x m' => K.ex x δ m') := rfl
@[simp] theorem run_retS : (sRet e).run δ m K = (e δ).run m (fun d m' => K.rt d m') (fun x m' => K.ex x δ m') := rfl
@[simp] theorem run_retN : sRetN.run δ m K = K.rt .non m := rfl
@[simp] theorem run_ifS : (sIf t s1 s2).run δ m K = (t δ).run m (fun c m' => if c = true then s1.run δ m' K else s2.run δ m' K) (fun x m' => K.ex x δ m') := rfl
@[simp] theorem run_break : sBreak.run δ m K = K.bk δ m := rfl
@[simp] theorem run_cont : sCont.run δ m K = K.ct δ m := rfl
@[simp] theorem run_stuckS : sStuck.run δ m K = False := rfl
end
section
variable {X : Cx} {W : WX} {e : Expr} {ce : DE} {st : Stmt} {rest : List Stmt} {a b : CS} {pos : Pos}
theorem liftX_of {F G : Hp} {K : PySem.W.Frag} {σ : L2.St} {δ : DSt} {E : Ends} {x : Xn} {m : Mem} (s : SRel K F σ δ) (h : (liftK K F G W E).ex x δ m) : liftX K F G W σ x m := fun F' H' c d e r q => h F' H' σ c d e r (s.mono e) q
theorem jb_nil : JB X W [] sNext := pss_nil.dimp fun E σ H ⟨F, m, G, δ, r, s, h⟩ => h F H σ (Ex.refl F) r s
theorem tSeq_imp {E : Ends} {σ : L2.St} {H : Hp} {K : PySem.W.Frag} (h : tS K W (sSeq a b) E σ H) : tSeq (tS K W a) (tS K W b) E σ H := by
  obtain ⟨F, m, G, δ, r, s, h⟩ := h
  exact ⟨F, m, G, δ, r, s, a.mono (A := (liftK K F G W E).seq b) ⟨fun δ' m' q F1 H1 σ1 e1 r1 s1 => ⟨F1, m', G, δ', r1, s1, b.mono (liftK.mono e1) q⟩, fun _ _ q => q, fun _ _ q => q, fun _ _ q => q, fun _ _ _ q => q⟩ h⟩
theorem jb_cons (h1 : JS X W st a) (h2 : JB X W rest b) : JB X W (st :: rest) (sSeq a b) := (pss_cons h1 h2).dimp fun _ _ _ h => tSeq_imp h
theorem jb_one (h1 : JS X W st a) : JB X W [st] a := pss_one h1
theorem js_pass : JS X W (.Pass pos) sNext := ps_pass.dimp fun E σ H ⟨F, m, G, δ, r, s, h⟩ => h F H σ (Ex.refl F) r s
theorem js_break : JS X W (.Break pos) sBreak := ps_break.dimp fun E σ H ⟨F, m, G, δ, r, s, h⟩ => h F H σ (Ex.refl F) r s
theorem js_cont : JS X W (.Continue pos) sCont := ps_continue.dimp fun E σ H ⟨F, m, G, δ, r, s, h⟩ => h F H σ (Ex.refl F) r s
theorem js_expr (he : JE X W e ce) (hs : swapsWith e none pos.line X.env = pure false := by rfl) : JS X W (.Expr e pos) (sExpr ce) :=
  (ps_expr he hs).dimp fun E σ H ⟨F, m, G, δ, r, s, h⟩ => ⟨F, m, G, δ, r, s, C.mono _ (fun d m' q F' H' e' r' v _ => q F' H' σ e' r' (s.mono e')) (fun x m' q => liftX_of s q) h⟩
theorem js_ret (he : JE X W e ce) : JS X W (.Return (some e) pos) (sRet ce) :=
  (ps_ret he).dimp fun E σ H ⟨F, m, G, δ, r, s, h⟩ => ⟨F, m, G, δ, r, s, C.mono _ (fun d m' q F' H' e' r' v rv => q F' H' v e' r' rv) (fun x m' q => liftX_of s q) h⟩
theorem js_retN : JS X W (.Return none pos) sRetN := ps_retN.dimp fun E σ H ⟨F, m, G, δ, r, s, h⟩ => h F H .non (Ex.refl F) r .non
theorem js_if {c : Expr} {xs ys : List Stmt} {t : DT} (hc : JT X W c t) (ha : JB X W xs a) (hb : JB X W ys b) : JS X W (.If c xs ys pos) (sIf t a b) :=
  (ps_if hc ha hb).dimp fun E σ H ⟨F, m, G, δ, r, s, h⟩ => ⟨F, m, G, δ, r, s, C.mono _ (fun c m' q F' H' e' r' => by
    cases c with
    | true => exact ⟨F', m', G, δ, r', s.mono e', a.mono (liftK.mono e') q⟩
    | false => exact ⟨F', m', G, δ, r', s.mono e', b.mono (liftK.mono e') q⟩) (fun x m' q => liftX_of s q) h⟩
theorem js_asg {i : Nat} {x : Str} {pos' : Pos} (hN : X.N.Nodup) (hi : X.N[i]? = some x) (hx : Loc X.env.scope x) (he : JE X W e ce) (hs : swapsWith e (some (.Name x pos')) pos.line X.env = pure false := by rfl)
    (hf : X.fn x = true ∨ X.env.scope.names.lookup x = some .local := by first | exact .inl rfl | exact .inr rfl | assumption) : JS X W (.Assign [.Name x pos'] e pos) (sAsg i ce) :=
  (ps_set hN hi hx he hs hf).dimp fun E σ H ⟨F, m, G, δ, r, s, h⟩ => ⟨F, m, G, δ, r, s, C.mono _ (fun d m' q F' H' e' r' v rv => q F' H' _ e' r' ((s.mono e').set rv i)) (fun x m' q => liftX_of s q) h⟩
theorem js_never : JS X W st sStuck := ps_never.dimp fun E σ H ⟨F, m, G, δ, r, s, h⟩ => h.elim
theorem jb_never {sts : List Stmt} : JB X W sts sStuck := pss_never.dimp fun E σ H ⟨F, m, G, δ, r, s, h⟩ => h.elim
end
end DL

namespace DL
open PySem PySem.Spec PyProof.Rows L2

def C.look {α : Type} (a : Addr) (k : MO → C α) : C α := ⟨fun m Q E => match m a with
  | some o => (k o).run m Q E
  | none => False, fun {m Q Q' E E'} hQ hE h => by
    cases e : m a with
    | none => simp only [e] at h
    | some o => simp only [e] at h ⊢; exact (k o).mono hQ hE h⟩
theorem C.run_look {α : Type} {a : Addr} {k : MO → C α} {m : Mem} {Q : α → Mem → Prop} {E : Xn → Mem → Prop} {o : MO} (h : m a = some o) : (C.look a k).run m Q E = (k o).run m Q E := by
  show (match m a with | some o => (k o).run m Q E | none => False) = _
  rw [h]
theorem LR.look {K : PySem.W.Frag} {α : Type} {F G : Hp} {m : Mem} {W : WX} {σ : L2.St} {a : Addr} {k : MO → C α} {P : Hp → Hp → α → Prop} (h : LR K F G (C.look a k) m P W σ) : ∃ o, m a = some o ∧ LR K F G (k o) m P W σ := by
  unfold LR at h
  cases e : m a with
  | none =>
    have h2 : (match m a with
      | some o => (k o).run m (fun a m' => ∀ F' H', Ex F F' → Rel K F' m' G H' → P F' H' a) (liftX K F G W σ)
      | none => False) := h
    rw [e] at h2
    exact h2.elim
  | some o =>
    have h2 : (match m a with
      | some o => (k o).run m (fun a m' => ∀ F' H', Ex F F' → Rel K F' m' G H' → P F' H' a) (liftX K F G W σ)
      | none => False) := h
    rw [e] at h2
    exact ⟨o, rfl, h2⟩
/-- the items of a list -/
def asL : D → C (List D)
  | .lst l => C.ret l
  | .ref a => C.look a fun o => match o with
    | .lst l => C.ret l
    | _ => C.stuck
  | _ => C.stuck
@[simp] theorem asL_lst {l : List D} : asL (.lst l) = C.ret l := rfl
theorem run_asL_ref {a : Addr} {l : List D} {m : Mem} {Q : List D → Mem → Prop} {E : Xn → Mem → Prop} (h : m a = some (.lst l)) : (asL (.ref a)).run m Q E = Q l m := by
  show (C.look a _).run m Q E = _
  rw [C.run_look h]
  rfl
section
variable {K : PySem.W.Frag} {β : Type} {F G H : Hp} {m : Mem} {W : WX} {σ : L2.St}
theorem asL_of {v : V} {d : D} {k : List D → C β} {P : Hp → Hp → β → Prop} (r : Rel K F m G H) (rv : Rep K F v d) (h : LR K F G ((asL d).bind k) m P W σ) :
    ∃ a vs l, v = .ref a ∧ H a = some (.lst vs) ∧ Reps K F vs l ∧ LR K F G (k l) m P W σ := by
  cases d with
  | lst l =>
    cases rv with
    | lst h1 h2 => exact ⟨_, _, l, rfl, r.ex _ _ h1, h2, h⟩
  | ref a =>
    cases rv
    obtain ⟨o, e, h2⟩ := LR.look (k := fun o => C.bind (match o with | .lst l => C.ret l | _ => C.stuck) k) h
    cases o with
    | lst l =>
      obtain ⟨⟨vs, h3, h4⟩, _⟩ := r.mm _ _ e
      exact ⟨a, vs, l, rfl, h3, h4, h2⟩
    | _ => exact h2.elim
  | _ => exact h.elim
end

def dAdd : D → D → C D
  | .int i, .int j => C.ret (.int (i + j))
  | .str a, .str b => if a.length + b.length ≤ sizeLine then C.ret (.str (a ++ b)) else C.stuck
  | .tup a, .tup b => if a.length + b.length ≤ sizeLine then C.ret (.tup (a ++ b)) else C.stuck
  | x, y => (asL x).bind fun a => (asL y).bind fun b => if a.length + b.length ≤ sizeLine then C.ret (.lst (a ++ b)) else C.stuck
def dSub : D → D → C D
  | .int i, .int j => C.ret (.int (i - j))
  | _, _ => C.stuck
def dMul : D → D → C D
  | .int i, .int j => if (-(2 ^ 64) < i ∧ i < 2 ^ 64) ∨ (-(2 ^ 64) < j ∧ j < 2 ^ 64) then C.ret (.int (i * j)) else C.stuck
  | _, _ => C.stuck
def dDiv : D → D → C D
  | .int i, .int j => if 0 < j ∧ j < 1073741824 then C.ret (.int (i / j)) else C.stuck
  | _, _ => C.stuck
def dMod : D → D → C D
  | .int i, .int j => if 0 < j then C.ret (.int (i % j)) else C.stuck
  | _, _ => C.stuck
def dPow : D → D → C D
  | .int i, .int j => if 0 ≤ j ∧ j ≤ 1000000 ∧ i.natAbs < 2 ^ 64 then C.ret (.int (i ^ j.toNat)) else C.stuck
  | _, _ => C.stuck
def dLt : D → D → C D
  | .int i, .int j => C.ret (.bl (decide (i < j)))
  | _, _ => C.stuck
def dLe : D → D → C D
  | .int i, .int j => C.ret (.bl (decide (i ≤ j)))
  | _, _ => C.stuck
def dGt : D → D → C D
  | .int i, .int j => C.ret (.bl (decide (j < i)))
  | _, _ => C.stuck
def dGe : D → D → C D
  | .int i, .int j => C.ret (.bl (decide (j ≤ i)))
  | _, _ => C.stuck
def dNeg : D → C D
  | .int i => C.ret (.int (-i))
  | _ => C.stuck

section
variable {X : Cx} {W : WX}
theorem LR.ite {K : PySem.W.Frag} {α : Type} {F G : Hp} {m : Mem} {W : WX} {σ : L2.St} {p : Prop} [Decidable p] {c : C α} {P : Hp → Hp → α → Prop} (h : LR K F G (if p then c else C.stuck) m P W σ) : p ∧ LR K F G c m P W σ := by
  by_cases q : p
  · rw [if_pos q] at h; exact ⟨q, h⟩
  · rw [if_neg q] at h; exact h.elim
theorem opD_I0 {f : D → D → C D} {g : Int → Int → V} {gd : Int → Int → D} (h1 : ∀ i j, f (.int i) (.int j) = C.ret (gd i j)) (h2 : ∀ x y, (∀ i j, ¬ (x = .int i ∧ y = .int j)) → f x y = C.stuck) (h3 : ∀ (F : Hp) i j, Rep X.K F (g i j) (gd i j)) : OpD X W f (rI0 g) := by
  intro F m G H σ x y v w Q r rx ry h
  by_cases q : ∃ i j, x = .int i ∧ y = .int j
  · obtain ⟨i, j, rfl, rfl⟩ := q
    cases rx
    cases ry
    rw [h1] at h
    exact ⟨i, j, rfl, rfl, h.ret r _ (h3 F i j)⟩
  · rw [h2 x y fun i j z => q ⟨i, j, z⟩] at h
    exact h.elim
theorem opD_I {f : D → D → C D} {c : Int → Int → Prop} [∀ i j, Decidable (c i j)] {g : Int → Int → V} {gd : Int → Int → D} (h1 : ∀ i j, f (.int i) (.int j) = if c i j then C.ret (gd i j) else C.stuck) (h2 : ∀ x y, (∀ i j, ¬ (x = .int i ∧ y = .int j)) → f x y = C.stuck)
    (h3 : ∀ (F : Hp) i j, Rep X.K F (g i j) (gd i j)) : OpD X W f (rI c g) := by
  intro F m G H σ x y v w Q r rx ry h
  by_cases q : ∃ i j, x = .int i ∧ y = .int j
  · obtain ⟨i, j, rfl, rfl⟩ := q
    cases rx
    cases ry
    rw [h1] at h
    obtain ⟨hc, h⟩ := h.ite
    exact ⟨i, j, rfl, rfl, hc, h.ret r _ (h3 F i j)⟩
  · rw [h2 x y fun i j z => q ⟨i, j, z⟩] at h
    exact h.elim
theorem stuck2 {f : D → D → C D} (h : ∀ x y, (∃ i j, x = D.int i ∧ y = D.int j) ∨ f x y = C.stuck) : ∀ x y, (∀ i j, ¬ (x = D.int i ∧ y = D.int j)) → f x y = C.stuck := fun x y n => (h x y).elim (fun ⟨i, j, z⟩ => (n i j z).elim) id
theorem od_sub : OpD X W dSub (rI0 fun i j => .int (i - j)) := opD_I0 (gd := fun i j => .int (i - j)) (fun _ _ => rfl) (stuck2 fun x y => by cases x <;> cases y <;> first | exact .inl ⟨_, _, rfl, rfl⟩ | exact .inr rfl) fun _ _ _ => .int _
instance (i j : Int) : Decidable (CMul i j) := inferInstanceAs (Decidable (_ ∨ _))
instance (i j : Int) : Decidable (CDiv i j) := inferInstanceAs (Decidable (_ ∧ _))
instance (i j : Int) : Decidable (CPow i j) := inferInstanceAs (Decidable (_ ∧ _))
theorem od_mul : OpD X W dMul (rI CMul fun i j => .int (i * j)) := opD_I (gd := fun i j => .int (i * j)) (fun _ _ => rfl) (stuck2 fun x y => by cases x <;> cases y <;> first | exact .inl ⟨_, _, rfl, rfl⟩ | exact .inr rfl) fun _ _ _ => .int _
theorem od_div : OpD X W dDiv (rI CDiv fun i j => .int (i / j)) := opD_I (gd := fun i j => .int (i / j)) (fun _ _ => rfl) (stuck2 fun x y => by cases x <;> cases y <;> first | exact .inl ⟨_, _, rfl, rfl⟩ | exact .inr rfl) fun _ _ _ => .int _
theorem od_mod : OpD X W dMod (rI (fun _ j => 0 < j) fun i j => .int (i % j)) := opD_I (gd := fun i j => .int (i % j)) (fun _ _ => rfl) (stuck2 fun x y => by cases x <;> cases y <;> first | exact .inl ⟨_, _, rfl, rfl⟩ | exact .inr rfl) fun _ _ _ => .int _
theorem od_pow : OpD X W dPow (rI CPow fun i j => .int (i ^ j.toNat)) := opD_I (gd := fun i j => .int (i ^ j.toNat)) (fun _ _ => rfl) (stuck2 fun x y => by cases x <;> cases y <;> first | exact .inl ⟨_, _, rfl, rfl⟩ | exact .inr rfl) fun _ _ _ => .int _
theorem od_lt : OpD X W dLt (rI0 fun i j => .bl (decide (i < j))) := opD_I0 (gd := fun i j => .bl (decide (i < j))) (fun _ _ => rfl) (stuck2 fun x y => by cases x <;> cases y <;> first | exact .inl ⟨_, _, rfl, rfl⟩ | exact .inr rfl) fun _ _ _ => .bl _
theorem od_le : OpD X W dLe (rI0 fun i j => .bl (decide (i ≤ j))) := opD_I0 (gd := fun i j => .bl (decide (i ≤ j))) (fun _ _ => rfl) (stuck2 fun x y => by cases x <;> cases y <;> first | exact .inl ⟨_, _, rfl, rfl⟩ | exact .inr rfl) fun _ _ _ => .bl _
theorem od_gt : OpD X W dGt (rI0 fun i j => .bl (decide (j < i))) := opD_I0 (gd := fun i j => .bl (decide (j < i))) (fun _ _ => rfl) (stuck2 fun x y => by cases x <;> cases y <;> first | exact .inl ⟨_, _, rfl, rfl⟩ | exact .inr rfl) fun _ _ _ => .bl _
theorem od_ge : OpD X W dGe (rI0 fun i j => .bl (decide (j ≤ i))) := opD_I0 (gd := fun i j => .bl (decide (j ≤ i))) (fun _ _ => rfl) (stuck2 fun x y => by cases x <;> cases y <;> first | exact .inl ⟨_, _, rfl, rfl⟩ | exact .inr rfl) fun _ _ _ => .bl _
theorem ud_neg : UnD X W dNeg (rU fun i => .int (-i)) := by
  intro F m G H σ x v Q r rx h
  cases x with
  | int i =>
    cases rx
    exact ⟨i, rfl, h.ret r _ (.int _)⟩
  | _ => exact h.elim
/-- + : ints, texts, tuples, lists -/
def rAddD (K : PySem.W.Frag) : R2 := fun x y H Q => (rI0 (fun i j => .int (i + j)) x y H Q) ∨ (∃ i j, x = .str i ∧ y = .str j ∧ i.length + j.length ≤ sizeLine ∧ Q (.str (i ++ j)) H) ∨ rCatA K x y H Q ∨ rCat x y H Q
theorem or_addD : OpR X (binaryOp .Add) (rAddD X.K) := op_add.or (op_add_str.or (op_catA.or op_cat))
theorem strOk_app {a b : Str} (ha : PyData.strOk a = true) (hb : PyData.strOk b = true) : PyData.strOk (a ++ b) = true := by
  unfold PyData.strOk at *
  show (a.cps ++ b.cps).all _ = true
  rw [Array.all_append, ha, hb]
  rfl
theorem SqT.len {pins : List (Addr × Obj)} {σ : L2.St} {H : Hp} {s : Shared} {a : Addr} {xs : List V} (I : Inv X pins σ H s) (h : SqT X.K H a xs) : xs.length ≤ sizeLine := by
  obtain ⟨_, _, _, h⟩ := I.tuple h
  exact h
theorem add_lists {F G H : Hp} {m : Mem} {σ : L2.St} {x y : D} {v w : V} {Q : VK} (r : Rel X.K F m G H) (rx : Rep X.K F v x) (ry : Rep X.K F w y)
    (h : LR X.K F G ((asL x).bind fun a => (asL y).bind fun b => if a.length + b.length ≤ sizeLine then C.ret (D.lst (a ++ b)) else C.stuck) m (fun F' H' d => ∀ v, Rep X.K F' v d → Q v H') W σ) : rCat v w H Q := by
  obtain ⟨a, vs, l, rfl, h1, h2, h⟩ := asL_of r rx h
  obtain ⟨b, ws, k, rfl, h3, h4, h⟩ := asL_of r ry h
  obtain ⟨hl, h⟩ := h.ite
  refine ⟨a, b, vs, ws, rfl, rfl, h1, h3, by rw [h2.length, h4.length]; exact hl, fun p hp => ?_⟩
  have e := Ex.new (o := .lst (vs ++ ws)) (r.fresh hp).2
  exact h.retE e (r.newF hp _) _ (.lst upd_same ((h2.append h4).mono e))
theorem od_add : OpD X W dAdd (rAddD X.K) := by
  intro F m G H σ x y v w Q r rx ry h
  unfold dAdd at h
  split at h
  · rename_i i j
    cases rx
    cases ry
    exact .inl ⟨i, j, rfl, rfl, h.ret r _ (.int _)⟩
  · rename_i a b
    obtain ⟨hl, h⟩ := h.ite
    cases rx with
    | str _ ha =>
      cases ry with
      | str _ hb => exact .inr (.inl ⟨a, b, rfl, rfl, hl, h.ret r _ (.str _ (strOk_app ha hb))⟩)
  · rename_i a b
    obtain ⟨hl, h⟩ := h.ite
    cases rx with
    | @tup _ vs _ ha ra =>
      cases ry with
      | @tup _ ws _ hb rb =>
        refine .inr (.inr (.inl ⟨_, _, _, _, rfl, rfl, r.ex.t ha, r.ex.t hb, by rw [ra.length, rb.length]; exact hl, ?_, ?_, ?_⟩))
        · intro z
          subst z
          cases ra
          exact h.ret r _ (.tup hb rb)
        · intro z1 z2
          subst z2
          cases rb
          refine h.ret r _ ?_
          rw [List.append_nil]
          exact .tup ha ra
        · intro z1 z2 p hp
          have e := Ex.new (o := .tup (vs ++ ws)) (r.fresh hp).2
          exact h.retE e (r.newF hp _) _ (.tup (SqT.of upd_same) ((ra.append rb).mono e))
  · exact .inr (.inr (.inr (add_lists r rx ry h)))
end
end DL

namespace DL
open PySem PySem.Spec PyProof.Rows L2

mutual
def eqv : D → D → Bool
  | .non, .non => true
  | .bl a, .bl b => a == b
  | .bl a, .int j => (if a then 1 else 0) == j
  | .int i, .bl b => i == (if b then 1 else 0)
  | .int i, .int j => i == j
  | .str x, .str y => x == y
  | .tup xs, .tup ys => eqvs xs ys
  | .lst xs, .lst ys => eqvs xs ys
  | _, _ => false
def eqvs : List D → List D → Bool
  | [], [] => true
  | x :: xs, y :: ys => eqv x y && eqvs xs ys
  | _, _ => false
end
mutual
def dat : D → Bool
  | .non | .bl _ | .int _ | .str _ => true
  | .tup l | .lst l => dats l
  | _ => false
def dats : List D → Bool
  | [] => true
  | x :: xs => dat x && dats xs
end
mutual
def dep : D → Nat
  | .tup l | .lst l => deps l + 1
  | _ => 0
def deps : List D → Nat
  | [] => 0
  | x :: xs => max (dep x) (deps xs)
end
mutual
def toP : D → PyData
  | .bl b => .bool b
  | .int i => .int i
  | .str x => .str x
  | .tup l => .tuple (toPs l)
  | .lst l => .list (toPs l)
  | _ => .none
def toPs : List D → List PyData
  | [] => []
  | x :: xs => toP x :: toPs xs
end
mutual
theorem eqv_toP : ∀ x y : D, dat x = true → dat y = true → PyData.eqv (toP x) (toP y) = eqv x y := by
  intro x y hx hy
  cases x <;> cases y <;> first
    | rfl
    | (simp only [dat] at hx; exact absurd hx (by decide))
    | (simp only [dat] at hy; exact absurd hy (by decide))
    | (simp only [toP, eqv, PyData.eqv]; done)
    | (simp only [toP, eqv, PyData.eqv]; exact eqvs_toP _ _ (by simpa only [dat] using hx) (by simpa only [dat] using hy))
termination_by x => sizeOf x
theorem eqvs_toP : ∀ xs ys : List D, dats xs = true → dats ys = true → PyData.eqvAll (toPs xs) (toPs ys) = eqvs xs ys := by
  intro xs ys hx hy
  cases xs with
  | nil => cases ys <;> simp only [toPs, eqvs, PyData.eqvAll]
  | cons x xs =>
    cases ys with
    | nil => simp only [toPs, eqvs, PyData.eqvAll]
    | cons y ys =>
      simp only [dats, Bool.and_eq_true] at hx hy
      simp only [toPs, eqvs, PyData.eqvAll]
      rw [eqv_toP x y hx.1 hy.1, eqvs_toP xs ys hx.2 hy.2]
termination_by xs => sizeOf xs
end
mutual
theorem dep_toP : ∀ x : D, (toP x).depth = dep x := by
  intro x
  cases x <;> simp only [toP, dep, PyData.depth, deps_toP]
theorem deps_toP : ∀ xs : List D, PyData.depthAll (toPs xs) = deps xs := by
  intro xs
  cases xs with
  | nil => simp only [toPs, deps, PyData.depthAll]
  | cons x xs => simp only [toPs, deps, PyData.depthAll, dep_toP x, deps_toP xs]
end
section
variable {K : PySem.W.Frag} {F G H : Hp}
mutual
theorem rep_dp : ∀ {v : V} {d : D}, Rep K F v d → dat d = true → Ex F H → Dp K H v (toP d) ∧ (toP d).canLay0 = true := by
  intro v d r hd e
  cases r with
  | non => exact ⟨.non, rfl⟩
  | bl b => exact ⟨.bl b, rfl⟩
  | int i => exact ⟨.int i, rfl⟩
  | str x h => exact ⟨.str x, by simp only [toP, PyData.canLay0]; exact h⟩
  | tup h r =>
    obtain ⟨h1, h2⟩ := reps_dp r (by simpa only [dat] using hd) e
    simp only [toP, PyData.canLay0]
    exact ⟨.tup (e.t h) h1, h2⟩
  | lst h r =>
    obtain ⟨h1, h2⟩ := reps_dp r (by simpa only [dat] using hd) e
    simp only [toP, PyData.canLay0]
    exact ⟨.lst (SqL.of (e _ _ h)) h1, h2⟩
  | obj h r => simp only [dat] at hd; cases hd
  | ref a => simp only [dat] at hd; cases hd
  | scr h => simp only [dat] at hd; cases hd
  | dic h r => simp only [dat] at hd; cases hd
theorem reps_dp : ∀ {vs : List V} {ds : List D}, Reps K F vs ds → dats ds = true → Ex F H → DpAll K H vs (toPs ds) ∧ PyData.canLayAll0 (toPs ds) = true := by
  intro vs ds r hd e
  cases r with
  | nil => exact ⟨.nil, by simp only [toPs, PyData.canLayAll0]⟩
  | cons r t =>
    simp only [dats, Bool.and_eq_true] at hd
    obtain ⟨h1, h2⟩ := rep_dp r hd.1 e
    obtain ⟨h3, h4⟩ := reps_dp t hd.2 e
    exact ⟨.cons h1 h3, by simp only [toPs, PyData.canLayAll0, h2, h4, Bool.and_self]⟩
end
end
def okEq (x y : D) : Bool := dat x && dat y && (decide (dep x ≤ 64) && decide (dep y ≤ 64))
def dEq (x y : D) : C D := if okEq x y = true then C.ret (.bl (eqv x y)) else C.stuck
def dNe (x y : D) : C D := if okEq x y = true then C.ret (.bl (!eqv x y)) else C.stuck
section
variable {X : Cx} {W : WX}
theorem okEq_dp {F G H : Hp} {m : Mem} {x y : D} {v w : V} (r : Rel X.K F m G H) (rx : Rep X.K F v x) (ry : Rep X.K F w y) (h : okEq x y = true) :
    Dp X.K H v (toP x) ∧ Dp X.K H w (toP y) ∧ SeqAt.shaped (toP x) = true ∧ SeqAt.shaped (toP y) = true ∧ PyData.eqv (toP x) (toP y) = eqv x y := by
  unfold okEq at h
  simp only [Bool.and_eq_true, decide_eq_true_eq] at h
  obtain ⟨⟨h1, h2⟩, h3, h4⟩ := h
  obtain ⟨a1, a2⟩ := rep_dp rx h1 r.ex
  obtain ⟨b1, b2⟩ := rep_dp ry h2 r.ex
  refine ⟨a1, b1, ?_, ?_, eqv_toP x y h1 h2⟩
  · unfold SeqAt.shaped
    rw [a2, dep_toP, decide_eq_true h3]
    rfl
  · unfold SeqAt.shaped
    rw [b2, dep_toP, decide_eq_true h4]
    rfl
theorem od_eq : OpD X W dEq (rEqD X.K) := by
  intro F m G H σ x y v w Q r rx ry h
  obtain ⟨hc, h⟩ := LR.ite h
  obtain ⟨a, b, c, d, e⟩ := okEq_dp r rx ry hc
  refine ⟨_, _, a, b, c, d, ?_⟩
  rw [e]
  exact h.ret r _ (.bl _)
theorem od_ne : OpD X W dNe (rNeD X.K) := by
  intro F m G H σ x y v w Q r rx ry h
  obtain ⟨hc, h⟩ := LR.ite h
  obtain ⟨a, b, c, d, e⟩ := okEq_dp r rx ry hc
  refine ⟨_, _, a, b, c, d, ?_⟩
  rw [e]
  exact h.ret r _ (.bl _)
end

def isD : D → D → Bool
  | .non, .non => true
  | .bl a, .bl b => a == b
  | _, _ => false
/-- x is None, x is True, x is False -/
def dIs (x y : D) : C D := match y with
  | .non => C.ret (.bl (isD x .non))
  | .bl b => C.ret (.bl (isD x (.bl b)))
  | _ => C.stuck
def dIsNot (x y : D) : C D := match y with
  | .non => C.ret (.bl (!isD x .non))
  | .bl b => C.ret (.bl (!isD x (.bl b)))
  | _ => C.stuck
def sing : V → Bool
  | .non | .bl _ => true
  | _ => false
def rIsS (neg : Bool) : R2 := fun x y H Q => sing y = true ∧ Q (.bl (if neg then !decide (x = y) else decide (x = y))) H
section
variable {X : Cx} {W : WX}
theorem or_is : OpR X (compareOp .Is) (rIsS false) := by
  intro pins s σ H x y v u Q I rx ry h
  obtain ⟨hs, q⟩ := h
  by_cases e : x = y
  · subst e
    have e2 : u = v := by
      cases x with
      | non => exact (show u = .none from ry).trans (show v = .none from rx).symm
      | bl b => exact (show u = .bool b from ry).trans (show v = .bool b from rx).symm
      | _ => cases hs
    subst e2
    refine wpAny_is_self ?_ ⟨.bl true, H, I, rfl, by simpa using q⟩
    cases x with
    | non => cases rx; rfl
    | bl b => cases rx; rfl
    | _ => cases hs
  · refine wpAny_is_other ?_ ?_ ⟨.bl false, H, I, rfl, by simpa [e] using q⟩
    · cases y with
      | non =>
        cases ry
        cases x <;> first | (cases rx; rfl) | (obtain ⟨t, rfl⟩ := rx; rfl)
      | bl b =>
        cases ry
        cases x <;> first | (cases rx; rfl) | (obtain ⟨t, rfl⟩ := rx; rfl)
      | _ => cases hs
    · intro z
      subst z
      exact e (rx.inj ry)
theorem or_isnot : OpR X (compareOp .IsNot) (rIsS true) := by
  intro pins s σ H x y v u Q I rx ry h
  obtain ⟨hs, q⟩ := h
  by_cases e : x = y
  · subst e
    have e2 : u = v := by
      cases x with
      | non => exact (show u = .none from ry).trans (show v = .none from rx).symm
      | bl b => exact (show u = .bool b from ry).trans (show v = .bool b from rx).symm
      | _ => cases hs
    subst e2
    refine wpAny_isNot_self ?_ ⟨.bl false, H, I, rfl, by simpa using q⟩
    cases x with
    | non => cases rx; rfl
    | bl b => cases rx; rfl
    | _ => cases hs
  · refine wpAny_isNot_other ?_ ?_ ⟨.bl true, H, I, rfl, by simpa [e] using q⟩
    · cases y with
      | non =>
        cases ry
        cases x <;> first | (cases rx; rfl) | (obtain ⟨t, rfl⟩ := rx; rfl)
      | bl b =>
        cases ry
        cases x <;> first | (cases rx; rfl) | (obtain ⟨t, rfl⟩ := rx; rfl)
      | _ => cases hs
    · intro z
      subst z
      exact e (rx.inj ry)
theorem isD_eq {K : PySem.W.Frag} {F : Hp} {x y : D} {v w : V} (rx : Rep K F v x) (ry : Rep K F w y) (h : sing w = true) : decide (v = w) = isD x y := by
  cases ry with
  | non => cases rx <;> rfl
  | bl b =>
    cases rx with
    | bl a =>
      show decide (V.bl a = V.bl b) = (a == b)
      exact dec_bl
    | _ => rfl
  | _ => cases h
theorem od_is : OpD X W dIs (rIsS false) := by
  intro F m G H σ x y v w Q r rx ry h
  unfold dIs at h
  split at h
  · cases ry
    refine ⟨rfl, ?_⟩
    show Q (.bl (decide (v = .non))) H
    rw [isD_eq rx (.non) rfl]
    exact h.ret r _ (.bl _)
  · rename_i b
    cases ry
    refine ⟨rfl, ?_⟩
    show Q (.bl (decide (v = .bl b))) H
    rw [isD_eq rx (.bl b) rfl]
    exact h.ret r _ (.bl _)
  · exact h.elim
theorem od_isnot : OpD X W dIsNot (rIsS true) := by
  intro F m G H σ x y v w Q r rx ry h
  unfold dIsNot at h
  split at h
  · cases ry
    refine ⟨rfl, ?_⟩
    show Q (.bl (!decide (v = .non))) H
    rw [isD_eq rx (.non) rfl]
    exact h.ret r _ (.bl _)
  · rename_i b
    cases ry
    refine ⟨rfl, ?_⟩
    show Q (.bl (!decide (v = .bl b))) H
    rw [isD_eq rx (.bl b) rfl]
    exact h.ret r _ (.bl _)
  · exact h.elim
end

def flat : D → Bool
  | .non | .bl _ | .int _ | .str _ => true
  | _ => false
def inD (x : D) (l : List D) : Bool := l.any fun y => eqv y x
/-- the items of a list or a tuple -/
def asS : D → C (List D)
  | .tup l => C.ret l
  | x => asL x
/-- one sign in a text -/
def inStr (c z : Str) : C Bool := match c.cps.toList with
  | [k] => C.ret (decide (k ∈ z.cps.toList))
  | _ => C.stuck
def dIn (x y : D) : C D := match x, y with
  | .str c, .str z => (inStr c z).bind fun b => C.ret (.bl b)
  | x, y => (asS y).bind fun l => if flat x && l.all flat then C.ret (.bl (inD x l)) else C.stuck
def dNotIn (x y : D) : C D := match x, y with
  | .str c, .str z => (inStr c z).bind fun b => C.ret (.bl (!b))
  | x, y => (asS y).bind fun l => if flat x && l.all flat then C.ret (.bl (!inD x l)) else C.stuck
section
variable {X : Cx} {W : WX} {K : PySem.W.Frag} {F G H : Hp} {m : Mem} {σ : L2.St}
theorem asS_of {β : Type} {v : V} {d : D} {k : List D → C β} {P : Hp → Hp → β → Prop} (r : Rel K F m G H) (rv : Rep K F v d) (h : LR K F G ((asS d).bind k) m P W σ) :
    ∃ a vs l, v = .ref a ∧ (SqL K H a vs ∨ SqT K H a vs) ∧ Reps K F vs l ∧ LR K F G (k l) m P W σ := by
  unfold asS at h
  split at h
  · rename_i l
    cases rv with
    | tup h1 h2 => exact ⟨_, _, l, rfl, .inr (r.ex.t h1), h2, h⟩
  · obtain ⟨a, vs, l, e, h1, h2, h3⟩ := asL_of r rv h
    exact ⟨a, vs, l, e, .inl (SqL.of h1), h2, h3⟩
theorem flat_rep {v : V} {d : D} (r : Rep K F v d) (h : flat d = true) : flatV v = true := by
  cases r <;> first | rfl | cases h
theorem flats_rep : ∀ {vs : List V} {ds : List D}, Reps K F vs ds → ds.all flat = true → vs.all flatV = true
  | _, _, .nil, _ => rfl
  | _, _, .cons r t, h => by
    rw [List.all_cons, Bool.and_eq_true] at h ⊢
    exact ⟨flat_rep r h.1, flats_rep t h.2⟩
theorem eqV_rep {v w : V} {x y : D} (rx : Rep K F v x) (ry : Rep K F w y) (hx : flat x = true) (hy : flat y = true) : eqV v w = eqv x y := by
  cases rx <;> first
    | (cases hx; done)
    | (cases ry <;> first
        | (cases hy; done)
        | (simp only [eqV, eqv]; done)
        | rfl)
theorem inV_rep {v : V} {x : D} (rx : Rep K F v x) (hx : flat x = true) : ∀ {vs : List V} {ds : List D}, Reps K F vs ds → ds.all flat = true → inV v vs = inD x ds
  | _, _, .nil, _ => rfl
  | _, _, .cons (v := w) (vs := ws) (d := y) (ds := l) r t, h => by
    rw [List.all_cons, Bool.and_eq_true] at h
    have ih := inV_rep rx hx t h.2
    unfold inV inD at ih ⊢
    rw [List.any_cons, List.any_cons, ih, eqV_rep r rx h.1 hx]
def rInD (K : PySem.W.Frag) (neg : Bool) : R2 := fun x y H Q => (∃ (c : Nat) (z : Str), x = .str ⟨#[c]⟩ ∧ y = .str z ∧ Q (.bl (if neg then !decide (c ∈ z.cps.toList) else decide (c ∈ z.cps.toList))) H) ∨ rIn K neg x y H Q
theorem or_in : OpR X (compareOp .In) (rInD X.K false) := op_in_sign.or op_in_seq
theorem or_notin : OpR X (compareOp .NotIn) (rInD X.K true) := op_notIn_sign.or op_notIn_seq
theorem one_sign {c : Str} {k : Nat} (h : c.cps.toList = [k]) : c = ⟨#[k]⟩ := by
  obtain ⟨a⟩ := c
  have e : a = #[k] := by
    have : a.toList = [k] := h
    rw [← Array.toArray_toList (xs := a), this]
  rw [e]
theorem inStr_of {β : Type} {c z : Str} {k : Bool → C β} {P : Hp → Hp → β → Prop} (h : LR K F G ((inStr c z).bind k) m P W σ) : ∃ n, c = ⟨#[n]⟩ ∧ LR K F G (k (decide (n ∈ z.cps.toList))) m P W σ := by
  unfold inStr at h
  split at h
  · rename_i n e
    exact ⟨n, one_sign e, h⟩
  · exact h.elim
theorem od_in : OpD X W dIn (rInD X.K false) := by
  intro F m G H σ x y v w Q r rx ry h
  unfold dIn at h
  split at h
  · rename_i c z
    obtain ⟨n, rfl, h⟩ := inStr_of h
    cases rx
    cases ry
    exact .inl ⟨n, z, rfl, rfl, h.ret r _ (.bl _)⟩
  · obtain ⟨a, vs, l, rfl, h1, h2, h⟩ := asS_of r ry h
    obtain ⟨hf, h⟩ := h.ite
    rw [Bool.and_eq_true] at hf
    refine .inr ⟨a, vs, rfl, h1, flat_rep rx hf.1, flats_rep h2 hf.2, ?_⟩
    show Q (.bl (inV v vs)) H
    rw [inV_rep rx hf.1 h2 hf.2]
    exact h.ret r _ (.bl _)
theorem od_notin : OpD X W dNotIn (rInD X.K true) := by
  intro F m G H σ x y v w Q r rx ry h
  unfold dNotIn at h
  split at h
  · rename_i c z
    obtain ⟨n, rfl, h⟩ := inStr_of h
    cases rx
    cases ry
    exact .inl ⟨n, z, rfl, rfl, h.ret r _ (.bl _)⟩
  · obtain ⟨a, vs, l, rfl, h1, h2, h⟩ := asS_of r ry h
    obtain ⟨hf, h⟩ := h.ite
    rw [Bool.and_eq_true] at hf
    refine .inr ⟨a, vs, rfl, h1, flat_rep rx hf.1, flats_rep h2 hf.2, ?_⟩
    show Q (.bl (!inV v vs)) H
    rw [inV_rep rx hf.1 h2 hf.2]
    exact h.ret r _ (.bl _)
end
end DL

namespace DL
open PySem PySem.Spec PyProof.Rows L2

def ofO {α : Type} : Option α → C α
  | some a => C.ret a
  | none => C.stuck
@[simp] theorem ofO_some {α : Type} {a : α} : ofO (some a) = C.ret a := rfl
theorem LR.ofO {K : PySem.W.Frag} {α : Type} {F G : Hp} {m : Mem} {W : WX} {σ : L2.St} {o : Option α} {P : Hp → Hp → α → Prop} (h : LR K F G (ofO o) m P W σ) : ∃ a, o = some a ∧ LR K F G (C.ret a) m P W σ := by
  cases o with
  | none => exact h.elim
  | some a => exact ⟨a, rfl, h⟩
def dIx (x y : D) : C D := match y with
  | .int i => (match x with
    | .tup l => ofO (atI l i)
    | .str z => if z.length ≤ sizeLine then ofO ((atI z.cps.toList i).map fun c => D.str ⟨#[c]⟩) else C.stuck
    | x => (asL x).bind fun l => ofO (atI l i))
  | _ => C.stuck
def cutD (xs : List D) (lo hi : Option Int) : List D := (xs.drop (HT.sIx xs.length 0 lo)).take (HT.sIx xs.length xs.length hi - HT.sIx xs.length 0 lo)
def dSl (x : D) (lo hi : Option Int) : C D := match x with
  | .tup l => C.ret (.tup (cutD l lo hi))
  | .str z => if z.length ≤ sizeLine then C.ret (.str (cutS z lo hi)) else C.stuck
  | .scr l => C.ret (.lst (cutD (l.map D.int) lo hi))
  | x => (asL x).bind fun l => C.ret (.lst (cutD l lo hi))
abbrev DO := DSt → C (Option Int)
def oNone : DO := fun _ => C.ret none
def oSome (e : DE) : DO := fun δ => (e δ).bind fun d => match d with
  | .int i => C.ret (some i)
  | _ => C.stuck
def eSl (e : DE) (lo hi : DO) : DE := fun δ => (e δ).bind fun x => (lo δ).bind fun l => (hi δ).bind fun u => dSl x l u
section
variable {X : Cx} {W : WX} {K : PySem.W.Frag} {F G H : Hp} {m : Mem} {σ : L2.St}
theorem Reps.atI {vs : List V} {ds : List D} {i : Int} {d : D} (r : Reps K F vs ds) (h : L2.atI ds i = some d) : ∃ v, L2.atI vs i = some v ∧ Rep K F v d := by
  unfold L2.atI at h ⊢
  rw [r.length]
  cases e : ixN ds.length i with
  | none => rw [e] at h; cases h
  | some j =>
    rw [e] at h
    exact r.get h
theorem Reps.cut {vs : List V} {ds : List D} (r : Reps K F vs ds) (lo hi : Option Int) : Reps K F (cutV vs lo hi) (cutD ds lo hi) := by
  unfold cutV cutD
  rw [r.length]
  exact (r.drop _).take _
theorem strOk_sign {z : Str} {i : Int} {c : Nat} (h : PyData.strOk z = true) (hc : L2.atI z.cps.toList i = some c) : PyData.strOk ⟨#[c]⟩ = true := by
  obtain ⟨j, _, h2, _⟩ := atI_get hc
  unfold PyData.strOk at h ⊢
  have hm := List.mem_of_getElem? h2
  rw [Array.all_eq_true_iff_forall_mem] at h
  simp only [Array.all_eq_true_iff_forall_mem]
  intro x hx
  have e : x = c := by simpa using hx
  subst e
  exact h x (by simpa using hm)
theorem od_ix : OpD X W dIx (rIx X.K) := by
  intro F m G H σ x y v w Q r rx ry h
  unfold dIx at h
  split at h
  · rename_i i
    cases ry
    split at h
    · rename_i l
      obtain ⟨d, e, h⟩ := h.ofO
      cases rx with
      | tup h1 h2 =>
        obtain ⟨u, e2, ru⟩ := h2.atI e
        exact .inr (.inl ⟨_, _, i, u, rfl, rfl, r.ex.t h1, e2, h.ret r _ ru⟩)
    · rename_i z
      obtain ⟨hl, h⟩ := h.ite
      obtain ⟨d, e, h⟩ := h.ofO
      cases rx with
      | str _ hz =>
        obtain ⟨c, e2, e3⟩ := Option.map_eq_some_iff.mp e
        subst e3
        exact .inr (.inr ⟨z, i, c, rfl, rfl, hl, e2, h.ret r _ (.str _ (strOk_sign hz e2))⟩)
    · obtain ⟨a, vs, l, rfl, h1, h2, h⟩ := asL_of r rx h
      obtain ⟨d, e, h⟩ := h.ofO
      obtain ⟨u, e2, ru⟩ := h2.atI e
      exact .inl ⟨_, _, i, u, rfl, rfl, SqL.of h1, e2, h.ret r _ ru⟩
  · exact h.elim
theorem je_ix {a b : Expr} {ca cb : DE} {pos : Pos} (ha : JE X W a ca) (hb : JE X W b cb) (hs : PlainIx b := by exact fun _ _ => rfl) : JE X W (.Subscript a b pos) (eOp dIx ca cb) :=
  (pe_ix ix_seq ha hb hs).dimp fun σ H Q ⟨F, m, G, δ, rl, s, h⟩ => ⟨F, m, G, δ, rl, s, (LR.bind h).imp fun F1 H1 _ x e1 _ ⟨m1, r1, h1⟩ v rv => ⟨F1, m1, G, δ, r1, s.mono e1, (LR.bind h1).imp fun F2 H2 _ y e2 _ ⟨m2, r2, h2⟩ w rw =>
    od_ix F2 m2 G H2 σ x y v w Q r2 (rv.mono e2) rw h2⟩⟩
def tO (K : PySem.W.Frag) (W : WX) (e : DO) : TO := fun σ H Q => ∃ F m G δ, Rel K F m G H ∧ SRel K F σ δ ∧ LR K F G (e δ) m (fun _ H' o => Q o H') W σ
theorem _root_.L2.PO.dimp {e : Option Expr} {t t' : TO} (h : PO X e t) (k : ∀ σ H Q, t' σ H Q → t σ H Q) : PO X e t' := ⟨fun pins s σ H Q I q => h.run pins s σ H Q I (k σ H Q q)⟩
def JO (X : Cx) (W : WX) (e : Option Expr) (c : DO) : Prop := PO X e (tO X.K W c)
theorem jo_none : JO X W none oNone := po_none.dimp fun _ _ _ ⟨_, _, _, _, r, _, h⟩ => h.ret r
theorem jo_some {e : Expr} {ce : DE} (he : JE X W e ce) : JO X W (some e) (oSome ce) := (po_some he).dimp fun σ H Q ⟨F, m, G, δ, rl, s, h⟩ => ⟨F, m, G, δ, rl, s, (LR.bind h).imp fun F1 H1 _ x e1 _ ⟨m1, r1, h1⟩ v rv => by
  cases x with
  | int i =>
    cases rv
    exact ⟨i, rfl, h1.ret r1⟩
  | _ => exact h1.elim⟩
def rSlD (K : PySem.W.Frag) : V → Option Int → Option Int → Hp → VK → Prop := fun x lo hi H Q => rSlA K x lo hi H Q ∨ (∃ z, x = .str z ∧ z.length ≤ sizeLine ∧ Q (.str (cutS z lo hi)) H) ∨ rSlL K x lo hi H Q
theorem sr_sl : SlR X (rSlD X.K) := sl_tupA.or (sl_str.or sl_list)
theorem strOk_cut {z : Str} {lo hi : Option Int} (h : PyData.strOk z = true) : PyData.strOk (cutS z lo hi) = true := by
  unfold PyData.strOk at h ⊢
  rw [Array.all_eq_true_iff_forall_mem] at h ⊢
  intro x hx
  refine h x ?_
  unfold cutS at hx
  have h2 : x ∈ ((z.cps.toList.drop (HT.sIx z.length 0 lo)).take (HT.sIx z.length z.length hi - HT.sIx z.length 0 lo)) := by simpa using hx
  have h3 := List.mem_of_mem_drop (List.mem_of_mem_take h2)
  simpa using h3
theorem cut_whole {l : List D} {lo hi : Option Int} (h : HT.sIx l.length 0 lo = 0 ∧ HT.sIx l.length l.length hi = l.length) : cutD l lo hi = l := by
  unfold cutD
  rw [h.1, h.2]
  simp
theorem od_sl {F G H : Hp} {m : Mem} {σ : L2.St} {x : D} {v : V} {lo hi : Option Int} {Q : VK} (r : Rel X.K F m G H) (rx : Rep X.K F v x) (h : LR X.K F G (dSl x lo hi) m (fun F' H' d => ∀ v, Rep X.K F' v d → Q v H') W σ) : rSlD X.K v lo hi H Q := by
  unfold dSl at h
  split at h
  · rename_i l
    cases rx with
    | @tup a vs _ h1 h2 =>
      refine .inl ⟨a, vs, rfl, r.ex.t h1, fun hw => ?_, fun hw p hp => ?_⟩
      · rw [h2.length] at hw
        have q := h.ret r (.ref a)
        rw [cut_whole hw] at q
        exact q (.tup h1 h2)
      · have e := Ex.new (o := .tup (cutV vs lo hi)) (r.fresh hp).2
        exact h.retE e (r.newF hp _) _ (.tup (SqT.of upd_same) ((h2.cut lo hi).mono e))
  · rename_i z
    obtain ⟨hl, h⟩ := h.ite
    cases rx with
    | str _ hz => exact .inr (.inl ⟨z, rfl, hl, h.ret r _ (.str _ (strOk_cut hz))⟩)
  · rename_i l
    cases rx with
    | @scr a _ h1 =>
      refine .inr (.inr ⟨a, _, rfl, r.ex.l h1, fun p hp => ?_⟩)
      have e := Ex.new (o := .lst (cutV (l.map V.int) lo hi)) (r.fresh hp).2
      have hr : Reps X.K F (l.map V.int) (l.map D.int) := by
        clear h h1 e
        induction l with
        | nil => exact .nil
        | cons a l ih => exact .cons (.int a) ih
      exact h.retE e (r.newF hp _) _ (.lst upd_same ((hr.cut lo hi).mono e))
  · obtain ⟨a, vs, l, rfl, h1, h2, h⟩ := asL_of r rx h
    refine .inr (.inr ⟨a, vs, rfl, SqL.of h1, fun p hp => ?_⟩)
    have e := Ex.new (o := .lst (cutV vs lo hi)) (r.fresh hp).2
    exact h.retE e (r.newF hp _) _ (.lst upd_same ((h2.cut lo hi).mono e))
theorem je_sl {e : Expr} {lo hi : Option Expr} {ce : DE} {cl ch : DO} {p2 pos : Pos} (he : JE X W e ce) (hl : JO X W lo cl) (hh : JO X W hi ch) : JE X W (.Subscript e (.Slice lo hi none p2) pos) (eSl ce cl ch) :=
  (pe_slice sr_sl he hl hh).dimp fun σ H Q ⟨F, m, G, δ, rl, s, h⟩ => ⟨F, m, G, δ, rl, s, (LR.bind h).imp fun F1 H1 _ x e1 _ ⟨m1, r1, h1⟩ v rv => ⟨F1, m1, G, δ, r1, s.mono e1, (LR.bind h1).imp fun F2 H2 _ l e2 _ ⟨m2, r2, h2⟩ =>
    ⟨F2, m2, G, δ, r2, (s.mono e1).mono e2, (LR.bind h2).imp fun F3 H3 _ u e3 _ ⟨m3, r3, h3⟩ => od_sl r3 ((rv.mono e2).mono e3) h3⟩⟩⟩

def mkTup (l : List D) : C D := if l.length ≤ sizeLine then C.ret (.tup l) else C.stuck
/-- a list that is never changed -/
def mkLst (l : List D) : C D := if l.length ≤ sizeLine then C.ret (.lst l) else C.stuck
def C.new (o : MO) : C D := ⟨fun m Q _ => ∀ p, m p = none → Q (.ref p) (mset m p o), fun hQ _ h p hp => hQ _ _ (h p hp)⟩
/-- a list that may be changed -/
def mkRef (l : List D) : C D := if l.length ≤ sizeLine then C.new (.lst l) else C.stuck
@[simp] theorem C.run_new {o : MO} {m : Mem} {Q : D → Mem → Prop} {E : Xn → Mem → Prop} : (C.new o).run m Q E = ∀ p, m p = none → Q (.ref p) (mset m p o) := rfl
variable {es : List Expr} {ca : DA} {pos : Pos}
theorem je_tup {x1 : Nat} (h : JA X W es ca) : JE X W (.Tuple es x1 pos) (eApp mkTup ca) :=
  (pe_tup h).dimp fun σ H Q ⟨F, m, G, δ, rl, s, h⟩ => ⟨F, m, G, δ, rl, s, (LR.bind h).imp fun F1 H1 _ xs e1 _ ⟨m1, r1, h1⟩ vs rv => by
    obtain ⟨hl, h1⟩ := LR.ite h1
    refine ⟨by rw [rv.length]; exact hl, fun p hp => ?_⟩
    have e := Ex.new (o := .tup vs) (r1.fresh hp).2
    exact h1.retE e (r1.newF hp _) _ (.tup (SqT.of upd_same) (rv.mono e))⟩
theorem je_lstV (h : JA X W es ca) : JE X W (.List es pos) (eApp mkLst ca) :=
  (pe_lst h).dimp fun σ H Q ⟨F, m, G, δ, rl, s, h⟩ => ⟨F, m, G, δ, rl, s, (LR.bind h).imp fun F1 H1 _ xs e1 _ ⟨m1, r1, h1⟩ vs rv => by
    obtain ⟨hl, h1⟩ := LR.ite h1
    refine ⟨by rw [rv.length]; exact hl, fun p hp => ?_⟩
    have e := Ex.new (o := .lst vs) (r1.fresh hp).2
    exact h1.retE e (r1.newF hp _) _ (.lst upd_same (rv.mono e))⟩
theorem je_lstM (h : JA X W es ca) : JE X W (.List es pos) (eApp mkRef ca) :=
  (pe_lst h).dimp fun σ H Q ⟨F, m, G, δ, rl, s, h⟩ => ⟨F, m, G, δ, rl, s, (LR.bind h).imp fun F1 H1 _ xs e1 _ ⟨m1, r1, h1⟩ vs rv => by
    obtain ⟨hl, h1⟩ := LR.ite h1
    refine ⟨by rw [rv.length]; exact hl, fun p hp => ?_⟩
    exact h1 p (r1.fresh hp).1 F1 _ (Ex.refl F1) (r1.putL (r1.fresh hp).2 (r1.freshG hp) rv) _ (.ref p)⟩

def frz : D → C D
  | .ref a => ⟨fun m Q _ => match m a with
    | some (.lst l) => Q (.lst l) (mdel m a)
    | some (.ins c fs) => Q (.obj c fs) (mdel m a)
    | some (.dic l) => Q (.dic l) (mdel m a)
    | none => False, fun {m Q Q' E E'} hQ _ h => by
      cases e : m a with
      | none => simp only [e] at h
      | some o =>
        cases o with
        | lst l => simp only [e] at h ⊢; exact hQ _ _ h
        | ins c fs => simp only [e] at h ⊢; exact hQ _ _ h
        | dic l => simp only [e] at h ⊢; exact hQ _ _ h⟩
  | _ => C.stuck
theorem run_frz {a : Addr} {l : List D} {m : Mem} {Q : D → Mem → Prop} {E : Xn → Mem → Prop} (h : m a = some (.lst l)) : (frz (.ref a)).run m Q E = Q (.lst l) (mdel m a) := by
  show (match m a with | some (.lst l) => Q (.lst l) (mdel m a) | some (.ins c fs) => Q (.obj c fs) (mdel m a) | some (.dic l) => Q (.dic l) (mdel m a) | none => False) = _
  rw [h]
theorem run_frzI {a : Addr} {c : Str} {fs : List (Str × D)} {m : Mem} {Q : D → Mem → Prop} {E : Xn → Mem → Prop} (h : m a = some (.ins c fs)) : (frz (.ref a)).run m Q E = Q (.obj c fs) (mdel m a) := by
  show (match m a with | some (.lst l) => Q (.lst l) (mdel m a) | some (.ins c fs) => Q (.obj c fs) (mdel m a) | some (.dic l) => Q (.dic l) (mdel m a) | none => False) = _
  rw [h]
theorem frz_of {F G H : Hp} {m : Mem} {σ : L2.St} {d : D} {v : V} {Q : VK} (r : Rel K F m G H) (rv : Rep K F v d) (h : LR K F G (frz d) m (fun F' H' d => ∀ v, Rep K F' v d → Q v H') W σ) : Q v H := by
  cases d with
  | ref a =>
    cases rv
    unfold LR at h
    have h2 : (match m a with
      | some (.lst l) => (fun (a : D) (m' : Mem) => ∀ F' H', Ex F F' → Rel K F' m' G H' → ∀ v, Rep K F' v a → Q v H') (.lst l) (mdel m a)
      | some (.ins c fs) => (fun (a : D) (m' : Mem) => ∀ F' H', Ex F F' → Rel K F' m' G H' → ∀ v, Rep K F' v a → Q v H') (.obj c fs) (mdel m a)
      | some (.dic l) => (fun (a : D) (m' : Mem) => ∀ F' H', Ex F F' → Rel K F' m' G H' → ∀ v, Rep K F' v a → Q v H') (.dic l) (mdel m a)
      | none => False) := h
    cases e : m a with
    | none => rw [e] at h2; exact h2.elim
    | some o =>
      rw [e] at h2
      obtain ⟨h3, h4⟩ := r.mm a o e
      cases o with
      | lst l =>
        obtain ⟨vs, h5, h6⟩ := h3
        have ex := Ex.new (o := .lst vs) h4
        exact h2 _ _ ex (r.freeze h5 h4 (r.gm e)) _ (.lst upd_same (h6.mono ex))
      | ins c fs =>
        obtain ⟨dx, vs, h5, h6⟩ := h3
        have ex := Ex.new (o := .ins (He.ga K c) dx vs) h4
        exact h2 _ _ ex (r.freeze h5 h4 (r.gm e)) _ (.obj upd_same (h6.mono ex))
      | dic l =>
        obtain ⟨vs, h5, h6⟩ := h3
        have ex := Ex.new (o := .dK vs) h4
        exact h2 _ _ ex (r.freeze h5 h4 (r.gm e)) _ (.dic upd_same (h6.mono ex))
  | _ => exact h.elim
/-- e, frozen -/
theorem je_frz {e : Expr} {ce : DE} (he : JE X W e ce) : JE X W e (eUn frz ce) := by
  refine PE.dimp he fun σ H Q ⟨F, m, G, δ, rl, s, h⟩ => ⟨F, m, G, δ, rl, s, (LR.bind h).imp fun F1 H1 _ x e1 _ ⟨m1, r1, h1⟩ v rv => frz_of r1 rv h1⟩
end
end DL

namespace DL
open PySem PySem.Spec PyProof.Rows L2

abbrev DG := D → DSt → C DSt
def gN (i : Nat) : DG := fun d δ => C.ret (δ.set i (some d))
def gsNil : List D → DSt → C DSt := fun l δ => match l with
  | [] => C.ret δ
  | _ => C.stuck
def gsCons (g : DG) (r : List D → DSt → C DSt) : List D → DSt → C DSt := fun l δ => match l with
  | [] => C.stuck
  | d :: l => (g d δ).bind fun δ' => r l δ'
def gT (r : List D → DSt → C DSt) : DG := fun d δ => match d with
  | .tup l => r l δ
  | _ => C.stuck
def tGd (K : PySem.W.Frag) (W : WX) (g : DG) : TG := fun v σ H Q => ∃ F m G δ d, Rel K F m G H ∧ SRel K F σ δ ∧ Rep K F v d ∧ LR K F G (g d δ) m (fun F' H' δ' => ∀ σ', SRel K F' σ' δ' → Q σ' H') W σ
def tGs (K : PySem.W.Frag) (W : WX) (g : List D → DSt → C DSt) : TGs := fun vs σ H Q => ∃ F m G δ ds, Rel K F m G H ∧ SRel K F σ δ ∧ Reps K F vs ds ∧ LR K F G (g ds δ) m (fun F' H' δ' => ∀ σ', SRel K F' σ' δ' → Q σ' H') W σ
section
variable {X : Cx} {W : WX}
theorem _root_.L2.PG.dimp {e : Expr} {t t' : TG} (h : PG X e t) (k : ∀ v σ H Q, t' v σ H Q → t v σ H Q) : PG X e t' := ⟨fun pins s σ H v u Q I r q => h.run pins s σ H v u Q I r (k v σ H Q q)⟩
theorem _root_.L2.PGs.dimp {es : List Expr} {t t' : TGs} (h : PGs X es t) (k : ∀ v σ H Q, t' v σ H Q → t v σ H Q) : PGs X es t' := ⟨fun pins s σ H vs us Q I r q => h.run pins s σ H vs us Q I r (k vs σ H Q q)⟩
def JG (X : Cx) (W : WX) (e : Expr) (g : DG) : Prop := PG X e (tGd X.K W g)
def JGs (X : Cx) (W : WX) (es : List Expr) (g : List D → DSt → C DSt) : Prop := PGs X es (tGs X.K W g)
variable {e : Expr} {es : List Expr} {g : DG} {gr : List D → DSt → C DSt} {pos : Pos} {ce : DE}
theorem jg_name {i : Nat} {x : Str} (hN : X.N.Nodup) (hi : X.N[i]? = some x) (hx : Loc X.env.scope x) (hf : X.fn x = true ∨ X.env.scope.names.lookup x = some .local := by first | exact .inl rfl | exact .inr rfl | assumption) : JG X W (.Name x pos) (gN i) :=
  (pg_name hN hi hx hf).dimp fun v σ H Q ⟨F, m, G, δ, d, r, s, rv, h⟩ => h.ret r _ (s.set rv i)
theorem jgs_nil : JGs X W [] gsNil := pgs_nil.dimp fun vs σ H Q ⟨F, m, G, δ, ds, r, s, rv, h⟩ => by
  cases rv with
  | nil => exact ⟨rfl, h.ret r _ s⟩
  | cons _ _ => exact h.elim
theorem jgs_cons (h1 : JG X W e g) (h2 : JGs X W es gr) (hs : (assignEach (e :: es) X.env).map (·.2) = assign e X.env :: (assignEach es X.env).map (·.2) := by rfl)
    (hW : ∀ c d σ σ' H, W c d σ H → W c d σ' H) : JGs X W (e :: es) (gsCons g gr) := (pgs_cons h1 h2 hs).dimp fun vs σ H Q ⟨F, m, G, δ, ds, r, s, rv, h⟩ => by
  cases rv with
  | nil => exact h.elim
  | cons rd rt =>
    refine ⟨_, _, rfl, F, m, G, δ, _, r, s, rd, (LR.bind h).imp fun F1 H1 _ δ1 e1 _ ⟨m1, r1, h1⟩ σ1 s1 => ⟨F1, m1, G, δ1, _, r1, s1, rt.mono e1, ?_⟩⟩
    exact C.mono _ (fun _ _ q => q) (fun x m' q F' H' c d e r q2 => hW _ _ _ _ _ (q F' H' c d e r q2)) h1
theorem jg_tup {k : Nat} {n : Nat} (hc : X.calm = true) (h : JGs X W es gr) (hlen : ∀ (l : List D) (δ : DSt), l.length ≠ n → gr l δ = C.stuck)
    (hn : (assignEach es X.env).length = n := by rfl) (hst : (assignEach es X.env).findIdx? (·.1) = none := by rfl) : JG X W (.Tuple es k pos) (gT gr) :=
  (pg_tup hc h hn hst).dimp fun v σ H Q ⟨F, m, G, δ, d, r, s, rv, h⟩ => by
    cases d with
    | tup l =>
      cases rv with
      | tup h1 h2 =>
        by_cases hl : l.length = n
        · exact ⟨_, _, rfl, r.ex.t h1, by rw [h2.length]; exact hl, F, m, G, δ, l, r, s, h2, h⟩
        · have h3 : LR X.K F G (gr l δ) m _ W σ := h
          rw [hlen l δ hl] at h3
          exact h3.elim
    | _ => exact h.elim
/-- assignment to any target -/
def sAsgG (e : DE) (g : DG) : CS := ⟨fun δ m K => (e δ).run m (fun d m' => (g d δ).run m' (fun δ' m'' => K.nx δ' m'') (fun x m'' => K.ex x δ m'')) (fun x m' => K.ex x δ m'), fun l h => C.mono _ (fun _ _ q => C.mono _ (fun _ _ q => l.nx _ _ q) (fun _ _ q => l.ex _ _ _ q) q) (fun _ _ q => l.ex _ _ _ q) h⟩
@[simp] theorem run_asgG {e : DE} {g : DG} {δ : DSt} {m : Mem} {K : Kt} : (sAsgG e g).run δ m K = (e δ).run m (fun d m' => (g d δ).run m' (fun δ' m'' => K.nx δ' m'') (fun x m'' => K.ex x δ m'')) (fun x m' => K.ex x δ m') := rfl
theorem js_asgG {tg : Expr} (he : JE X W e ce) (hg : JG X W tg g) (hs : swapsWithSole [tg] e pos.line X.env = pure false := by rfl) (hw : swappedStores [tg] e X.env = pure none := by rfl)
    (h1 : (assignEach [tg] X.env).map (·.2) = [assign tg X.env] := by rfl) : JS X W (.Assign [tg] e pos) (sAsgG ce g) :=
  (ps_asg he hg hs hw h1).dimp fun E σ H ⟨F, m, G, δ, r, s, h⟩ => ⟨F, m, G, δ, r, s, C.mono _ (fun d m' q F' H' e' r' v rv => ⟨F', m', G, δ, d, r', s.mono e', rv, C.mono _ (fun δ' m'' q2 F2 H2 e2 r2 σ2 s2 => q2 F2 H2 σ2 (e'.trans e2) r2 s2) (fun x m'' q2 => liftX_of (E := E) (s.mono e') fun F2 H2 σ2 c d e2 => q2 F2 H2 σ2 c d (e'.trans e2)) q⟩) (fun x m' q => liftX_of s q) h⟩
end

abbrev DI := DSt → C (List D × Option Addr)
def stay (m : Mem) (l : List D) : Option Addr → Prop
  | none => True
  | some a => m a = some (.lst l)
def Kt.loop (K : Kt) (N : DSt → Mem → Prop) : Kt := ⟨N, K.rt, K.nx, N, K.ex⟩
@[simp] theorem Kt.loop_nx {K : Kt} {N : DSt → Mem → Prop} : (K.loop N).nx = N := rfl
@[simp] theorem Kt.loop_rt {K : Kt} {N : DSt → Mem → Prop} : (K.loop N).rt = K.rt := rfl
@[simp] theorem Kt.loop_bk {K : Kt} {N : DSt → Mem → Prop} : (K.loop N).bk = K.nx := rfl
@[simp] theorem Kt.loop_ct {K : Kt} {N : DSt → Mem → Prop} : (K.loop N).ct = N := rfl
@[simp] theorem Kt.loop_ex {K : Kt} {N : DSt → Mem → Prop} : (K.loop N).ex = K.ex := rfl
def forD (w : List D) (o : Option Addr) (g : DG) (b : CS) (K : Kt) : List D → DSt → Mem → Prop
  | [], δ, m => stay m w o ∧ K.nx δ m
  | x :: r, δ, m => stay m w o ∧ (g x δ).run m (fun δ' m' => b.run δ' m' (K.loop (forD w o g b K r))) (fun x m' => K.ex x δ m')
theorem forD.mono {w : List D} {o : Option Addr} {g : DG} {b : CS} {A B : Kt} (l : A.Le B) : ∀ {r : List D} {δ : DSt} {m : Mem}, forD w o g b A r δ m → forD w o g b B r δ m
  | [], _, _, h => ⟨h.1, l.nx _ _ h.2⟩
  | x :: r, δ, m, h => ⟨h.1, C.mono _ (fun δ' m' q => b.mono (A := A.loop (forD w o g b A r)) ⟨fun _ _ q2 => forD.mono l q2, l.rt, l.nx, fun _ _ q2 => forD.mono l q2, l.ex⟩ q) (fun _ _ q => l.ex _ _ _ q) h.2⟩
def sFor (it : DI) (g : DG) (b : CS) : CS := ⟨fun δ m K => (it δ).run m (fun lo m' => forD lo.1 lo.2 g b K lo.1 δ m') (fun x m' => K.ex x δ m'), fun l h => C.mono _ (fun _ _ q => forD.mono l q) (fun _ _ q => l.ex _ _ _ q) h⟩
@[simp] theorem run_for {it : DI} {g : DG} {b : CS} {δ : DSt} {m : Mem} {K : Kt} : (sFor it g b).run δ m K = (it δ).run m (fun lo m' => forD lo.1 lo.2 g b K lo.1 δ m') (fun x m' => K.ex x δ m') := rfl
/-- the iterator J gives the items l -/
structure ItOk (K : PySem.W.Frag) (F : Hp) (J : It) (l : List D) (o : Option Addr) : Prop where
  go : ∀ i F' m G H, i < l.length → Ex F F' → Rel K F' m G H → stay m l o → J.go i H
  yld : ∀ i F' m G H x H' d, Ex F F' → Rel K F' m G H → stay m l o → J.yld i H x H' → l[i]? = some d → ∃ F'', Ex F' F'' ∧ Rel K F'' m G H' ∧ Rep K F'' x d
  stop : ∀ F' m G H, Ex F F' → Rel K F' m G H → stay m l o → J.stop l.length H
def tI (K : PySem.W.Frag) (W : WX) (it : DI) : TI := fun σ H R => ∃ F m G δ, Rel K F m G H ∧ SRel K F σ δ ∧ LR K F G (it δ) m (fun F' H' lo => ∀ J, ItOk K F' J lo.1 lo.2 → R J H') W σ
def JI (X : Cx) (W : WX) (tg iter : Expr) (it : DI) : Prop := PI X tg iter (tI X.K W it)
section
variable {X : Cx} {W : WX}
theorem _root_.L2.PI.dimp {tg e : Expr} {t t' : TI} (h : PI X tg e t) (k : ∀ σ H R, t' σ H R → t σ H R) : PI X tg e t' := ⟨fun pins s σ H R I q => h.run pins s σ H R I (k σ H R q)⟩
theorem js_for {tg iter : Expr} {body : List Stmt} {it : DI} {g : DG} {b : CS} {pos : Pos} (hp : PassesOwn (model X.prog X.w) X.A X.env X.xe) (hc : X.calm = true) (hi : JI X W tg iter it) (hg : JG X W tg g) (hb : JB X W body b)
    (hs : ∀ v, foldedSetIterable iter X.env v = pure v := by intro _; rfl) : JS X W (.For tg iter body [] pos) (sFor it g b) := by
  refine PS.dimp (ps_for hp hc hi hg hb hs) fun E σ H ⟨F, m, G, δ, r, s, h⟩ => ⟨F, m, G, δ, r, s, ?_⟩
  refine C.mono _ (fun lo m' q F1 H1 e1 r1 J hJ => ?_) (fun x m' q => liftX_of s q) h
  obtain ⟨l, o⟩ := lo
  have dr : ∀ i (x : D), l[i]? = some x → l.drop i = x :: l.drop (i + 1) := fun i x e => by
    obtain ⟨hi, e⟩ := List.getElem?_eq_some_iff.mp e
    rw [List.drop_eq_getElem_cons hi, e]
  refine ⟨fun i n σ' H' => n = l.length - i ∧ i ≤ l.length ∧ ∃ F2 m2 δ2, Ex F1 F2 ∧ Rel X.K F2 m2 G H' ∧ SRel X.K F2 σ' δ2 ∧ forD l o g b (liftK X.K F G W E) (l.drop i) δ2 m2,
    ⟨l.length, by simp, Nat.zero_le _, F1, m', δ, Ex.refl F1, r1, s.mono e1, q⟩, ?_⟩
  rintro i n σ' H' ⟨rfl, hi, F2, m2, δ2, e2, r2, s2, q2⟩
  by_cases hlt : i < l.length
  · have ex : l[i]? = some l[i] := List.getElem?_eq_getElem hlt
    rw [dr i _ ex] at q2
    obtain ⟨st, q3⟩ := q2
    refine .inr ⟨hJ.go i F2 m2 G H' hlt e2 r2 st, fun σ3 H3 => ∃ F3 m3 δ3, Ex F1 F3 ∧ Rel X.K F3 m3 G H3 ∧ SRel X.K F3 σ3 δ3 ∧ forD l o g b (liftK X.K F G W E) (l.drop (i + 1)) δ3 m3,
      fun σ3 H3 q => ⟨l.length - (i + 1), by omega, rfl, hlt, q⟩, fun x H3 y => ?_⟩
    obtain ⟨F3, e3, r3, rx⟩ := hJ.yld i F2 m2 G H' x H3 _ e2 r2 st y ex
    refine ⟨F3, m2, G, δ2, _, r3, s2.mono e3, rx, C.mono _ (fun δ4 m4 q4 F4 H4 e4 r4 σ4 s4 => ⟨F4, m4, G, δ4, r4, s4, b.mono ?_ q4⟩) (fun x m4 q4 => liftX_of (E := E) (s2.mono e3) fun F5 H5 σ5 c d e5 => q4 F5 H5 σ5 c d (((e1.trans e2).trans e3).trans e5)) q3⟩
    have e04 : Ex F F4 := ((e1.trans e2).trans e3).trans e4
    exact ⟨fun δ5 m5 q5 F5 H5 σ5 e5 r5 s5 => ⟨F5, m5, δ5, ((e2.trans e3).trans e4).trans e5, r5, s5, q5⟩, fun d m5 q5 F5 H5 v e5 => q5 F5 H5 v (e04.trans e5), fun δ5 m5 q5 F5 H5 σ5 e5 => q5 F5 H5 σ5 (e04.trans e5),
      fun δ5 m5 q5 F5 H5 σ5 e5 r5 s5 => ⟨F5, m5, δ5, ((e2.trans e3).trans e4).trans e5, r5, s5, q5⟩, fun x δ5 m5 q5 F5 H5 σ5 c d e5 => q5 F5 H5 σ5 c d (e04.trans e5)⟩
  · have en : i = l.length := by omega
    subst en
    rw [List.drop_length] at q2
    obtain ⟨st, q3⟩ := q2
    exact .inl ⟨hJ.stop F2 m2 G H' e2 r2 st, q3 F2 H' σ' (e1.trans e2) r2 s2⟩
end
end DL

namespace DL
open PySem PySem.Spec PyProof.Rows L2

def seqI : D → C (List D × Option Addr)
  | .tup l => C.ret (l, none)
  | .lst l => C.ret (l, none)
  | .ref a => C.look a fun o => match o with
    | .lst l => C.ret (l, some a)
    | _ => C.stuck
  | _ => C.stuck
@[simp] theorem seqI_tup {l : List D} : seqI (.tup l) = C.ret (l, none) := rfl
@[simp] theorem seqI_lst {l : List D} : seqI (.lst l) = C.ret (l, none) := rfl
theorem run_seqI_ref {a : Addr} {l : List D} {m : Mem} {Q : List D × Option Addr → Mem → Prop} {E : Xn → Mem → Prop} (h : m a = some (.lst l)) : (seqI (.ref a)).run m Q E = Q (l, some a) m := by
  show (C.look a _).run m Q E = _
  rw [C.run_look h]
  rfl
def iSeq (e : DE) : DI := fun δ => (e δ).bind seqI
section
variable {X : Cx} {W : WX} {K : PySem.W.Frag} {F G H : Hp} {m : Mem} {σ : L2.St}
theorem pi_seq {tg l : Expr} {tl : TE} (hl : PE X l tl) : PI X tg l (fun σ H R => tl σ H fun x H1 => ∃ a, x = .ref a ∧ (((∃ xs, SqL X.K H1 a xs) ∧ R (Itl X.K a) H1) ∨ ((∃ xs, SqT X.K H1 a xs) ∧ R (Itt X.K a) H1))) := by
  refine ⟨fun pins s σ H R I h => thn (hl.run pins s σ H _ I h) fun v s1 ⟨x, H1, I1, r1, a, ex, q1⟩ => ?_⟩
  subst ex
  cases r1
  rcases q1 with ⟨⟨xs, hq⟩, q⟩ | ⟨⟨xs, hq⟩, q⟩
  · obtain ⟨its, rv, p, hz⟩ := I1.list hq
    exact wpAny_pyIter_list p.isList (pi_one (tk := s1.toks) I1 _ (turn_list a _) ⟨_, Heap.get?_push_size _ rfl, rfl, rfl⟩ q)
  · obtain ⟨its, rv, p, hz⟩ := I1.tuple hq
    exact wpAny_pyIter_tuple (show s1.heap.IsTuple a its.toArray from p) (pi_one (tk := s1.toks) I1 _ (turn_tuple a _) ⟨_, Heap.get?_push_size _ rfl, rfl, rfl⟩ q)
theorem itt_ok {F : Hp} {a : Addr} {vs : List V} {l : List D} (h : SqT K F a vs) (r : Reps K F vs l) : ItOk K F (Itt K a) l none where
  go := fun i F' m G H hi e rl _ => by
    obtain ⟨v, e1⟩ : ∃ v, vs[i]? = some v := ⟨vs[i]'(by rw [r.length]; exact hi), List.getElem?_eq_getElem _⟩
    exact ⟨vs, v, rl.ex.t (e.t h), e1⟩
  yld := fun i F' m G H x H' d e rl _ y hd => by
    obtain ⟨rfl, y⟩ := y
    obtain ⟨v, e1, rv⟩ := r.get hd
    have e2 := y vs (rl.ex.t (e.t h))
    rw [e1] at e2
    cases e2
    exact ⟨F', Ex.refl F', rl, rv.mono e⟩
  stop := fun F' m G H e rl _ => ⟨vs, rl.ex.t (e.t h), by rw [r.length]; exact Nat.le_refl _⟩
theorem itm_ok {F : Hp} {a : Addr} {l : List D} : ItOk K F (Itl K a) l (some a) where
  go := fun i F' m G H hi e rl st => by
    obtain ⟨⟨vs, h1, r⟩, _⟩ := rl.mm a _ st
    obtain ⟨v, e1⟩ : ∃ v, vs[i]? = some v := ⟨vs[i]'(by rw [r.length]; exact hi), List.getElem?_eq_getElem _⟩
    exact ⟨vs, v, SqL.of h1, e1⟩
  yld := fun i F' m G H x H' d e rl st y hd => by
    obtain ⟨⟨vs, h1, r⟩, _⟩ := rl.mm a _ st
    obtain ⟨rfl, y⟩ := y
    obtain ⟨v, e1, rv⟩ := r.get hd
    have e2 := y vs (SqL.of h1)
    rw [e1] at e2
    cases e2
    exact ⟨F', Ex.refl F', rl, rv⟩
  stop := fun F' m G H e rl st => by
    obtain ⟨⟨vs, h1, r⟩, _⟩ := rl.mm a _ st
    exact ⟨vs, SqL.of h1, by rw [r.length]; exact Nat.le_refl _⟩
theorem seqI_of {v : V} {d : D} {R : It → Hp → Prop} (r : Rel K F m G H) (rv : Rep K F v d) (h : LR K F G (seqI d) m (fun F' H' lo => ∀ J, ItOk K F' J lo.1 lo.2 → R J H') W σ) :
    ∃ a, v = .ref a ∧ (((∃ xs, SqL K H a xs) ∧ R (Itl K a) H) ∨ ((∃ xs, SqT K H a xs) ∧ R (Itt K a) H)) := by
  cases d with
  | tup l =>
    cases rv with
    | tup h1 h2 => exact ⟨_, rfl, .inr ⟨⟨_, r.ex.t h1⟩, h.ret r _ (itt_ok h1 h2)⟩⟩
  | lst l =>
    cases rv with
    | @lst a vs _ h1 h2 =>
      refine ⟨a, rfl, .inl ⟨⟨vs, SqL.of (r.ex _ _ h1)⟩, h.ret r _ ⟨fun i F' m G H hi e rl _ => ?_, fun i F' m G H x H' d e rl _ y hd => ?_, fun F' m G H e rl _ => ?_⟩⟩⟩
      · obtain ⟨v, e1⟩ : ∃ v, vs[i]? = some v := ⟨vs[i]'(by rw [h2.length]; exact hi), List.getElem?_eq_getElem _⟩
        exact ⟨vs, v, SqL.of (rl.ex _ _ (e _ _ h1)), e1⟩
      · obtain ⟨rfl, y⟩ := y
        obtain ⟨v, e1, rv⟩ := h2.get hd
        have e2 := y vs (SqL.of (rl.ex _ _ (e _ _ h1)))
        rw [e1] at e2
        cases e2
        exact ⟨F', Ex.refl F', rl, rv.mono e⟩
      · exact ⟨vs, SqL.of (rl.ex _ _ (e _ _ h1)), by rw [h2.length]; exact Nat.le_refl _⟩
  | ref a =>
    cases rv
    obtain ⟨o, e, h2⟩ := LR.look (k := fun o => match o with | .lst l => C.ret (l, some a) | _ => C.stuck) h
    cases o with
    | lst l =>
      obtain ⟨⟨vs, h3, h4⟩, _⟩ := r.mm _ _ e
      exact ⟨a, rfl, .inl ⟨⟨vs, SqL.of h3⟩, h2.ret r _ itm_ok⟩⟩
    | _ => exact h2.elim
  | _ => exact h.elim
theorem ji_seq {tg e : Expr} {ce : DE} (he : JE X W e ce) : JI X W tg e (iSeq ce) :=
  (pi_seq he).dimp fun σ H R ⟨F, m, G, δ, r, s, h⟩ => ⟨F, m, G, δ, r, s, (LR.bind h).imp fun F1 H1 _ d e1 _ ⟨m1, r1, h1⟩ v rv => seqI_of r1 rv h1⟩
def rng (lo hi : Int) : List D := (List.range (hi - lo).toNat).map fun (i : Nat) => D.int (lo + i)
theorem rng_length {lo hi : Int} : (rng lo hi).length = (hi - lo).toNat := by unfold rng; rw [List.length_map, List.length_range]
theorem rng_get {lo hi : Int} {i : Nat} {d : D} (h : (rng lo hi)[i]? = some d) : d = .int (lo + i) ∧ i < (hi - lo).toNat := by
  unfold rng at h
  rw [List.getElem?_map] at h
  obtain ⟨j, e1, e2⟩ := Option.map_eq_some_iff.mp h
  obtain ⟨h1, h2⟩ := List.getElem?_eq_some_iff.mp e1
  rw [List.getElem_range] at h2
  rw [List.length_range] at h1
  subst h2
  exact ⟨e2.symm, h1⟩
theorem itr_ok {F : Hp} {lo hi : Int} : ItOk K F (Itr lo (hi - lo).toNat) (rng lo hi) none where
  go := fun i F' m G H hi e rl _ => by rw [rng_length] at hi; exact hi
  yld := fun i F' m G H x H' d e rl _ y hd => by
    obtain ⟨rfl, rfl⟩ := y
    obtain ⟨rfl, _⟩ := rng_get hd
    exact ⟨F', Ex.refl F', rl, .int _⟩
  stop := fun F' m G H e rl _ => by rw [rng_length]; exact Nat.le_refl _
def small62 (i : Int) : Bool := decide (-(2 ^ 62) ≤ i) && decide (i < 2 ^ 62)
theorem small62_iff {i : Int} : small62 i = true ↔ -(2 ^ 62) ≤ i ∧ i < 2 ^ 62 := by unfold small62; rw [Bool.and_eq_true, decide_eq_true_eq, decide_eq_true_eq]
def rangeI1 : List D → C (List D × Option Addr)
  | [.int j] => if small62 j = true then C.ret (rng 0 j, none) else C.stuck
  | _ => C.stuck
def rangeI2 : List D → C (List D × Option Addr)
  | [.int i, .int j] => if (small62 i && small62 j) = true then C.ret (rng i j, none) else C.stuck
  | _ => C.stuck
def iApp (f : List D → C (List D × Option Addr)) (a : DA) : DI := fun δ => (a δ).bind f
theorem ji_range1 {tg a : Expr} {ca : DA} {p pos : Pos} (hg : Gl X "range") (hm : X.mg "range" = none) (ha : JA X W [a] ca) (hs : starEach [a] X.env = [(false, eval a X.env)] := by rfl) : JI X W tg (.Call (.Name "range" p) [a] [] pos) (iApp rangeI1 ca) :=
  (pi_range1 hg hm ha hs).dimp fun σ H R ⟨F, m, G, δ, r, s, h⟩ => ⟨F, m, G, δ, r, s, (LR.bind h).imp fun F1 H1 _ ds e1 _ ⟨m1, r1, h1⟩ vs rvs => by
    unfold rangeI1 at h1
    split at h1
    · obtain ⟨hj, h1⟩ := h1.ite
      rw [small62_iff] at hj
      cases rvs with
      | cons rv t =>
        cases rv with
        | int _ =>
          cases t
          have q := h1.ret r1 _ itr_ok
          rw [Int.sub_zero] at q
          exact ⟨_, rfl, hj.1, hj.2, q⟩
    · exact h1.elim⟩
theorem ji_range2 {tg a b : Expr} {ca : DA} {p pos : Pos} (hg : Gl X "range") (hm : X.mg "range" = none) (ha : JA X W [a, b] ca) (hs : starEach [a, b] X.env = [(false, eval a X.env), (false, eval b X.env)] := by rfl) (hs2 : starEach [b] X.env = [(false, eval b X.env)] := by rfl) :
    JI X W tg (.Call (.Name "range" p) [a, b] [] pos) (iApp rangeI2 ca) :=
  (pi_range2 hg hm ha hs hs2).dimp fun σ H R ⟨F, m, G, δ, r, s, h⟩ => ⟨F, m, G, δ, r, s, (LR.bind h).imp fun F1 H1 _ ds e1 _ ⟨m1, r1, h1⟩ vs rvs => by
    unfold rangeI2 at h1
    split at h1
    · obtain ⟨hj, h1⟩ := h1.ite
      rw [Bool.and_eq_true, small62_iff, small62_iff] at hj
      cases rvs with
      | cons rv t =>
        cases rv with
        | int i =>
          cases t with
          | cons rw t =>
            cases rw with
            | int j =>
              cases t
              exact ⟨_, _, rfl, ⟨hj.1.1, hj.1.2, hj.2.1, hj.2.2⟩, h1.ret r1 _ itr_ok⟩
    · exact h1.elim⟩
def enumD (l : List D) : List D := (List.range l.length).zipWith (fun (i : Nat) d => D.tup [.int i, d]) l
theorem enumD_get {l : List D} {i : Nat} {d : D} (h : (enumD l)[i]? = some d) : ∃ x, l[i]? = some x ∧ d = .tup [.int i, x] := by
  unfold enumD at h
  rw [List.getElem?_zipWith] at h
  cases e : l[i]? with
  | none => rw [e] at h; cases q : (List.range l.length)[i]? <;> rw [q] at h <;> cases h
  | some x =>
    obtain ⟨hl, _⟩ := List.getElem?_eq_some_iff.mp e
    have e2 : (List.range l.length)[i]? = some i := by rw [List.getElem?_range hl]
    rw [e, e2] at h
    cases h
    exact ⟨x, rfl, rfl⟩
theorem enumD_length {l : List D} : (enumD l).length = l.length := by unfold enumD; rw [List.length_zipWith, List.length_range, Nat.min_self]
def enumI : List D → C (List D × Option Addr)
  | [.lst l] => C.ret (enumD l, none)
  | _ => C.stuck
theorem ite_ok {F : Hp} {a : Addr} {vs : List V} {l : List D} (h : F a = some (.lst vs)) (r : Reps K F vs l) : ItOk K F (Ite K a) (enumD l) none where
  go := fun i F' m G H hi e rl _ => by
    rw [enumD_length] at hi
    obtain ⟨v, e1⟩ : ∃ v, vs[i]? = some v := ⟨vs[i]'(by rw [r.length]; exact hi), List.getElem?_eq_getElem _⟩
    exact ⟨vs, v, SqL.of (rl.ex _ _ (e _ _ h)), e1⟩
  yld := fun i F' m G H x H' d e rl _ y hd => by
    obtain ⟨T, z, rfl, hn, rfl, y⟩ := y
    obtain ⟨w, e1, rfl⟩ := enumD_get hd
    obtain ⟨v, e1, rv⟩ := r.get e1
    have e2 := y vs (SqL.of (rl.ex _ _ (e _ _ h)))
    rw [e1] at e2
    obtain rfl := Option.some.inj e2
    have ex := Ex.new (o := .tup [.int (i : Nat), v]) (rl.fresh hn).2
    exact ⟨_, ex, rl.newF hn _, .tup (SqT.of upd_same) (.cons (.int _) (.cons ((rv.mono e).mono ex) .nil))⟩
  stop := fun F' m G H e rl _ => ⟨vs, SqL.of (rl.ex _ _ (e _ _ h)), by rw [r.length, enumD_length]; exact Nat.le_refl _⟩
theorem ji_enum {a : Expr} {ca : DA} {p pos tpos : Pos} {elts : List Expr} {kk : Nat} (hg : Gl X "enumerate") (hm : X.mg "enumerate" = none) (ha : JA X W [a] ca) (hs : starEach [a] X.env = [(false, eval a X.env)] := by rfl) :
    JI X W (.Tuple elts kk tpos) (.Call (.Name "enumerate" p) [a] [] pos) (iApp enumI ca) :=
  (pi_enum hg hm ha hs).dimp fun σ H R ⟨F, m, G, δ, r, s, h⟩ => ⟨F, m, G, δ, r, s, (LR.bind h).imp fun F1 H1 _ ds e1 _ ⟨m1, r1, h1⟩ vs rvs => by
    unfold enumI at h1
    split at h1
    · cases rvs with
      | cons rv t =>
        cases rv with
        | lst h2 h3 =>
          cases t
          exact ⟨_, _, rfl, SqL.of (r1.ex _ _ h2), h1.ret r1 _ (ite_ok h2 h3)⟩
    · exact h1.elim⟩
def signs (x : Str) : List D := x.cps.toList.map fun c => D.str ⟨#[c]⟩
def strI : D → C (List D × Option Addr)
  | .str x => C.ret (signs x, none)
  | _ => C.stuck
def iStrD (e : DE) : DI := fun δ => (e δ).bind strI
theorem strOk_mem {z : Str} {c : Nat} (h : PyData.strOk z = true) (hc : c ∈ z.cps.toList) : PyData.strOk ⟨#[c]⟩ = true := by
  unfold PyData.strOk at h ⊢
  rw [Array.all_eq_true_iff_forall_mem] at h
  simp only [Array.all_eq_true_iff_forall_mem]
  intro x hx
  have e : x = c := by simpa using hx
  subst e
  exact h x (by simpa using hc)
theorem its_ok {F : Hp} {x : Str} (h : PyData.strOk x = true) : ItOk K F (Its x) (signs x) none where
  go := fun i F' m G H hi e rl _ => by
    unfold signs at hi
    rw [List.length_map, Array.length_toList] at hi
    exact hi
  yld := fun i F' m G H y H' d e rl _ yl hd => by
    obtain ⟨rfl, c, e1, rfl⟩ := yl
    unfold signs at hd
    rw [List.getElem?_map, Array.getElem?_toList, e1] at hd
    cases hd
    exact ⟨F', Ex.refl F', rl, .str _ (strOk_mem h (List.mem_of_getElem? (by rw [Array.getElem?_toList]; exact e1)))⟩
  stop := fun F' m G H e rl _ => by
    show x.cps.size ≤ (signs x).length
    unfold signs
    rw [List.length_map, Array.length_toList]
    exact Nat.le_refl _
theorem ji_str {tg e : Expr} {ce : DE} (he : JE X W e ce) : JI X W tg e (iStrD ce) :=
  (pi_str he).dimp fun σ H R ⟨F, m, G, δ, r, s, h⟩ => ⟨F, m, G, δ, r, s, (LR.bind h).imp fun F1 H1 _ d e1 _ ⟨m1, r1, h1⟩ v rv => by
    unfold strI at h1
    split at h1
    · cases rv with
      | str _ hx => exact ⟨_, rfl, h1.ret r1 _ (its_ok hx)⟩
    · exact h1.elim⟩
end
end DL

namespace DL
open PySem PySem.Spec PyProof.Rows L2

def C.noX {α : Type} (c : C α) : C α := ⟨fun m Q _ => c.run m Q fun _ _ => False, fun hQ _ h => c.mono hQ (fun _ _ q => q) h⟩
def C.guard {α : Type} (p : Mem → Prop) (c : C α) : C α := ⟨fun m Q E => p m ∧ c.run m Q E, fun hQ hE h => ⟨h.1, c.mono hQ hE h.2⟩⟩
@[simp] theorem C.run_noX {α : Type} {c : C α} {m : Mem} {Q : α → Mem → Prop} {E : Xn → Mem → Prop} : c.noX.run m Q E = c.run m Q fun _ _ => False := rfl
@[simp] theorem C.run_guard {α : Type} {p : Mem → Prop} {c : C α} {m : Mem} {Q : α → Mem → Prop} {E : Xn → Mem → Prop} : (C.guard p c).run m Q E = (p m ∧ c.run m Q E) := rfl
def wipeD (δ : DSt) : List Nat → DSt
  | [] => δ
  | v :: vs => (wipeD δ vs).set v none
def lcD (w : List D) (o : Option Addr) (g : DG) (t : DT) (e : DE) (δ : DSt) : List D → List D → C (List D)
  | [], acc => C.guard (fun m => stay m w o) (C.ret acc)
  | x :: r, acc => C.guard (fun m => stay m w o) ((g x δ).bind fun δ' => (t δ').bind fun b => if b = true then (e δ').bind fun y => lcD w o g t e δ r (acc ++ [y]) else lcD w o g t e δ r acc)
def eLcK (k : List D → C D) (it : DI) (g : DG) (t : DT) (e : DE) (vs : List Nat) : DE := fun δ => (it δ).bind fun lo => if lo.1.length ≤ sizeLine then (lcD lo.1 lo.2 g t e (wipeD δ vs) lo.1 []).noX.bind k else C.stuck
/-- the list is never changed | may be changed -/
def eLc : DI → DG → DT → DE → List Nat → DE := eLcK fun l => C.ret (.lst l)
def eLcM : DI → DG → DT → DE → List Nat → DE := eLcK fun l => C.new (.lst l)
def tTrue : DT := fun _ => C.ret true
def WF : WX := fun _ _ _ _ => False
section
variable {X : Cx} {W : WX} {K : PySem.W.Frag}
theorem SRel.wipe {F : Hp} {σ : L2.St} {δ : DSt} (s : SRel K F σ δ) : ∀ vs : List Nat, SRel K F (wipe σ vs) (wipeD δ vs)
  | [] => s
  | v :: vs => (SRel.wipe s vs).blank v none
theorem wipe_out {σ : L2.St} {i : Nat} {x : Option V} : ∀ {vs : List Nat}, i ∉ vs → wipe (σ.set i x) vs = (wipe σ vs).set i x
  | [], _ => rfl
  | v :: vs, h => by
    simp only [List.mem_cons, not_or] at h
    show (wipe (σ.set i x) vs).set v none = ((wipe σ vs).set v none).set i x
    rw [wipe_out h.2, List.set_comm _ _ h.1]
theorem wipe_in {σ : L2.St} {i : Nat} {x : Option V} : ∀ {vs : List Nat}, i ∈ vs → wipe (σ.set i x) vs = wipe σ vs
  | v :: vs, h => by
    show (wipe (σ.set i x) vs).set v none = (wipe σ vs).set v none
    by_cases hi : i ∈ vs
    · rw [wipe_in hi]
    · have e : i = v := by
        rcases List.mem_cons.mp h with z | z
        · exact z
        · exact absurd z hi
      subst e
      rw [wipe_out hi, List.set_set]
theorem wipe_wipe {σ : L2.St} : ∀ {vs : List Nat} (us : List Nat), (∀ i ∈ us, i ∈ vs) → wipe (wipe σ us) vs = wipe σ vs
  | vs, [], _ => rfl
  | vs, u :: us, h => by
    show wipe ((wipe σ us).set u none) vs = wipe σ vs
    rw [wipe_in (h u List.mem_cons_self), wipe_wipe us fun i hi => h i (List.mem_cons_of_mem _ hi)]
/-- a target that stores into the slots vs alone -/
def GLc (K : PySem.W.Frag) (g : DG) (gv : TG) (vs : List Nat) : Prop := ∀ (F G : Hp) (m : Mem) (H : Hp) (σ : L2.St) (δ : DSt) (v : V) (d : D) (R : DSt → Mem → Prop) (Q : L2.St → Hp → Prop), Rel K F m G H → SRel K F σ δ → Rep K F v d →
  (g d δ).run m R (fun _ _ => False) → (∀ σ2 δ2, SRel K F σ2 δ2 → wipe σ2 vs = wipe σ vs → R δ2 m → Q σ2 H) → gv v σ H Q
theorem glc_name {i : Nat} {vs : List Nat} (hi : i ∈ vs) : GLc K (gN i) (gName i) vs := fun F G m H σ δ v d R Q r s rv h k => k _ _ (s.set rv i) (wipe_in hi) h
def JTs (X : Cx) (W : WX) (ifs : List Expr) (t : DT) : Prop := PTs X ifs (tT X.K W t)
theorem _root_.L2.PTs.dimp {ifs : List Expr} {t t' : TT} (h : PTs X ifs t) (k : ∀ σ H Q, t' σ H Q → t σ H Q) : PTs X ifs t' := ⟨fun pins s σ H Q I q => h.run pins s σ H Q I (k σ H Q q)⟩
theorem jts_nil : JTs X W [] tTrue := pts_nil.dimp fun σ H Q ⟨F, m, G, δ, r, s, h⟩ => h.ret r
theorem jts_one {c : Expr} {t : DT} (h : JT X W c t) : JTs X W [c] t := pts_one h
theorem lc_sound {it : DI} {g : DG} {gv : TG} {t : DT} {e : DE} {vs : List Nat} {k : List D → C D} (hg : GLc K g gv vs)
    (hk : ∀ (F G : Hp) (m : Mem) (H : Hp) (σ : L2.St) (Dd : Addr) (va : List V) (acc : List D) (Q : VK), Rel K F m G H → H Dd = some (.lst va) → F Dd = none → m Dd = none → G Dd = none → Reps K F va acc → LR K F G (k acc) m (fun F' H' d => ∀ v, Rep K F' v d → Q v H') W σ → Q (.ref Dd) H)
    {σ : L2.St} {H : Hp} {Q : VK} (h : tE K W (eLcK k it g t e vs) σ H Q) : tLc (tI K W it) gv (tT K WF t) (tE K WF e) vs σ H Q := by
  obtain ⟨F, m, G, δ, r, s, h⟩ := h
  refine ⟨F, m, G, δ, r, s, (LR.bind h).imp fun F1 H1 _ lo e1 _ ⟨m1, r1, h1⟩ J hJ Dd hD => ?_⟩
  obtain ⟨l, o⟩ := lo
  obtain ⟨hz, h1⟩ := LR.ite h1
  simp only at hz
  have hG : G Dd = none := r1.freshG hD
  let fin : List D → Mem → Prop := fun a m' => (k a).run m' (fun d m'' => ∀ F' H', Ex F1 F' → Rel K F' m'' G H' → ∀ v, Rep K F' v d → Q v H') (liftX K F1 G W σ)
  have h2 : (lcD l o g t e (wipeD δ vs) l []).run m1 fin fun _ _ => False := h1
  have dr : ∀ i (x : D), l[i]? = some x → l.drop i = x :: l.drop (i + 1) := fun i x e => by
    obtain ⟨hi, e⟩ := List.getElem?_eq_some_iff.mp e
    rw [List.drop_eq_getElem_cons hi, e]
  refine ⟨fun i n H' => n = l.length - i ∧ i ≤ l.length ∧ ∃ F2 m2 acc va, Ex F1 F2 ∧ Rel K F2 m2 G H' ∧ H' Dd = some (.lst va) ∧ F2 Dd = none ∧ m2 Dd = none ∧ Reps K F2 va acc ∧ acc.length ≤ i ∧ (lcD l o g t e (wipeD δ vs) (l.drop i) acc).run m2 fin fun _ _ => False,
    ⟨l.length, by simp, Nat.zero_le _, F1, m1, [], [], Ex.refl F1, r1.newH hD _, upd_same, (r1.fresh hD).2, (r1.fresh hD).1, .nil, Nat.le_refl _, h2⟩, ?_⟩
  rintro i n H' ⟨rfl, hi, F2, m2, acc, va, e2, r2, hd2, f2, n2, ra, la, q2⟩
  by_cases hlt : i < l.length
  · have ex : l[i]? = some l[i] := List.getElem?_eq_getElem hlt
    rw [dr i _ ex] at q2
    obtain ⟨st, q3⟩ := q2
    refine .inr ⟨hJ.go i F2 m2 G H' hlt e2 r2 st, fun H3 => ∃ F3 m3 acc va, Ex F1 F3 ∧ Rel K F3 m3 G H3 ∧ H3 Dd = some (.lst va) ∧ F3 Dd = none ∧ m3 Dd = none ∧ Reps K F3 va acc ∧ acc.length ≤ i + 1 ∧ (lcD l o g t e (wipeD δ vs) (l.drop (i + 1)) acc).run m3 fin fun _ _ => False,
      fun H3 q => ⟨l.length - (i + 1), by omega, rfl, hlt, q⟩, fun x H3 y => ?_⟩
    have r2' : Rel K F2 m2 (upd G Dd (.lst va)) H' := r2.aside f2 n2 hd2
    obtain ⟨F3, e3, r3, rx⟩ := hJ.yld i F2 m2 (upd G Dd (.lst va)) H' x H3 _ e2 r2' st y ex
    refine hg F3 _ m2 H3 _ (wipeD δ vs) x _ _ _ r3 (((s.mono e1).mono (e2.trans e3)).wipe vs) rx q3 fun σ4 δ4 s4 w4 q4 => ⟨w4.trans (wipe_wipe vs fun _ z => z), ?_⟩
    refine ⟨F3, m2, _, δ4, r3, s4, C.mono _ (fun b m5 q5 F5 H5 e5 r5 => ?_) (fun _ _ z => z.elim) q4⟩
    have out : ∀ {F7 : Hp} {m7 : Mem} {H7 : Hp}, Rel K F7 m7 (upd G Dd (.lst va)) H7 → H7 Dd = some (.lst va) ∧ F7 Dd = none ∧ m7 Dd = none := fun r7 => r7.gg Dd _ upd_same
    cases b with
    | true =>
      show tE K WF e σ4 H5 _
      refine ⟨F5, m5, _, δ4, r5, s4.mono e5, C.mono _ (fun y m6 q6 F6 H6 e6 r6 w rw => ?_) (fun _ _ z => z.elim) q5⟩
      obtain ⟨g1, g2, g3⟩ := out r6
      have e26 : Ex F2 F6 := (e3.trans e5).trans e6
      refine ⟨va, g1, by rw [ra.length]; omega, F6, m6, acc ++ [y], va ++ [w], e2.trans e26, (r6.less hG).side g2 g3 hG _, upd_same, g2, g3, (ra.mono e26).append (.cons rw .nil), by rw [List.length_append]; exact Nat.succ_le_succ la, q6⟩
    | false =>
      obtain ⟨g1, g2, g3⟩ := out r5
      have e25 : Ex F2 F5 := e3.trans e5
      exact ⟨F5, m5, acc, va, e2.trans e25, r5.less hG, g1, g2, g3, ra.mono e25, Nat.le_succ_of_le la, q5⟩
  · have en : i = l.length := by omega
    subst en
    rw [List.drop_length] at q2
    obtain ⟨st, q3⟩ := q2
    refine .inl ⟨hJ.stop F2 m2 G H' e2 r2 st, hk F2 G m2 H' σ Dd va acc Q r2 hd2 f2 n2 hG ra ?_⟩
    exact C.mono _ (fun d m' z F' H' e' r' => z F' H' (e2.trans e') r') (fun _ _ z => liftX.mono e2 z) q3
theorem lc_keep (F G : Hp) (m : Mem) (H : Hp) (σ : L2.St) (Dd : Addr) (va : List V) (acc : List D) (Q : VK) (r : Rel K F m G H) (h : H Dd = some (.lst va)) (hF : F Dd = none) (hm : m Dd = none) (hG : G Dd = none) (ra : Reps K F va acc)
    (q : LR K F G (C.ret (D.lst acc)) m (fun F' H' d => ∀ v, Rep K F' v d → Q v H') W σ) : Q (.ref Dd) H := by
  have e := Ex.new (o := .lst va) hF
  have r2 := r.freeze h hF hG
  rw [mdel_new hm] at r2
  exact q.retE e r2 _ (.lst upd_same (ra.mono e))
theorem upd_self {H : Hp} {a : Addr} {o : HO} (h : H a = some o) : upd H a o = H := by
  funext b
  unfold upd
  split
  · rename_i e; rw [e, h]
  · rfl
theorem lc_keepM (F G : Hp) (m : Mem) (H : Hp) (σ : L2.St) (Dd : Addr) (va : List V) (acc : List D) (Q : VK) (r : Rel K F m G H) (h : H Dd = some (.lst va)) (hF : F Dd = none) (hm : m Dd = none) (hG : G Dd = none) (ra : Reps K F va acc)
    (q : LR K F G (C.new (.lst acc)) m (fun F' H' d => ∀ v, Rep K F' v d → Q v H') W σ) : Q (.ref Dd) H := by
  have r2 := r.putL hF hG ra
  rw [upd_self h] at r2
  exact q Dd hm F H (Ex.refl F) r2 _ (.ref Dd)
variable {elt tg iter : Expr} {ifs : List Expr} {scope : Scope} {own : List (Str × Nat)} {pos : Pos} {it : DI} {g : DG} {gv : TG} {t : DT} {e : DE}
theorem je_lc (hc : X.calm = true) (hN : X.N.Nodup) (hi : JI X W tg iter it) (ok : BlkOk X.N X.env.scope scope own) (hG : GLc X.K g gv (own.map (·.2)))
    (hg : ∀ (s : Shared) (H : Hp) (C : Addr) (cl : List (Str × Addr)) (fp : List Addr), PG (X.blk s H scope (compEnvC scope cl C X.env) fp) tg gv) (ht : ∀ (s : Shared) (H : Hp) (C : Addr) (cl : List (Str × Addr)) (fp : List Addr), JTs (X.blk s H scope (compEnvC scope cl C X.env) fp) WF ifs t)
    (he : ∀ (s : Shared) (H : Hp) (C : Addr) (cl : List (Str × Addr)) (fp : List Addr), JE (X.blk s H scope (compEnvC scope cl C X.env) fp) WF elt e) (hs : ∀ x, foldedSetIterable iter X.env x = pure x := by intro _; rfl) :
    JE X W (.ListComp elt [⟨tg, iter, ifs, 0⟩] scope pos) (eLc it g t e (own.map (·.2))) := (pe_lc (tt := tT X.K WF t) (te := tE X.K WF e) hc hN hi ok hg ht he hs).dimp fun _ _ _ h => lc_sound hG lc_keep h
theorem js_setLc {i : Nat} {y : Str} {py spos : Pos} (hc : X.calm = true) (hN : X.N.Nodup) (hy : X.N[i]? = some y) (hyl : X.env.scope.names.lookup y = some .local) (hsw : swapsWith (.ListComp elt [⟨tg, iter, ifs, 0⟩] scope pos) (some (.Name y py)) spos.line X.env = pure true)
    (hi : JI X W tg iter it) (ok : BlkOk X.N X.env.scope scope own) (hG : GLc X.K g gv (own.map (·.2)))
    (hg : ∀ (s : Shared) (H : Hp) (C : Addr) (cl : List (Str × Addr)) (fp : List Addr), PG (X.blk s H scope (compEnvC scope cl C X.env) fp) tg gv) (ht : ∀ (s : Shared) (H : Hp) (C : Addr) (cl : List (Str × Addr)) (fp : List Addr), JTs (X.blk s H scope (compEnvC scope cl C X.env) fp) WF ifs t)
    (he : ∀ (s : Shared) (H : Hp) (C : Addr) (cl : List (Str × Addr)) (fp : List Addr), JE (X.blk s H scope (compEnvC scope cl C X.env) fp) WF elt e) (hs : ∀ x, foldedSetIterable iter X.env x = pure x := by intro _; rfl) :
    JS X W (.Assign [.Name y py] (.ListComp elt [⟨tg, iter, ifs, 0⟩] scope pos) spos) (sAsg i (eLc it g t e (own.map (·.2)))) := (ps_setLc (tt := tT X.K WF t) (te := tE X.K WF e) hc hN hy hyl hsw hi ok hg ht he hs).dimp fun E σ H ⟨F, m, G, δ, r, s, h⟩ =>
  lc_sound hG lc_keep ⟨F, m, G, δ, r, s, C.mono _ (fun d m' q F' H' e' r' v rv => q F' H' _ e' r' ((s.mono e').set rv i)) (fun x m' q => liftX_of s q) h⟩
theorem js_setLcM {i : Nat} {y : Str} {py spos : Pos} (hc : X.calm = true) (hN : X.N.Nodup) (hy : X.N[i]? = some y) (hyl : X.env.scope.names.lookup y = some .local) (hsw : swapsWith (.ListComp elt [⟨tg, iter, ifs, 0⟩] scope pos) (some (.Name y py)) spos.line X.env = pure true)
    (hi : JI X W tg iter it) (ok : BlkOk X.N X.env.scope scope own) (hG : GLc X.K g gv (own.map (·.2)))
    (hg : ∀ (s : Shared) (H : Hp) (C : Addr) (cl : List (Str × Addr)) (fp : List Addr), PG (X.blk s H scope (compEnvC scope cl C X.env) fp) tg gv) (ht : ∀ (s : Shared) (H : Hp) (C : Addr) (cl : List (Str × Addr)) (fp : List Addr), JTs (X.blk s H scope (compEnvC scope cl C X.env) fp) WF ifs t)
    (he : ∀ (s : Shared) (H : Hp) (C : Addr) (cl : List (Str × Addr)) (fp : List Addr), JE (X.blk s H scope (compEnvC scope cl C X.env) fp) WF elt e) (hs : ∀ x, foldedSetIterable iter X.env x = pure x := by intro _; rfl) :
    JS X W (.Assign [.Name y py] (.ListComp elt [⟨tg, iter, ifs, 0⟩] scope pos) spos) (sAsg i (eLcM it g t e (own.map (·.2)))) := (ps_setLc (tt := tT X.K WF t) (te := tE X.K WF e) hc hN hy hyl hsw hi ok hg ht he hs).dimp fun E σ H ⟨F, m, G, δ, r, s, h⟩ =>
  lc_sound hG lc_keepM ⟨F, m, G, δ, r, s, C.mono _ (fun d m' q F' H' e' r' v rv => q F' H' _ e' r' ((s.mono e').set rv i)) (fun x m' q => liftX_of s q) h⟩
end
end DL

namespace DL
open PySem PySem.Spec PyProof.Rows L2

/-- the def keeps the promise: it does what the program f does -/
def spD (K : PySem.W.Frag) (n : Nat) (f : List D → C D) : Sp := fun vs H Q E => vs.length = n ∧ ∃ F m G ds, Rel K F m G H ∧ Reps K F vs ds ∧ LR K F G (f ds) m (fun F' H' d => ∀ v, Rep K F' v d → Q v H') (fun c d _ H => E c d H) []
def Kt.fin (Q : D → Mem → Prop) (E : Xn → Mem → Prop) : Kt := ⟨fun _ m => Q .non m, Q, fun _ _ => False, fun _ _ => False, fun x _ m => E x m⟩
@[simp] theorem Kt.fin_nx {Q : D → Mem → Prop} {E : Xn → Mem → Prop} {δ : DSt} {m : Mem} : (Kt.fin Q E).nx δ m = Q .non m := rfl
@[simp] theorem Kt.fin_rt {Q : D → Mem → Prop} {E : Xn → Mem → Prop} {d : D} {m : Mem} : (Kt.fin Q E).rt d m = Q d m := rfl
@[simp] theorem Kt.fin_ex {Q : D → Mem → Prop} {E : Xn → Mem → Prop} {x : Xn} {δ : DSt} {m : Mem} : (Kt.fin Q E).ex x δ m = E x m := rfl
/-- the program of a def with N names: its body from its arguments -/
def fnD (N : Nat) (b : CS) (ds : List D) : C D := ⟨fun m Q E => b.run (startD N ds) m (Kt.fin Q E), fun {m Q Q' E E'} hQ hE h => b.mono (A := Kt.fin Q E) (B := Kt.fin Q' E') ⟨fun _ _ q => hQ _ _ q, fun _ _ q => hQ _ _ q, fun _ _ q => q, fun _ _ q => q, fun _ _ _ q => hE _ _ q⟩ h⟩
theorem run_fnD {N : Nat} {b : CS} {ds : List D} {m : Mem} {Q : D → Mem → Prop} {E : Xn → Mem → Prop} : (fnD N b ds).run m Q E = b.run (startD N ds) m (Kt.fin Q E) := rfl
section
variable {P : Program} {w : World} {K : PySem.W.Frag} {mg : Str → Option Value} {base : Heap} {x qual : Str} {params : Arguments} {body : List Stmt} {scope : Scope} {dvs : List V} {kws : List (Str × V)} {f : Addr} {fd : FuncData}
theorem fn_ok {N ps : List Str} {k : Nat} {cs : CS} (Fd : FunD K x qual params body scope dvs kws f fd) (S : FnScope N ps scope)
    (hbody : ∀ (cdv : Value) (A : Around) (outer : List Env) (s : Shared) (H : Hp) (E : XK), Room k (A.deeper (envOfC qual scope s.heap.objs.size f cdv)) →
      JB (cxOf (L2.CX P w) P w K mg base N qual scope f cdv A outer s H E) (fun c d _ H => E c d H) body cs) : FnOk P w K mg base (L2.CX P w) (k + 1) f fd ps (spD K ps.length (fnD N.length cs)) := by
  refine Fd.ok S (fun vs H Q E h => h.1) fun cdv A outer s H vs Q E hr h => ⟨_, hbody cdv A outer s H E hr, ?_⟩
  obtain ⟨_, F, m, G, ds, r, rv, h⟩ := h
  refine ⟨F, m, G, _, r, SRel.start rv, ?_⟩
  refine cs.mono (A := Kt.fin (fun d m' => ∀ F' H', Ex F F' → Rel K F' m' G H' → ∀ v, Rep K F' v d → Q v H') (liftX K F G (fun c d _ H => E c d H) [])) ⟨fun δ m' q F' H' σ' e r' s' => q F' H' e r' _ .non, fun d m' q F' H' v e r' rv => q F' H' e r' v rv, fun _ _ q => q.elim, fun _ _ q => q.elim, fun x δ m' q F' H' σ' c d e r' s' hx => q F' H' c d e r' hx⟩ h
theorem fn_stuck {k : Nat} {ps : List Str} {n : Nat} (hn : n = ps.length) : FnOk P w K mg base (L2.CX P w) k f fd ps (spD K n fun _ => C.stuck) :=
  ⟨fun vs H Q E h => h.1.trans hn, fun A outer s H args us vs Q E hr he hb hv h => by obtain ⟨_, F, m, G, ds, r, rv, h⟩ := h; exact h.elim⟩
end
section
variable {X : Cx} {W : WX} {k n : Nat} {f : Addr} {fd : FuncData} {ps : List Str} {fD : List D → C D} {x : Str} {p pos : Pos} {e : Expr} {es : List Expr} {ca : DA}
theorem WE_nil {σ : L2.St} {F G : Hp} {K : PySem.W.Frag} {m : Mem} {α : Type} {c : C α} {P : Hp → Hp → α → Prop} (h : LR K F G c m P W σ) : LR K F G c m P (fun c d _ H => WE W σ c d H) [] := h
/-- f(..), the defaults dvs behind -/
theorem je_call {dvs : List V} {dds : List D} {dus : List Value} (Fn : FnOk X.prog X.w X.K X.mg X.base (L2.CX X.prog X.w) k f fd ps (spD X.K n fD)) (hr : Room k X.A) (tk : Takes X W) (hg : Gl X x) (hm : X.mg x = some (.ref f)) (hk : PySem.W.keepIn X.K (.ref f) = true) (hb : Binds X.K fd ps dus) (hd : Vals dvs dus)
    (hdd : ∀ F : Hp, Reps X.K F dvs dds) (ha : JA X W (e :: es) ca) (hn : ∀ l : List D, (l ++ dds).length ≠ n → fD (l ++ dds) = C.stuck) (hdb : (x == ("__debug__" : Str)) = false := by decide) (he : starEach (e :: es) X.env = (false, eval e X.env) :: starEach es X.env := by rfl) (hpl : (backTo pos (starEach es X.env)).any (·.1) = false := by rfl) :
    JE X W (.Call (.Name x p) (e :: es) [] pos) (fun δ => (ca δ).bind fun l => fD (l ++ dds)) :=
  (pe_callSD Fn hr hg hm hk hb hd (fun σ => passAt tk σ) ha hdb he hpl).dimp fun σ H Q ⟨F, m, G, δ, r, s, h⟩ => ⟨F, m, G, δ, r, s, (LR.bind h).imp fun F1 H1 _ l e1 _ ⟨m1, r1, h1⟩ vs rv => by
    have rr := rv.append (hdd F1)
    refine ⟨?_, F1, m1, G, l ++ dds, r1, rr, h1⟩
    by_cases q : (l ++ dds).length = n
    · rw [rr.length]; exact q
    · rw [hn l q] at h1; exact h1.elim⟩
end

def dLen : List D → C D
  | [.tup l] => C.ret (.int l.length)
  | [.str z] => if z.length ≤ sizeLine then C.ret (.int z.length) else C.stuck
  | [.scr l] => C.ret (.int l.length)
  | [x] => (asL x).bind fun l => C.ret (.int l.length)
  | _ => C.stuck
def dAbs : List D → C D
  | [.int i] => C.ret (.int (if i < 0 then -i else i))
  | _ => C.stuck
def dInt : List D → C D
  | [.int i] => C.ret (.int i)
  | [.bl b] => C.ret (.int (if b then 1 else 0))
  | _ => C.stuck
def dMax2 : List D → C D
  | [.int i, .int j] => C.ret (.int (if j > i then j else i))
  | _ => C.stuck
def dMin2 : List D → C D
  | [.int i, .int j] => C.ret (.int (if j < i then j else i))
  | _ => C.stuck
/-- list(x): never changed | may be changed -/
def dList : List D → C D
  | [x] => (asS x).bind fun l => C.ret (.lst l)
  | _ => C.stuck
def dListM : List D → C D
  | [x] => (asS x).bind fun l => C.new (.lst l)
  | _ => C.stuck
def dTuple : List D → C D
  | [x] => (asS x).bind fun l => C.ret (.tup l)
  | _ => C.stuck
def allInt : List D → Option (List Int)
  | [] => some []
  | .int i :: r => (allInt r).map (i :: ·)
  | _ => none
def dSum : List D → C D
  | [x] => (asL x).bind fun l => (ofO (allInt l)).bind fun ns => C.ret (.int ns.sum)
  | _ => C.stuck
section
variable {X : Cx} {W : WX}
theorem reps1 {K : PySem.W.Frag} {F : Hp} {vs : List V} {d : D} (r : Reps K F vs [d]) : ∃ v, vs = [v] ∧ Rep K F v d := by
  cases r with
  | cons rv t => cases t; exact ⟨_, rfl, rv⟩
theorem reps2 {K : PySem.W.Frag} {F : Hp} {vs : List V} {d e : D} (r : Reps K F vs [d, e]) : ∃ v w, vs = [v, w] ∧ Rep K F v d ∧ Rep K F w e := by
  cases r with
  | cons rv t =>
    obtain ⟨w, rfl, rw⟩ := reps1 t
    exact ⟨_, w, rfl, rv, rw⟩
theorem ints_reps {K : PySem.W.Frag} {F : Hp} : ∀ {vs : List V} {ds : List D} {ns : List Int}, Reps K F vs ds → allInt ds = some ns → vs = ns.map V.int
  | _, _, _, .nil, h => by cases h; rfl
  | _, _, ns, .cons (d := d) (ds := ds) rv t, h => by
    cases rv with
    | int i =>
      obtain ⟨ms, e1, e2⟩ := Option.map_eq_some_iff.mp (show (allInt ds).map (i :: ·) = some ns from h)
      subst e2
      rw [ints_reps t e1]
      rfl
    | _ => cases h
theorem LR.ofOb {K : PySem.W.Frag} {α β : Type} {F G : Hp} {m : Mem} {W : WX} {σ : L2.St} {o : Option α} {k : α → C β} {P : Hp → Hp → β → Prop} (h : LR K F G ((DL.ofO o).bind k) m P W σ) : ∃ a, o = some a ∧ LR K F G (k a) m P W σ := by
  cases o with
  | none => exact h.elim
  | some a => exact ⟨a, rfl, h⟩
def rLenD (K : PySem.W.Frag) : List V → Hp → VK → Prop := fun xs H Q => (∃ p ys, xs = [.ref p] ∧ (SqL K H p ys ∨ SqT K H p ys) ∧ Q (.int ys.length) H) ∨ ∃ z, xs = [.str z] ∧ z.length ≤ sizeLine ∧ Q (.int z.length) H
theorem cr_len : CallR X (.builtin "len") (rLenD X.K) := call_len_seq.or call_len_str
theorem cd_len : CallD X W dLen (rLenD X.K) := by
  intro F m G H σ xs vs Q r rv h
  unfold dLen at h
  split at h
  · obtain ⟨v, rfl, rd⟩ := reps1 rv
    cases rd with
    | tup h1 h2 => exact .inl ⟨_, _, rfl, .inr (r.ex.t h1), by rw [h2.length]; exact h.ret r _ (.int _)⟩
  · obtain ⟨hl, h⟩ := h.ite
    obtain ⟨v, rfl, rd⟩ := reps1 rv
    cases rd with
    | str _ _ => exact .inr ⟨_, rfl, hl, h.ret r _ (.int _)⟩
  · obtain ⟨v, rfl, rd⟩ := reps1 rv
    cases rd with
    | scr h1 => exact .inl ⟨_, _, rfl, .inl (r.ex.l h1), by rw [List.length_map]; exact h.ret r _ (.int _)⟩
  · obtain ⟨v, rfl, rd⟩ := reps1 rv
    obtain ⟨a, vs, l, rfl, h1, h2, h⟩ := asL_of r rd h
    exact .inl ⟨a, vs, rfl, .inl (SqL.of h1), by rw [h2.length]; exact h.ret r _ (.int _)⟩
  · exact h.elim
theorem cd_abs : CallD X W dAbs (fun xs H Q => ∃ i, xs = [.int i] ∧ Q (.int (if i < 0 then -i else i)) H) := by
  intro F m G H σ xs vs Q r rv h
  unfold dAbs at h
  split at h
  · obtain ⟨v, rfl, rd⟩ := reps1 rv
    cases rd
    exact ⟨_, rfl, h.ret r _ (.int _)⟩
  · exact h.elim
theorem cd_int : CallD X W dInt (fun xs H Q => (∃ i, xs = [.int i] ∧ Q (.int i) H) ∨ ∃ k, xs = [.bl k] ∧ Q (.int (if k then 1 else 0)) H) := by
  intro F m G H σ xs vs Q r rv h
  unfold dInt at h
  split at h
  · obtain ⟨v, rfl, rd⟩ := reps1 rv
    cases rd
    exact .inl ⟨_, rfl, h.ret r _ (.int _)⟩
  · obtain ⟨v, rfl, rd⟩ := reps1 rv
    cases rd
    exact .inr ⟨_, rfl, h.ret r _ (.int _)⟩
  · exact h.elim
theorem cd_max2 : CallD X W dMax2 (fun xs H Q => ∃ i j, xs = [.int i, .int j] ∧ Q (.int (if j > i then j else i)) H) := by
  intro F m G H σ xs vs Q r rv h
  unfold dMax2 at h
  split at h
  · obtain ⟨v, w, rfl, rd, re⟩ := reps2 rv
    cases rd
    cases re
    exact ⟨_, _, rfl, h.ret r _ (.int _)⟩
  · exact h.elim
theorem cd_min2 : CallD X W dMin2 (fun xs H Q => ∃ i j, xs = [.int i, .int j] ∧ Q (.int (if j < i then j else i)) H) := by
  intro F m G H σ xs vs Q r rv h
  unfold dMin2 at h
  split at h
  · obtain ⟨v, w, rfl, rd, re⟩ := reps2 rv
    cases rd
    cases re
    exact ⟨_, _, rfl, h.ret r _ (.int _)⟩
  · exact h.elim
theorem cd_list : CallD X W dList (fun xs H Q => ∃ p ys, xs = [.ref p] ∧ (SqL X.K H p ys ∨ SqT X.K H p ys) ∧ ∀ l, H l = none → Q (.ref l) (upd H l (.lst ys))) := by
  intro F m G H σ xs vs Q r rv h
  unfold dList at h
  split at h
  · obtain ⟨v, rfl, rd⟩ := reps1 rv
    obtain ⟨a, vs, l, rfl, h1, h2, h⟩ := asS_of r rd h
    refine ⟨a, vs, rfl, h1, fun p hp => ?_⟩
    have e := Ex.new (o := .lst vs) (r.fresh hp).2
    exact h.retE e (r.newF hp _) _ (.lst upd_same (h2.mono e))
  · exact h.elim
theorem cd_listM : CallD X W dListM (fun xs H Q => ∃ p ys, xs = [.ref p] ∧ (SqL X.K H p ys ∨ SqT X.K H p ys) ∧ ∀ l, H l = none → Q (.ref l) (upd H l (.lst ys))) := by
  intro F m G H σ xs vs Q r rv h
  unfold dListM at h
  split at h
  · obtain ⟨v, rfl, rd⟩ := reps1 rv
    obtain ⟨a, vs, l, rfl, h1, h2, h⟩ := asS_of r rd h
    exact ⟨a, vs, rfl, h1, fun p hp => h p (r.fresh hp).1 F _ (Ex.refl F) (r.putL (r.fresh hp).2 (r.freshG hp) h2) _ (.ref p)⟩
  · exact h.elim
theorem asS_of2 {K : PySem.W.Frag} {F G H : Hp} {m : Mem} {σ : L2.St} {β : Type} {v : V} {d : D} {k : List D → C β} {P : Hp → Hp → β → Prop} (r : Rel K F m G H) (rv : Rep K F v d) (h : LR K F G ((asS d).bind k) m P W σ) :
    ∃ a vs l, v = .ref a ∧ (SqL K H a vs ∨ (SqT K F a vs ∧ d = .tup l)) ∧ Reps K F vs l ∧ LR K F G (k l) m P W σ := by
  unfold asS at h
  split at h
  · rename_i l
    cases rv with
    | tup h1 h2 => exact ⟨_, _, l, rfl, .inr ⟨h1, rfl⟩, h2, h⟩
  · obtain ⟨a, vs, l, e, h1, h2, h3⟩ := asL_of r rv h
    exact ⟨a, vs, l, e, .inl (SqL.of h1), h2, h3⟩
theorem cd_tuple : CallD X W dTuple (fun xs H Q => ∃ p ys, xs = [.ref p] ∧ ((SqL X.K H p ys ∧ ∀ l, H l = none → Q (.ref l) (upd H l (.tup ys))) ∨ (SqT X.K H p ys ∧ Q (.ref p) H))) := by
  intro F m G H σ xs vs Q r rv h
  unfold dTuple at h
  split at h
  · obtain ⟨v, rfl, rd⟩ := reps1 rv
    obtain ⟨a, vs, l, rfl, h1, h2, h⟩ := asS_of2 r rd h
    rcases h1 with h1 | ⟨h1, rfl⟩
    · refine ⟨a, vs, rfl, .inl ⟨h1, fun p hp => ?_⟩⟩
      have e := Ex.new (o := .tup vs) (r.fresh hp).2
      exact h.retE e (r.newF hp _) _ (.tup (SqT.of upd_same) (h2.mono e))
    · exact ⟨a, vs, rfl, .inr ⟨r.ex.t h1, h.ret r _ (.tup h1 h2)⟩⟩
  · exact h.elim
theorem cd_sum : CallD X W dSum (rSum X.K) := by
  intro F m G H σ xs vs Q r rv h
  unfold dSum at h
  split at h
  · obtain ⟨v, rfl, rd⟩ := reps1 rv
    obtain ⟨a, vs, l, rfl, h1, h2, h⟩ := asL_of r rd h
    obtain ⟨ns, e, h⟩ := h.ofOb
    rw [ints_reps h2 e] at h1
    exact ⟨a, ns, rfl, SqL.of h1, h.ret r _ (.int _)⟩
  · exact h.elim
end
end DL

namespace DL
open PySem PySem.Spec PyProof.Rows L2

/-- the built-in type of a value -/
def tyN : D → C String
  | .non => C.ret "NoneType"
  | .bl _ => C.ret "bool"
  | .int _ => C.ret "int"
  | .str _ => C.ret "str"
  | .tup _ => C.ret "tuple"
  | .lst _ => C.ret "list"
  | .ref a => C.look a fun o => match o with
    | .lst _ => C.ret "list"
    | _ => C.stuck
  | _ => C.stuck
def isT (t T : String) : Bool := t == T || (t == "bool" && T == "int")
def dIsi (T : String) (d : D) : C D := (tyN d).bind fun t => C.ret (.bl (isT t T))
def dIsi2 (T U : String) (d : D) : C D := (tyN d).bind fun t => C.ret (.bl (isT t T || isT t U))
def tyOk (T : String) : Bool := ["NoneType", "bool", "int", "str", "tuple", "list"].all fun t => decide (kitB t T = some (isT t T))
section
variable {X : Cx} {W : WX} {K : PySem.W.Frag} {F G H : Hp} {m : Mem} {σ : L2.St}
theorem tyT_of {a : Addr} {xs : List V} (h : SqT K H a xs) : TyX K H (.ref a) (.type "tuple") := by
  rcases h with (h | ⟨o, h⟩) | ⟨o, its, n, h, hc, _⟩
  · exact .base (.tup h)
  · exact .fTuple h
  · exact .kTuple h hc
theorem tyN_of {v : V} {d : D} {β : Type} {k : String → C β} {P : Hp → Hp → β → Prop} (r : Rel K F m G H) (rv : Rep K F v d) (h : LR K F G ((tyN d).bind k) m P W σ) :
    ∃ t, TyX K H v (.type t) ∧ t ∈ ["NoneType", "bool", "int", "str", "tuple", "list"] ∧ LR K F G (k t) m P W σ := by
  cases d with
  | non => cases rv; exact ⟨_, .base .non, by simp, h⟩
  | bl b => cases rv; exact ⟨_, .base (.bl b), by simp, h⟩
  | int i => cases rv; exact ⟨_, .base (.int i), by simp, h⟩
  | str x => cases rv; exact ⟨_, .base (.str x), by simp, h⟩
  | tup l =>
    cases rv with
    | tup h1 h2 => exact ⟨_, tyT_of (r.ex.t h1), by simp, h⟩
  | lst l =>
    cases rv with
    | lst h1 h2 => exact ⟨_, .base (.lst (r.ex _ _ h1)), by simp, h⟩
  | ref a =>
    cases rv
    obtain ⟨o, e, h2⟩ := LR.look (k := fun o => C.bind (match o with | .lst _ => C.ret "list" | _ => C.stuck) k) h
    cases o with
    | lst l =>
      obtain ⟨⟨vs, h3, h4⟩, _⟩ := r.mm _ _ e
      exact ⟨_, .base (.lst h3), by simp, h2⟩
    | _ => exact h2.elim
  | _ => exact h.elim
theorem tyOk_of {t T : String} (h : tyOk T = true) (ht : t ∈ ["NoneType", "bool", "int", "str", "tuple", "list"]) : PySem.W.kitOne K (.type t) (.type T) = some (isT t T) := kit_ty (of_decide_eq_true (List.all_eq_true.mp h t ht))
variable {e : Expr} {ce : DE} {p q q2 pos : Pos} {T U : Str} {Tn Un : String}
theorem je_isi (he : JE X W e ce) (hg : Gl X "isinstance") (hm : X.mg "isinstance" = none) (hgT : Gl X T) (hmT : X.mg T = none) (hv : bootBuiltins T = some (.type Tn)) (hT : tyOk Tn = true) (hn : T ≠ "__name__" := by decide) (hd : (T == ("__debug__" : Str)) = false := by decide)
    (hst : starEach [e, .Name T q] X.env = (false, eval e X.env) :: starEach [.Name T q] X.env := by rfl) (hs2 : starEach [.Name T q] X.env = [(false, eval (.Name T q) X.env)] := by rfl) (hpl : (backTo pos (starEach [.Name T q] X.env)).any (·.1) = false := by rfl) :
    JE X W (.Call (.Name "isinstance" p) [e, .Name T q] [] pos) (eUn (dIsi Tn) ce) :=
  (pe_callB call_isi hg hm (by decide +kernel) (pa_cons he (pa_cons (pe_bltn (v := .ty Tn) hgT hmT hv rfl hn hd) pa_nil hs2) hst) (by decide) (by decide) hst hpl).dimp fun σ H Q ⟨F, m, G, δ, r, s, h⟩ =>
    ⟨F, m, G, δ, r, s, (LR.bind h).imp fun F1 H1 _ d e1 _ ⟨m1, r1, h1⟩ v rv => by
      obtain ⟨t, ty, ht, h2⟩ := tyN_of r1 rv h1
      exact ⟨v, .ty Tn, _, _, _, rfl, .ty Tn, ty, tyOk_of hT ht, h2.ret r1 _ (.bl _)⟩⟩
theorem je_isi2 {k1 : Nat} {tp : Pos} (he : JE X W e ce) (hg : Gl X "isinstance") (hm : X.mg "isinstance" = none) (hgT : Gl X T) (hmT : X.mg T = none) (hv : bootBuiltins T = some (.type Tn)) (hT : tyOk Tn = true)
    (hgU : Gl X U) (hmU : X.mg U = none) (hvU : bootBuiltins U = some (.type Un)) (hU : tyOk Un = true) (hn : T ≠ "__name__" := by decide) (hd : (T == ("__debug__" : Str)) = false := by decide) (hnU : U ≠ "__name__" := by decide) (hdU : (U == ("__debug__" : Str)) = false := by decide)
    (hst : starEach [e, .Tuple [.Name T q, .Name U q2] k1 tp] X.env = (false, eval e X.env) :: starEach [.Tuple [.Name T q, .Name U q2] k1 tp] X.env := by rfl)
    (hs2 : starEach [.Tuple [.Name T q, .Name U q2] k1 tp] X.env = [(false, eval (.Tuple [.Name T q, .Name U q2] k1 tp) X.env)] := by rfl)
    (hs3 : starEach [.Name T q, .Name U q2] X.env = (false, eval (.Name T q) X.env) :: starEach [.Name U q2] X.env := by rfl) (hs4 : starEach [.Name U q2] X.env = [(false, eval (.Name U q2) X.env)] := by rfl)
    (hpl : (backTo pos (starEach [.Tuple [.Name T q, .Name U q2] k1 tp] X.env)).any (·.1) = false := by rfl) :
    JE X W (.Call (.Name "isinstance" p) [e, .Tuple [.Name T q, .Name U q2] k1 tp] [] pos) (eUn (dIsi2 Tn Un) ce) :=
  (pe_callB call_isiT hg hm (by decide +kernel) (pa_cons he (pa_cons (pe_tup (pa_cons (pe_bltn (v := .ty Tn) hgT hmT hv rfl hn hd) (pa_cons (pe_bltn (v := .ty Un) hgU hmU hvU rfl hnU hdU) pa_nil hs4) hs3)) pa_nil hs2) hst) (by decide) (by decide) hst hpl).dimp fun σ H Q ⟨F, m, G, δ, r, s, h⟩ =>
    ⟨F, m, G, δ, r, s, (LR.bind h).imp fun F1 H1 _ d e1 _ ⟨m1, r1, h1⟩ v rv => ⟨by show 2 ≤ sizeLine; decide, fun tp hp => by
      have r2 := r1.newH hp (.tup [.ty Tn, .ty Un])
      obtain ⟨t, ty, ht, h2⟩ := tyN_of r2 rv h1
      refine ⟨v, tp, [.ty Tn, .ty Un], _, [.type Tn, .type Un], isT t Tn || isT t Un, rfl, upd_same, .cons (.ty Tn) (.cons (.ty Un) .nil), ty, ?_, h2.ret r2 _ (.bl _)⟩
      refine kitAny_cons (tyOk_of hT ht) (fun z => ?_) fun z => by rw [z]; rfl
      rw [z]
      exact kitAny_cons (tyOk_of hU ht) (fun w => by rw [w]; rfl) fun w => by rw [w]; rfl⟩⟩
end

def C.upd (a : Addr) (f : MO → Option (D × MO)) : C D := ⟨fun m Q _ => match m a with
  | some o => (match f o with
    | some (d, o') => Q d (mset m a o')
    | none => False)
  | none => False, fun {m Q Q' E E'} hQ _ h => by
    cases e : m a with
    | none => simp only [e] at h
    | some o =>
      simp only [e] at h ⊢
      cases e2 : f o with
      | none => simp only [e2] at h
      | some p => simp only [e2] at h ⊢; exact hQ _ _ h⟩
theorem C.run_upd {a : Addr} {f : MO → Option (D × MO)} {m : Mem} {Q : D → Mem → Prop} {E : Xn → Mem → Prop} {o o' : MO} {d : D} (h : m a = some o) (hf : f o = some (d, o')) : (C.upd a f).run m Q E = Q d (mset m a o') := by
  show (match m a with | some o => (match f o with | some (d, o') => Q d (mset m a o') | none => False) | none => False) = _
  rw [h]
  show (match f o with | some (d, o') => Q d (mset m a o') | none => False) = _
  rw [hf]
theorem LR.upd {K : PySem.W.Frag} {F G : Hp} {m : Mem} {W : WX} {σ : L2.St} {a : Addr} {f : MO → Option (D × MO)} {P : Hp → Hp → D → Prop} (h : LR K F G (C.upd a f) m P W σ) : ∃ o o' d, m a = some o ∧ f o = some (d, o') ∧ ∀ F' H', Ex F F' → Rel K F' (mset m a o') G H' → P F' H' d := by
  unfold LR at h
  cases e : m a with
  | none =>
    have h2 : (match m a with | some o => (match f o with | some (d, o') => _ | none => False) | none => False) := h
    rw [e] at h2; exact h2.elim
  | some o =>
    have h2 : (match m a with | some o => (match f o with | some (d, o') => (fun a m' => ∀ F' H', Ex F F' → Rel K F' m' G H' → P F' H' a) d (mset m a o') | none => False) | none => False) := h
    rw [e] at h2
    cases e2 : f o with
    | none =>
      have h3 : (match f o with | some (d, o') => (fun a m' => ∀ F' H', Ex F F' → Rel K F' m' G H' → P F' H' a) d (mset m a o') | none => False) := h2
      rw [e2] at h3; exact h3.elim
    | some p =>
      obtain ⟨d, o'⟩ := p
      have h3 : (match f o with | some (d, o') => (fun a m' => ∀ F' H', Ex F F' → Rel K F' m' G H' → P F' H' a) d (mset m a o') | none => False) := h2
      rw [e2] at h3
      exact ⟨o, o', d, rfl, e2, h3⟩
def appF (y : D) : MO → Option (D × MO)
  | .lst l => if l.length < sizeLine then some (.non, .lst (l ++ [y])) else none
  | _ => none
def dAppend (x y : D) : C D := match x with
  | .ref a => C.upd a (appF y)
  | _ => C.stuck
theorem run_append {a : Addr} {l : List D} {y : D} {m : Mem} {Q : D → Mem → Prop} {E : Xn → Mem → Prop} (h : m a = some (.lst l)) (hl : l.length < sizeLine) : (dAppend (.ref a) y).run m Q E = Q .non (mset m a (.lst (l ++ [y]))) :=
  C.run_upd (d := .non) (o' := .lst (l ++ [y])) h (if_pos hl)
def setF (i : Int) (y : D) : MO → Option (D × MO)
  | .lst l => (ixN l.length i).map fun j => (.non, .lst (l.set j y))
  | _ => none
def dSetItem (x i y : D) : C D := match x, i with
  | .ref a, .int i => C.upd a (setF i y)
  | _, _ => C.stuck
theorem run_setItem {a : Addr} {l : List D} {i : Int} {j : Nat} {y : D} {m : Mem} {Q : D → Mem → Prop} {E : Xn → Mem → Prop} (h : m a = some (.lst l)) (hl : ixN l.length i = some j) : (dSetItem (.ref a) (.int i) y).run m Q E = Q .non (mset m a (.lst (l.set j y))) :=
  C.run_upd (d := .non) (o' := .lst (l.set j y)) h (by show (ixN l.length i).map _ = _; rw [hl]; rfl)
def eApd (o e : DE) : DE := fun δ => (o δ).bind fun x => (asL x).bind fun _ => (e δ).bind fun y => dAppend x y
section
variable {X : Cx} {W : WX}
/-- xs.append(e) -/
theorem je_append {o e : Expr} {co ce : DE} {apos cpos : Pos} (ho : JE X W o co) (he : JE X W e ce) (hbase : attributeBase o "append" X.env (eval o X.env) = eval o X.env := by rfl)
    (hfew : ((backTo cpos (starEach [e] X.env)).all (fun x => !x.1) && (backToKw cpos (keywordEach [] X.env)).all (fun x => x.1.isSome) && decide ([e].length + ([] : List Keyword).length + (if ([] : List Keyword).isEmpty then 0 else 1) < 30)) = true := by rfl)
    (hline : (apos.endLine == cpos.line) = true := by rfl) (hs : starEach [e] X.env = (false, eval e X.env) :: starEach [] X.env := by rfl) (hplain : (backTo cpos (starEach [] X.env)).any (·.1) = false := by rfl) :
    JE X W (.Call (.Attribute o "append" apos) [e] [] cpos) (eApd co ce) :=
  (pe_bm PySem.F.plainAttrs_list PySem.F.slot_list_append PySem.F.type_list_append mt_append ho (pa_cons he pa_nil hs) hbase hfew hline hs hplain).dimp fun σ H Q ⟨F, m, G, δ, r, s, h⟩ =>
    ⟨F, m, G, δ, r, s, (LR.bind h).imp fun F1 H1 _ x e1 _ ⟨m1, r1, h1⟩ v rv => by
      obtain ⟨a, vs, l, rfl, h2, h3, h4⟩ := asL_of r1 rv h1
      refine ⟨Or.inl ⟨rfl, vs, SqL.of h2⟩, F1, m1, G, δ, r1, s.mono e1, (LR.bind h4).imp fun F2 H2 _ y e2 _ ⟨m2, r2, h5⟩ w rw => ?_⟩
      cases x with
      | ref b =>
        cases rv
        obtain ⟨o, o', d, q1, q2, q3⟩ := LR.upd h5
        cases o with
        | ins c fs => cases q2
        | dic l => cases q2
        | lst k =>
          obtain ⟨⟨ws, q4, q5⟩, q6⟩ := r2.mm _ _ q1
          by_cases hl : k.length < sizeLine
          · have q7 : some (D.non, MO.lst (k ++ [y])) = some (d, o') := (if_pos hl).symm.trans q2
            cases q7
            exact ⟨a, ws, w, rfl, rfl, q4, by rw [q5.length]; exact hl, q3 F2 _ (Ex.refl F2) (r2.putL q6 (r2.gm q1) (q5.append (.cons rw .nil))) _ .non⟩
          · have q7 : none = some (d, o') := (if_neg hl).symm.trans q2
            cases q7
      | _ => exact h5.elim⟩
/-- o[i] = e -/
def sSetItem (o i e : DE) : CS := ⟨fun δ m K => ((e δ).bind fun y => (o δ).bind fun x => (i δ).bind fun j => dSetItem x j y).run m (fun _ m' => K.nx δ m') (fun x m' => K.ex x δ m'), fun l h => C.mono _ (fun _ _ q => l.nx _ _ q) (fun _ _ q => l.ex _ _ _ q) h⟩
@[simp] theorem run_setItemS {o i e : DE} {δ : DSt} {m : Mem} {K : Kt} : (sSetItem o i e).run δ m K = ((e δ).bind fun y => (o δ).bind fun x => (i δ).bind fun j => dSetItem x j y).run m (fun _ m' => K.nx δ m') (fun x m' => K.ex x δ m') := rfl
theorem setItem_of {K : PySem.W.Frag} {F G H : Hp} {m : Mem} {σ : L2.St} {x i y : D} {v w z : V} {Q : Hp → Prop} (r : Rel K F m G H) (rx : Rep K F v x) (ri : Rep K F w i) (ry : Rep K F z y) (h : LR K F G (dSetItem x i y) m (fun F' H' _ => Q H') W σ) : rSetL v w z H Q := by
  unfold dSetItem at h
  split at h
  · rename_i a k
    cases rx
    cases ri
    obtain ⟨o, o', d, q1, q2, q3⟩ := LR.upd h
    cases o with
    | ins c fs => cases q2
    | dic l => cases q2
    | lst l =>
      obtain ⟨⟨ws, q4, q5⟩, q6⟩ := r.mm _ _ q1
      obtain ⟨j, e1, e2⟩ := Option.map_eq_some_iff.mp (show (ixN l.length k).map (fun j => (D.non, MO.lst (l.set j y))) = some (d, o') from q2)
      cases e2
      exact ⟨a, ws, k, j, rfl, rfl, q4, by rw [q5.length]; exact e1, q3 F _ (Ex.refl F) (r.putL q6 (r.gm q1) (q5.set ry j))⟩
  · exact h.elim
theorem js_setItem {o i e : Expr} {co ci ce : DE} {tp pos : Pos} (he : JE X W e ce) (hp : PG X (.Subscript o i tp) (gSub (tE X.K W co) (tE X.K W ci) rSetL)) (hs : swapsWithSole [.Subscript o i tp] e pos.line X.env = pure false := by rfl) (hw : swappedStores [.Subscript o i tp] e X.env = pure none := by rfl)
    (h1 : (assignEach [.Subscript o i tp] X.env).map (·.2) = [assign (.Subscript o i tp) X.env] := by rfl) :
    JS X W (.Assign [.Subscript o i tp] e pos) (sSetItem co ci ce) :=
  (ps_asg he hp hs hw h1).dimp fun E σ H ⟨F, m, G, δ, r, s, h⟩ => ⟨F, m, G, δ, r, s, by
    have h2 : LR X.K F G ((ce δ).bind fun y => (co δ).bind fun x => (ci δ).bind fun j => dSetItem x j y) m (fun F' H' _ => E.nx σ H') W σ := C.mono _ (fun _ m' q F' H' e r' => q F' H' σ e r' (s.mono e)) (fun x m' q => liftX_of s q) h
    exact (LR.bind h2).imp fun F1 H1 _ y e1 _ ⟨m1, r1, h3⟩ z rz => ⟨F1, m1, G, δ, r1, s.mono e1, (LR.bind h3).imp fun F2 H2 _ x e2 _ ⟨m2, r2, h4⟩ v rv => ⟨F2, m2, G, δ, r2, (s.mono e1).mono e2, (LR.bind h4).imp fun F3 H3 _ k e3 _ ⟨m3, r3, h5⟩ w rw =>
      setItem_of r3 (rv.mono e3) rw ((rz.mono e2).mono e3) h5⟩⟩⟩
end
end DL

namespace DL
open PySem PySem.Spec PyProof.Rows L2
section
variable {X : Cx} {W : WX} {a b c : Expr} {ca cb cc : DE} {pos : Pos}
theorem je_chain {op op' : CmpOp} {r r' : R2} {f g : D → D → C D} (ho : OpR X (compareOp op) r) (hf : OpD X W f r) (ho' : OpR X (compareOp op') r') (hf' : OpD X W g r') (ha : JE X W a ca) (hb : JE X W b cb) (hc : JE X W c cc) (hm : lastMarks [op, op'] [b, c] = false := by with_unfolding_all rfl) :
    JE X W (.Compare a [op, op'] [b, c] pos) (eChain f g ca cb cc) :=
  (pe_chain ho ho' ha hb hc hm).dimp fun σ H Q ⟨F, m, G, δ, rl, s, h⟩ => ⟨F, m, G, δ, rl, s, (LR.bind h).imp fun F1 H1 _ x e1 _ ⟨m1, r1, h1⟩ v rv => ⟨F1, m1, G, δ, r1, s.mono e1, (LR.bind h1).imp fun F2 H2 _ y e2 _ ⟨m2, r2, h2⟩ w rw =>
    hf F2 m2 G H2 σ x y v w _ r2 (rv.mono e2) rw ((LR.bind h2).imp fun F3 H3 _ z e3 _ ⟨m3, r3, h3⟩ u ru => by
      obtain ⟨k, rfl, h4⟩ := truth_bl h3
      cases ru
      refine ⟨k, rfl, ?_⟩
      cases k with
      | true => exact ⟨F3, m3, G, δ, r3, ((s.mono e1).mono e2).mono e3, (LR.bind h4).imp fun F4 H4 _ q e4 _ ⟨m4, r4, h5⟩ t rt => hf' F4 m4 G H4 σ y q w t Q r4 ((rw.mono e3).mono e4) rt h5⟩
      | false => exact h4.ret r3 _ (.bl false))⟩⟩
theorem jt_chain {op op' : CmpOp} {r r' : R2} {f g : D → D → C D} (ho : OpR X (compareOp op) r) (hf : OpD X W f r) (ho' : OpR X (compareOp op') r') (hf' : OpD X W g r') (ha : JE X W a ca) (hb : JE X W b cb) (hc : JE X W c cc) (hm : lastMarks [op, op'] [b, c] = false := by with_unfolding_all rfl) :
    JT X W (.Compare a [op, op'] [b, c] pos) (tOf (eChain f g ca cb cc)) :=
  (pt_chain ho ho' ha hb hc hm).dimp fun σ H Q ⟨F, m, G, δ, rl, s, h⟩ => ⟨F, m, G, δ, rl, s, (LR.bind (c := ca δ) (k := fun x => ((cb δ).bind fun y => (f x y).bind fun z => (truth z).bind fun k => if k = true then (cc δ).bind fun w => g y w else C.ret (.bl false)).bind truth) h).imp fun F1 H1 _ x e1 _ ⟨m1, r1, h1⟩ v rv => ⟨F1, m1, G, δ, r1, s.mono e1, (LR.bind (c := cb δ) (k := fun y => ((f x y).bind fun z => (truth z).bind fun k => if k = true then (cc δ).bind fun w => g y w else C.ret (.bl false)).bind truth) h1).imp fun F2 H2 _ y e2 _ ⟨m2, r2, h2⟩ w rw =>
    hf F2 m2 G H2 σ x y v w _ r2 (rv.mono e2) rw ((LR.bind (c := f x y) (k := fun z => ((truth z).bind fun k => if k = true then (cc δ).bind fun w => g y w else C.ret (.bl false)).bind truth) h2).imp fun F3 H3 _ z e3 _ ⟨m3, r3, h3⟩ u ru => by
      obtain ⟨k, rfl, h4⟩ := truth_bl (k := fun k => (if k = true then (cc δ).bind fun w => g y w else C.ret (.bl false)).bind truth) h3
      cases ru
      refine ⟨k, rfl, ?_⟩
      cases k with
      | true => exact ⟨F3, m3, G, δ, r3, ((s.mono e1).mono e2).mono e3, (LR.bind (c := cc δ) (k := fun w => (g y w).bind truth) h4).imp fun F4 H4 _ q e4 _ ⟨m4, r4, h5⟩ t rt => hf' F4 m4 G H4 σ y q w t _ r4 ((rw.mono e3).mono e4) rt ((LR.bind h5).imp fun F5 H5 _ b e5 _ ⟨m5, r5, h6⟩ u ru => by
          obtain ⟨k, rfl, h7⟩ := truth_bl (k := C.ret) h6
          cases ru
          exact ⟨k, rfl, h7.ret r5⟩)⟩
      | false => exact ⟨false, rfl, h4.ret r3⟩)⟩⟩
theorem jt_cmp {op : CmpOp} {r : R2} {f : D → D → C D} (ho : OpR X (compareOp op) r) (hf : OpD X W f r) (ha : JE X W a ca) (hb : JE X W b cb) (hm : behindInMarks op b = false) : JT X W (.Compare a [op] [b] pos) (tOf (eOp f ca cb)) :=
  (pt_cmpR ho ha hb hm).dimp fun σ H Q ⟨F, m, G, δ, rl, s, h⟩ => ⟨F, m, G, δ, rl, s, (LR.bind (c := ca δ) (k := fun x => ((cb δ).bind fun y => f x y).bind truth) h).imp fun F1 H1 _ x e1 _ ⟨m1, r1, h1⟩ v rv => ⟨F1, m1, G, δ, r1, s.mono e1, (LR.bind (c := cb δ) (k := fun y => (f x y).bind truth) h1).imp fun F2 H2 _ y e2 _ ⟨m2, r2, h2⟩ w rw =>
    hf F2 m2 G H2 σ x y v w _ r2 (rv.mono e2) rw ((LR.bind h2).imp fun F3 H3 _ z e3 _ ⟨m3, r3, h3⟩ u ru => by
      obtain ⟨k, rfl, h4⟩ := truth_bl (k := C.ret) h3
      cases ru
      exact ⟨k, rfl, h4.ret r3⟩)⟩⟩
end
def sFrz (i : Nat) : CS := ⟨fun δ m K => match δ[i]? with
  | some (some (.ref a)) => (match m a with
    | some (.lst l) => K.nx (δ.set i (some (.lst l))) (mdel m a)
    | some (.ins c fs) => K.nx (δ.set i (some (.obj c fs))) (mdel m a)
    | some (.dic l) => K.nx (δ.set i (some (.dic l))) (mdel m a)
    | none => False)
  | _ => False, fun {δ m A B} l h => by
    split at h
    · rename_i a e
      split at h
      · exact l.nx _ _ h
      · exact l.nx _ _ h
      · exact l.nx _ _ h
      · exact h
    · exact h⟩
theorem run_sFrz {i : Nat} {δ : DSt} {m : Mem} {K : Kt} {a : Addr} {l : List D} (h : δ[i]? = some (some (.ref a))) (hm : m a = some (.lst l)) : (sFrz i).run δ m K = K.nx (δ.set i (some (.lst l))) (mdel m a) := by
  unfold sFrz
  simp only [h, hm]
theorem run_sFrzI {i : Nat} {δ : DSt} {m : Mem} {K : Kt} {a : Addr} {c : Str} {fs : List (Str × D)} (h : δ[i]? = some (some (.ref a))) (hm : m a = some (.ins c fs)) : (sFrz i).run δ m K = K.nx (δ.set i (some (.obj c fs))) (mdel m a) := by
  unfold sFrz
  simp only [h, hm]
theorem SRel.setD {K : PySem.W.Frag} {F : Hp} {v : V} {d : D} (r : Rep K F v d) : ∀ {σ : L2.St} {δ : DSt} {i : Nat}, SRel K F σ δ → σ[i]? = some (some v) → SRel K F σ (δ.set i (some d))
  | [], [], _, _, h => by simp at h
  | _ :: _, _ :: _, 0, s, h => by
    simp at h
    exact ⟨⟨v, h, r⟩, s.2⟩
  | _ :: _, _ :: _, i + 1, s, h => ⟨s.1, SRel.setD r s.2 (by simpa using h)⟩
  | [], _ :: _, _, s, _ => s.elim
  | _ :: _, [], _, s, _ => s.elim
section
variable {X : Cx} {W : WX}
theorem jb_frz {sts : List Stmt} {c : CS} {i : Nat} (h : JB X W sts c) : JB X W sts (sSeq (sFrz i) c) := by
  refine PSs.dimp h fun E σ H ⟨F, m, G, δ, r, s, h⟩ => ?_
  unfold sFrz sSeq at h
  simp only at h
  split at h
  · rename_i a e
    obtain ⟨v, hv, rv⟩ := s.get e
    cases rv
    split at h
    · rename_i l em
      obtain ⟨⟨vs, h5, h6⟩, h4⟩ := r.mm a _ em
      have ex := Ex.new (o := .lst vs) h4
      exact ⟨_, _, G, _, r.freeze h5 h4 (r.gm em), (s.mono ex).setD (.lst upd_same (h6.mono ex)) hv, c.mono (liftK.mono ex) h⟩
    · rename_i cl fs em
      obtain ⟨⟨dx, vs, h5, h6⟩, h4⟩ := r.mm a _ em
      have ex := Ex.new (o := .ins (He.ga X.K cl) dx vs) h4
      exact ⟨_, _, G, _, r.freeze h5 h4 (r.gm em), (s.mono ex).setD (.obj upd_same (h6.mono ex)) hv, c.mono (liftK.mono ex) h⟩
    · rename_i l em
      obtain ⟨⟨vs, h5, h6⟩, h4⟩ := r.mm a _ em
      have ex := Ex.new (o := .dK vs) h4
      exact ⟨_, _, G, _, r.freeze h5 h4 (r.gm em), (s.mono ex).setD (.dic upd_same (h6.mono ex)) hv, c.mono (liftK.mono ex) h⟩
    · exact h.elim
  · exact h.elim
end
end DL

namespace DL
open PySem PySem.Spec PyProof.Rows L2
/-- the module's name x is a def that does what fD does, called by place: its parameters ps, the last of them filled by dds -/
def Has (P : Program) (w : World) (K : PySem.W.Frag) (mg : Str → Option Value) (base : Heap) (x : Str) (n k : Nat) (dds : List D) (fD : List D → C D) : Prop :=
  ∃ (f : Addr) (fd : FuncData) (ps : List Str) (dvs : List V) (dus : List Value), mg x = some (.ref f) ∧ FnOk P w K mg base (L2.CX P w) k f fd ps (spD K ps.length fD) ∧ PySem.W.keepIn K (.ref f) = true ∧ Binds K fd ps dus ∧ Vals dvs dus ∧ (∀ F : Hp, Reps K F dvs dds) ∧ n + dds.length = ps.length
/-- .. called with n values by place and the keywords ks behind -/
def HasK (P : Program) (w : World) (K : PySem.W.Frag) (mg : Str → Option Value) (base : Heap) (x : Str) (n : Nat) (ks : List Str) (k : Nat) (fD : List D → C D) : Prop :=
  ∃ (f : Addr) (fd : FuncData) (ps : List Str), mg x = some (.ref f) ∧ FnOk P w K mg base (L2.CX P w) k f fd ps (spD K ps.length fD) ∧ PySem.W.keepIn K (.ref f) = true ∧ n + ks.length = ps.length ∧
    ∀ (s : Shared) (us ws : List Value), K.In s.heap → us.length = n → ws.length = ks.length → BindsTo s fd ⟨us, ks.zip ws⟩ (ps.zip (us ++ ws))
def eCall (n : Nat) (dds : List D) (fD : List D → C D) (a : DA) : DE := fun δ => (a δ).bind fun l => if l.length = n then fD (l ++ dds) else C.stuck
def eCallK (n m : Nat) (fD : List D → C D) (a b : DA) : DE := fun δ => (a δ).bind fun l => (b δ).bind fun k => if l.length = n ∧ k.length = m then fD (l ++ k) else C.stuck
section
variable {X : Cx} {W : WX} {k n : Nat} {dds : List D} {fD : List D → C D} {x : Str} {p pos : Pos} {e : Expr} {es : List Expr} {ca ck : DA}
theorem je_callH (h : Has X.prog X.w X.K X.mg X.base x n k dds fD) (hr : Room k X.A) (tk : Takes X W) (hg : Gl X x) (ha : JA X W (e :: es) ca)
    (hdb : (x == ("__debug__" : Str)) = false := by decide) (he : starEach (e :: es) X.env = (false, eval e X.env) :: starEach es X.env := by rfl) (hpl : (backTo pos (starEach es X.env)).any (·.1) = false := by rfl) :
    JE X W (.Call (.Name x p) (e :: es) [] pos) (eCall n dds fD ca) := by
  obtain ⟨f, fd, ps, dvs, dus, hm, Fn, kp, hb, hd, hdd, hn⟩ := h
  refine (pe_callSD Fn hr hg hm kp hb hd (fun σ => passAt tk σ) ha hdb he hpl).dimp fun σ H Q ⟨F, m, G, δ, r, s, h⟩ => ⟨F, m, G, δ, r, s, (LR.bind h).imp fun F1 H1 _ l e1 _ ⟨m1, r1, h1⟩ vs rv => ?_⟩
  obtain ⟨hl, h1⟩ := LR.ite h1
  have rr := rv.append (hdd F1)
  exact ⟨by rw [rr.length, List.length_append, hl, hn], F1, m1, G, l ++ dds, r1, rr, h1⟩
theorem je_callH0 (h : Has X.prog X.w X.K X.mg X.base x 0 k [] fD) (hr : Room k X.A) (tk : Takes X W) (hg : Gl X x) (hdb : (x == ("__debug__" : Str)) = false := by decide) :
    JE X W (.Call (.Name x p) [] [] pos) (fun _ => fD []) := by
  obtain ⟨f, fd, ps, dvs, dus, hm, Fn, kp, hb, hd, hdd, hn⟩ := h
  obtain rfl : dvs = [] := by
    have := (hdd fun _ => none).length
    exact List.eq_nil_of_length_eq_zero this
  obtain rfl : ps = [] := List.eq_nil_of_length_eq_zero hn.symm
  cases hd
  refine ⟨fun pins s σ H Q I ⟨F, m, G, δ, r, sr, h⟩ => ?_⟩
  refine wpAny_Call_Name_kw (ld_glob I hg hm ?_ hdb)
  refine PySem.W.callWith_K0 I.kIn kp ?_
  exact run_fnSD (vs := []) (us := []) (ds := []) Fn hr hb .nil (passAt tk σ) I .nil ⟨rfl, F, m, G, [], r, .nil, h⟩
theorem _root_.L2.PK.dimp {kws : List Keyword} {t t' : TA} (h : PK X kws t) (k : ∀ σ H Q, t' σ H Q → t σ H Q) : PK X kws t' := ⟨fun pos pins s σ H Q I q => h.run pos pins s σ H Q I (k σ H Q q)⟩
def JK (X : Cx) (W : WX) (kws : List Keyword) (c : DA) : Prop := PK X kws (tA X.K W c)
theorem jk_nil : JK X W [] aNil := pk_nil.dimp fun _ _ _ ⟨_, _, _, _, r, _, h⟩ => h.ret r _ .nil
theorem jk_cons {nm : Option Str} {kpos : Pos} {kws : List Keyword} {ce : DE} {r : DA} (ha : JE X W e ce) (hr : JK X W kws r) : JK X W (⟨nm, e, kpos⟩ :: kws) (aCons ce r) :=
  (pk_cons ha hr).dimp fun σ H Q ⟨F, m, G, δ, rl, s, h⟩ => ⟨F, m, G, δ, rl, s, (LR.bind h).imp fun F1 H1 _ x e1 _ ⟨m1, r1, h1⟩ v rv => ⟨F1, m1, G, δ, r1, s.mono e1, (LR.bind h1).imp fun F2 H2 _ xs e2 _ ⟨m2, r2, h2⟩ vs rvs =>
    h2.ret r2 _ (.cons (rv.mono e2) rvs)⟩⟩
theorem je_callKw {ks : List Str} {kws : List Keyword} (h : HasK X.prog X.w X.K X.mg X.base x n ks k fD) (hr : Room k X.A) (tk : Takes X W) (hg : Gl X x) (ha : JA X W (e :: es) ca) (hkw : JK X W kws ck)
    (hall : (backToKw pos (keywordEach kws X.env)).all (·.1.isSome) = true := by rfl) (hks : (backToKw pos (keywordEach kws X.env)).filterMap (·.1) = ks := by rfl)
    (hdb : (x == ("__debug__" : Str)) = false := by decide) (he : starEach (e :: es) X.env = (false, eval e X.env) :: starEach es X.env := by rfl)
    (hpl : ((backTo pos (starEach (e :: es) X.env)).any (·.1) || (backToKw pos (keywordEach kws X.env)).any (·.1.isNone)) = false := by rfl) :
    JE X W (.Call (.Name x p) (e :: es) kws pos) (eCallK n ks.length fD ca ck) := by
  obtain ⟨f, fd, ps, hm, Fn, kp, hn, hb⟩ := h
  refine ⟨fun pins s σ H Q I ⟨F, m, G, δ, r, sr, h⟩ => ?_⟩
  refine wpAny_Call_Name_kw (ld_glob I hg hm ?_ hdb)
  have h2 : tA X.K W ca σ H (fun vs H1 => tA X.K W ck σ H1 fun zs H2 => vs.length = n ∧ zs.length = ks.length ∧ spD X.K ps.length fD (vs ++ zs) H2 Q (WE W σ)) :=
    ⟨F, m, G, δ, r, sr, (LR.bind h).imp fun F1 H1 _ l e1 _ ⟨m1, r1, h1⟩ vs rv => ⟨F1, m1, G, δ, r1, sr.mono e1, (LR.bind h1).imp fun F2 H2 _ z e2 _ ⟨m2, r2, h2⟩ zs rz => by
      obtain ⟨hl, h2⟩ := LR.ite h2
      have rr := (rv.mono e2).append rz
      exact ⟨by rw [rv.length]; exact hl.1, by rw [rz.length]; exact hl.2, by rw [rr.length, List.length_append, hl.1, hl.2, hn], F2, m2, G, l ++ z, r2, rr, h2⟩⟩⟩
  refine PySem.W.callWith_KW (h₀ := X.base) I.ok.mod.kin kp hall (thn (PA.run ha pos pins s σ H _ I h2) fun us s1 ⟨vs, H1, I1, rv, q⟩ => ?_) hpl he
  refine thn (PK.run hkw pos pins s1 σ H1 _ I1 q) fun ws s2 ⟨zs, H2, I2, rz, l1, l2, q2⟩ => ⟨I2.kIn, ?_⟩
  rw [hks]
  have r2 : Vals (vs ++ zs) (us ++ ws) := rv.append rz
  refine wpAny_call (codeAny_mono (Fn.run X.A X.stack s2 H2 ⟨us, ks.zip ws⟩ (us ++ ws) (vs ++ zs) Q (WE W σ) hr I2.env0 (hb s2 us ws I2.kIn (rv.length.symm.trans l1) (rz.length.symm.trans l2)) r2 q2) fun r s' hq => ?_)
  cases r with
  | error e => exact passAt tk σ pins H2 s2 e s' I2 hq
  | ok fl =>
    cases fl with
    | ret u => exact I2.after hq
    | next => exact hq.elim
    | brk => exact hq.elim
    | cont => exact hq.elim
end
end DL

namespace DL
open PySem PySem.Spec PyProof.Rows L2
/-- the module's name x holds the datum d -/
def KConst (K : PySem.W.Frag) (mg : Str → Option Value) (x : Str) (d : D) : Prop := ∃ v u, mg x = some u ∧ RelV v u ∧ ∀ F : Hp, Rep K F v d
section
variable {X : Cx} {W : WX}
theorem je_const {x : Str} {d : D} {pos : Pos} (h : KConst X.K X.mg x d) (hg : Gl X x) (hd : (x == ("__debug__" : Str)) = false := by decide) : JE X W (.Name x pos) (eC d) := by
  obtain ⟨v, u, hm, rv, hr⟩ := h
  exact je_glob hg hm rv hr hd
theorem takesWF : Takes X WF := fun u s' ⟨_, _, _, _, _, _, _, _, _, _, _, _, _, _, _, _, w⟩ => w.elim
theorem gs_len2 {i j : Nat} (l : List D) (δ : DSt) (h : l.length ≠ 2) : gsCons (gN i) (gsCons (gN j) gsNil) l δ = C.stuck := match l, h with
  | [], _ => rfl
  | [_], _ => rfl
  | [_, _], h => absurd rfl h
  | _ :: _ :: _ :: _, _ => rfl
theorem gs_len3 {i j k : Nat} (l : List D) (δ : DSt) (h : l.length ≠ 3) : gsCons (gN i) (gsCons (gN j) (gsCons (gN k) gsNil)) l δ = C.stuck := match l, h with
  | [], _ => rfl
  | [_], _ => rfl
  | [_, _], _ => rfl
  | [_, _, _], h => absurd rfl h
  | _ :: _ :: _ :: _ :: _, _ => rfl
theorem gs_len4 {i j k q : Nat} (l : List D) (δ : DSt) (h : l.length ≠ 4) : gsCons (gN i) (gsCons (gN j) (gsCons (gN k) (gsCons (gN q) gsNil))) l δ = C.stuck := match l, h with
  | [], _ => rfl
  | [_], _ => rfl
  | [_, _], _ => rfl
  | [_, _, _], _ => rfl
  | [_, _, _, _], h => absurd rfl h
  | _ :: _ :: _ :: _ :: _ :: _, _ => rfl
theorem gs_len5 {i j k q r : Nat} (l : List D) (δ : DSt) (h : l.length ≠ 5) : gsCons (gN i) (gsCons (gN j) (gsCons (gN k) (gsCons (gN q) (gsCons (gN r) gsNil)))) l δ = C.stuck := match l, h with
  | [], _ => rfl
  | [_], _ => rfl
  | [_, _], _ => rfl
  | [_, _, _], _ => rfl
  | [_, _, _, _], _ => rfl
  | [_, _, _, _, _], h => absurd rfl h
  | _ :: _ :: _ :: _ :: _ :: _ :: _, _ => rfl
end
section
variable {P : Program} {w : World} {K : PySem.W.Frag} {mg : Str → Option Value} {base : Heap} {x qual : Str} {params : Arguments} {body : List Stmt} {scope : Scope} {dvs : List V} {kws : List (Str × V)} {f : Addr} {fd : FuncData}
theorem fn_okX {N ps : List Str} {k : Nat} {cs : CS} (Fd : FunD K x qual params body scope dvs kws f fd) (S : FnScope N ps scope)
    (hbody : ∀ (cdv : Value) (A : Around) (outer : List Env) (s : Shared) (H : Hp) (E : XK), Room k (A.deeper (envOfC qual scope s.heap.objs.size f cdv)) →
      Takes (cxOf (L2.CX P w) P w K mg base N qual scope f cdv A outer s H E) (fun c d _ H => E c d H) → PassesOwn (model P w) (cxOf (L2.CX P w) P w K mg base N qual scope f cdv A outer s H E).A (cxOf (L2.CX P w) P w K mg base N qual scope f cdv A outer s H E).env (cxOf (L2.CX P w) P w K mg base N qual scope f cdv A outer s H E).xe →
      (∀ (c : Value) (d : Option Addr) (σ σ' : L2.St) (H : Hp), (fun (c : Value) (d : Option Addr) (_ : L2.St) (H : Hp) => E c d H) c d σ H → (fun (c : Value) (d : Option Addr) (_ : L2.St) (H : Hp) => E c d H) c d σ' H) →
      JB (cxOf (L2.CX P w) P w K mg base N qual scope f cdv A outer s H E) (fun c d _ H => E c d H) body cs) : FnOk P w K mg base (L2.CX P w) (k + 1) f fd ps (spD K ps.length (fnD N.length cs)) :=
  fn_ok Fd S fun cdv A outer s H E hr => hbody cdv A outer s H E hr (takes_of rfl rfl rfl rfl) (passes_of rfl) fun _ _ _ _ _ h => h
theorem has_of {n k : Nat} {ps : List Str} {fD : List D → C D} (hm : mg x = some (.ref f)) (Fd : FunD K x qual params body scope [] kws f fd) (ok : FnOk P w K mg base (L2.CX P w) k f fd ps (spD K ps.length fD)) (hn : n = ps.length)
    (hb : ∀ (kV doc pm : Value) (an : Option Addr) (cdv ct : Value) (us : List Value), us.length = ps.length → bindArgs (PySem.W.fnOf x qual params body scope .none kV doc pm an cdv ct) ⟨us, []⟩ = pure (ps.zip us)) : Has P w K mg base x n k [] fD :=
  ⟨f, fd, ps, [], [], hm, ok, Fd.kp, Fd.bindsN hb, .nil, fun _ => .nil, by rw [List.length_nil]; exact hn⟩
/-- the law: for every script it hands back True -/
theorem law_sp {fD : List D → C D} (h : ∀ ns : List Int, ns.length ≤ 63 → (fD [.scr ns]).run (fun _ => none) (fun d _ => d = .bl true) (fun _ _ => False)) (H : Hp) (a : Addr) (ns : List Int) (hl : ns.length ≤ 63) (hS : SqL K H a (ns.map V.int)) :
    spD K 1 fD [.ref a] H (fun v _ => v = .bl true) (fun _ _ _ => False) :=
  ⟨rfl, H, fun _ => none, fun _ => none, [.scr ns], ⟨Ex.refl H, fun _ _ e => (by cases e), fun _ _ e => (by cases e)⟩, .cons (.scr hS) .nil, C.mono _ (fun d m' q F' H' e r v rv => by subst q; cases rv; rfl) (fun _ _ q => q.elim) (h ns hl)⟩
theorem fn_cx0 {k : Nat} {ps : List Str} {sp : Sp} (h : FnOk P w K mg base (L2.CX P w) k f fd ps sp) : FnOk P w K mg base CX0 k f fd ps (fun vs H Q _ => sp vs H Q fun _ _ _ => False) :=
  ⟨fun vs H Q E q => h.len vs H Q _ q, fun A outer s H args us vs Q E hr he hb hv q => codeAny_mono (h.run A outer s H args us vs Q _ hr he hb hv q) fun r s' z => by
    cases r with
    | ok fl => cases fl <;> exact z
    | error e =>
      obtain ⟨_, _, _, _, _, _, _, _, _, _, _, _, z⟩ := (show L2.CX P w outer H s (fun _ _ _ => False) e s' from z)
      exact z.elim⟩
theorem no_cx {P : Program} {w : World} (H : Hp) (s : Shared) (e : Value) (s' : Shared) (h : L2.CX P w [] H s (fun _ _ _ => False) e s') : False := by
  obtain ⟨_, _, _, _, _, _, _, _, _, _, _, _, h⟩ := h
  exact h
end
theorem const_int {K : PySem.W.Frag} {h : Heap} {mg : Str → Option Value} {x : Str} {i : Int} (X : K.In h) (G : h.Ns mainGlobals mg) (c : (He.Fa.int x i).ok K = true) : KConst K mg x (.int i) := by
  obtain ⟨t, e⟩ := He.int_ok X G c
  exact ⟨.int i, _, e, ⟨t, rfl⟩, fun _ => .int i⟩
theorem const_str {K : PySem.W.Frag} {h : Heap} {mg : Str → Option Value} {x z : Str} (X : K.In h) (G : h.Ns mainGlobals mg) (c : (He.Fa.str x z).ok K = true) (hz : PyData.strOk z = true) : KConst K mg x (.str z) := by
  obtain ⟨t, e⟩ := He.str_ok X G c
  exact ⟨.str z, _, e, ⟨t, rfl⟩, fun _ => .str z hz⟩
theorem const_strs {K : PySem.W.Frag} {h : Heap} {mg : Str → Option Value} {x : Str} {zs : List Str} (X : K.In h) (G : h.Ns mainGlobals mg) (c : (He.Fa.glo x).ok K = true) (ht : He.tupB K x (zs.map He.Dv.str) = true) (hz : zs.all PyData.strOk = true) : KConst K mg x (.tup (zs.map D.str)) := by
  refine ⟨.ref (He.ga K x), _, He.glo_ok X G c, rfl, fun F => .tup (He.tupB_ok ht F) ?_⟩
  rw [List.map_map]
  clear ht c
  induction zs with
  | nil => exact .nil
  | cons z zs ih =>
    rw [List.all_cons, Bool.and_eq_true] at hz
    exact .cons (.str z hz.1) (ih hz.2)
end DL

namespace DL
open PySem PySem.Spec PyProof.Rows L2
def keyD : D → Option Key
  | .int i => some (.inl i)
  | .str x => some (.inr x)
  | _ => none
def valD (kvs : List (Key × D)) (k : Key) : Option D := (kvs.find? fun kv => decide (kv.1 = k)).map (·.2)
def putKD (kvs : List (Key × D)) (k : Key) (v : D) : List (Key × D) :=
  if (kvs.any fun kv => decide (kv.1 = k)) = true then kvs.map (fun kv => if kv.1 = k then (kv.1, v) else kv) else kvs ++ [(k, v)]
def mergeKD (kvs more : List (Key × D)) : List (Key × D) := more.foldl (fun acc kv => putKD acc kv.1 kv.2) kvs
def pairsD : List (DE × DE) → DSt → C (List (Key × D))
  | [], _ => C.ret []
  | (k, v) :: r, δ => (k δ).bind fun x => (v δ).bind fun y => (ofO (keyD x)).bind fun q => (pairsD r δ).bind fun l => C.ret ((q, y) :: l)
def eDisp (ps : List (DE × DE)) : DE := fun δ => (pairsD ps δ).bind fun l => if l.length ≤ 15 then C.ret (.dic (mergeKD [] l)) else C.stuck
/-- the pairs of a dict -/
def asD : D → C (List (Key × D))
  | .dic l => C.ret l
  | .ref a => C.look a fun o => match o with
    | .dic l => C.ret l
    | _ => C.stuck
  | _ => C.stuck
def dGet (x y : D) : C D := (asD x).bind fun l => (ofO (keyD y)).bind fun k => ofO (valD l k)
section
variable {X : Cx} {W : WX} {K : PySem.W.Frag} {F G H : Hp} {m : Mem} {σ : L2.St}
theorem RepK.length : ∀ {vs : List (Key × V)} {ds : List (Key × D)}, RepK K F vs ds → vs.length = ds.length
  | _, _, .nil => rfl
  | _, _, .cons _ t => by rw [List.length_cons, List.length_cons, RepK.length t]
theorem RepK.val {k : Key} : ∀ {vs : List (Key × V)} {ds : List (Key × D)} {d : D}, RepK K F vs ds → valD ds k = some d → ∃ v, valV vs k = some v ∧ Rep K F v d
  | _, _, _, .nil, h => by cases h
  | _, _, d, .cons (n := n) (ds := ds) r t, h => by
    unfold valD at h
    rw [List.find?_cons] at h
    unfold valV
    rw [List.find?_cons]
    by_cases e : n = k
    · simp only [e, decide_true] at h ⊢
      cases h
      exact ⟨_, rfl, r⟩
    · simp only [e, decide_false] at h ⊢
      exact RepK.val t h
theorem RepK.valN {k : Key} : ∀ {vs : List (Key × V)} {ds : List (Key × D)}, RepK K F vs ds → valD ds k = none → valV vs k = none
  | _, _, .nil, h => rfl
  | _, _, .cons (n := n) (ds := ds) r t, h => by
    unfold valD at h
    rw [List.find?_cons] at h
    unfold valV
    rw [List.find?_cons]
    by_cases e : n = k
    · simp only [e, decide_true] at h
      cases h
    · simp only [e, decide_false] at h ⊢
      exact RepK.valN t h
theorem RepK.any {k : Key} : ∀ {vs : List (Key × V)} {ds : List (Key × D)}, RepK K F vs ds → (vs.any fun kv => decide (kv.1 = k)) = ds.any fun kv => decide (kv.1 = k)
  | _, _, .nil => rfl
  | _, _, .cons r t => by rw [List.any_cons, List.any_cons, RepK.any t]
theorem RepK.map {k : Key} {v : V} {d : D} (rv : Rep K F v d) : ∀ {vs : List (Key × V)} {ds : List (Key × D)}, RepK K F vs ds → RepK K F (vs.map fun kv => if kv.1 = k then (kv.1, v) else kv) (ds.map fun kv => if kv.1 = k then (kv.1, d) else kv)
  | _, _, .nil => .nil
  | _, _, .cons (n := n) r t => by
    rw [List.map_cons, List.map_cons]
    by_cases e : n = k
    · simp only [e, if_true]
      exact .cons rv (RepK.map rv t)
    · simp only [e, if_false]
      exact .cons r (RepK.map rv t)
theorem RepK.snoc {k : Key} {v : V} {d : D} (rv : Rep K F v d) : ∀ {vs : List (Key × V)} {ds : List (Key × D)}, RepK K F vs ds → RepK K F (vs ++ [(k, v)]) (ds ++ [(k, d)])
  | _, _, .nil => .cons rv .nil
  | _, _, .cons r t => .cons r (RepK.snoc rv t)
theorem RepK.put {k : Key} {v : V} {d : D} (rv : Rep K F v d) {vs : List (Key × V)} {ds : List (Key × D)} (r : RepK K F vs ds) : RepK K F (putK vs k v) (putKD ds k d) := by
  unfold putK putKD
  rw [r.any]
  split
  · exact r.map rv
  · exact r.snoc rv
theorem RepK.merge : ∀ {more : List (Key × V)} {dm : List (Key × D)} {vs : List (Key × V)} {ds : List (Key × D)}, RepK K F more dm → RepK K F vs ds → RepK K F (mergeK vs more) (mergeKD ds dm)
  | _, _, _, _, .nil, r => r
  | _, _, _, _, .cons (n := n) (v := v) (d := d) rv t, r => by
    have q := RepK.merge t (r.put (k := n) rv)
    exact q
theorem keyD_of {v : V} {d : D} {k : Key} (r : Rep K F v d) (h : keyD d = some k) : v = kV k := by
  cases r <;> first
    | (cases h; rfl)
    | (cases h; done)
theorem LR.bindG {α β : Type} {c : C α} {k : α → C β} {P : Hp → Hp → β → Prop} {p : Addr} {o : HO} (hG : G p = none) (h : LR K F G (c.bind k) m P W σ) : LR K F (L2.upd G p o) c m (fun F1 H1 a => ∃ m1, Rel K F1 m1 (L2.upd G p o) H1 ∧ LR K F1 G (k a) m1 P W σ) W σ :=
  c.mono (fun a m' q F1 H1 e r => ⟨m', r, (k a).mono (fun b m'' q2 F2 H2 e2 r2 => q2 F2 H2 (e.trans e2) r2) (fun _ _ q2 => liftX.mono e q2) q⟩) (fun x m' q F' H' c d e r => q F' H' c d e (r.less hG)) h
theorem pairs_sound {σ : L2.St} : ∀ {ps : List (DE × DE)} {F G H : Hp} {m : Mem} {δ : DSt} {P : Hp → Hp → List (Key × D) → Prop} {Q : List (V × V) → Hp → Prop}, Rel K F m G H → SRel K F σ δ → LR K F G (pairsD ps δ) m P W σ →
    (∀ F2 H2 m2 l vs, Ex F F2 → Rel K F2 m2 G H2 → RepK K F2 vs l → P F2 H2 l → Q (vs.map fun kv => (kV kv.1, kv.2)) H2) → tPairs (ps.map fun p => (tE K W p.1, tE K W p.2)) σ H Q
  | [], F, G, H, m, δ, P, Q, r, s, h, k => k F H m [] [] (Ex.refl F) r .nil (h.ret r)
  | (pk, pv) :: ps, F, G, H, m, δ, P, Q, r, s, h, k => by
    refine ⟨F, m, G, δ, r, s, (LR.bind h).imp fun F1 H1 _ x e1 _ ⟨m1, r1, h1⟩ v rv => ⟨F1, m1, G, δ, r1, s.mono e1, (LR.bind h1).imp fun F2 H2 _ y e2 _ ⟨m2, r2, h2⟩ w rw => ?_⟩⟩
    obtain ⟨q, eq, h2⟩ := h2.ofOb
    have ev := keyD_of rv eq
    subst ev
    refine pairs_sound r2 ((s.mono e1).mono e2) (P := fun F' H' l => P F' H' ((q, y) :: l)) ((LR.bind h2).imp fun F3 H3 _ l e3 _ ⟨m3, r3, h3⟩ => h3.ret r3) fun F3 H3 m3 l vs e3 r3 rk p3 => ?_
    exact k F3 H3 m3 ((q, y) :: l) ((q, w) :: vs) ((e1.trans e2).trans e3) r3 (.cons (rw.mono e3) rk) p3
def JP (X : Cx) (W : WX) (pos : Pos) (ks : List (Option Expr)) (vs : List Expr) (ps : List (DE × DE)) : Prop := PPs X pos ks vs (ps.map fun p => (tE X.K W p.1, tE X.K W p.2))
theorem jp_nil {pos : Pos} : JP X W pos [] [] [] := pps_nil
theorem jp_cons {pos : Pos} {k v : Expr} {ks : List (Option Expr)} {vs : List Expr} {ck cv : DE} {ps : List (DE × DE)} (hk : JE X W k ck) (hv : JE X W v cv) (hr : JP X W pos ks vs ps) : JP X W pos (some k :: ks) (v :: vs) ((ck, cv) :: ps) := pps_cons hk hv hr
theorem je_disp {pos : Pos} {ks : List (Option Expr)} {vs : List Expr} {ps : List (DE × DE)} (h : JP X W pos ks vs ps) (hall : ks.all (·.isSome) = true := by rfl) (hl : ks.length = vs.length := by rfl) (h0 : ks ≠ [] := by exact fun z => nomatch z) (h15 : ks.length ≤ 15 := by decide) : JE X W (.Dict ks vs pos) (eDisp ps) :=
  (pe_disp h hall hl h0 h15).dimp fun σ H Q ⟨F, m, G, δ, r, s, h⟩ p hp => by
    have hG := r.freshG hp
    have r1 : Rel X.K F m (L2.upd G p (.dK [])) (L2.upd H p (.dK [])) := (r.newH hp (.dK [])).aside (r.fresh hp).2 (r.fresh hp).1 upd_same
    refine pairs_sound r1 s (LR.bindG hG h) fun F2 H2 m2 l vs e2 r2 rk ⟨m3, r3, h3⟩ => ?_
    obtain ⟨hl, h3⟩ := h3.ite
    obtain ⟨g1, g2, g3⟩ := r3.gg p _ upd_same
    refine ⟨g1, vs, rfl, by rw [rk.length]; exact hl, ?_⟩
    have r4 := (r3.less hG).side g2 g3 hG (.dK (mergeK [] vs))
    have ex := Ex.new (o := .dK (mergeK [] vs)) g2
    have r5 := r4.freeze (a := p) upd_same g2 hG
    rw [mdel_new g3] at r5
    exact h3.retE ex r5 _ (.dic upd_same ((RepK.merge rk .nil).mono ex))
theorem asD_of {β : Type} {v : V} {d : D} {k : List (Key × D) → C β} {P : Hp → Hp → β → Prop} (r : Rel K F m G H) (rv : Rep K F v d) (h : LR K F G ((asD d).bind k) m P W σ) :
    ∃ a vs l, v = .ref a ∧ H a = some (.dK vs) ∧ RepK K F vs l ∧ LR K F G (k l) m P W σ := by
  cases d with
  | dic l =>
    cases rv with
    | dic h1 h2 => exact ⟨_, _, l, rfl, r.ex _ _ h1, h2, h⟩
  | ref a =>
    cases rv
    obtain ⟨o, e, h2⟩ := LR.look (k := fun o => C.bind (match o with | .dic l => C.ret l | _ => C.stuck) k) h
    cases o with
    | dic l =>
      obtain ⟨⟨vs, h3, h4⟩, _⟩ := r.mm _ _ e
      exact ⟨a, vs, l, rfl, h3, h4, h2⟩
    | _ => exact h2.elim
  | _ => exact h.elim
theorem je_dget {o i : Expr} {co ci : DE} {pos : Pos} (hu : X.A.units + 1 < cLine) (ho : JE X W o co) (hi : JE X W i ci) (hs : NoSl i := by exact fun _ _ => rfl) : JE X W (.Subscript o i pos) (eOp dGet co ci) :=
  (pe_dget hu ho hi hs).dimp fun σ H Q ⟨F, m, G, δ, r, s, h⟩ => ⟨F, m, G, δ, r, s, (LR.bind h).imp fun F1 H1 _ x e1 _ ⟨m1, r1, h1⟩ v rv => ⟨F1, m1, G, δ, r1, s.mono e1, (LR.bind h1).imp fun F2 H2 _ y e2 _ ⟨m2, r2, h2⟩ w rw => by
    obtain ⟨a, vs, l, rfl, h3, h4, h5⟩ := asD_of r2 (rv.mono e2) h2
    obtain ⟨k, e3, h5⟩ := h5.ofOb
    obtain ⟨d, e4, h5⟩ := h5.ofO
    have ev := keyD_of rw e3
    subst ev
    obtain ⟨u, e5, ru⟩ := h4.val e4
    exact ⟨a, u, rfl, by rw [← e5]; exact DGet.k h3, h5.ret r2 _ ru⟩⟩⟩
end
end DL

namespace DL
open PySem PySem.Spec PyProof.Rows L2
/-- an instance: its class, its fields -/
def asI : D → C (Str × List (Str × D))
  | .obj c fs => C.ret (c, fs)
  | .ref a => C.look a fun o => match o with
    | .ins c fs => C.ret (c, fs)
    | _ => C.stuck
  | _ => C.stuck
def FldOk (K : PySem.W.Frag) (cs : List Str) (f : Str) : Prop := ∀ c ∈ cs, Cls K (He.ga K c) ∧ NoAttr K (He.ga K c) f
def eFld (cs : List Str) (f : Str) (e : DE) : DE := fun δ => (e δ).bind fun x => (asI x).bind fun i => if i.1 ∈ cs then ofO (i.2.lookup f) else C.stuck
def fldF (cs : List Str) (f : Str) (y : D) : MO → Option (D × MO)
  | .ins c fs => if c ∈ cs ∧ fs.length < 1000 then some (.non, .ins c (putD f y fs)) else none
  | _ => none
def dSetFld (cs : List Str) (f : Str) (x y : D) : C D := match x with
  | .ref a => C.upd a (fldF cs f y)
  | _ => C.stuck
def sSetFld (cs : List Str) (f : Str) (o e : DE) : CS := ⟨fun δ m K => ((e δ).bind fun y => (o δ).bind fun x => dSetFld cs f x y).run m (fun _ m' => K.nx δ m') (fun x m' => K.ex x δ m'), fun l h => C.mono _ (fun _ _ q => l.nx _ _ q) (fun _ _ q => l.ex _ _ _ q) h⟩
section
variable {K : PySem.W.Frag} {F G H : Hp} {m : Mem} {W : WX} {σ : L2.St}
theorem asI_of {β : Type} {v : V} {d : D} {k : Str × List (Str × D) → C β} {P : Hp → Hp → β → Prop} (r : Rel K F m G H) (rv : Rep K F v d) (h : LR K F G ((asI d).bind k) m P W σ) :
    ∃ a dx c fs vs, v = .ref a ∧ H a = some (.ins (He.ga K c) dx vs) ∧ RepF K F vs fs ∧ LR K F G (k (c, fs)) m P W σ := by
  cases d with
  | obj c fs =>
    cases rv with
    | obj h1 h2 => exact ⟨_, _, c, fs, _, rfl, r.ex _ _ h1, h2, h⟩
  | ref a =>
    cases rv
    have h2 : LR K F G (C.look a fun o => (match o with | .ins c fs => C.ret (c, fs) | _ => C.stuck : C (Str × List (Str × D))).bind k) m P W σ := by
      unfold LR at h ⊢
      have e : ((asI (.ref a)).bind k).run = (C.look a fun o => (match o with | .ins c fs => C.ret (c, fs) | _ => C.stuck : C (Str × List (Str × D))).bind k).run := by
        funext m Q E
        show (match m a with | some o => _ | none => False) = (match m a with | some o => _ | none => False)
        cases m a <;> rfl
      rw [e] at h
      exact h
    obtain ⟨o, e1, h3⟩ := LR.look h2
    cases o with
    | ins c fs =>
      obtain ⟨⟨dx, vs, q1, q2⟩, _⟩ := r.mm _ _ e1
      exact ⟨a, dx, c, fs, vs, rfl, q1, q2, h3⟩
    | lst l => exact h3.elim
    | dic l => exact h3.elim
  | _ => exact h.elim
theorem RepF.put {f : Str} {v : V} {d : D} (rv : Rep K F v d) : ∀ {vs : List (Str × V)} {ds : List (Str × D)}, RepF K F vs ds → RepF K F (putF f v vs) (putD f d ds)
  | _, _, .nil => .cons rv .nil
  | _, _, .cons (n := n) r t => by
    unfold putF putD
    by_cases h : n = f
    · rw [if_pos h, if_pos h]; exact .cons rv t
    · rw [if_neg h, if_neg h]; exact .cons r (RepF.put rv t)
end
section
variable {X : Cx} {W : WX} {o e : Expr} {co ce : DE} {f : Str} {cs : List Str} {pos pos' : Pos}
theorem je_fld (hf : FldOk X.K cs f) (he : JE X W e ce) (hb : attributeBase e f X.env (eval e X.env) = eval e X.env := by rfl) : JE X W (.Attribute e f pos) (eFld cs f ce) :=
  (pe_fld he hb).dimp fun σ H Q ⟨F, m, G, δ, r, s, h⟩ => ⟨F, m, G, δ, r, s, (LR.bind h).imp fun F1 H1 _ x e1 _ ⟨m1, r1, h1⟩ v rv => by
    obtain ⟨a, dx, c, fs, vs, rfl, q1, q2, h2⟩ := asI_of r1 rv h1
    obtain ⟨hc, h3⟩ := LR.ite h2
    obtain ⟨d, e2, h4⟩ := LR.ofO h3
    obtain ⟨u, e3, ru⟩ := q2.lookup e2
    exact ⟨a, _, dx, vs, u, rfl, q1, (hf c hc).1, (hf c hc).2, e3, h4.ret r1 _ ru⟩⟩
theorem js_fld (hf : FldOk X.K cs f) (he : JE X W e ce) (ho : JE X W o co) (hs : swapsWith e (some (.Attribute o f pos')) pos.line X.env = pure false := by rfl) : JS X W (.Assign [.Attribute o f pos'] e pos) (sSetFld cs f co ce) :=
  (ps_fld ho he hs).dimp fun E σ H ⟨F, m, G, δ, r, s, h⟩ => ⟨F, m, G, δ, r, s, by
    have h2 : LR X.K F G ((ce δ).bind fun y => (co δ).bind fun x => dSetFld cs f x y) m (fun F' H' _ => E.nx σ H') W σ := C.mono _ (fun _ m' q F' H' e r' => q F' H' σ e r' (s.mono e)) (fun x m' q => liftX_of s q) h
    exact (LR.bind h2).imp fun F1 H1 _ y e1 _ ⟨m1, r1, h3⟩ z rz => ⟨F1, m1, G, δ, r1, s.mono e1, (LR.bind h3).imp fun F2 H2 _ x e2 _ ⟨m2, r2, h4⟩ v rv => by
      cases x with
      | ref a =>
        cases rv
        obtain ⟨o, o', d, q1, q2, q3⟩ := LR.upd h4
        cases o with
        | lst l => cases q2
        | dic l => cases q2
        | ins c fs =>
          by_cases hc : c ∈ cs ∧ fs.length < 1000
          · have q7 : some (D.non, MO.ins c (putD f y fs)) = some (d, o') := (if_pos hc).symm.trans q2
            cases q7
            obtain ⟨⟨dx, vs, q4, q5⟩, q6⟩ := r2.mm _ _ q1
            exact ⟨a, _, dx, vs, rfl, q4, (hf c hc.1).1, (hf c hc.1).2, by rw [q5.length]; exact hc.2, q3 F2 _ (Ex.refl F2) (r2.put q6 (r2.gm q1) ⟨dx, _, upd_same, q5.put (rz.mono e2)⟩)⟩
          · have q7 : none = some (d, o') := (if_neg hc).symm.trans q2
            cases q7
      | _ => exact h4.elim⟩⟩
end

/-- the class c has the method m (dds: what its defaults give behind n values) -/
def HasM (P : Program) (w : World) (K : PySem.W.Frag) (mg : Str → Option Value) (base : Heap) (c mt : Str) (n k : Nat) (dds : List D) (fD : List D → C D) : Prop :=
  ∃ (f : Addr) (fd : FuncData) (ps : List Str) (dvs : List V) (dus : List Value), Cls K (He.ga K c) ∧ Meth K (He.ga K c) mt f ∧ FnOk P w K mg base (L2.CX P w) k f fd ps (spD K ps.length fD) ∧ Binds K fd ps dus ∧ Vals dvs dus ∧ (∀ F : Hp, Reps K F dvs dds) ∧ n + 1 + dds.length = ps.length
def eMeth (c mt : Str) (n : Nat) (dds : List D) (fD : List D → C D) (o : DE) (a : DA) : DE := fun δ => (o δ).bind fun x => (asI x).bind fun i => if i.1 = c ∧ i.2.lookup mt = none then ((a δ).bind fun l => if l.length = n then fD (x :: (l ++ dds)) else C.stuck) else C.stuck
section
variable {X : Cx} {W : WX} {k n : Nat} {dds : List D} {fD : List D → C D} {c mt : Str} {p pos apos : Pos} {o e : Expr} {es : List Expr} {co : DE} {ca : DA}
theorem je_methH {pl : Sem Bool} (h : HasM X.prog X.w X.K X.mg X.base c mt n k dds fD) (hr : Room k X.A) (tk : Takes X W) (ho : JE X W o co) (ha : JA X W (e :: es) ca)
    (hst : starEach (e :: es) X.env = (false, eval e X.env) :: starEach es X.env := by rfl) (hpl : (backTo pos (starEach es X.env)).any (·.1) = false := by rfl)
    (ht : eval (.Call (.Attribute o mt apos) (e :: es) [] pos) X.env = (do
      let ov ← eval o X.env
      standAt apos.atName
      let (f, first) ← holding [ov] (getMethod ov mt pl)
      callWith pos f first (backTo pos (starEach (e :: es) X.env)) (backToKw pos (keywordEach [] X.env))) := by rfl) :
    JE X W (.Call (.Attribute o mt apos) (e :: es) [] pos) (eMeth c mt n dds fD co ca) := by
  obtain ⟨f, fd, ps, dvs, dus, hC, hM, Fn, hb, hd, hdd, hn⟩ := h
  refine ⟨fun pins s σ H Q I ⟨F, m, G, δ, r, sr, h⟩ => ?_⟩
  have h2 : tE X.K W co σ H (fun x H1 => ∃ a dx fs, x = .ref a ∧ H1 a = some (.ins (He.ga X.K c) dx fs) ∧ fs.lookup mt = none ∧ tA X.K W ca σ H1 fun vs H2 => spD X.K ps.length fD (x :: (vs ++ dvs)) H2 Q (WE W σ)) :=
    ⟨F, m, G, δ, r, sr, (LR.bind h).imp fun F1 H1 _ x e1 _ ⟨m1, r1, h1⟩ v rv => by
      obtain ⟨a, dx, c', fs, vs, rfl, q1, q2, h2⟩ := asI_of r1 rv h1
      obtain ⟨⟨hc, hl⟩, h3⟩ := LR.ite h2
      have hc' : c' = c := hc
      subst hc'
      refine ⟨a, dx, vs, rfl, q1, q2.lookupN hl, F1, m1, G, δ, r1, sr.mono e1, (LR.bind h3).imp fun F2 H2 _ l e2 _ ⟨m2, r2, h4⟩ ws rw => ?_⟩
      obtain ⟨hl2, h5⟩ := LR.ite h4
      have rr : Reps X.K F2 (V.ref a :: (ws ++ dvs)) (x :: (l ++ dds)) := .cons (rv.mono e2) (rw.append (hdd F2))
      exact ⟨by rw [rr.length, List.length_cons, List.length_append, hl2, ← hn]; omega, F2, m2, G, _, r2, rr, h5⟩⟩
  refine PySem.W.methodCall_KW (pl := pl) (thn (PE.run ho pins s σ H _ I h2) fun u s1 ⟨x, H1, I1, rx, a, dx, fs, ex, ea, l, q⟩ => ?_) ht
  subst ex
  obtain rfl : u = Value.ref a := rx
  refine getmeth_ok I1 ea hC hM l ?_
  refine PySem.W.callWith_K (first := [.ref a]) (h₀ := X.base) I.ok.mod.kin hM.kp (thn (PA.run ha pos pins s1 σ H1 _ I1 q) fun us s2 ⟨vs, H2, I2, rv, q2⟩ => ⟨I2.kIn, ?_⟩) hst hpl
  exact run_fnSD (us := .ref a :: us) (vs := .ref a :: vs) Fn hr hb hd (passAt tk σ) I2 (.cons rfl rv) q2
theorem je_methH0 {pl : Sem Bool} (h : HasM X.prog X.w X.K X.mg X.base c mt 0 k dds fD) (hr : Room k X.A) (tk : Takes X W) (ho : JE X W o co)
    (ht : eval (.Call (.Attribute o mt apos) [] [] pos) X.env = (do
      let ov ← eval o X.env
      standAt apos.atName
      let (f, first) ← holding [ov] (getMethod ov mt pl)
      callWith pos f first (backTo pos (starEach [] X.env)) (backToKw pos (keywordEach [] X.env))) := by rfl) :
    JE X W (.Call (.Attribute o mt apos) [] [] pos) (eMeth c mt 0 dds fD co aNil) := by
  obtain ⟨f, fd, ps, dvs, dus, hC, hM, Fn, hb, hd, hdd, hn⟩ := h
  refine ⟨fun pins s σ H Q I ⟨F, m, G, δ, r, sr, h⟩ => ?_⟩
  have h2 : tE X.K W co σ H (fun x H1 => ∃ a dx fs, x = .ref a ∧ H1 a = some (.ins (He.ga X.K c) dx fs) ∧ fs.lookup mt = none ∧ spD X.K ps.length fD (x :: dvs) H1 Q (WE W σ)) :=
    ⟨F, m, G, δ, r, sr, (LR.bind h).imp fun F1 H1 _ x e1 _ ⟨m1, r1, h1⟩ v rv => by
      obtain ⟨a, dx, c', fs, vs, rfl, q1, q2, h2⟩ := asI_of r1 rv h1
      obtain ⟨⟨hc, hl⟩, h3⟩ := LR.ite h2
      have hc' : c' = c := hc
      subst hc'
      have rr : Reps X.K F1 (V.ref a :: dvs) (x :: dds) := .cons rv (hdd F1)
      exact ⟨a, dx, vs, rfl, q1, q2.lookupN hl, by rw [rr.length, List.length_cons, ← hn]; omega, F1, m1, G, _, r1, rr, h3⟩⟩
  refine PySem.W.methodCall_KW (pl := pl) (thn (PE.run ho pins s σ H _ I h2) fun u s1 ⟨x, H1, I1, rx, a, dx, fs, ex, ea, l, q⟩ => ?_) ht
  subst ex
  obtain rfl : u = Value.ref a := rx
  refine getmeth_ok I1 ea hC hM l ?_
  exact PySem.W.callWith_K0 (first := [.ref a]) I1.kIn hM.kp (run_fnSD (us := [.ref a]) (vs := [.ref a]) Fn hr hb hd (passAt tk σ) I1 (.cons rfl .nil) q)
end

def HasC (P : Program) (w : World) (K : PySem.W.Frag) (mg : Str → Option Value) (base : Heap) (c : Str) (n k : Nat) (dds : List D) (fD : List D → C D) : Prop :=
  ∃ (f : Addr) (fd : FuncData) (ps : List Str) (dvs : List V) (dus : List Value), mg c = some (.ref (He.ga K c)) ∧ Mk K (He.ga K c) f ∧ FnOk P w K mg base (L2.CX P w) k f fd ps (spD K ps.length fD) ∧ Binds K fd ps dus ∧ Vals dvs dus ∧ (∀ F : Hp, Reps K F dvs dds) ∧ n + 1 + dds.length = ps.length
def isNon : D → C Unit
  | .non => C.ret ()
  | _ => C.stuck
/-- a new instance, made by fD -/
def mkI (c : Str) (fD : List D → C D) (l : List D) : C D := (C.new (.ins c [])).bind fun x => (fD (x :: l)).bind fun r => (isNon r).bind fun _ => C.ret x
def eMake (c : Str) (n : Nat) (dds : List D) (fD : List D → C D) (a : DA) : DE := fun δ => (a δ).bind fun l => if l.length = n then mkI c fD (l ++ dds) else C.stuck
section
variable {X : Cx} {W : WX} {k n : Nat} {dds : List D} {fD : List D → C D} {c : Str} {p pos : Pos} {e : Expr} {es : List Expr} {ca : DA} {f : Addr} {fd : FuncData} {ps : List Str} {dvs : List V} {ds : List Value}
theorem made_back {X : Cx} {pins : List (Addr × Obj)} {σ : L2.St} {H : Hp} {s s' : Shared} {Q : VK} {E : XK} {x : Addr} (hx : PassesAt (L2.CX X.prog X.w) X σ E) (I : Inv X pins σ H s) : ∀ {r : Result}, CR (L2.CX X.prog X.w) X.stack X.prog X.w H s (fun v H2 => v = .non ∧ Q (.ref x) H2) E r s' →
    PySem.W.InitBack x (fun r s' => match r with | .ok (.ret v) => EP X pins σ Q v s' | .ok _ => False | .error e => X.xe e s') r s'
  | .error e, h => hx pins H s e s' I h
  | .ok (.ret _), h => let ⟨_, G, J, rv, e, q⟩ := I.after h; ⟨by subst e; exact rv, .ref x, G, J, rfl, q⟩
  | .ok .next, h => h.elim
  | .ok .brk, h => h.elim
  | .ok .cont, h => h.elim
theorem run_mk {X : Cx} {k : Nat} {f : Addr} {fd : FuncData} {ps : List Str} {pins : List (Addr × Obj)} {σ : L2.St} {H : Hp} {s : Shared} {Q : VK} {us : List Value} {kw : List (Str × Value)} {Cc : Addr} {sp : Sp} {E : XK} (M : Mk X.K Cc f) (Fn : FnOk X.prog X.w X.K X.mg X.base (L2.CX X.prog X.w) k f fd ps sp) (hr : Room (k + 1) X.A) (hx : PassesAt (L2.CX X.prog X.w) X σ E) (I : Inv X pins σ H s)
    (h : ∀ x dx, H x = none → H dx = none → dx ≠ x → ∃ bound vs, Vals vs bound ∧ (∀ s', X.K.In s'.heap → BindsTo s' fd ⟨.ref x :: us, kw⟩ (ps.zip bound)) ∧ sp vs (upd (upd H dx (.own x)) x (.ins Cc dx [])) (fun v H2 => v = .non ∧ Q (.ref x) H2) E) :
    wpAny (model X.prog X.w) X.A (call (.ref Cc) us kw) (EP X pins σ Q) X.xe s := by
  have new : ∀ b, s.heap.objs.size ≤ b → H b = none := fun _ le => I.hok.fresh le
  obtain ⟨bound, vs, rv, bind, q⟩ := h (s.heap.objs.size + 1) s.heap.objs.size (new _ (Nat.le_succ _)) (new _ (Nat.le_refl _)) (Nat.succ_ne_self _).symm
  have J : Inv X pins σ _ _ := I.made (C := Cc)
  have init := Fn.run _ X.stack _ _ _ bound vs _ E (hr.make Cc us kw) (J.env0.make Cc us kw) (bind _ J.kIn) rv q
  exact wpAny_call (make_map I.kIn M.makes M.init (beq_iff_eq.mp M.fn) (codeAny_mono init fun _ _ q => made_back hx J q))
theorem run_makeSD {X : Cx} {k : Nat} {f : Addr} {fd : FuncData} {ps : List Str} {dvs : List V} {ds : List Value} {pins : List (Addr × Obj)} {σ : L2.St} {H : Hp} {s : Shared} {Q : VK} {us : List Value} {vs : List V} {Cc : Addr} {sp : Sp} {E : XK} (M : Mk X.K Cc f) (Fn : FnOk X.prog X.w X.K X.mg X.base (L2.CX X.prog X.w) k f fd ps sp) (hr : Room (k + 1) X.A) (hb : Binds X.K fd ps ds) (hd : Vals dvs ds)
    (hx : PassesAt (L2.CX X.prog X.w) X σ E) (I : Inv X pins σ H s) (r : Vals vs us)
    (h : ∀ x dx, H x = none → H dx = none → dx ≠ x → sp (.ref x :: (vs ++ dvs)) (upd (upd H dx (.own x)) x (.ins Cc dx [])) (fun v H2 => v = .non ∧ Q (.ref x) H2) E) :
    wpAny (model X.prog X.w) X.A (call (.ref Cc) us) (EP X pins σ Q) X.xe s :=
  run_mk M Fn hr hx I fun x dx n1 n2 ne => by
    have q := h x dx n1 n2 ne
    have all : Vals (.ref x :: (vs ++ dvs)) (Value.ref x :: (us ++ ds)) := .cons rfl (r.append hd)
    exact ⟨_, _, all, fun s' lies => hb s' (.ref x :: us) lies (all.length.symm.trans (Fn.len _ _ _ _ q)), q⟩
theorem mkI_of {K : PySem.W.Frag} {F G H : Hp} {m : Mem} {σ : L2.St} {Q : VK} {l : List D} {vs : List V} {nn : Nat} (r : Rel K F m G H) (rv : Reps K F vs l) (hn : vs.length + 1 = nn) (h : LR K F G (mkI c fD l) m (fun F' H' d => ∀ v, Rep K F' v d → Q v H') W σ) :
    ∀ x dx, H x = none → H dx = none → dx ≠ x → spD K nn fD (.ref x :: vs) (upd (upd H dx (.own x)) x (.ins (He.ga K c) dx [])) (fun v H2 => v = .non ∧ Q (.ref x) H2) (WE W σ) := by
  intro x dx hx hdx ne
  obtain ⟨mx, Fx⟩ := r.fresh hx
  have r1 : Rel K F m G (upd H dx (.own x)) := r.newH hdx _
  have hx1 : (upd H dx (.own x)) x = none := by rw [upd_ne ne.symm]; exact hx
  have r2 : Rel K F (mset m x (.ins c [])) G (upd (upd H dx (.own x)) x (.ins (He.ga K c) dx [])) := r1.put Fx (r.freshG hx) ⟨dx, [], upd_same, .nil⟩
  refine ⟨by rw [List.length_cons]; exact hn, F, _, G, _, r2, .cons (.ref x) rv, ?_⟩
  have h1 : ((fD (.ref x :: l)).bind fun r => (isNon r).bind fun _ => C.ret (D.ref x)).run (mset m x (.ins c [])) (fun a m' => ∀ F' H', Ex F F' → Rel K F' m' G H' → ∀ v, Rep K F' v a → Q v H') (liftX K F G W σ) := h x mx
  refine C.mono _ (fun d m' q F' H' e r' v rv' => ?_) (fun _ _ q => q) h1
  cases d with
  | non => cases rv'; exact ⟨rfl, q F' H' e r' _ (.ref x)⟩
  | _ => exact q.elim
theorem je_makeH (h : HasC X.prog X.w X.K X.mg X.base c n k dds fD) (hr : Room (k + 1) X.A) (tk : Takes X W) (hg : Gl X c) (ha : JA X W (e :: es) ca)
    (hdb : (c == ("__debug__" : Str)) = false := by decide) (he : starEach (e :: es) X.env = (false, eval e X.env) :: starEach es X.env := by rfl) (hpl : (backTo pos (starEach es X.env)).any (·.1) = false := by rfl) :
    JE X W (.Call (.Name c p) (e :: es) [] pos) (eMake c n dds fD ca) := by
  obtain ⟨f, fd, ps, dvs, dus, hm, M, Fn, hb, hd, hdd, hn⟩ := h
  refine ⟨fun pins s σ H Q I ⟨F, m, G, δ, r, sr, h⟩ => ?_⟩
  refine wpAny_Call_Name_kw (ld_glob I hg hm ?_ hdb)
  have h2 : tA X.K W ca σ H (fun vs H1 => ∀ x dx, H1 x = none → H1 dx = none → dx ≠ x → spD X.K ps.length fD (.ref x :: (vs ++ dvs)) (upd (upd H1 dx (.own x)) x (.ins (He.ga X.K c) dx [])) (fun v H2 => v = .non ∧ Q (.ref x) H2) (WE W σ)) :=
    ⟨F, m, G, δ, r, sr, (LR.bind h).imp fun F1 H1 _ l e1 _ ⟨m1, r1, h1⟩ vs rv => by
      obtain ⟨hl, h3⟩ := LR.ite h1
      have rr := rv.append (hdd F1)
      exact mkI_of r1 rr (by rw [rr.length, List.length_append, hl, ← hn]; omega) h3⟩
  refine PySem.W.callWith_K (h₀ := X.base) I.ok.mod.kin M.kp (thn (PA.run ha pos pins s σ H _ I h2) fun us s1 ⟨vs, H1, I1, rv, q⟩ => ⟨I1.kIn, ?_⟩) he hpl
  exact run_makeSD M Fn hr hb hd (passAt tk σ) I1 rv q
end
end DL

namespace DL
open PySem PySem.Spec PyProof.Rows L2
section
variable {K : PySem.W.Frag} {x qual : Str} {params : Arguments} {body : List Stmt} {scope : Scope} {kws : List (Str × V)} {f : Addr} {fd : FuncData} {ps : List Str}
/-- keywords ks are written, the keyword-only ms lack; no other defaults -/
abbrev KeepsPairs (g : {α : Type} → List α → List α → List α → List α) : Prop := ∀ {as bs cs : List V} {ps qs rs : List Value}, Vals as ps → Vals bs qs → Vals cs rs → Vals (g as bs cs) (g ps qs rs)
theorem kbinds0 {K : PySem.W.Frag} {x qual : Str} {params : Arguments} {body : List Stmt} {scope : Scope} {kws : List (Str × V)} {f : Addr} {fd : FuncData} {ps : List Str} (F : FunD K x qual params body scope [] kws f fd) (n : Nat) (ks : List Str) (ms : List (Str × V)) (g : {α : Type} → List α → List α → List α → List α) (hk : kws ≠ []) (hms : ∀ q ∈ ms, q ∈ kws) (hrel : KeepsPairs g)
    (h : ∀ D doc pm an cdv ct (us mv ws : List Value), us.length = n → mv.length = ms.length → ws.length = ks.length → KwChain D ((ms.map (·.1)).zip mv) (bindArgs (PySem.W.fnOf x qual params body scope .none (.ref D) doc pm an cdv ct) ⟨us, ks.zip ws⟩) (ps.zip (g us mv ws))) :
    ∃ mv : List Value, KBn K fd ps n ks (fun us ws => g us mv ws) (fun vs zs => g vs (ms.map (·.2)) zs) := by
  obtain ⟨_, _, _, _, doc, pm, an, cdv, ct, _, rfl, _, _, noDefaults, inDict⟩ := F.ex
  obtain rfl := (noDefaults.resolve_right fun z => z.1 rfl).2
  obtain ⟨D, rfl, kept⟩ := inDict.resolve_left hk
  have ⟨mv, len, rel, read⟩ := kwd_vals (K := K) (D := D) fun q m => kept q (hms q m)
  have bind : ∀ (s : Shared) (us ws : List Value), K.In s.heap → us.length = n → ws.length = ks.length → BindsTo s _ ⟨us, ks.zip ws⟩ (ps.zip (g us mv ws)) := fun s us ws lies l1 l2 =>
    BindsTo.of_looks fun _ => KwChain.looks lies read (h D doc pm an cdv ct us mv ws l1 len l2)
  exact ⟨mv, bind, fun written given => hrel written rel given⟩
end
/-- called with n values and the keywords ks; gD puts them and the defaults in order -/
def HasG (P : Program) (w : World) (K : PySem.W.Frag) (mg : Str → Option Value) (base : Heap) (x : Str) (n : Nat) (ks : List Str) (k : Nat) (gD : List D → List D → List D) (fD : List D → C D) : Prop :=
  ∃ (f : Addr) (fd : FuncData) (ps : List Str) (g : List Value → List Value → List Value) (gV : List V → List V → List V), mg x = some (.ref f) ∧ FnOk P w K mg base (L2.CX P w) k f fd ps (spD K ps.length fD) ∧ PySem.W.keepIn K (.ref f) = true ∧ KBn K fd ps n ks g gV ∧
    (∀ (F : Hp) (vs zs : List V) (ds es : List D), Reps K F vs ds → Reps K F zs es → Reps K F (gV vs zs) (gD ds es)) ∧ (∀ ds es : List D, ds.length = n → es.length = ks.length → (gD ds es).length = ps.length)
def eCallG (n m : Nat) (gD : List D → List D → List D) (fD : List D → C D) (a b : DA) : DE := fun δ => (a δ).bind fun l => (b δ).bind fun k => if l.length = n ∧ k.length = m then fD (gD l k) else C.stuck
section
variable {X : Cx} {W : WX} {k n : Nat} {gD : List D → List D → List D} {fD : List D → C D} {x : Str} {p pos : Pos} {e : Expr} {es : List Expr} {ca ck : DA}
theorem je_callG {ks : List Str} {kws : List Keyword} (h : HasG X.prog X.w X.K X.mg X.base x n ks k gD fD) (hr : Room k X.A) (tk : Takes X W) (hg : Gl X x) (ha : JA X W (e :: es) ca) (hkw : JK X W kws ck)
    (hall : (backToKw pos (keywordEach kws X.env)).all (·.1.isSome) = true := by rfl) (hks : (backToKw pos (keywordEach kws X.env)).filterMap (·.1) = ks := by rfl)
    (hdb : (x == ("__debug__" : Str)) = false := by decide) (he : starEach (e :: es) X.env = (false, eval e X.env) :: starEach es X.env := by rfl)
    (hpl : ((backTo pos (starEach (e :: es) X.env)).any (·.1) || (backToKw pos (keywordEach kws X.env)).any (·.1.isNone)) = false := by rfl) :
    JE X W (.Call (.Name x p) (e :: es) kws pos) (eCallG n ks.length gD fD ca ck) := by
  obtain ⟨f, fd, ps, g, gV, hm, Fn, kp, hb, hR, hl0⟩ := h
  refine ⟨fun pins s σ H Q I ⟨F, m, G, δ, r, sr, h⟩ => ?_⟩
  refine wpAny_Call_Name_kw (ld_glob I hg hm ?_ hdb)
  have h2 : tA X.K W ca σ H (fun vs H1 => tA X.K W ck σ H1 fun zs H2 => vs.length = n ∧ zs.length = ks.length ∧ spD X.K ps.length fD (gV vs zs) H2 Q (WE W σ)) :=
    ⟨F, m, G, δ, r, sr, (LR.bind h).imp fun F1 H1 _ l e1 _ ⟨m1, r1, h1⟩ vs rv => ⟨F1, m1, G, δ, r1, sr.mono e1, (LR.bind h1).imp fun F2 H2 _ z e2 _ ⟨m2, r2, h2⟩ zs rz => by
      obtain ⟨hl, h2⟩ := LR.ite h2
      have rr := hR F2 _ _ _ _ (rv.mono e2) rz
      exact ⟨by rw [rv.length]; exact hl.1, by rw [rz.length]; exact hl.2, by rw [rr.length]; exact hl0 _ _ hl.1 hl.2, F2, m2, G, gD l z, r2, rr, h2⟩⟩⟩
  refine PySem.W.callWith_KW (h₀ := X.base) I.ok.mod.kin kp hall (thn (PA.run ha pos pins s σ H _ I h2) fun us s1 ⟨vs, H1, I1, rv, q⟩ => ?_) hpl he
  refine thn (PK.run hkw pos pins s1 σ H1 _ I1 q) fun ws s2 ⟨zs, H2, I2, rz, l1, l2, q2⟩ => ⟨I2.kIn, ?_⟩
  rw [hks]
  have r2 := hb.rel rv rz
  refine wpAny_call (codeAny_mono (Fn.run X.A X.stack s2 H2 ⟨us, ks.zip ws⟩ (g us ws) (gV vs zs) Q (WE W σ) hr I2.env0 (hb.to s2 us ws I2.kIn (rv.length.symm.trans l1) (rz.length.symm.trans l2)) r2 q2) fun r s' hq => ?_)
  cases r with
  | error e => exact passAt tk σ pins H2 s2 e s' I2 hq
  | ok fl =>
    cases fl with
    | ret u => exact I2.after hq
    | next => exact hq.elim
    | brk => exact hq.elim
    | cont => exact hq.elim
end
theorem FldOk.nil {K : PySem.W.Frag} {f : Str} : FldOk K [] f := fun _ h => nomatch h
theorem FldOk.cons {K : PySem.W.Frag} {f c : Str} {cs : List Str} (h1 : Cls K (He.ga K c)) (h2 : NoAttr K (He.ga K c) f) (h : FldOk K cs f) : FldOk K (c :: cs) f := fun x hx => by
  rcases List.mem_cons.mp hx with rfl | hx
  · exact ⟨h1, h2⟩
  · exact h x hx
end DL

namespace DL
open PySem PySem.Spec PyProof.Rows L2
def dListRg : D → C D
  | .int n => if 0 ≤ n ∧ n ≤ 1000000 then C.ret (.lst (rng 0 n)) else C.stuck
  | _ => C.stuck
def dTupRg : D → C D
  | .int n => if 0 ≤ n ∧ n ≤ 1000000 then C.ret (.tup (rng 0 n)) else C.stuck
  | _ => C.stuck
theorem rg_reps {K : PySem.W.Frag} {F : Hp} {a b : Int} : Reps K F (rgV a b) (rng a b) := by
  unfold rgV rng
  generalize List.range (b - a).toNat = l
  induction l with
  | nil => exact .nil
  | cons i r ih => exact .cons (.int _) ih
section
variable {X : Cx} {W : WX} {e : Expr} {ce : DE} {p pos p2 pos2 : Pos}
theorem je_listRg (hc : X.calm = true) (hg : Gl X "list") (hm : X.mg "list" = none) (hg2 : Gl X "range") (hm2 : X.mg "range" = none) (he : JE X W e ce) (na : starEach [e] X.env = (false, eval e X.env) :: starEach [] X.env := by rfl)
    (nb : starEach [.Call (.Name "range" p2) [e] [] pos2] X.env = (false, eval (.Call (.Name "range" p2) [e] [] pos2) X.env) :: starEach [] X.env := by rfl) : JE X W (.Call (.Name "list" p) [.Call (.Name "range" p2) [e] [] pos2] [] pos) (eUn dListRg ce) :=
  (pe_listRg hc hg hm (prg_1 hg2 hm2 he na) nb).dimp fun σ H Q ⟨F, m, G, δ, r, s, h⟩ => ⟨F, m, G, δ, r, s, (LR.bind h).imp fun F1 H1 _ x e1 _ ⟨m1, r1, h1⟩ v rv => by
    cases x with
    | int n =>
      cases rv
      obtain ⟨hn, h2⟩ := LR.ite h1
      refine ⟨n, rfl, RgOk.of_le (Int.le_refl 0) (by omega) (by omega) hn.1, fun q hq => ?_⟩
      exact h2.retE (Ex.new (r1.fresh hq).2) (r1.newF hq _) _ (.lst upd_same (rg_reps))
    | _ => exact h1.elim⟩
theorem je_tupRg (hc : X.calm = true) (hg : Gl X "tuple") (hm : X.mg "tuple" = none) (hg2 : Gl X "range") (hm2 : X.mg "range" = none) (he : JE X W e ce) (na : starEach [e] X.env = (false, eval e X.env) :: starEach [] X.env := by rfl)
    (nb : starEach [.Call (.Name "range" p2) [e] [] pos2] X.env = (false, eval (.Call (.Name "range" p2) [e] [] pos2) X.env) :: starEach [] X.env := by rfl) : JE X W (.Call (.Name "tuple" p) [.Call (.Name "range" p2) [e] [] pos2] [] pos) (eUn dTupRg ce) :=
  (pe_tupRg hc hg hm (prg_1 hg2 hm2 he na) nb).dimp fun σ H Q ⟨F, m, G, δ, r, s, h⟩ => ⟨F, m, G, δ, r, s, (LR.bind h).imp fun F1 H1 _ x e1 _ ⟨m1, r1, h1⟩ v rv => by
    cases x with
    | int n =>
      cases rv
      obtain ⟨hn, h2⟩ := LR.ite h1
      refine ⟨n, rfl, RgOk.of_le (Int.le_refl 0) (by omega) (by omega) hn.1, fun q hq => ?_⟩
      exact h2.retE (Ex.new (r1.fresh hq).2) (r1.newF hq _) _ (.tup (SqT.of upd_same) (rg_reps))
    | _ => exact h1.elim⟩
end
end DL

namespace DL
open PySem PySem.Spec PyProof.Rows L2
/-- min(list of whole numbers) -/
def minI : List Int → Option Int
  | [] => none
  | x :: r => match minI r with
    | none => some x
    | some y => some (if y < x then y else x)
theorem minI_some : ∀ {l : List Int} {m : Int}, minI l = some m → m ∈ l ∧ ∀ y ∈ l, m ≤ y
  | [], _, h => by cases h
  | x :: r, m, h => by
    unfold minI at h
    cases e : minI r with
    | none =>
      rw [e] at h
      have h2 : x = m := Option.some.inj h
      cases r with
      | nil => subst h2; exact ⟨.head _, fun y hy => by rw [List.mem_singleton.mp hy]; exact Int.le_refl _⟩
      | cons a b =>
        unfold minI at e
        cases q : minI b <;> rw [q] at e <;> cases e
    | some y =>
      rw [e] at h
      have h2 : (if y < x then y else x) = m := Option.some.inj h
      obtain ⟨h3, h4⟩ := minI_some e
      by_cases z : y < x
      · rw [if_pos z] at h2
        subst h2
        exact ⟨.tail _ h3, fun w hw => by
          rcases List.mem_cons.mp hw with rfl | hw
          · omega
          · exact h4 w hw⟩
      · rw [if_neg z] at h2
        subst h2
        exact ⟨.head _, fun w hw => by
          rcases List.mem_cons.mp hw with rfl | hw
          · omega
          · have := h4 w hw; omega⟩
def dMinL : List D → C D
  | [x] => (asL x).bind fun l => (ofO (allInt l)).bind fun ns => (ofO (minI ns)).bind fun i => C.ret (.int i)
  | _ => C.stuck
theorem cd_minL {X : Cx} {W : WX} : CallD X W dMinL (rMin X.K) := by
  intro F m G H σ xs vs Q r rv h
  unfold dMinL at h
  split at h
  · obtain ⟨v, rfl, rd⟩ := reps1 rv
    obtain ⟨a, vs, l, rfl, h1, h2, h⟩ := asL_of r rd h
    obtain ⟨ns, e, h⟩ := h.ofOb
    obtain ⟨i, e2, h⟩ := h.ofOb
    obtain ⟨g1, g2⟩ := minI_some e2
    rw [ints_reps h2 e] at h1
    refine ⟨a, ns, rfl, SqL.of h1, List.length_pos_of_mem g1, fun k k1 k2 => ?_⟩
    have : k = i := Int.le_antisymm (k2 i g1) (g2 k k1)
    subst this
    exact h.ret r _ (.int _)
  · exact h.elim
/-- xs.clear() -/
def clrF : MO → Option (D × MO)
  | .lst _ => some (.non, .lst [])
  | _ => none
def dClear (x : D) : C D := match x with
  | .ref a => C.upd a clrF
  | _ => C.stuck
def eClr (o : DE) : DE := fun δ => (o δ).bind fun x => (asL x).bind fun _ => dClear x
theorem je_clear {X : Cx} {W : WX} {o : Expr} {co : DE} {apos cpos : Pos} (ho : JE X W o co) (hbase : attributeBase o "clear" X.env (eval o X.env) = eval o X.env := by rfl) (hline : (apos.endLine == cpos.line) = true := by rfl) :
    JE X W (.Call (.Attribute o "clear" apos) [] [] cpos) (eClr co) :=
  (pe_bm0 PySem.F.plainAttrs_list PySem.F.slot_list_clear PySem.F.type_list_clear mt_clear ho hbase hline).dimp fun σ H Q ⟨F, m, G, δ, r, s, h⟩ =>
    ⟨F, m, G, δ, r, s, (LR.bind h).imp fun F1 H1 _ x e1 _ ⟨m1, r1, h1⟩ v rv => by
      obtain ⟨a, vs, l, rfl, h2, h3, h4⟩ := asL_of r1 rv h1
      refine ⟨Or.inl ⟨rfl, vs, SqL.of h2⟩, ?_⟩
      cases x with
      | ref b =>
        cases rv
        obtain ⟨o, o', d, q1, q2, q3⟩ := LR.upd h4
        cases o with
        | ins c fs => cases q2
        | dic l => cases q2
        | lst k =>
          obtain ⟨⟨ws, q4, q5⟩, q6⟩ := r1.mm _ _ q1
          cases q2
          exact ⟨a, ws, rfl, rfl, q4, q3 F1 _ (Ex.refl F1) (r1.putL q6 (r1.gm q1) .nil) _ .non⟩
      | _ => exact h4.elim⟩
end DL

namespace DL
open PySem PySem.Spec PyProof.Rows L2
section
variable {P : Program} {w : World} {A : Around} {E : Value → Shared → Prop} {s : Shared}
/-- an empty set as set(..) begins with it -/
abbrev newSet (w : World) : Obj := { cls := .type "set", dict := none, data := .set #[] 0 (.fresh 0 0 (!w.params.followText "set-order")) }
/-- set(l), l a list of ints -/
theorem set_of_list {l : Addr} {its : Array Value} (ns : List Int) {Q : Value → Shared → Prop} (hh : A.handled = none) (hl : s.heap.IsList l its) (hit : IntsAre its.toList ns) (hb : ns.length + 1 < scanBound)
    (h : ∀ (h' : Heap) (tk c : Nat), SetR w h' s.heap.objs.size (fun j => decide (j ∈ ns)) c → c ≤ ns.length → (∀ b o, s.heap.get? b = some o → h'.get? b = some o) → Q (.ref s.heap.objs.size) { s with heap := h', toks := tk }) :
    wpAny (model P w) A (call (.type "set") [.ref l]) Q E s := by
  have hsz : its.size = ns.length := by
    have q := IntsAre.length hit
    rwa [Array.length_toList] at q
  have hlS : l < s.heap.objs.size := by obtain ⟨_, e, _⟩ := hl; exact Heap.lt_size e
  have at_ : ∀ (i : Nat) (v : Value), its[i]? = some v → ∃ k t, ns[i]? = some k ∧ v = .int k t := fun i v hv => by
    have hi : i < ns.length := hsz ▸ (Array.getElem?_eq_some_iff.mp hv).1
    obtain ⟨t, e⟩ := PyProof.Rows.IntsAre.int_at hit i v ((Array.getElem?_toList ..).trans hv)
    exact ⟨ns[i], t, List.getElem?_eq_getElem hi, by rw [e, List.getD_eq_getElem?_getD, List.getElem?_eq_getElem hi]; rfl⟩
  obtain ⟨c, tl, hmro⟩ := F.called_set.mro
  have m1 := F.called_set.made
  have m2 := F.called_set.sub
  have m3 := F.called_set.notType
  have m4 := F.called_set.canCreate
  have m5 := F.typeCall_set_1 (.ref l)
  refine wpAny_call (codeAny_of_tree (show wpAny _ _ (callAny (.type "set") _) _ _ _ from wpAny_pure ⟨Code.quiet_builtin _ (by decide +kernel), codeAny_builtin F.entry_type_call ?_⟩))
  rw [Around.under_plain (weight_type_call_type "set" [.ref l] []) rfl]
  repeat (any_goals (first | assumption | wp_step))
  refine codeAny_mono (code_set_led1 (.ref l) (E := E) (Q₁ := fun o s₁ => o = .ref s.heap.objs.size ∧ s₁ = { s with heap := s.heap.push (newSet w) }) ⟨rfl, rfl⟩) fun r s₁ hr => ?_
  match r, hr with
  | .error e, hr => exact hr
  | .ok (.ret o), hr =>
    obtain ⟨rfl, rfl⟩ := hr
    have hS : (s.heap.push (newSet w)).get? s.heap.objs.size = some (newSet w) := Heap.get?_push_size _ rfl
    have hT : Shared.TypeIs { s with heap := s.heap.push (newSet w) } (.ref s.heap.objs.size) "set" := ⟨_, hS, rfl⟩
    have i1 := F.called_set.init.lookup
    have i2 := F.called_set.init.bind (.ref s.heap.objs.size)
    repeat (any_goals (first | assumption | wp_step))
    refine codeAny_mono (codeAny_call_builtin (R := wants (fun r s₂ => r = .none ∧ ∃ h' tk c, s₂ = { s with heap := h', toks := tk } ∧ SetR w h' s.heap.objs.size (fun j => decide (j ∈ ns)) c ∧ c ≤ ns.length ∧ ∀ b o, s.heap.get? b = some o → h'.get? b = some o) E) F.called_set.init.plain F.entry_set_init (check_set_init_1 hT ?_)) fun r₂ s₂ hr₂ => ?_
    · obtain ⟨⟨oc, od, dt, sl⟩, hol, hc, n, hd⟩ := hl
      obtain rfl : oc = .type "list" := hc
      obtain rfl : dt = .seq its n := hd
      have hol' : (s.heap.push (newSet w)).get? l = some { cls := .type "list", dict := od, data := .seq its n, slots := sl } := Heap.get?_push_of_some _ hol
      have u1 := F.sub_list_set
      have u2 := F.sub_list_frozenset
      have u3 : (Value.type "list" == Value.type "dict") = false := by decide
      have hl1 : (s.heap.push (newSet w)).IsList l its := ⟨_, hol', rfl, n, rfl⟩
      unfold Builtin.«set.__init__» noKeywords Builtin.Frozenset.updateFrom
      generalize hPI : pyIter = PI
      wp_walk
      subst hPI
      refine wpAny_pyIter_list hl1 (wpAny_bind (wpAny_runValue ?_))
      have h3 : A.in1.in1.in1.handled = none := by simp [hh]
      have nI : l ≠ (s.heap.push (newSet w)).objs.size := by rw [Heap.size_push]; exact Nat.ne_of_lt (Nat.lt_succ_of_lt hlS)
      have nS : s.heap.objs.size ∉ [(s.heap.push (newSet w)).objs.size, l] := by
        rw [Heap.size_push]
        simp only [List.mem_cons, List.not_mem_nil, or_false, not_or]
        exact ⟨Nat.ne_of_lt (Nat.lt_succ_self _), Nat.ne_of_gt hlS⟩
      refine set_update_ints ((Walks.list h3 _ l nI its).toS) s.heap.objs.size nS ns hsz hb at_ (its.size - 0) 0 _ (by omega) (Nat.zero_le _) ⟨⟨_, Heap.get?_push_size _ rfl, rfl, rfl⟩, hl1.push _⟩ ⟨0, Nat.le_refl 0, setR_new_at (Heap.get?_push_of_some _ hS)⟩ ?_
      rintro ⟨h', g2, d', tk', os'⟩ c' hm hc' hS'
      obtain rfl : g2 = s.gens := hm.gens
      obtain rfl : d' = s.drawn := hm.drawn
      obtain rfl : os' = s.os := hm.os
      refine wpAny_pure (wpAny_pure ⟨rfl, h', tk', c', rfl, hS', hsz ▸ hc', fun b o e => ?_⟩)
      have b0 : b < s.heap.objs.size := Heap.lt_size e
      refine hm.heap b o ?_ (Heap.get?_push_of_some _ (Heap.get?_push_of_some _ e))
      simp only [List.mem_cons, List.not_mem_nil, or_false, not_or]
      exact ⟨Nat.ne_of_lt b0, by rw [Heap.size_push]; exact Nat.ne_of_lt (Nat.lt_succ_of_lt b0)⟩
    · match r₂, hr₂ with
      | .error e, q => exact q
      | .ok (.ret r), q =>
        obtain ⟨rfl, h', tk, c', rfl, q1, q2, q3⟩ := q
        repeat (any_goals (first | assumption | wp_step))
        exact h _ _ _ q1 q2 q3
      | .ok .next, q => exact q.elim
      | .ok .brk, q => exact q.elim
      | .ok .cont, q => exact q.elim
  | .ok .next, hr => exact hr.elim
  | .ok .brk, hr => exact hr.elim
  | .ok .cont, hr => exact hr.elim
end
def insI (x : Int) : List Int → List Int
  | [] => [x]
  | y :: l => if x < y then x :: y :: l else if x = y then y :: l else y :: insI x l
/-- the members, ascending, each once -/
def sortSet : List Int → List Int
  | [] => []
  | x :: l => insI x (sortSet l)
theorem mem_insI {x k : Int} : ∀ {l : List Int}, k ∈ insI x l ↔ k = x ∨ k ∈ l
  | [] => by simp [insI]
  | y :: l => by
    unfold insI
    split
    · simp
    · split
      · rename_i e; subst e; simp
      · simp only [List.mem_cons, mem_insI (l := l)]
        constructor
        · rintro (h | h | h)
          · exact .inr (.inl h)
          · exact .inl h
          · exact .inr (.inr h)
        · rintro (h | h | h)
          · exact .inr (.inl h)
          · exact .inl h
          · exact .inr (.inr h)
theorem mem_sortSet {k : Int} : ∀ {l : List Int}, k ∈ sortSet l ↔ k ∈ l
  | [] => Iff.rfl
  | x :: l => by rw [sortSet, mem_insI, mem_sortSet (l := l), List.mem_cons]
theorem insI_asc {x : Int} : ∀ {l : List Int}, l.Pairwise (· < ·) → (insI x l).Pairwise (· < ·)
  | [], _ => by simp [insI]
  | y :: l, h => by
    obtain ⟨h1, h2⟩ := List.pairwise_cons.mp h
    unfold insI
    split
    · rename_i hx
      exact List.pairwise_cons.mpr ⟨fun z hz => by
        rcases List.mem_cons.mp hz with e | e
        · rw [e]; exact hx
        · exact Int.lt_trans hx (h1 z e), h⟩
    · split
      · exact h
      · rename_i n1 n2
        refine List.pairwise_cons.mpr ⟨fun z hz => ?_, insI_asc h2⟩
        rcases mem_insI.mp hz with e | e
        · rw [e]; omega
        · exact h1 z e
theorem sortSet_asc : ∀ l : List Int, (sortSet l).Pairwise (· < ·)
  | [] => .nil
  | x :: l => insI_asc (sortSet_asc l)
theorem asc_unique : ∀ {a b : List Int}, a.Pairwise (· < ·) → b.Pairwise (· < ·) → (∀ k, k ∈ a ↔ k ∈ b) → a = b
  | [], [], _, _, _ => rfl
  | [], y :: b, _, _, h => by have := (h y).mpr List.mem_cons_self; cases this
  | x :: a, [], _, _, h => by have := (h x).mp List.mem_cons_self; cases this
  | x :: a, y :: b, ha, hb, h => by
    obtain ⟨a1, a2⟩ := List.pairwise_cons.mp ha
    obtain ⟨b1, b2⟩ := List.pairwise_cons.mp hb
    have e : x = y := by
      rcases List.mem_cons.mp ((h x).mp List.mem_cons_self) with e | e
      · exact e
      · rcases List.mem_cons.mp ((h y).mpr List.mem_cons_self) with f | f
        · exact f.symm
        · have := b1 x e; have := a1 y f; omega
    subst e
    refine congrArg _ (asc_unique a2 b2 fun k => ?_)
    constructor
    · intro hk
      rcases List.mem_cons.mp ((h k).mp (List.mem_cons_of_mem _ hk)) with e | e
      · have := a1 k hk; omega
      · exact e
    · intro hk
      rcases List.mem_cons.mp ((h k).mpr (List.mem_cons_of_mem _ hk)) with e | e
      · have := b1 k hk; omega
      · exact e
def dSortedSet (x : D) : C D := (asL x).bind fun l => (ofO (allInt l)).bind fun ns => if ns.length < 64 then C.ret (.lst ((sortSet ns).map D.int)) else C.stuck
section
variable {X : Cx} {W : WX}
def rSetI (K : PySem.W.Frag) (w : World) : List V → Hp → VK → Prop := fun xs H Q => ∃ (a : Addr) (ns : List Int), xs = [.ref a] ∧ SqL K H a (ns.map V.int) ∧ ns.length < 64 ∧ ∀ p c, c < 64 → H p = none → Q (.ref p) (upd H p (SetO w p (fun j => decide (j ∈ ns)) c))
theorem cr_setI (hc : X.calm = true) : CallR X (.type "set") (rSetI X.K X.w) := by
  intro pins s σ H xs us Q I r h
  obtain ⟨a, ns, rfl, hs, hn, q⟩ := h
  rw [Vals.ref1 r]
  obtain ⟨its, rv, pl, hz⟩ := I.list hs
  refine set_of_list ns (I.ok.hd hc) pl.isList (Vals.ints rv) (by show ns.length + 1 < 4096; omega) fun h' tk c R hcn hk => ?_
  exact ⟨.ref _, _, I.laid (t' := tk) hk (Nat.le_refl _) (setO_new R), rfl, q _ c (by omega) (I.hok.fresh (Nat.le_refl _))⟩
theorem reps_ints {K : PySem.W.Frag} {F : Hp} : ∀ ns : List Int, Reps K F (ns.map V.int) (ns.map D.int)
  | [] => .nil
  | n :: ns => .cons (.int n) (reps_ints ns)
theorem je_sortedSet {e : Expr} {ce : DE} {p q pos pos' : Pos} (hc : X.calm = true) (he : JE X W e ce) (hg : Gl X "sorted") (hm : X.mg "sorted" = none) (hg2 : Gl X "set") (hm2 : X.mg "set" = none) (hs : starEach [e] X.env = (false, eval e X.env) :: starEach [] X.env := by rfl) (hpl : (backTo pos' (starEach [] X.env)).any (·.1) = false := by rfl)
    (hs2 : starEach [.Call (.Name "set" q) [e] [] pos'] X.env = (false, eval (.Call (.Name "set" q) [e] [] pos') X.env) :: starEach [] X.env := by rfl) (hpl2 : (backTo pos (starEach [] X.env)).any (·.1) = false := by rfl) :
    JE X W (.Call (.Name "sorted" p) [.Call (.Name "set" q) [e] [] pos'] [] pos) (eUn dSortedSet ce) :=
  (pe_callB (cr_sortedSet hc) hg hm (by decide +kernel) (pa_cons (pe_callTy (cr_setI hc) hg2 hm2 (by decide +kernel) (pa_cons he pa_nil hs) (by decide) (by decide) hs hpl) pa_nil hs2) (by decide) (by decide) hs2 hpl2).dimp fun σ H Q ⟨F, m, G, δ, r, s, h⟩ =>
    ⟨F, m, G, δ, r, s, (LR.bind h).imp fun F1 H1 _ x e1 _ ⟨m1, r1, h1⟩ v rv => by
      obtain ⟨a, vs, l, rfl, h2, h3, h4⟩ := asL_of r1 rv h1
      obtain ⟨ns, e, h4⟩ := h4.ofOb
      obtain ⟨hn, h4⟩ := h4.ite
      rw [ints_reps h3 e] at h2
      refine ⟨a, ns, rfl, SqL.of h2, hn, fun p c hc hp => ⟨p, _, c, rfl, upd_same, hc, fun ks q asc mem len hq => ?_⟩⟩
      have r2 := r1.newH hp (SetO X.w p (fun j => decide (j ∈ ns)) c)
      have ek : ks = sortSet ns := asc_unique asc (sortSet_asc ns) fun k => by rw [mem k, mem_sortSet, decide_eq_true_eq]
      subst ek
      have ex := Ex.new (o := .lst ((sortSet ns).map V.int)) (r2.fresh hq).2
      exact h4.retE ex (r2.newF hq _) _ (.lst upd_same (reps_ints _))⟩
end
end DL

namespace DL
open PySem L2
section
variable {m : Mem} {Q : D → Mem → Prop} {QB : Bool → Mem → Prop} {QL : List D → Mem → Prop} {E : Xn → Mem → Prop} {i j : Int} {x y z : D} {a b c : DE} {t u : DT} {al bl : DA} {δ : DSt} {l : List D} {s s' : Str} {K : Kt} {p q : Addr} {n k : Nat}
theorem fn_run {N : Nat} {b : CS} {ds : List D} (h : b.run (startD N ds) m (Kt.fin Q E)) : (fnD N b ds).run m Q E := h
def kF {α β : Type} (f : α → C β) (Q : β → Mem → Prop) (E : Xn → Mem → Prop) : α → Mem → Prop := fun x m => (f x).run m Q E
def kEx (δ : DSt) (K : Kt) : Xn → Mem → Prop := fun x m => K.ex x δ m
def onV (o : Option (Option D)) (m : Mem) (Q : D → Mem → Prop) : Prop := (match o with | some (some d) => C.ret d | _ => C.stuck : C D).run m Q (fun _ _ => True)
def onL (o : Option MO) (k : List D → Prop) : Prop := match o with | some (.lst l) => k l | _ => False
def onO {α : Type} (o : Option α) (k : α → Prop) : Prop := match o with | some a => k a | none => False
def kM {α : Type} (m : Mem) (Q : α → Mem → Prop) : α → Prop := fun d => Q d m
theorem k_F {α β : Type} {f : α → C β} {Q : β → Mem → Prop} {x : α} : kF f Q E x m = (f x).run m Q E := rfl
theorem k_M {α : Type} {Q : α → Mem → Prop} {x : α} : kM m Q x = Q x m := rfl
theorem k_onV {d : D} : onV (some (some d)) m Q = Q d m := rfl
theorem k_onL {k : List D → Prop} : onL (some (.lst l)) k = k l := rfl
theorem k_onO {α : Type} {x : α} {k : α → Prop} : onO (some x) k = k x := rfl
theorem k_onN {α : Type} {k : α → Prop} : onO none k = False := rfl
theorem r_C {d : D} : (eC d δ).run m Q E = Q d m := rfl
theorem r_var : (eVar k δ).run m Q E = onV δ[k]? m Q := by
  show (match δ[k]? with | some (some d) => C.ret d | _ => C.stuck : C D).run m Q E = _
  unfold onV
  split <;> rfl
def kOp2 (f : D → D → C D) (x : D) (Q : D → Mem → Prop) (E : Xn → Mem → Prop) : D → Mem → Prop := fun y m => (f x y).run m Q E
theorem k_Op2 {f : D → D → C D} : kOp2 f x Q E y m = (f x y).run m Q E := rfl
def kOp (f : D → D → C D) (b : DE) (δ : DSt) (Q : D → Mem → Prop) (E : Xn → Mem → Prop) : D → Mem → Prop := fun x m => (b δ).run m (kOp2 f x Q E) E
theorem k_Op {f : D → D → C D} : kOp f b δ Q E x m = (b δ).run m (kOp2 f x Q E) E := rfl
theorem r_op {f : D → D → C D} : (eOp f a b δ).run m Q E = (a δ).run m (kOp f b δ Q E) E := rfl
theorem r_un {f : D → C D} : (eUn f a δ).run m Q E = (a δ).run m (kF f Q E) E := rfl
theorem r_app {f : List D → C D} : (eApp f al δ).run m Q E = (al δ).run m (kF f Q E) E := rfl
def callF (n : Nat) (dds : List D) (f : List D → C D) (l : List D) : C D := if l.length = n then f (l ++ dds) else C.stuck
theorem r_call {dds : List D} {f : List D → C D} : (eCall n dds f al δ).run m Q E = (al δ).run m (kF (callF n dds f) Q E) E := rfl
theorem r_callF {dds : List D} {f : List D → C D} (h : l.length = n) : (callF n dds f l).run m Q E = (f (l ++ dds)).run m Q E := by
  unfold callF; rw [if_pos h]
def callKF (n k : Nat) (f : List D → C D) (l q : List D) : C D := if l.length = n ∧ q.length = k then f (l ++ q) else C.stuck
def kCK2 (n k : Nat) (f : List D → C D) (l : List D) (Q : D → Mem → Prop) (E : Xn → Mem → Prop) : List D → Mem → Prop := fun q m => (callKF n k f l q).run m Q E
theorem k_CK2 {f : List D → C D} {q : List D} : kCK2 n k f l Q E q m = (callKF n k f l q).run m Q E := rfl
def kCK (n k : Nat) (f : List D → C D) (bl : DA) (δ : DSt) (Q : D → Mem → Prop) (E : Xn → Mem → Prop) : List D → Mem → Prop := fun l m => (bl δ).run m (kCK2 n k f l Q E) E
theorem k_CK {f : List D → C D} : kCK n k f bl δ Q E l m = (bl δ).run m (kCK2 n k f l Q E) E := rfl
theorem r_callK {f : List D → C D} : (eCallK n k f al bl δ).run m Q E = (al δ).run m (kCK n k f bl δ Q E) E := rfl
theorem r_callKF {f : List D → C D} {q : List D} (h : l.length = n) (h2 : q.length = k) : (callKF n k f l q).run m Q E = (f (l ++ q)).run m Q E := by
  unfold callKF; rw [if_pos ⟨h, h2⟩]
theorem r_nil : (aNil δ).run m QL E = QL [] m := rfl
def kA2 (x : D) (QL : List D → Mem → Prop) : List D → Mem → Prop := fun l m => QL (x :: l) m
theorem k_A2 : kA2 x QL l m = QL (x :: l) m := rfl
def kA (al : DA) (δ : DSt) (QL : List D → Mem → Prop) (E : Xn → Mem → Prop) : D → Mem → Prop := fun x m => (al δ).run m (kA2 x QL) E
theorem k_A : kA al δ QL E x m = (al δ).run m (kA2 x QL) E := rfl
theorem r_cons : (aCons a al δ).run m QL E = (a δ).run m (kA al δ QL E) E := rfl
def kAnd (b : DE) (δ : DSt) (Q : D → Mem → Prop) (E : Xn → Mem → Prop) : D → Mem → Prop := fun x m => ((truth x).bind fun c => if c = true then b δ else C.ret (.bl false)).run m Q E
theorem k_AndT : kAnd b δ Q E (.bl true) m = (b δ).run m Q E := rfl
theorem k_AndF : kAnd b δ Q E (.bl false) m = Q (.bl false) m := rfl
theorem r_and : (eAnd a b δ).run m Q E = (a δ).run m (kAnd b δ Q E) E := rfl
def kOr (b : DE) (δ : DSt) (Q : D → Mem → Prop) (E : Xn → Mem → Prop) : D → Mem → Prop := fun x m => ((truth x).bind fun c => if c = true then C.ret (.bl true) else b δ).run m Q E
theorem k_OrT : kOr b δ Q E (.bl true) m = Q (.bl true) m := rfl
theorem k_OrF : kOr b δ Q E (.bl false) m = (b δ).run m Q E := rfl
theorem r_or : (eOr a b δ).run m Q E = (a δ).run m (kOr b δ Q E) E := rfl
def kNot (Q : D → Mem → Prop) (E : Xn → Mem → Prop) : D → Mem → Prop := fun x m => ((truth x).bind fun c => C.ret (.bl (!c))).run m Q E
theorem k_Not {k : Bool} : kNot Q E (.bl k) m = Q (.bl (!k)) m := rfl
theorem r_not : (eNot a δ).run m Q E = (a δ).run m (kNot Q E) E := rfl
def kEIf (a b : DE) (δ : DSt) (Q : D → Mem → Prop) (E : Xn → Mem → Prop) : Bool → Mem → Prop := fun k m => (if k = true then a δ else b δ).run m Q E
theorem k_EIfT : kEIf a b δ Q E true m = (a δ).run m Q E := rfl
theorem k_EIfF : kEIf a b δ Q E false m = (b δ).run m Q E := rfl
theorem r_eIf : (eIf t a b δ).run m Q E = (t δ).run m (kEIf a b δ Q E) E := rfl
def kCh3 (g : D → D → C D) (y : D) (c : DE) (δ : DSt) (Q : D → Mem → Prop) (E : Xn → Mem → Prop) : D → Mem → Prop := fun z m => ((truth z).bind fun k => if k = true then (c δ).bind fun w => g y w else C.ret (.bl false)).run m Q E
theorem k_Ch3T {g : D → D → C D} : kCh3 g y c δ Q E (.bl true) m = (c δ).run m (kOp2 g y Q E) E := rfl
theorem k_Ch3F {g : D → D → C D} : kCh3 g y c δ Q E (.bl false) m = Q (.bl false) m := rfl
def kCh2 (f g : D → D → C D) (x : D) (c : DE) (δ : DSt) (Q : D → Mem → Prop) (E : Xn → Mem → Prop) : D → Mem → Prop := fun y m => (f x y).run m (kCh3 g y c δ Q E) E
theorem k_Ch2 {f g : D → D → C D} : kCh2 f g x c δ Q E y m = (f x y).run m (kCh3 g y c δ Q E) E := rfl
def kCh1 (f g : D → D → C D) (b c : DE) (δ : DSt) (Q : D → Mem → Prop) (E : Xn → Mem → Prop) : D → Mem → Prop := fun x m => (b δ).run m (kCh2 f g x c δ Q E) E
theorem k_Ch1 {f g : D → D → C D} : kCh1 f g b c δ Q E x m = (b δ).run m (kCh2 f g x c δ Q E) E := rfl
theorem r_chain {f g : D → D → C D} : (eChain f g a b c δ).run m Q E = (a δ).run m (kCh1 f g b c δ Q E) E := rfl
def kT (QB : Bool → Mem → Prop) (E : Xn → Mem → Prop) : D → Mem → Prop := fun x m => (truth x).run m QB E
theorem k_T {k : Bool} : kT QB E (.bl k) m = QB k m := rfl
theorem r_of : (tOf a δ).run m QB E = (a δ).run m (kT QB E) E := rfl
def kTA (u : DT) (δ : DSt) (QB : Bool → Mem → Prop) (E : Xn → Mem → Prop) : Bool → Mem → Prop := fun k m => (if k = true then u δ else C.ret false).run m QB E
theorem k_TAT : kTA u δ QB E true m = (u δ).run m QB E := rfl
theorem k_TAF : kTA u δ QB E false m = QB false m := rfl
theorem r_tand : (tAndD t u δ).run m QB E = (t δ).run m (kTA u δ QB E) E := rfl
def kTO (u : DT) (δ : DSt) (QB : Bool → Mem → Prop) (E : Xn → Mem → Prop) : Bool → Mem → Prop := fun k m => (if k = true then C.ret true else u δ).run m QB E
theorem k_TOT : kTO u δ QB E true m = QB true m := rfl
theorem k_TOF : kTO u δ QB E false m = (u δ).run m QB E := rfl
theorem r_tor : (tOrD t u δ).run m QB E = (t δ).run m (kTO u δ QB E) E := rfl
def kTN (QB : Bool → Mem → Prop) : Bool → Mem → Prop := fun k m => QB (!k) m
theorem k_TN {k : Bool} : kTN QB k m = QB (!k) m := rfl
theorem r_tnot : (tNotD t δ).run m QB E = (t δ).run m (kTN QB) E := rfl
theorem r_tTrue : (tTrue δ).run m QB E = QB true m := rfl
def kAsg (k : Nat) (δ : DSt) (K : Kt) : D → Mem → Prop := fun d m => K.nx (δ.set k (some d)) m
theorem k_Asg : kAsg k δ K x m = K.nx (δ.set k (some x)) m := rfl
theorem r_asg : (sAsg k a).run δ m K = (a δ).run m (kAsg k δ K) (kEx δ K) := rfl
def kNx (δ : DSt) (K : Kt) : D → Mem → Prop := fun _ m => K.nx δ m
theorem k_Nx : kNx δ K x m = K.nx δ m := rfl
theorem r_expr : (sExpr a).run δ m K = (a δ).run m (kNx δ K) (kEx δ K) := rfl
def kRt (K : Kt) : D → Mem → Prop := fun d m => K.rt d m
theorem k_Rt : kRt K x m = K.rt x m := rfl
theorem r_ret : (sRet a).run δ m K = (a δ).run m (kRt K) (kEx δ K) := rfl
theorem r_retN : sRetN.run δ m K = K.rt .non m := rfl
def kIf (a b : CS) (δ : DSt) (K : Kt) : Bool → Mem → Prop := fun c m => if c = true then a.run δ m K else b.run δ m K
theorem k_IfT {a b : CS} : kIf a b δ K true m = a.run δ m K := if_pos rfl
theorem k_IfF {a b : CS} : kIf a b δ K false m = b.run δ m K := if_neg (by decide)
theorem r_if {a b : CS} : (sIf t a b).run δ m K = (t δ).run m (kIf a b δ K) (kEx δ K) := rfl
theorem r_seq {a b : CS} : (sSeq a b).run δ m K = a.run δ m (K.seq b) := rfl
theorem r_next : sNext.run δ m K = K.nx δ m := rfl
theorem r_break : sBreak.run δ m K = K.bk δ m := rfl
theorem r_cont : sCont.run δ m K = K.ct δ m := rfl
theorem r_stuck : sStuck.run δ m K = False := rfl
def kG (g : DG) (δ : DSt) (K : Kt) : D → Mem → Prop := fun d m => (g d δ).run m K.nx (kEx δ K)
theorem k_G {g : DG} : kG g δ K x m = (g x δ).run m K.nx (kEx δ K) := rfl
theorem r_asgG {g : DG} : (sAsgG a g).run δ m K = (a δ).run m (kG g δ K) (kEx δ K) := rfl
def kFor (g : DG) (b : CS) (δ : DSt) (K : Kt) : List D × Option Addr → Mem → Prop := fun lo m => forD lo.1 lo.2 g b K lo.1 δ m
theorem k_For {g : DG} {b : CS} {o : Option Addr} : kFor g b δ K (l, o) m = forD l o g b K l δ m := rfl
theorem r_for {it : DI} {g : DG} {b : CS} : (sFor it g b).run δ m K = (it δ).run m (kFor g b δ K) (kEx δ K) := rfl
def kSI3 (y x : D) (δ : DSt) (K : Kt) : D → Mem → Prop := fun j m => (dSetItem x j y).run m (kNx δ K) (kEx δ K)
theorem k_SI3 : kSI3 y x δ K z m = (dSetItem x z y).run m (kNx δ K) (kEx δ K) := rfl
def kSI2 (y : D) (b : DE) (δ : DSt) (K : Kt) : D → Mem → Prop := fun x m => (b δ).run m (kSI3 y x δ K) (kEx δ K)
theorem k_SI2 : kSI2 y b δ K x m = (b δ).run m (kSI3 y x δ K) (kEx δ K) := rfl
def kSI (a b : DE) (δ : DSt) (K : Kt) : D → Mem → Prop := fun y m => (a δ).run m (kSI2 y b δ K) (kEx δ K)
theorem k_SI : kSI a b δ K y m = (a δ).run m (kSI2 y b δ K) (kEx δ K) := rfl
theorem r_setItemS : (sSetItem a b c).run δ m K = (c δ).run m (kSI a b δ K) (kEx δ K) := rfl
def kAp3 (x : D) (Q : D → Mem → Prop) (E : Xn → Mem → Prop) : D → Mem → Prop := fun y m => (dAppend x y).run m Q E
theorem k_Ap3 : kAp3 x Q E y m = (dAppend x y).run m Q E := rfl
def kAp2 (x : D) (b : DE) (δ : DSt) (Q : D → Mem → Prop) (E : Xn → Mem → Prop) : List D → Mem → Prop := fun _ m => (b δ).run m (kAp3 x Q E) E
theorem k_Ap2 : kAp2 x b δ Q E l m = (b δ).run m (kAp3 x Q E) E := rfl
def kAp1 (b : DE) (δ : DSt) (Q : D → Mem → Prop) (E : Xn → Mem → Prop) : D → Mem → Prop := fun x m => (asL x).run m (kAp2 x b δ Q E) E
theorem k_Ap1 : kAp1 b δ Q E x m = (asL x).run m (kAp2 x b δ Q E) E := rfl
theorem r_apd : (eApd a b δ).run m Q E = (a δ).run m (kAp1 b δ Q E) E := rfl
theorem r_gN {QS : DSt → Mem → Prop} : (gN k x δ).run m QS E = QS (δ.set k (some x)) m := rfl
theorem r_iSeq {QI : List D × Option Addr → Mem → Prop} : (iSeq a δ).run m QI E = (a δ).run m (kF seqI QI E) E := rfl
theorem r_iApp {QI : List D × Option Addr → Mem → Prop} {f : List D → C (List D × Option Addr)} : (iApp f al δ).run m QI E = (al δ).run m (kF f QI E) E := rfl
def kBody (b : CS) (K : Kt) : DSt → Mem → Prop := fun δ m => b.run δ m K
theorem forD_nil {w : List D} {g : DG} {b : CS} : forD w none g b K [] δ m = K.nx δ m := propext ⟨fun h => h.2, fun h => ⟨trivial, h⟩⟩
theorem forD_cons {w : List D} {g : DG} {b : CS} {r : List D} : forD w none g b K (x :: r) δ m = (g x δ).run m (kBody b (K.loop (forD w none g b K r))) (kEx δ K) := propext ⟨fun h => h.2, fun h => ⟨trivial, h⟩⟩
theorem k_Body {b : CS} : kBody b K δ m = b.run δ m K := rfl
def kSl3 (x : D) (lo : Option Int) (Q : D → Mem → Prop) (E : Xn → Mem → Prop) : Option Int → Mem → Prop := fun hi m => (dSl x lo hi).run m Q E
theorem k_Sl3 {lo hi : Option Int} : kSl3 x lo Q E hi m = (dSl x lo hi).run m Q E := rfl
def kSl2 (x : D) (hi : DO) (δ : DSt) (Q : D → Mem → Prop) (E : Xn → Mem → Prop) : Option Int → Mem → Prop := fun lo m => (hi δ).run m (kSl3 x lo Q E) E
theorem k_Sl2 {hi : DO} {lo : Option Int} : kSl2 x hi δ Q E lo m = (hi δ).run m (kSl3 x lo Q E) E := rfl
def kSl1 (lo hi : DO) (δ : DSt) (Q : D → Mem → Prop) (E : Xn → Mem → Prop) : D → Mem → Prop := fun x m => (lo δ).run m (kSl2 x hi δ Q E) E
theorem k_Sl1 {lo hi : DO} : kSl1 lo hi δ Q E x m = (lo δ).run m (kSl2 x hi δ Q E) E := rfl
theorem r_sl {lo hi : DO} : (eSl a lo hi δ).run m Q E = (a δ).run m (kSl1 lo hi δ Q E) E := rfl
theorem r_oNone {QO : Option Int → Mem → Prop} : (oNone δ).run m QO E = QO none m := rfl
def kOS (QO : Option Int → Mem → Prop) (E : Xn → Mem → Prop) : D → Mem → Prop := fun d m => (match d with | .int i => C.ret (some i) | _ => C.stuck : C (Option Int)).run m QO E
theorem k_OS {QO : Option Int → Mem → Prop} : kOS QO E (.int i) m = QO (some i) m := rfl
theorem r_oSome {QO : Option Int → Mem → Prop} : (oSome a δ).run m QO E = (a δ).run m (kOS QO E) E := by
  show (a δ).run m _ E = _
  congr 1
theorem r_slT {lo hi : Option Int} : (dSl (.tup l) lo hi).run m Q E = Q (.tup (cutD l lo hi)) m := rfl
theorem r_slL {lo hi : Option Int} : (dSl (.lst l) lo hi).run m Q E = Q (.lst (cutD l lo hi)) m := rfl
theorem r_slS {lo hi : Option Int} {ns : List Int} : (dSl (.scr ns) lo hi).run m Q E = Q (.lst (cutD (ns.map D.int) lo hi)) m := rfl
def retL (l : List D) : C D := C.ret (.lst l)
def newL (l : List D) : C D := C.new (.lst l)
theorem r_retL : (retL l).run m Q E = Q (.lst l) m := rfl
theorem r_newL : (newL l).run m Q E = ∀ p, m p = none → Q (.ref p) (mset m p (.lst l)) := rfl
def kLc (kk : List D → C D) (g : DG) (t : DT) (e : DE) (vs : List Nat) (δ : DSt) (Q : D → Mem → Prop) (E : Xn → Mem → Prop) : List D × Option Addr → Mem → Prop := fun lo m => (if lo.1.length ≤ sizeLine then (lcD lo.1 lo.2 g t e (wipeD δ vs) lo.1 []).noX.bind kk else C.stuck).run m Q E
theorem r_lc {it : DI} {g : DG} {vs : List Nat} : (eLc it g t a vs δ).run m Q E = (it δ).run m (kLc retL g t a vs δ Q E) E := rfl
theorem r_lcM {it : DI} {g : DG} {vs : List Nat} : (eLcM it g t a vs δ).run m Q E = (it δ).run m (kLc newL g t a vs δ Q E) E := rfl
theorem lcD_map {w : List D} {g : DG} {t : DT} {e : DE} {δ : DSt} {f : D → D} {pf : D → Bool} {QL : List D → Mem → Prop} {E : Xn → Mem → Prop} {m : Mem} : ∀ (r acc : List D), (∀ x ∈ r, ∀ (Y : D → Mem → Prop) (N : Mem → Prop), (pf x = true → Y (f x) m) → (pf x = false → N m) → (g x δ).run m (fun δ' m' => (t δ').run m' (fun b m'' => if b = true then (e δ').run m'' Y E else N m'') E) E) →
    QL (acc ++ (r.filter pf).map f) m → (lcD w none g t e δ r acc).run m QL E
  | [], acc, _, q => by
    rw [List.filter_nil, List.map_nil, List.append_nil] at q
    exact ⟨trivial, q⟩
  | x :: r, acc, h, q => by
    refine ⟨trivial, ?_⟩
    have h0 := h x (.head _) (fun y m' => (lcD w none g t e δ r (acc ++ [y])).run m' QL E) (fun m' => (lcD w none g t e δ r acc).run m' QL E)
      (fun hp => lcD_map r _ (fun y hy => h y (.tail _ hy)) (by rw [List.filter_cons, if_pos hp, List.map_cons] at q; rw [List.append_assoc]; exact q))
      (fun hp => lcD_map r _ (fun y hy => h y (.tail _ hy)) (by rw [List.filter_cons, if_neg (by rw [hp]; decide)] at q; exact q))
    refine C.mono (g x δ) (fun δ' m' h1 => ?_) (fun _ _ z => z) h0
    refine C.mono (t δ') (fun b m'' h2 => ?_) (fun _ _ z => z) h1
    cases b with
    | true => exact h2
    | false => exact h2
theorem lc_map {kk : List D → C D} {g : DG} {vs : List Nat} {f : D → D} {pf : D → Bool} (hl : l.length ≤ sizeLine) (h : ∀ x ∈ l, ∀ (Y : D → Mem → Prop) (N : Mem → Prop), (pf x = true → Y (f x) m) → (pf x = false → N m) → (g x (wipeD δ vs)).run m (fun δ' m' => (t δ').run m' (fun b m'' => if b = true then (a δ').run m'' Y (fun _ _ => False) else N m'') (fun _ _ => False)) (fun _ _ => False))
    (q : (kk ((l.filter pf).map f)).run m Q E) : kLc kk g t a vs δ Q E (l, none) m := by
  show (ite _ _ _ : C D).run m Q E
  rw [if_pos hl]
  exact lcD_map (QL := fun l m' => (kk l).run m' Q E) l [] h q
theorem filter_t {α : Type} (l : List α) : l.filter (fun _ => true) = l := List.filter_eq_self.mpr fun _ _ => rfl
theorem lc_all {kk : List D → C D} {g : DG} {vs : List Nat} {f : D → D} (hl : l.length ≤ sizeLine) (h : ∀ x ∈ l, ∀ (Y : D → Mem → Prop), Y (f x) m → (g x (wipeD δ vs)).run m (fun δ' m' => (a δ').run m' Y (fun _ _ => False)) (fun _ _ => False))
    (q : (kk (l.map f)).run m Q E) : kLc kk g tTrue a vs δ Q E (l, none) m :=
  lc_map (pf := fun _ => true) hl (fun x hx Y N y _ => C.mono _ (fun δ' m' h1 => h1) (fun _ _ z => z) (h x hx Y (y rfl))) (by rw [filter_t]; exact q)
theorem allInt_map : ∀ l : List Int, allInt (l.map D.int) = some l
  | [] => rfl
  | i :: r => by show (allInt (r.map D.int)).map (i :: ·) = _; rw [allInt_map r]; rfl
theorem r_add : (dAdd (.int i) (.int j)).run m Q E = Q (.int (i + j)) m := rfl
theorem r_sub : (dSub (.int i) (.int j)).run m Q E = Q (.int (i - j)) m := rfl
theorem r_mod (h : 0 < j) : (dMod (.int i) (.int j)).run m Q E = Q (.int (i % j)) m := by show (ite _ _ _ : C D).run m Q E = _; rw [if_pos h]; rfl
theorem r_div (h : 0 < j) (h2 : j < 1073741824) : (dDiv (.int i) (.int j)).run m Q E = Q (.int (i / j)) m := by show (ite _ _ _ : C D).run m Q E = _; rw [if_pos ⟨h, h2⟩]; rfl
theorem r_mulL (h : -(2 ^ 64) < i) (h2 : i < 2 ^ 64) : (dMul (.int i) (.int j)).run m Q E = Q (.int (i * j)) m := by show (ite _ _ _ : C D).run m Q E = _; rw [if_pos (.inl ⟨h, h2⟩)]; rfl
theorem r_mulR (h : -(2 ^ 64) < j) (h2 : j < 2 ^ 64) : (dMul (.int i) (.int j)).run m Q E = Q (.int (i * j)) m := by show (ite _ _ _ : C D).run m Q E = _; rw [if_pos (.inr ⟨h, h2⟩)]; rfl
theorem r_pow1018 : (dPow (.int 10) (.int 18)).run m Q E = Q (.int 1000000000000000000) m := rfl
theorem r_lt : (dLt (.int i) (.int j)).run m Q E = Q (.bl (decide (i < j))) m := rfl
theorem r_le : (dLe (.int i) (.int j)).run m Q E = Q (.bl (decide (i ≤ j))) m := rfl
theorem r_gt : (dGt (.int i) (.int j)).run m Q E = Q (.bl (decide (j < i))) m := rfl
theorem r_ge : (dGe (.int i) (.int j)).run m Q E = Q (.bl (decide (j ≤ i))) m := rfl
theorem r_neg : (dNeg (.int i)).run m Q E = Q (.int (-i)) m := rfl
theorem r_eqII : (dEq (.int i) (.int j)).run m Q E = Q (.bl (i == j)) m := rfl
theorem r_neII : (dNe (.int i) (.int j)).run m Q E = Q (.bl (!(i == j))) m := rfl
theorem r_eqSS : (dEq (.str s) (.str s')).run m Q E = Q (.bl (s == s')) m := rfl
theorem r_neSS : (dNe (.str s) (.str s')).run m Q E = Q (.bl (!(s == s'))) m := rfl
theorem r_eqBB {c d : Bool} : (dEq (.bl c) (.bl d)).run m Q E = Q (.bl (c == d)) m := rfl
theorem r_neBB {c d : Bool} : (dNe (.bl c) (.bl d)).run m Q E = Q (.bl (!(c == d))) m := rfl
theorem r_isN : (dIs x .non).run m Q E = Q (.bl (isD x .non)) m := rfl
theorem r_isB {c : Bool} : (dIs x (.bl c)).run m Q E = Q (.bl (isD x (.bl c))) m := rfl
theorem r_notN : (dIsNot x .non).run m Q E = Q (.bl (!isD x .non)) m := rfl
theorem r_int1 : (dInt [.int i]).run m Q E = Q (.int i) m := rfl
theorem r_intb {c : Bool} : (dInt [.bl c]).run m Q E = Q (.int (if c then 1 else 0)) m := rfl
theorem r_abs : (dAbs [.int i]).run m Q E = Q (.int (if i < 0 then -i else i)) m := rfl
def kGet (i : Int) (m : Mem) (Q : D → Mem → Prop) : List D → Prop := fun l => onO (atI l i) (kM m Q)
theorem ofO_eq {α : Type} {o : Option α} {Q : α → Mem → Prop} : (ofO o).run m Q E = onO o (kM m Q) := by cases o <;> rfl
theorem k_Get : kGet i m Q l = onO (atI l i) (kM m Q) := rfl
theorem r_ixT : (dIx (.tup l) (.int i)).run m Q E = onO (atI l i) (kM m Q) := ofO_eq
theorem r_ixL : (dIx (.lst l) (.int i)).run m Q E = onO (atI l i) (kM m Q) := ofO_eq
theorem r_asLR : (asL (.ref p)).run m QL E = onL (m p) (kM m QL) := by
  show (match m p with | some o => _ | none => False) = _
  cases m p with
  | none => rfl
  | some o => cases o <;> rfl
theorem r_asLL : (asL (.lst l)).run m QL E = QL l m := rfl
theorem r_ixRef : (dIx (.ref p) (.int i)).run m Q E = onL (m p) (kGet i m Q) := by
  refine (r_asLR (QL := fun l m' => (ofO (atI l i)).run m' Q E)).trans ?_
  congr 1; funext l; exact ofO_eq
theorem r_lenT : (dLen [.tup l]).run m Q E = Q (.int l.length) m := rfl
theorem r_lenL : (dLen [.lst l]).run m Q E = Q (.int l.length) m := rfl
def kLen (m : Mem) (Q : D → Mem → Prop) : List D → Prop := fun l => Q (.int l.length) m
theorem k_Len : kLen m Q l = Q (.int l.length) m := rfl
theorem r_lenRef : (dLen [.ref p]).run m Q E = onL (m p) (kLen m Q) := r_asLR (QL := fun l m' => Q (.int l.length) m')
theorem r_sumRef : (dSum [.ref p]).run m Q E = onL (m p) fun l => onO (allInt l) fun ns => Q (.int ns.sum) m := by
  refine (r_asLR (QL := fun l m' => (ofO (allInt l)).run m' (fun ns m' => Q (.int ns.sum) m') E)).trans ?_
  congr 1; funext l; exact ofO_eq
def kSetJ (l : List D) (y : D) (p : Addr) (m : Mem) (Q : D → Mem → Prop) : Nat → Prop := fun j => Q .non (mset m p (.lst (l.set j y)))
theorem k_SetJ : kSetJ l y p m Q k = Q .non (mset m p (.lst (l.set k y))) := rfl
def kSet (i : Int) (y : D) (p : Addr) (m : Mem) (Q : D → Mem → Prop) : List D → Prop := fun l => onO (ixN l.length i) (kSetJ l y p m Q)
theorem k_Set : kSet i y p m Q l = onO (ixN l.length i) (kSetJ l y p m Q) := rfl
theorem r_setRef : (dSetItem (.ref p) (.int i) y).run m Q E = onL (m p) (kSet i y p m Q) := by
  show (match m p with | some o => _ | none => False) = _
  cases m p with
  | none => rfl
  | some o =>
    cases o with
    | lst l =>
      show (match (ixN l.length i).map (fun j => (D.non, MO.lst (l.set j y))) with | some (d, o') => Q d (mset m p o') | none => False) = onO (ixN l.length i) (kSetJ l y p m Q)
      cases ixN l.length i <;> rfl
    | ins c fs => rfl
    | dic l => rfl
def kApp (y : D) (p : Addr) (m : Mem) (Q : D → Mem → Prop) : List D → Prop := fun l => l.length < sizeLine ∧ Q .non (mset m p (.lst (l ++ [y])))
theorem k_App (h : l.length < sizeLine) : kApp y p m Q l = Q .non (mset m p (.lst (l ++ [y]))) := propext ⟨fun q => q.2, fun q => ⟨h, q⟩⟩
theorem r_appRef : (dAppend (.ref p) y).run m Q E = onL (m p) (kApp y p m Q) := by
  show (match m p with | some o => _ | none => False) = _
  cases m p with
  | none => rfl
  | some o =>
    cases o with
    | lst l =>
      show (match (if l.length < sizeLine then some (D.non, MO.lst (l ++ [y])) else none) with | some (d, o') => Q d (mset m p o') | none => False) = (l.length < sizeLine ∧ Q .non (mset m p (.lst (l ++ [y]))))
      by_cases hh : l.length < sizeLine
      · simp only [if_pos hh]; exact propext ⟨fun q => ⟨hh, q⟩, fun q => q.2⟩
      · simp only [if_neg hh]; exact propext ⟨fun q => q.elim, fun q => hh q.1⟩
    | ins c fs => rfl
    | dic l => rfl
theorem r_tupS (h : l.length ≤ sizeLine) : (mkTup l).run m Q E = Q (.tup l) m := by show (ite _ _ _ : C D).run m Q E = _; rw [if_pos h]; rfl
theorem r_tup0 : (mkTup []).run m Q E = Q (.tup []) m := rfl
theorem r_tup1 {d1 : D} : (mkTup [d1]).run m Q E = Q (.tup [d1]) m := r_tupS (show 1 ≤ sizeLine by decide)
theorem r_tup2 {d1 d2 : D} : (mkTup [d1, d2]).run m Q E = Q (.tup [d1, d2]) m := r_tupS (show 2 ≤ sizeLine by decide)
theorem r_tup3 {d1 d2 d3 : D} : (mkTup [d1, d2, d3]).run m Q E = Q (.tup [d1, d2, d3]) m := r_tupS (show 3 ≤ sizeLine by decide)
theorem r_tup4 {d1 d2 d3 d4 : D} : (mkTup [d1, d2, d3, d4]).run m Q E = Q (.tup [d1, d2, d3, d4]) m := r_tupS (show 4 ≤ sizeLine by decide)
theorem r_tup5 {d1 d2 d3 d4 d5 : D} : (mkTup [d1, d2, d3, d4, d5]).run m Q E = Q (.tup [d1, d2, d3, d4, d5]) m := r_tupS (show 5 ≤ sizeLine by decide)
theorem r_tup6 {d1 d2 d3 d4 d5 d6 : D} : (mkTup [d1, d2, d3, d4, d5, d6]).run m Q E = Q (.tup [d1, d2, d3, d4, d5, d6]) m := r_tupS (show 6 ≤ sizeLine by decide)
theorem r_tup7 {d1 d2 d3 d4 d5 d6 d7 : D} : (mkTup [d1, d2, d3, d4, d5, d6, d7]).run m Q E = Q (.tup [d1, d2, d3, d4, d5, d6, d7]) m := r_tupS (show 7 ≤ sizeLine by decide)
theorem r_tup8 {d1 d2 d3 d4 d5 d6 d7 d8 : D} : (mkTup [d1, d2, d3, d4, d5, d6, d7, d8]).run m Q E = Q (.tup [d1, d2, d3, d4, d5, d6, d7, d8]) m := r_tupS (show 8 ≤ sizeLine by decide)
theorem r_lst0 : (mkLst []).run m Q E = Q (.lst []) m := rfl
theorem r_ref (h : l.length ≤ sizeLine) : (mkRef l).run m Q E = ∀ p, m p = none → Q (.ref p) (mset m p (.lst l)) := by show (ite _ _ _ : C D).run m Q E = _; rw [if_pos h]; rfl
theorem r_ref0 : (mkRef []).run m Q E = ∀ p, m p = none → Q (.ref p) (mset m p (.lst [])) := r_ref (show 0 ≤ sizeLine by decide)
theorem r_ref1 {d1 : D} : (mkRef [d1]).run m Q E = ∀ p, m p = none → Q (.ref p) (mset m p (.lst [d1])) := r_ref (show 1 ≤ sizeLine by decide)
theorem r_ref2 {d1 d2 : D} : (mkRef [d1, d2]).run m Q E = ∀ p, m p = none → Q (.ref p) (mset m p (.lst [d1, d2])) := r_ref (show 2 ≤ sizeLine by decide)
theorem r_ref3 {d1 d2 d3 : D} : (mkRef [d1, d2, d3]).run m Q E = ∀ p, m p = none → Q (.ref p) (mset m p (.lst [d1, d2, d3])) := r_ref (show 3 ≤ sizeLine by decide)
theorem r_ref4 {d1 d2 d3 d4 : D} : (mkRef [d1, d2, d3, d4]).run m Q E = ∀ p, m p = none → Q (.ref p) (mset m p (.lst [d1, d2, d3, d4])) := r_ref (show 4 ≤ sizeLine by decide)
theorem r_ref5 {d1 d2 d3 d4 d5 : D} : (mkRef [d1, d2, d3, d4, d5]).run m Q E = ∀ p, m p = none → Q (.ref p) (mset m p (.lst [d1, d2, d3, d4, d5])) := r_ref (show 5 ≤ sizeLine by decide)
theorem r_ref6 {d1 d2 d3 d4 d5 d6 : D} : (mkRef [d1, d2, d3, d4, d5, d6]).run m Q E = ∀ p, m p = none → Q (.ref p) (mset m p (.lst [d1, d2, d3, d4, d5, d6])) := r_ref (show 6 ≤ sizeLine by decide)
theorem r_listL : (dList [.lst l]).run m Q E = Q (.lst l) m := rfl
theorem r_listT : (dList [.tup l]).run m Q E = Q (.lst l) m := rfl
theorem r_tupleL : (dTuple [.lst l]).run m Q E = Q (.tup l) m := rfl
theorem r_seqT {QI : List D × Option Addr → Mem → Prop} : (seqI (.tup l)).run m QI E = QI (l, none) m := rfl
theorem r_seqL {QI : List D × Option Addr → Mem → Prop} : (seqI (.lst l)).run m QI E = QI (l, none) m := rfl
theorem r_range1 {QI : List D × Option Addr → Mem → Prop} (h : small62 j = true) : (rangeI1 [.int j]).run m QI E = QI (rng 0 j, none) m := by show (ite _ _ _ : C _).run m QI E = _; rw [if_pos h]; rfl
theorem r_range2 {QI : List D × Option Addr → Mem → Prop} (h : small62 i = true) (h2 : small62 j = true) : (rangeI2 [.int i, .int j]).run m QI E = QI (rng i j, none) m := by show (ite _ _ _ : C _).run m QI E = _; rw [if_pos (by rw [h, h2]; rfl)]; rfl
theorem ix_last {n : Nat} (h : 0 < n) : ixN n (-1) = some (n - 1) := by
  unfold ixN; rw [if_neg (by omega), if_pos (by omega)]; congr 1; omega
theorem ix_nat {n : Nat} (h : 0 ≤ i) (h2 : i < n) : ixN n i = some i.toNat := by
  unfold ixN; rw [if_pos h, if_pos h2]
theorem if_dec {P : Prop} [Decidable P] {a b : CS} (h1 : P → a.run δ m K) (h2 : ¬P → b.run δ m K) : kIf a b δ K (decide P) m := by
  by_cases h : P
  · rw [decide_eq_true h, k_IfT]; exact h1 h
  · rw [decide_eq_false h, k_IfF]; exact h2 h
theorem tor_dec {P : Prop} [Decidable P] (h1 : P → QB true m) (h2 : ¬P → (u δ).run m QB E) : kTO u δ QB E (decide P) m := by
  by_cases h : P
  · rw [decide_eq_true h, k_TOT]; exact h1 h
  · rw [decide_eq_false h, k_TOF]; exact h2 h
theorem tand_dec {P : Prop} [Decidable P] (h1 : P → (u δ).run m QB E) (h2 : ¬P → QB false m) : kTA u δ QB E (decide P) m := by
  by_cases h : P
  · rw [decide_eq_true h, k_TAT]; exact h1 h
  · rw [decide_eq_false h, k_TAF]; exact h2 h
theorem tor_bool {v : Bool} (h1 : v = true → QB true m) (h2 : v = false → (u δ).run m QB E) : kTO u δ QB E v m := by
  cases v with
  | true => rw [k_TOT]; exact h1 rfl
  | false => rw [k_TOF]; exact h2 rfl
theorem tand_bool {v : Bool} (h1 : v = true → (u δ).run m QB E) (h2 : v = false → QB false m) : kTA u δ QB E v m := by
  cases v with
  | true => rw [k_TAT]; exact h1 rfl
  | false => rw [k_TAF]; exact h2 rfl
theorem if_bool {v : Bool} {a b : CS} (h1 : v = true → a.run δ m K) (h2 : v = false → b.run δ m K) : kIf a b δ K v m := by
  cases v with
  | true => rw [k_IfT]; exact h1 rfl
  | false => rw [k_IfF]; exact h2 rfl
theorem mul_run (h : -(2 ^ 64) < i ∧ i < 2 ^ 64 ∨ -(2 ^ 64) < j ∧ j < 2 ^ 64) (q : Q (.int (i * j)) m) : (dMul (.int i) (.int j)).run m Q E := by
  rcases h with ⟨a, b⟩ | ⟨a, b⟩
  · rw [r_mulL a b]; exact q
  · rw [r_mulR a b]; exact q
end
end DL

namespace DL
open PySem L2
def Ret (c : C D) (d : D) : Prop := ∀ (m : Mem) (Q : D → Mem → Prop) (E : Xn → Mem → Prop), Q d m → c.run m Q E
theorem Kt.loop_le {K : Kt} {N N' : DSt → Mem → Prop} (h : ∀ δ m, N δ m → N' δ m) : (K.loop N).Le (K.loop N') := ⟨h, fun _ _ q => q, fun _ _ q => q, h, fun _ _ _ q => q⟩
theorem for_rule {w : List D} {g : DG} {b : CS} {K : Kt} (I : List D → DSt → Mem → Prop) : ∀ {l : List D} {δ : DSt} {m : Mem}, I l δ m →
    (∀ (x : D) (r : List D) (δ : DSt) (m : Mem), I (x :: r) δ m → (g x δ).run m (kBody b (K.loop (I r))) (kEx δ K)) → (∀ (δ : DSt) (m : Mem), I [] δ m → K.nx δ m) → forD w none g b K l δ m
  | [], δ, m, h, _, e => by rw [forD_nil]; exact e δ m h
  | x :: r, δ, m, h, s, e => by
    rw [forD_cons]
    exact C.mono _ (fun δ' m' q => b.mono (Kt.loop_le fun δ'' m'' q2 => for_rule I q2 s e) q) (fun _ _ q => q) (s x r δ m h)
/-- a loop over a list of data: what holds behind a part of it -/
theorem for_map {α : Type} {enc : α → D} {w : List D} {g : DG} {b : CS} {K : Kt} {xs : List α} {δ : DSt} {m : Mem} (I : List α → DSt → Mem → Prop) (h0 : I [] δ m)
    (hs : ∀ (pre : List α) (x : α) (r : List α) (δ : DSt) (m : Mem), xs = pre ++ x :: r → I pre δ m → (g (enc x) δ).run m (kBody b (K.loop (I (pre ++ [x])))) (kEx δ K))
    (he : ∀ (δ : DSt) (m : Mem), I xs δ m → K.nx δ m) : forD w none g b K (xs.map enc) δ m := by
  refine for_rule (fun r δ m => ∃ pre post, xs = pre ++ post ∧ r = post.map enc ∧ I pre δ m) ⟨[], xs, rfl, rfl, h0⟩ (fun x r δ m ⟨pre, post, e1, e2, hI⟩ => ?_) (fun δ m ⟨pre, post, e1, e2, hI⟩ => ?_)
  · cases post with
    | nil => cases e2
    | cons y post =>
      rw [List.map_cons] at e2
      injection e2 with e3 e4
      subst e3; subst e4
      exact C.mono _ (fun δ' m' q => b.mono (Kt.loop_le fun δ'' m'' q2 => ⟨pre ++ [y], post, by rw [e1, List.append_assoc]; rfl, rfl, q2⟩) q) (fun _ _ q => q) (hs pre y post δ m e1 hI)
  · cases post with
    | nil => rw [List.append_nil] at e1; subst e1; exact he δ m hI
    | cons y post => cases e2
theorem rng_eq {n : Nat} : rng 0 (n : Int) = (List.range n).map fun (i : Nat) => D.int i := by
  unfold rng
  congr 1
  · funext i; congr 1; omega
theorem range_split {n i : Nat} {pre r : List Nat} (h : List.range n = pre ++ i :: r) : pre = List.range i ∧ i < n := by
  have hl : pre.length + (r.length + 1) = n := by have := congrArg List.length h; rw [List.length_range, List.length_append, List.length_cons] at this; omega
  have e1 : (List.range n)[pre.length]? = some i := by rw [h, List.getElem?_append_right (Nat.le_refl _), Nat.sub_self]; rfl
  rw [List.getElem?_range (by omega)] at e1
  injection e1 with e1
  refine ⟨?_, by omega⟩
  have e2 : (List.range n).take pre.length = pre := by rw [h]; exact List.take_left' rfl
  rw [← e2, List.take_range, ← e1]
  congr 1
  rw [e1]
  have := hl
  omega
/-- for i in range(n) -/
theorem for_nat {w : List D} {g : DG} {b : CS} {K : Kt} {n : Nat} {δ : DSt} {m : Mem} (I : Nat → DSt → Mem → Prop) (h0 : I 0 δ m)
    (hs : ∀ (i : Nat) (δ : DSt) (m : Mem), i < n → I i δ m → (g (.int i) δ).run m (kBody b (K.loop (I (i + 1)))) (kEx δ K))
    (he : ∀ (δ : DSt) (m : Mem), I n δ m → K.nx δ m) : forD w none g b K (rng 0 (n : Int)) δ m := by
  rw [rng_eq]
  refine for_map (fun pre => I pre.length) h0 (fun pre i r δ m e hI => ?_) (fun δ m h => he δ m (by rw [List.length_range] at h; exact h))
  obtain ⟨e1, e2⟩ := range_split e
  subst e1
  rw [List.length_range] at hI
  rw [List.length_append, List.length_range]
  exact hs i δ m e2 hI
theorem for_int {w : List D} {g : DG} {b : CS} {K : Kt} {k : Int} {δ : DSt} {m : Mem} (hk : 0 ≤ k) (I : Int → DSt → Mem → Prop) (h0 : I 0 δ m)
    (hs : ∀ (i : Int) (δ : DSt) (m : Mem), 0 ≤ i → i < k → I i δ m → (g (.int i) δ).run m (kBody b (K.loop (I (i + 1)))) (kEx δ K))
    (he : ∀ (δ : DSt) (m : Mem), I k δ m → K.nx δ m) : forD w none g b K (rng 0 k) δ m := by
  obtain ⟨n, rfl⟩ := Int.eq_ofNat_of_zero_le hk
  exact for_nat (fun i => I (i : Int)) h0 (fun i δ m hi h => hs i δ m (by omega) (by omega) h) he
section
variable {m : Mem} {Q : D → Mem → Prop} {QB : Bool → Mem → Prop} {QL : List D → Mem → Prop} {E : Xn → Mem → Prop} {i j : Int} {x y z : D} {a b c : DE} {t u : DT} {al bl : DA} {δ : DSt} {l : List D} {s s' : Str} {K : Kt} {p q : Addr} {n k : Nat}
theorem ofString_inj {a b : String} (h : Str.ofString a = Str.ofString b) : a = b := by
  rw [Str.ofString_eq_toList, Str.ofString_eq_toList] at h
  injection h with h
  have h2 := congrArg Array.toList h
  simp only at h2
  have h3 : a.toList = b.toList := by
    have key : ∀ (x y : List Char), x.map Char.toNat = y.map Char.toNat → x = y := by
      intro x
      induction x with
      | nil => intro y e; cases y with
        | nil => rfl
        | cons _ _ => cases e
      | cons c r ih =>
        intro y e
        cases y with
        | nil => cases e
        | cons d t =>
          rw [List.map_cons, List.map_cons] at e
          injection e with e1 e2
          rw [ih t e2, Char.toNat_inj.mp e1]
    exact key _ _ h2
  exact String.toList_inj.mp h3
theorem r_strEq {a b : String} : (Str.ofString a == Str.ofString b) = decide (a = b) := by
  by_cases h : a = b
  · rw [h, decide_eq_true rfl]; exact beq_self_eq_true _
  · rw [decide_eq_false h]
    exact beq_eq_false_iff_ne.mpr fun e => h (ofString_inj e)
theorem r_strEq2 {a b : String} : (Str.ofString a = Str.ofString b) = (a = b) := propext ⟨ofString_inj, fun h => by rw [h]⟩
theorem r_isT0 : isT "NoneType" "int" = false := by decide
theorem r_isT1 : isT "NoneType" "bool" = false := by decide
theorem r_isT2 : isT "NoneType" "str" = false := by decide
theorem r_isT3 : isT "NoneType" "list" = false := by decide
theorem r_isT4 : isT "NoneType" "tuple" = false := by decide
theorem r_isT5 : isT "NoneType" "dict" = false := by decide
theorem r_isT6 : isT "bool" "int" = true := by decide
theorem r_isT7 : isT "bool" "bool" = true := by decide
theorem r_isT8 : isT "bool" "str" = false := by decide
theorem r_isT9 : isT "bool" "list" = false := by decide
theorem r_isT10 : isT "bool" "tuple" = false := by decide
theorem r_isT11 : isT "bool" "dict" = false := by decide
theorem r_isT12 : isT "int" "int" = true := by decide
theorem r_isT13 : isT "int" "bool" = false := by decide
theorem r_isT14 : isT "int" "str" = false := by decide
theorem r_isT15 : isT "int" "list" = false := by decide
theorem r_isT16 : isT "int" "tuple" = false := by decide
theorem r_isT17 : isT "int" "dict" = false := by decide
theorem r_isT18 : isT "str" "int" = false := by decide
theorem r_isT19 : isT "str" "bool" = false := by decide
theorem r_isT20 : isT "str" "str" = true := by decide
theorem r_isT21 : isT "str" "list" = false := by decide
theorem r_isT22 : isT "str" "tuple" = false := by decide
theorem r_isT23 : isT "str" "dict" = false := by decide
theorem r_isT24 : isT "tuple" "int" = false := by decide
theorem r_isT25 : isT "tuple" "bool" = false := by decide
theorem r_isT26 : isT "tuple" "str" = false := by decide
theorem r_isT27 : isT "tuple" "list" = false := by decide
theorem r_isT28 : isT "tuple" "tuple" = true := by decide
theorem r_isT29 : isT "tuple" "dict" = false := by decide
theorem r_isT30 : isT "list" "int" = false := by decide
theorem r_isT31 : isT "list" "bool" = false := by decide
theorem r_isT32 : isT "list" "str" = false := by decide
theorem r_isT33 : isT "list" "list" = true := by decide
theorem r_isT34 : isT "list" "tuple" = false := by decide
theorem r_isT35 : isT "list" "dict" = false := by decide
theorem r_isiN {T : String}  : (dIsi T .non).run m Q E = Q (.bl (isT "NoneType" T)) m := rfl
theorem r_isi2N {T U : String}  : (dIsi2 T U .non).run m Q E = Q (.bl (isT "NoneType" T || isT "NoneType" U)) m := rfl
theorem r_isiB {T : String} {v : Bool} : (dIsi T (.bl v)).run m Q E = Q (.bl (isT "bool" T)) m := rfl
theorem r_isi2B {T U : String} {v : Bool} : (dIsi2 T U (.bl v)).run m Q E = Q (.bl (isT "bool" T || isT "bool" U)) m := rfl
theorem r_isiI {T : String}  : (dIsi T (.int i)).run m Q E = Q (.bl (isT "int" T)) m := rfl
theorem r_isi2I {T U : String}  : (dIsi2 T U (.int i)).run m Q E = Q (.bl (isT "int" T || isT "int" U)) m := rfl
theorem r_isiS {T : String}  : (dIsi T (.str s)).run m Q E = Q (.bl (isT "str" T)) m := rfl
theorem r_isi2S {T U : String}  : (dIsi2 T U (.str s)).run m Q E = Q (.bl (isT "str" T || isT "str" U)) m := rfl
theorem r_isiT {T : String}  : (dIsi T (.tup l)).run m Q E = Q (.bl (isT "tuple" T)) m := rfl
theorem r_isi2T {T U : String}  : (dIsi2 T U (.tup l)).run m Q E = Q (.bl (isT "tuple" T || isT "tuple" U)) m := rfl
theorem r_isiL {T : String}  : (dIsi T (.lst l)).run m Q E = Q (.bl (isT "list" T)) m := rfl
theorem r_isi2L {T U : String}  : (dIsi2 T U (.lst l)).run m Q E = Q (.bl (isT "list" T || isT "list" U)) m := rfl
theorem flat_ints (ns : List Int) : (ns.map D.int).all flat = true := by rw [List.all_map]; exact List.all_eq_true.mpr fun _ _ => rfl
theorem inD_ints (i : Int) (ns : List Int) : inD (.int i) (ns.map D.int) = decide (i ∈ ns) := by
  unfold inD
  rw [List.any_map]
  induction ns with
  | nil => rfl
  | cons k r ih =>
    rw [List.any_cons, ih]
    show ((k == i) || decide (i ∈ r)) = _
    by_cases h : i = k
    · subst h; simp
    · have h2 : (k == i) = false := beq_eq_false_iff_ne.mpr fun e => h e.symm
      rw [h2]; simp [h]
theorem r_inTI {ns : List Int} : (dIn (.int i) (.tup (ns.map D.int))).run m Q E = Q (.bl (decide (i ∈ ns))) m := by
  show (ite _ _ _ : C D).run m Q E = _
  rw [flat_ints, inD_ints]; rfl
theorem r_ninTI {ns : List Int} : (dNotIn (.int i) (.tup (ns.map D.int))).run m Q E = Q (.bl (!decide (i ∈ ns))) m := by
  show (ite _ _ _ : C D).run m Q E = _
  rw [flat_ints, inD_ints]; rfl
theorem r_inLI {ns : List Int} : (dIn (.int i) (.lst (ns.map D.int))).run m Q E = Q (.bl (decide (i ∈ ns))) m := by
  show (ite _ _ _ : C D).run m Q E = _
  rw [flat_ints, inD_ints]; rfl
theorem r_ninLI {ns : List Int} : (dNotIn (.int i) (.lst (ns.map D.int))).run m Q E = Q (.bl (!decide (i ∈ ns))) m := by
  show (ite _ _ _ : C D).run m Q E = _
  rw [flat_ints, inD_ints]; rfl
theorem r_inTS : (dIn (.str s) (.tup l)).run m Q E = (if l.all flat then C.ret (.bl (inD (.str s) l)) else C.stuck : C D).run m Q E := rfl
theorem r_inD_nil : inD x [] = false := rfl
theorem r_inD_cons : inD x (y :: l) = (eqv y x || inD x l) := rfl
theorem r_flat_nil : ([] : List D).all flat = true := rfl
theorem r_flat_cons : (y :: l).all flat = (flat y && l.all flat) := rfl
theorem r_flatS : flat (.str s) = true := rfl
theorem r_flatI : flat (.int i) = true := rfl
theorem r_eqvSS : eqv (.str s) (.str s') = (s == s') := rfl
theorem r_eqvII : eqv (.int i) (.int j) = (i == j) := rfl
theorem r_addLL {l1 l2 : List D} (h : l1.length + l2.length ≤ sizeLine) : (dAdd (.lst l1) (.lst l2)).run m Q E = Q (.lst (l1 ++ l2)) m := by
  show (ite _ _ _ : C D).run m Q E = _
  rw [if_pos h]; rfl
theorem sset_run {ns : List Int} (h : ns.length < 64) (q : Q (.lst ((sortSet ns).map D.int)) m) : (dSortedSet (.lst (ns.map D.int))).run m Q E := by
  show ((ofO (allInt (ns.map D.int))).bind _).run m Q E
  rw [allInt_map]
  show (ite _ _ _ : C D).run m Q E
  rw [if_pos h]; exact q
theorem atI_of {α : Type} {l : List α} {x : α} (h : 0 ≤ i) (hx : l[i.toNat]? = some x) : atI l i = some x := by
  have hl : i.toNat < l.length := (List.getElem?_eq_some_iff.mp hx).1
  unfold atI ixN
  rw [if_pos h, if_pos (by omega)]
  exact hx
theorem r_atm1 : atI (l ++ [x]) (-1) = some x := by
  unfold atI
  rw [ix_last (by rw [List.length_append]; simp)]
  show (l ++ [x])[(l ++ [x]).length - 1]? = _
  rw [List.length_append, List.getElem?_append_right (by simp)]; simp
theorem r_atm2 : atI [x] (-1) = some x := r_atm1 (l := [])
theorem r_at0 {x0 : D} : atI (x0 :: l) 0 = some x0 := atI_of (by decide) rfl
theorem r_at1 {x0 x1 : D} : atI (x0 :: x1 :: l) 1 = some x1 := atI_of (by decide) rfl
theorem r_at2 {x0 x1 x2 : D} : atI (x0 :: x1 :: x2 :: l) 2 = some x2 := atI_of (by decide) rfl
theorem r_at3 {x0 x1 x2 x3 : D} : atI (x0 :: x1 :: x2 :: x3 :: l) 3 = some x3 := atI_of (by decide) rfl
theorem r_at4 {x0 x1 x2 x3 x4 : D} : atI (x0 :: x1 :: x2 :: x3 :: x4 :: l) 4 = some x4 := atI_of (by decide) rfl
theorem r_at5 {x0 x1 x2 x3 x4 x5 : D} : atI (x0 :: x1 :: x2 :: x3 :: x4 :: x5 :: l) 5 = some x5 := atI_of (by decide) rfl
theorem r_at6 {x0 x1 x2 x3 x4 x5 x6 : D} : atI (x0 :: x1 :: x2 :: x3 :: x4 :: x5 :: x6 :: l) 6 = some x6 := atI_of (by decide) rfl
theorem r_at7 {x0 x1 x2 x3 x4 x5 x6 x7 : D} : atI (x0 :: x1 :: x2 :: x3 :: x4 :: x5 :: x6 :: x7 :: l) 7 = some x7 := atI_of (by decide) rfl
theorem r_at8 {x0 x1 x2 x3 x4 x5 x6 x7 x8 : D} : atI (x0 :: x1 :: x2 :: x3 :: x4 :: x5 :: x6 :: x7 :: x8 :: l) 8 = some x8 := atI_of (by decide) rfl
theorem r_beqI : (i == j) = decide (i = j) := by
  by_cases h : i = j
  · rw [beq_iff_eq.mpr h, decide_eq_true h]
  · rw [beq_eq_false_iff_ne.mpr h, decide_eq_false h]
theorem r_ndec {P : Prop} [Decidable P] : (!decide P) = decide (¬P) := by
  by_cases h : P
  · rw [decide_eq_true h, decide_eq_false (fun q => q h)]; rfl
  · rw [decide_eq_false h, decide_eq_true h]; rfl
theorem eif_dec {P : Prop} [Decidable P] (h1 : P → (a δ).run m Q E) (h2 : ¬P → (b δ).run m Q E) : kEIf a b δ Q E (decide P) m := by
  by_cases h : P
  · rw [decide_eq_true h]; exact h1 h
  · rw [decide_eq_false h]; exact h2 h
theorem eif_bool {v : Bool} (h1 : v = true → (a δ).run m Q E) (h2 : v = false → (b δ).run m Q E) : kEIf a b δ Q E v m := by
  cases v with
  | true => exact h1 rfl
  | false => exact h2 rfl
theorem and_dec {P : Prop} [Decidable P] (h1 : P → (b δ).run m Q E) (h2 : ¬P → Q (.bl false) m) : kAnd b δ Q E (.bl (decide P)) m := by
  by_cases h : P
  · rw [decide_eq_true h]; exact h1 h
  · rw [decide_eq_false h]; exact h2 h
theorem or_dec {P : Prop} [Decidable P] (h1 : P → Q (.bl true) m) (h2 : ¬P → (b δ).run m Q E) : kOr b δ Q E (.bl (decide P)) m := by
  by_cases h : P
  · rw [decide_eq_true h]; exact h1 h
  · rw [decide_eq_false h]; exact h2 h
theorem and_bool {v : Bool} (h1 : v = true → (b δ).run m Q E) (h2 : v = false → Q (.bl false) m) : kAnd b δ Q E (.bl v) m := by
  cases v with
  | true => exact h1 rfl
  | false => exact h2 rfl
theorem or_bool {v : Bool} (h1 : v = true → Q (.bl true) m) (h2 : v = false → (b δ).run m Q E) : kOr b δ Q E (.bl v) m := by
  cases v with
  | true => exact h1 rfl
  | false => exact h2 rfl
theorem ch_dec {P : Prop} [Decidable P] {g : D → D → C D} (h1 : P → (c δ).run m (kOp2 g y Q E) E) (h2 : ¬P → Q (.bl false) m) : kCh3 g y c δ Q E (.bl (decide P)) m := by
  by_cases h : P
  · rw [decide_eq_true h]; exact h1 h
  · rw [decide_eq_false h]; exact h2 h
theorem r_gT {r : List D → DSt → C DSt} {QS : DSt → Mem → Prop} : (gT r (.tup l) δ).run m QS E = (r l δ).run m QS E := rfl
def kGs (r : List D → DSt → C DSt) (l : List D) (QS : DSt → Mem → Prop) (E : Xn → Mem → Prop) : DSt → Mem → Prop := fun δ m => (r l δ).run m QS E
theorem k_Gs {r : List D → DSt → C DSt} {QS : DSt → Mem → Prop} : kGs r l QS E δ m = (r l δ).run m QS E := rfl
theorem r_gsCons {g : DG} {r : List D → DSt → C DSt} {QS : DSt → Mem → Prop} : (gsCons g r (x :: l) δ).run m QS E = (g x δ).run m (kGs r l QS E) E := rfl
theorem r_gsNil {QS : DSt → Mem → Prop} : (gsNil [] δ).run m QS E = QS δ m := rfl
theorem r_isDNN : isD .non .non = true := rfl
theorem r_isDBB {v w : Bool} : isD (.bl v) (.bl w) = (v == w) := rfl
theorem r_isDBN {v : Bool} : isD (.bl v) .non = false := rfl
theorem r_isDNB {v : Bool} : isD .non (.bl v) = false := rfl
theorem r_isDIN : isD (.int i) .non = false := rfl
theorem r_isDIB {v : Bool} : isD (.int i) (.bl v) = false := rfl
theorem r_isDSN : isD (.str s) .non = false := rfl
theorem r_isDSB {v : Bool} : isD (.str s) (.bl v) = false := rfl
theorem r_isDTN : isD (.tup l) .non = false := rfl
theorem r_isDTB {v : Bool} : isD (.tup l) (.bl v) = false := rfl
theorem r_isDLN : isD (.lst l) .non = false := rfl
theorem r_isDLB {v : Bool} : isD (.lst l) (.bl v) = false := rfl
theorem r_isDRN : isD (.ref p) .non = false := rfl
theorem r_isDRB {v : Bool} : isD (.ref p) (.bl v) = false := rfl
theorem r_beqTT : (true == true) = true := rfl
theorem r_beqTF : (true == false) = false := rfl
theorem r_beqFT : (false == true) = false := rfl
theorem r_beqFF : (false == false) = true := rfl
end
end DL

namespace DL
open PySem L2
section
variable {m : Mem} {Q : D → Mem → Prop} {QB : Bool → Mem → Prop} {QL : List D → Mem → Prop} {E : Xn → Mem → Prop} {i j : Int} {x y z : D} {a b c : DE} {t u : DT} {al bl : DA} {δ : DSt} {l : List D} {s s' : Str} {K : Kt} {p q : Addr} {n k : Nat} {f g mt cl : Str} {cs : List Str} {fs : List (Str × D)} {fD : List D → C D} {dds : List D}
def onI (o : Option MO) (k : Str → List (Str × D) → Prop) : Prop := match o with | some (.ins c fs) => k c fs | _ => False
theorem k_onI {k : Str → List (Str × D) → Prop} : onI (some (.ins cl fs)) k = k cl fs := rfl
def kFld2 (cs : List Str) (f : Str) (m : Mem) (Q : D → Mem → Prop) : Str → List (Str × D) → Prop := fun c fs => if c ∈ cs then onO (fs.lookup f) (kM m Q) else False
theorem k_Fld2 : kFld2 cs f m Q cl fs = if cl ∈ cs then onO (fs.lookup f) (kM m Q) else False := rfl
def fldK (cs : List Str) (f : Str) (i : Str × List (Str × D)) : C D := if i.1 ∈ cs then ofO (i.2.lookup f) else C.stuck
def kFld (cs : List Str) (f : Str) (Q : D → Mem → Prop) (E : Xn → Mem → Prop) : D → Mem → Prop := fun x m => ((asI x).bind (fldK cs f)).run m Q E
theorem r_fld : (eFld cs f a δ).run m Q E = (a δ).run m (kFld cs f Q E) E := rfl
theorem fldK_run {i : Str × List (Str × D)} : (fldK cs f i).run m Q E = kFld2 cs f m Q i.1 i.2 := by
  unfold fldK kFld2
  by_cases h : i.1 ∈ cs
  · rw [if_pos h, if_pos h]; exact ofO_eq
  · rw [if_neg h, if_neg h]; rfl
theorem asI_ref {β : Type} {kk : Str × List (Str × D) → C β} {QQ : β → Mem → Prop} : ((asI (.ref p)).bind kk).run m QQ E = onI (m p) (fun c fs => (kk (c, fs)).run m QQ E) := by
  show (match m p with | some o => _ | none => False) = _
  cases m p with
  | none => rfl
  | some o => cases o <;> rfl
theorem k_FldR : kFld cs f Q E (.ref p) m = onI (m p) (kFld2 cs f m Q) := by
  unfold kFld
  rw [asI_ref]
  congr 1
  funext c fs
  exact fldK_run
theorem k_FldO : kFld cs f Q E (.obj cl fs) m = kFld2 cs f m Q cl fs := fldK_run (i := (cl, fs))
theorem r_look {v : D} : List.lookup f ((g, v) :: fs) = if f = g then some v else List.lookup f fs := by
  rw [List.lookup_cons]
  by_cases h : f = g
  · rw [if_pos h, beq_iff_eq.mpr h]
  · rw [if_neg h, beq_eq_false_iff_ne.mpr h]
theorem r_lookN : List.lookup f ([] : List (Str × D)) = none := rfl
theorem r_putD {v : D} : putD f y ((g, v) :: fs) = if g = f then (g, y) :: fs else (g, v) :: putD f y fs := rfl
theorem r_putDN : putD f y [] = [(f, y)] := rfl
def kSF3 (cs : List Str) (f : Str) (y : D) (p : Addr) (m : Mem) (Q : D → Mem → Prop) : Str → List (Str × D) → Prop := fun c fs => if c ∈ cs ∧ fs.length < 1000 then Q .non (mset m p (.ins c (putD f y fs))) else False
theorem k_SF3 : kSF3 cs f y p m Q cl fs = if cl ∈ cs ∧ fs.length < 1000 then Q .non (mset m p (.ins cl (putD f y fs))) else False := rfl
theorem r_setFldR : (dSetFld cs f (.ref p) y).run m Q E = onI (m p) (kSF3 cs f y p m Q) := by
  show (match m p with | some o => _ | none => False) = _
  cases m p with
  | none => rfl
  | some o =>
    cases o with
    | lst l => rfl
    | dic l => rfl
    | ins c fs =>
      show (match (if c ∈ cs ∧ fs.length < 1000 then some (D.non, MO.ins c (putD f y fs)) else none) with | some (d, o') => Q d (mset m p o') | none => False) = if c ∈ cs ∧ fs.length < 1000 then Q .non (mset m p (.ins c (putD f y fs))) else False
      by_cases h : c ∈ cs ∧ fs.length < 1000
      · simp only [if_pos h]
      · simp only [if_neg h]
def kSF2 (cs : List Str) (f : Str) (y : D) (δ : DSt) (K : Kt) : D → Mem → Prop := fun x m => (dSetFld cs f x y).run m (kNx δ K) (kEx δ K)
theorem k_SF2 : kSF2 cs f y δ K x m = (dSetFld cs f x y).run m (kNx δ K) (kEx δ K) := rfl
def kSF1 (cs : List Str) (f : Str) (o : DE) (δ : DSt) (K : Kt) : D → Mem → Prop := fun y m => (o δ).run m (kSF2 cs f y δ K) (kEx δ K)
theorem k_SF1 : kSF1 cs f a δ K y m = (a δ).run m (kSF2 cs f y δ K) (kEx δ K) := rfl
theorem r_setFld : (sSetFld cs f a b).run δ m K = (b δ).run m (kSF1 cs f a δ K) (kEx δ K) := rfl
def methF (x : D) (n : Nat) (dds : List D) (fD : List D → C D) (l : List D) : C D := if l.length = n then fD (x :: (l ++ dds)) else C.stuck
theorem r_methF (h : l.length = n) : (methF x n dds fD l).run m Q E = (fD (x :: (l ++ dds))).run m Q E := by unfold methF; rw [if_pos h]
def kMe2 (c mt : Str) (n : Nat) (dds : List D) (fD : List D → C D) (al : DA) (δ : DSt) (x : D) (m : Mem) (Q : D → Mem → Prop) (E : Xn → Mem → Prop) : Str → List (Str × D) → Prop := fun c' fs => if c' = c ∧ fs.lookup mt = none then (al δ).run m (kF (methF x n dds fD) Q E) E else False
theorem k_Me2 {c' : Str} : kMe2 cl mt n dds fD al δ x m Q E c' fs = if c' = cl ∧ fs.lookup mt = none then (al δ).run m (kF (methF x n dds fD) Q E) E else False := rfl
def kMe1 (c mt : Str) (n : Nat) (dds : List D) (fD : List D → C D) (al : DA) (δ : DSt) (Q : D → Mem → Prop) (E : Xn → Mem → Prop) : D → Mem → Prop := fun x m => ((asI x).bind fun i => if i.1 = c ∧ i.2.lookup mt = none then (al δ).bind (methF x n dds fD) else C.stuck).run m Q E
theorem r_meth : (eMeth cl mt n dds fD a al δ).run m Q E = (a δ).run m (kMe1 cl mt n dds fD al δ Q E) E := rfl
theorem meK_run {c' : Str} : (if c' = cl ∧ fs.lookup mt = none then (al δ).bind (methF x n dds fD) else C.stuck : C D).run m Q E = kMe2 cl mt n dds fD al δ x m Q E c' fs := by
  unfold kMe2
  by_cases h : c' = cl ∧ fs.lookup mt = none
  · rw [if_pos h, if_pos h]; rfl
  · rw [if_neg h, if_neg h]; rfl
theorem k_MeR : kMe1 cl mt n dds fD al δ Q E (.ref p) m = onI (m p) (kMe2 cl mt n dds fD al δ (.ref p) m Q E) := by
  unfold kMe1
  rw [asI_ref]
  congr 1
  funext c fs
  exact meK_run
theorem k_MeO {c' : Str} : kMe1 cl mt n dds fD al δ Q E (.obj c' fs) m = kMe2 cl mt n dds fD al δ (.obj c' fs) m Q E c' fs := meK_run
def makeF (c : Str) (n : Nat) (dds : List D) (fD : List D → C D) (l : List D) : C D := if l.length = n then mkI c fD (l ++ dds) else C.stuck
theorem r_make : (eMake cl n dds fD al δ).run m Q E = (al δ).run m (kF (makeF cl n dds fD) Q E) E := rfl
def kMk (p : Addr) (Q : D → Mem → Prop) (E : Xn → Mem → Prop) : D → Mem → Prop := fun d m => ((isNon d).bind fun _ => C.ret (D.ref p)).run m Q E
theorem k_MkN : kMk p Q E .non m = Q (.ref p) m := rfl
theorem r_makeF (h : l.length = n) : (makeF cl n dds fD l).run m Q E = ∀ p, m p = none → (fD (.ref p :: (l ++ dds))).run (mset m p (.ins cl [])) (kMk p Q E) E := by
  unfold makeF; rw [if_pos h]; rfl
def callGF (n k : Nat) (gD : List D → List D → List D) (fD : List D → C D) (l q : List D) : C D := if l.length = n ∧ q.length = k then fD (gD l q) else C.stuck
def kCG2 (n k : Nat) (gD : List D → List D → List D) (fD : List D → C D) (l : List D) (Q : D → Mem → Prop) (E : Xn → Mem → Prop) : List D → Mem → Prop := fun q m => (callGF n k gD fD l q).run m Q E
theorem k_CG2 {gD : List D → List D → List D} {q : List D} : kCG2 n k gD fD l Q E q m = (callGF n k gD fD l q).run m Q E := rfl
def kCG (n k : Nat) (gD : List D → List D → List D) (fD : List D → C D) (bl : DA) (δ : DSt) (Q : D → Mem → Prop) (E : Xn → Mem → Prop) : List D → Mem → Prop := fun l m => (bl δ).run m (kCG2 n k gD fD l Q E) E
theorem k_CG {gD : List D → List D → List D} : kCG n k gD fD bl δ Q E l m = (bl δ).run m (kCG2 n k gD fD l Q E) E := rfl
theorem r_callG {gD : List D → List D → List D} : (eCallG n k gD fD al bl δ).run m Q E = (al δ).run m (kCG n k gD fD bl δ Q E) E := rfl
theorem r_callGF {gD : List D → List D → List D} {q : List D} (h : l.length = n) (h2 : q.length = k) : (callGF n k gD fD l q).run m Q E = (fD (gD l q)).run m Q E := by
  unfold callGF; rw [if_pos ⟨h, h2⟩]
theorem r_listRg (h : 0 ≤ i) (h2 : i ≤ 1000000) : (dListRg (.int i)).run m Q E = Q (.lst (rng 0 i)) m := by show (ite _ _ _ : C D).run m Q E = _; rw [if_pos ⟨h, h2⟩]; rfl
theorem r_tupRg (h : 0 ≤ i) (h2 : i ≤ 1000000) : (dTupRg (.int i)).run m Q E = Q (.tup (rng 0 i)) m := by show (ite _ _ _ : C D).run m Q E = _; rw [if_pos ⟨h, h2⟩]; rfl
def kSlR (lo hi : Option Int) (m : Mem) (Q : D → Mem → Prop) : List D → Prop := fun l => Q (.lst (cutD l lo hi)) m
theorem k_SlR {lo hi : Option Int} : kSlR lo hi m Q l = Q (.lst (cutD l lo hi)) m := rfl
theorem r_slR {lo hi : Option Int} : (dSl (.ref p) lo hi).run m Q E = onL (m p) (kSlR lo hi m Q) := r_asLR (QL := fun l m' => Q (.lst (cutD l lo hi)) m')
theorem r_enumL {QI : List D × Option Addr → Mem → Prop} : (enumI [.lst l]).run m QI E = QI (enumD l, none) m := rfl
theorem r_max2 : (dMax2 [.int i, .int j]).run m Q E = Q (.int (if j > i then j else i)) m := rfl
theorem r_min2 : (dMin2 [.int i, .int j]).run m Q E = Q (.int (if j < i then j else i)) m := rfl
theorem r_isi2R {T U : String} {l : List D} (h : m p = some (.lst l)) : (dIsi2 T U (.ref p)).run m Q E = Q (.bl (isT "list" T || isT "list" U)) m := by
  show (match m p with | some o => _ | none => False) = _
  rw [h]; rfl
theorem r_isiR {T : String} {l : List D} (h : m p = some (.lst l)) : (dIsi T (.ref p)).run m Q E = Q (.bl (isT "list" T)) m := by
  show (match m p with | some o => _ | none => False) = _
  rw [h]; rfl
theorem enumD_map {α : Type} {enc : α → D} (xs : List α) : enumD (xs.map enc) = (List.range xs.length).zipWith (fun (i : Nat) x => D.tup [.int i, enc x]) xs := by
  unfold enumD
  rw [List.length_map, List.zipWith_map_right]
end
/-- for i, x in enumerate(xs) -/
theorem for_enum {α : Type} {enc : α → D} {w : List D} {g : DG} {b : CS} {K : Kt} {xs : List α} {δ : DSt} {m : Mem} (I : List α → DSt → Mem → Prop) (h0 : I [] δ m)
    (hs : ∀ (pre : List α) (x : α) (r : List α) (δ : DSt) (m : Mem), xs = pre ++ x :: r → I pre δ m → (g (.tup [.int pre.length, enc x]) δ).run m (kBody b (K.loop (I (pre ++ [x])))) (kEx δ K))
    (he : ∀ (δ : DSt) (m : Mem), I xs δ m → K.nx δ m) : forD w none g b K (enumD (xs.map enc)) δ m := by
  have e : enumD (xs.map enc) = xs.zipIdx.map fun q => D.tup [.int q.2, enc q.1] := by
    rw [enumD_map]
    apply List.ext_getElem?
    intro i
    rw [List.getElem?_zipWith, List.getElem?_map, List.getElem?_zipIdx]
    by_cases hi : i < xs.length
    · rw [List.getElem?_range hi, List.getElem?_eq_getElem hi]; simp
    · rw [List.getElem?_eq_none (by rw [List.length_range]; omega), List.getElem?_eq_none (l := xs) (by omega)]; rfl
  rw [e]
  refine for_map (fun pre => I (pre.map (·.1))) h0 (fun pre x r δ m h hI => ?_) (fun δ m h => he δ m (by rw [List.zipIdx_map_fst] at h; exact h))
  have e1 : xs = pre.map (·.1) ++ x.1 :: r.map (·.1) := by
    have := congrArg (List.map (·.1)) h
    rw [List.zipIdx_map_fst, List.map_append, List.map_cons] at this
    exact this
  have e2 : x.2 = (pre.map (·.1)).length := by
    have h3 : xs.zipIdx[pre.length]? = some x := by rw [h, List.getElem?_append_right (Nat.le_refl _), Nat.sub_self]; rfl
    rw [List.getElem?_zipIdx] at h3
    obtain ⟨y, _, h5⟩ := Option.map_eq_some_iff.mp h3
    rw [← h5, List.length_map]; simp
  have := hs (pre.map (·.1)) x.1 (r.map (·.1)) δ m e1 hI
  rw [← e2] at this
  rw [List.map_append]
  exact this
/-- for i in range(a, b) -/
theorem for_range2 {w : List D} {g : DG} {b : CS} {K : Kt} {lo hi : Int} {δ : DSt} {m : Mem} (hk : lo ≤ hi) (I : Int → DSt → Mem → Prop) (h0 : I lo δ m)
    (hs : ∀ (i : Int) (δ : DSt) (m : Mem), lo ≤ i → i < hi → I i δ m → (g (.int i) δ).run m (kBody b (K.loop (I (i + 1)))) (kEx δ K))
    (he : ∀ (δ : DSt) (m : Mem), I hi δ m → K.nx δ m) : forD w none g b K (rng lo hi) δ m := by
  unfold rng
  have e0 : lo + ((hi - lo).toNat : Int) = hi := by omega
  refine for_map (fun pre => I (lo + pre.length)) (by simpa using h0) (fun pre i r δ m e hI => ?_) (fun δ m h => he δ m (by rw [List.length_range, e0] at h; exact h))
  obtain ⟨e1, e2⟩ := range_split e
  subst e1
  rw [List.length_range] at hI
  rw [List.length_append, List.length_range]
  have := hs (lo + i) δ m (by omega) (by omega) hI
  have e3 : lo + ((i + [i].length : Nat) : Int) = lo + i + 1 := by simp; omega
  rw [e3]
  exact this
section
variable {m : Mem} {Q : D → Mem → Prop} {E : Xn → Mem → Prop} {l : List D}
theorem lst_run (h : l.length ≤ sizeLine) : (mkLst l).run m Q E = Q (.lst l) m := by show (ite _ _ _ : C D).run m Q E = _; rw [if_pos h]; rfl
theorem r_lst1 {x0 : D} : (mkLst [x0]).run m Q E = Q (.lst [x0]) m := lst_run (show 1 ≤ sizeLine by decide)
theorem r_lst2 {x0 x1 : D} : (mkLst [x0, x1]).run m Q E = Q (.lst [x0, x1]) m := lst_run (show 2 ≤ sizeLine by decide)
theorem r_lst3 {x0 x1 x2 : D} : (mkLst [x0, x1, x2]).run m Q E = Q (.lst [x0, x1, x2]) m := lst_run (show 3 ≤ sizeLine by decide)
theorem r_lst4 {x0 x1 x2 x3 : D} : (mkLst [x0, x1, x2, x3]).run m Q E = Q (.lst [x0, x1, x2, x3]) m := lst_run (show 4 ≤ sizeLine by decide)
theorem r_lst5 {x0 x1 x2 x3 x4 : D} : (mkLst [x0, x1, x2, x3, x4]).run m Q E = Q (.lst [x0, x1, x2, x3, x4]) m := lst_run (show 5 ≤ sizeLine by decide)
theorem r_lst6 {x0 x1 x2 x3 x4 x5 : D} : (mkLst [x0, x1, x2, x3, x4, x5]).run m Q E = Q (.lst [x0, x1, x2, x3, x4, x5]) m := lst_run (show 6 ≤ sizeLine by decide)
theorem r_lst7 {x0 x1 x2 x3 x4 x5 x6 : D} : (mkLst [x0, x1, x2, x3, x4, x5, x6]).run m Q E = Q (.lst [x0, x1, x2, x3, x4, x5, x6]) m := lst_run (show 7 ≤ sizeLine by decide)
theorem r_lst8 {x0 x1 x2 x3 x4 x5 x6 x7 : D} : (mkLst [x0, x1, x2, x3, x4, x5, x6, x7]).run m Q E = Q (.lst [x0, x1, x2, x3, x4, x5, x6, x7]) m := lst_run (show 8 ≤ sizeLine by decide)
theorem r_lst9 {x0 x1 x2 x3 x4 x5 x6 x7 x8 : D} : (mkLst [x0, x1, x2, x3, x4, x5, x6, x7, x8]).run m Q E = Q (.lst [x0, x1, x2, x3, x4, x5, x6, x7, x8]) m := lst_run (show 9 ≤ sizeLine by decide)
theorem r_lst10 {x0 x1 x2 x3 x4 x5 x6 x7 x8 x9 : D} : (mkLst [x0, x1, x2, x3, x4, x5, x6, x7, x8, x9]).run m Q E = Q (.lst [x0, x1, x2, x3, x4, x5, x6, x7, x8, x9]) m := lst_run (show 10 ≤ sizeLine by decide)
theorem r_lst11 {x0 x1 x2 x3 x4 x5 x6 x7 x8 x9 x10 : D} : (mkLst [x0, x1, x2, x3, x4, x5, x6, x7, x8, x9, x10]).run m Q E = Q (.lst [x0, x1, x2, x3, x4, x5, x6, x7, x8, x9, x10]) m := lst_run (show 11 ≤ sizeLine by decide)
theorem r_lst12 {x0 x1 x2 x3 x4 x5 x6 x7 x8 x9 x10 x11 : D} : (mkLst [x0, x1, x2, x3, x4, x5, x6, x7, x8, x9, x10, x11]).run m Q E = Q (.lst [x0, x1, x2, x3, x4, x5, x6, x7, x8, x9, x10, x11]) m := lst_run (show 12 ≤ sizeLine by decide)
end
theorem if_ndec' {P : Prop} [Decidable P] {δ : DSt} {m : Mem} {K : Kt} {a b : CS} (h1 : ¬P → a.run δ m K) (h2 : P → b.run δ m K) : kIf a b δ K (decide ¬P) m := by
  by_cases h : P
  · rw [decide_eq_false (fun q => q h), k_IfF]; exact h2 h
  · rw [decide_eq_true h, k_IfT]; exact h1 h
/-- a loop over a list that may be changed, and is not -/
theorem for_mapR {α : Type} {enc : α → D} {a : Addr} {g : DG} {b : CS} {K : Kt} {xs : List α} {δ : DSt} {m : Mem} (I : List α → DSt → Mem → Prop) (hst : ∀ pre δ m, I pre δ m → m a = some (.lst (xs.map enc))) (h0 : I [] δ m)
    (hs : ∀ (pre : List α) (x : α) (r : List α) (δ : DSt) (m : Mem), xs = pre ++ x :: r → I pre δ m → (g (enc x) δ).run m (kBody b (K.loop (I (pre ++ [x])))) (kEx δ K))
    (he : ∀ (δ : DSt) (m : Mem), I xs δ m → K.nx δ m) : forD (xs.map enc) (some a) g b K (xs.map enc) δ m := by
  have key : ∀ (post pre : List α) (δ : DSt) (m : Mem), xs = pre ++ post → I pre δ m → forD (xs.map enc) (some a) g b K (post.map enc) δ m := by
    intro post
    induction post with
    | nil =>
      intro pre δ m e h
      rw [List.append_nil] at e
      subst e
      exact ⟨hst _ _ _ h, he δ m h⟩
    | cons x r ih =>
      intro pre δ m e h
      refine ⟨hst _ _ _ h, ?_⟩
      exact C.mono _ (fun δ' m' q => b.mono (Kt.loop_le fun δ'' m'' q2 => ih (pre ++ [x]) δ'' m'' (by rw [e, List.append_assoc]; rfl) q2) q) (fun _ _ q => q) (hs pre x r δ m e h)
  exact key xs [] δ m rfl h0
theorem r_seqR {QI : List D × Option Addr → Mem → Prop} {p : Addr} {m : Mem} {E : Xn → Mem → Prop} : (seqI (.ref p)).run m QI E = onL (m p) (fun l => QI (l, some p) m) := by
  show (match m p with | some o => _ | none => False) = _
  cases m p with
  | none => rfl
  | some o => cases o <;> rfl
theorem k_ForR {g : DG} {b : CS} {δ : DSt} {K : Kt} {l : List D} {p : Addr} {m : Mem} : kFor g b δ K (l, some p) m = forD l (some p) g b K l δ m := rfl
end DL

namespace DL
open PySem L2
section
variable {m : Mem} {Q : D → Mem → Prop} {QL : List D → Mem → Prop} {E : Xn → Mem → Prop} {x y : D} {a b c : DE} {δ : DSt} {l : List D} {K : Kt} {p q : Addr}
theorem r_minL {ns : List Int} : (dMinL [.lst (ns.map D.int)]).run m Q E = onO (minI ns) fun i => Q (.int i) m := by
  show (ofO (allInt (ns.map D.int))).run m (fun ns m' => (ofO (minI ns)).run m' (fun i m'' => Q (.int i) m'') E) E = _
  rw [allInt_map]
  show (ofO (minI ns)).run m (fun i m'' => Q (.int i) m'') E = _
  cases minI ns <;> rfl
def kClr1 (Q : D → Mem → Prop) (E : Xn → Mem → Prop) : D → Mem → Prop := fun x m => (asL x).run m (fun _ m' => (dClear x).run m' Q E) E
theorem r_clr : (eClr a δ).run m Q E = (a δ).run m (kClr1 Q E) E := rfl
def kClr2 (p : Addr) (m : Mem) (Q : D → Mem → Prop) : List D → Prop := fun _ => Q .non (mset m p (.lst []))
theorem k_Clr1R : kClr1 Q E (.ref p) m = onL (m p) (kClr2 p m Q) := by
  refine (r_asLR (QL := fun _ m' => (dClear (.ref p)).run m' Q E)).trans ?_
  cases h : m p with
  | none => rfl
  | some o =>
    cases o with
    | lst l => exact C.run_upd (d := .non) (o' := .lst []) h rfl
    | ins c fs => rfl
    | dic l => rfl
def kLstR (m : Mem) (Q : D → Mem → Prop) : List D → Prop := fun l => Q (.lst l) m
theorem k_LstR : kLstR m Q l = Q (.lst l) m := rfl
theorem r_listRef : (dList [.ref p]).run m Q E = onL (m p) (kLstR m Q) := r_asLR (QL := fun l m' => Q (.lst l) m')
theorem k_Clr2 : kClr2 p m Q l = Q .non (mset m p (.lst [])) := rfl
end
end DL

namespace My
open PySem DL
def k_PROMISES : D := (D.tup [(D.str "safe"), (D.str "regular"), (D.str "atomic")])
def cs_ended : List Str := ["Scan"]
def cs_least : List Str := ["Scan"]
def cs_low : List Str := ["Scan"]
def cs_reading : List Str := ["Scan"]
def cs_size : List Str := ["Scan"]
def cs_writing : List Str := ["Scan"]
def cs_written : List Str := ["Scan"]
@[irreducible] def p__law_reads_b0 : CS :=
  sSeq (sAsg 7 (eOp dIx (eVar 0) (eVar 6))) (sIf (tOf (eOp dEq (eOp dIx (eVar 7) (eC (D.int 0))) (eC (D.str "write")))) (sExpr (eApd (eVar 2) (eOp dIx (eVar 7) (eC (D.int 1))))) (sIf (tOf (eOp dEq (eOp dIx (eVar 7) (eC (D.int 0))) (eC (D.str "wrote")))) (sAsg 3 (eOp dSub (eApp dLen (aCons (eVar 2) (aNil))) (eC (D.int 1)))) (sIf (tOf (eOp dEq (eOp dIx (eVar 7) (eC (D.int 0))) (eC (D.str "read")))) (sAsg 4 (eVar 3)) (sExpr (eApd (eVar 5) (eApp mkTup (aCons (eVar 6) (aCons (eVar 4) (aCons (eOp dSub (eApp dLen (aCons (eVar 2) (aNil))) (eC (D.int 1))) (aCons (eOp dIx (eVar 7) (eC (D.int 1))) (aNil)))))))))))
@[irreducible] def p__law_reads : CS :=
  sSeq (sAsg 2 (eApp mkRef (aCons (eVar 1) (aNil)))) (sSeq (sAsg 3 (eC (D.int 0))) (sSeq (sAsg 4 (eC (D.int 0))) (sSeq (sAsg 5 (eApp mkRef (aNil))) (sSeq (sFor (iApp rangeI1 (aCons (eApp dLen (aCons (eVar 0) (aNil))) (aNil))) (gN 6) (p__law_reads_b0)) (sSeq (sFrz 2) (sSeq (sFrz 5) (sRet (eApp mkTup (aCons (eVar 5) (aCons (eVar 2) (aCons (eVar 4) (aNil))))))))))))
@[irreducible] def d__law_reads : List D → C D := fnD 8 p__law_reads
@[irreducible] def p__law_breaks_b0 : CS :=
  sIf (tOf (eOp dEq (eOp dIx (eOp dIx (eVar 3) (eC (D.int 1))) (eVar 7)) (eOp dIx (eVar 5) (eC (D.int 3))))) (sIf (tOrD (tOf (eOp dNe (eVar 2) (eC (D.str "atomic")))) (tOf (eOp dGt (eApp dLen (aCons (eLc (iSeq (eVar 4)) (gN 8) (tOf (eOp dLe (eVar 8) (eVar 7))) (eVar 8) [8]) (aNil))) (eC (D.int 0))))) (sExpr (eApd (eVar 6) (eVar 7))) (sNext)) (sNext)
@[irreducible] def p__law_breaks_b1 : CS :=
  sSeq (sAsg 6 (eApp mkRef (aNil))) (sSeq (sFor (iApp rangeI2 (aCons (eOp dIx (eVar 5) (eC (D.int 1))) (aCons (eOp dAdd (eOp dIx (eVar 5) (eC (D.int 2))) (eC (D.int 1))) (aNil)))) (gN 7) (p__law_breaks_b0)) (sSeq (sFrz 6) (sSeq (sIf (tAndD (tOf (eOp dEq (eVar 6) (eApp mkLst (aNil)))) (tOrD (tOf (eOp dNe (eVar 2) (eC (D.str "safe")))) (tOf (eOp dEq (eOp dIx (eVar 5) (eC (D.int 1))) (eOp dIx (eVar 5) (eC (D.int 2))))))) (sRet (eOp dIx (eVar 5) (eC (D.int 0)))) (sNext)) (sAsg 4 (eVar 6)))))
@[irreducible] def p__law_breaks : CS :=
  sSeq (sAsg 3 (eCall 2 [] (d__law_reads) (aCons (eVar 0) (aCons (eVar 1) (aNil))))) (sSeq (sAsg 4 (eApp mkLst (aCons (eC (D.int 0)) (aNil)))) (sSeq (sFor (iSeq (eOp dIx (eVar 3) (eC (D.int 0)))) (gN 5) (p__law_breaks_b1)) (sRet (eC D.non))))
@[irreducible] def d__law_breaks : List D → C D := fnD 9 p__law_breaks
@[irreducible] def p__law_mixed : CS :=
  sSeq (sAsg 2 (eOp dAdd (eOp dMod (eOp dMul (eOp dMul (eOp dAdd (eOp dMod (eApp dInt (aCons (eVar 0) (aNil))) (eOp dPow (eC (D.int 10)) (eC (D.int 18)))) (eC (D.int 17))) (eOp dAdd (eVar 1) (eC (D.int 3)))) (eC (D.int 48271))) (eC (D.int 2147483647))) (eOp dMul (eC (D.int 7919)) (eVar 1)))) (sSeq (sAsg 2 (eOp dMod (eOp dMul (eVar 2) (eOp dAdd (eOp dDiv (eVar 2) (eC (D.int 1009))) (eC (D.int 69621)))) (eC (D.int 2147483629)))) (sSeq (sAsg 2 (eOp dMod (eOp dMul (eVar 2) (eOp dAdd (eOp dDiv (eVar 2) (eC (D.int 2003))) (eC (D.int 40692)))) (eC (D.int 2147483399)))) (sRet (eOp dDiv (eVar 2) (eC (D.int 8))))))
@[irreducible] def d__law_mixed : List D → C D := fnD 3 p__law_mixed
@[irreducible] def p__law_draw : CS :=
  sSeq (sAsg 2 (eOp dIx (eVar 0) (eC (D.int 0)))) (sSeq (sAsg 3 (eOp dIx (eVar 0) (eC (D.int 1)))) (sSeq (sSetItem (eVar 0) (eC (D.int 3)) (eOp dAdd (eOp dIx (eVar 0) (eC (D.int 3))) (eC (D.int 1)))) (sSeq (sIf (tOf (eOp dGe (eVar 3) (eApp dLen (aCons (eVar 2) (aNil))))) (sRet (eOp dMod (eApp dInt (aCons (eCall 2 [] (d__law_mixed) (aCons (eOp dAdd (eOp dIx (eVar 0) (eC (D.int 4))) (eC (D.int 1))) (aCons (eOp dIx (eVar 0) (eC (D.int 3))) (aNil)))) (aNil))) (eVar 1))) (sNext)) (sSeq (sAsg 4 (eOp dIx (eVar 2) (eVar 3))) (sSeq (sIf (tOrD (tOf (eOp dGe (eVar 4) (eOp dPow (eC (D.int 10)) (eC (D.int 18))))) (tOf (eOp dLt (eOp dIx (eVar 0) (eC (D.int 2))) (eC (D.int 0))))) (sSeq (sSetItem (eVar 2) (eVar 3) (eOp dDiv (eVar 4) (eVar 1))) (sSeq (sSetItem (eVar 0) (eC (D.int 2)) (eUn dNeg (eC (D.int 1)))) (sSeq (sIf (tOf (eOp dEq (eOp dIx (eVar 2) (eVar 3)) (eC (D.int 0)))) (sSeq (sSetItem (eVar 0) (eC (D.int 1)) (eOp dAdd (eVar 3) (eC (D.int 1)))) (sSetItem (eVar 0) (eC (D.int 2)) (eC (D.int 0)))) (sNext)) (sRet (eOp dMod (eApp dInt (aCons (eVar 4) (aNil))) (eVar 1)))))) (sNext)) (sSeq (sSetItem (eVar 0) (eC (D.int 2)) (eOp dAdd (eOp dIx (eVar 0) (eC (D.int 2))) (eC (D.int 1)))) (sSeq (sAsg 5 (eCall 2 [] (d__law_mixed) (aCons (eVar 4) (aCons (eOp dIx (eVar 0) (eC (D.int 2))) (aNil))))) (sSeq (sIf (tOf (eOp dEq (eOp dIx (eVar 0) (eC (D.int 2))) (eC (D.int 8)))) (sSeq (sSetItem (eVar 0) (eC (D.int 1)) (eOp dAdd (eVar 3) (eC (D.int 1)))) (sSetItem (eVar 0) (eC (D.int 2)) (eC (D.int 0)))) (sNext)) (sRet (eOp dMod (eApp dInt (aCons (eVar 5) (aNil))) (eVar 1)))))))))))
@[irreducible] def d__law_draw : List D → C D := fnD 6 p__law_draw
@[irreducible] def p__law_history_b0 : CS :=
  sIf (tOf (eOp dEq (eCall 2 [] (d__law_draw) (aCons (eVar 0) (aCons (eC (D.int 2)) (aNil)))) (eC (D.int 0)))) (sSeq (sIf (tOf (eVar 8)) (sSeq (sExpr (eApd (eVar 4) (eApp mkTup (aCons (eC (D.str "wrote")) (aNil))))) (sAsg 6 (eOp dSub (eApp dLen (aCons (eVar 5) (aNil))) (eC (D.int 1))))) (sSeq (sExpr (eApd (eVar 5) (eCall 2 [] (d__law_draw) (aCons (eVar 0) (aCons (eVar 1) (aNil)))))) (sExpr (eApd (eVar 4) (eApp mkTup (aCons (eC (D.str "write")) (aCons (eOp dIx (eVar 5) (eUn dNeg (eC (D.int 1)))) (aNil)))))))) (sAsg 8 (eNot (eVar 8)))) (sSeq (sIf (tOf (eVar 9)) (sSeq (sAsg 11 (eOp dIx (eVar 5) (eOp dAdd (eVar 7) (eCall 2 [] (d__law_draw) (aCons (eVar 0) (aCons (eOp dSub (eApp dLen (aCons (eVar 5) (aNil))) (eVar 7)) (aNil))))))) (sSeq (sIf (tOf (eOp dEq (eCall 2 [] (d__law_draw) (aCons (eVar 0) (aCons (eC (D.int 5)) (aNil)))) (eC (D.int 0)))) (sAsg 11 (eCall 2 [] (d__law_draw) (aCons (eVar 0) (aCons (eVar 1) (aNil))))) (sNext)) (sExpr (eApd (eVar 4) (eApp mkTup (aCons (eC (D.str "told")) (aCons (eVar 11) (aNil)))))))) (sSeq (sExpr (eApd (eVar 4) (eApp mkTup (aCons (eC (D.str "read")) (aNil))))) (sAsg 7 (eVar 6)))) (sAsg 9 (eNot (eVar 9))))
@[irreducible] def p__law_history : CS :=
  sSeq (sAsg 4 (eApp mkRef (aNil))) (sSeq (sAsg 5 (eApp mkRef (aCons (eVar 2) (aNil)))) (sSeq (sAsg 6 (eC (D.int 0))) (sSeq (sAsg 7 (eC (D.int 0))) (sSeq (sAsg 8 (eC (D.bl false))) (sSeq (sAsg 9 (eC (D.bl false))) (sSeq (sFor (iApp rangeI1 (aCons (eCall 2 [] (d__law_draw) (aCons (eVar 0) (aCons (eOp dAdd (eVar 3) (eC (D.int 1))) (aNil)))) (aNil))) (gN 10) (p__law_history_b0)) (sSeq (sFrz 4) (sSeq (sFrz 5) (sRet (eVar 4))))))))))
@[irreducible] def d__law_history : List D → C D := fnD 12 p__law_history
@[irreducible] def p__law_pool : CS :=
  sSeq (sAsg 1 (eLcM (iSeq (eSl (eVar 0) (oNone) (oSome (eC (D.int 63))))) (gN 2) (tTrue) (eApp dAbs (aCons (eApp dInt (aCons (eVar 2) (aNil))) (aNil))) [2])) (sRet (eApp mkRef (aCons (eVar 1) (aCons (eC (D.int 0)) (aCons (eC (D.int 0)) (aCons (eC (D.int 0)) (aCons (eOp dMod (eApp dSum (aCons (eVar 1) (aNil))) (eC (D.int 1000000007))) (aNil))))))))
@[irreducible] def d__law_pool : List D → C D := fnD 3 p__law_pool
@[irreducible] def p__law_int : CS :=
  sRet (eAnd (eUn (dIsi "int") (eVar 0)) (eNot (eUn (dIsi "bool") (eVar 0))))
@[irreducible] def d__law_int : List D → C D := fnD 1 p__law_int
@[irreducible] def p__law_same_b0 (rc : List D → C D) : CS :=
  sIf (tNotD (tOf (eCall 2 [] (rc) (aCons (eOp dIx (eVar 0) (eVar 2)) (aCons (eOp dIx (eVar 1) (eVar 2)) (aNil)))))) (sRet (eC (D.bl false))) (sNext)
@[irreducible] def p__law_same (rc : List D → C D) : CS :=
  sSeq (sIf (tOrD (tOf (eUn (dIsi "tuple") (eVar 1))) (tOf (eUn (dIsi "list") (eVar 1)))) (sSeq (sIf (tOrD (tOf (eOp dNe (eUn (dIsi "tuple") (eVar 1)) (eUn (dIsi "tuple") (eVar 0)))) (tOf (eOp dNe (eUn (dIsi "list") (eVar 1)) (eUn (dIsi "list") (eVar 0))))) (sRet (eC (D.bl false))) (sNext)) (sSeq (sIf (tOf (eOp dNe (eApp dLen (aCons (eVar 0) (aNil))) (eApp dLen (aCons (eVar 1) (aNil))))) (sRet (eC (D.bl false))) (sNext)) (sSeq (sFor (iApp rangeI1 (aCons (eApp dLen (aCons (eVar 1) (aNil))) (aNil))) (gN 2) ((p__law_same_b0 rc))) (sRet (eC (D.bl true)))))) (sNext)) (sSeq (sIf (tOf (eOp dIs (eVar 1) (eC D.non))) (sRet (eOp dIs (eVar 0) (eC D.non))) (sNext)) (sSeq (sIf (tOf (eOp dIs (eVar 1) (eC (D.bl true)))) (sRet (eOp dIs (eVar 0) (eC (D.bl true)))) (sNext)) (sSeq (sIf (tOf (eOp dIs (eVar 1) (eC (D.bl false)))) (sRet (eOp dIs (eVar 0) (eC (D.bl false)))) (sNext)) (sSeq (sIf (tOf (eUn (dIsi "str") (eVar 1))) (sRet (eAnd (eUn (dIsi "str") (eVar 0)) (eOp dEq (eVar 0) (eVar 1)))) (sNext)) (sRet (eAnd (eCall 1 [] (d__law_int) (aCons (eVar 0) (aNil))) (eOp dEq (eVar 0) (eVar 1))))))))
def d__law_same : Nat → List D → C D
  | 0 => fun _ => C.stuck
  | n + 1 => fnD 3 (p__law_same (d__law_same n))
@[irreducible] def p_Scan___init__ : CS :=
  sSeq (sSetFld cs_size "size" (eVar 0) (eVar 1)) (sSeq (sSetFld cs_written "written" (eVar 0) (eApp mkRef (aCons (eVar 2) (aNil)))) (sSeq (sSetFld cs_ended "ended" (eVar 0) (eC (D.int 0))) (sSeq (sSetFld cs_writing "writing" (eVar 0) (eC (D.bl false))) (sSeq (sSetFld cs_reading "reading" (eVar 0) (eC (D.bl false))) (sSeq (sSetFld cs_low "low" (eVar 0) (eC (D.int 0))) (sSetFld cs_least "least" (eVar 0) (eC (D.int 0))))))))
@[irreducible] def d_Scan___init__ : List D → C D := fnD 3 p_Scan___init__
@[irreducible] def p_Scan_allowed : CS :=
  sSeq (sAsg 2 (eOp dSub (eApp dLen (aCons (eFld cs_written "written" (eVar 0)) (aNil))) (eC (D.int 1)))) (sSeq (sIf (tOf (eOp dEq (eVar 1) (eC (D.str "safe")))) (sSeq (sIf (tOf (eOp dEq (eFld cs_low "low" (eVar 0)) (eVar 2))) (sRet (eApp mkLst (aCons (eOp dIx (eFld cs_written "written" (eVar 0)) (eVar 2)) (aNil)))) (sNext)) (sRet (eUn dListRg (eFld cs_size "size" (eVar 0))))) (sNext)) (sSeq (sAsg 3 (eFld cs_low "low" (eVar 0))) (sSeq (sIf (tOf (eOp dEq (eVar 1) (eC (D.str "atomic")))) (sAsg 3 (eApp dMax2 (aCons (eVar 3) (aCons (eFld cs_least "least" (eVar 0)) (aNil))))) (sNext)) (sRet (eUn dSortedSet (eSl (eFld cs_written "written" (eVar 0)) (oSome (eVar 3)) (oNone)))))))
@[irreducible] def d_Scan_allowed : List D → C D := fnD 4 p_Scan_allowed
@[irreducible] def p_Scan_take : CS :=
  sIf (tOf (eOp dEq (eOp dIx (eVar 1) (eC (D.int 0))) (eC (D.str "write")))) (sSeq (sExpr (eApd (eFld cs_written "written" (eVar 0)) (eOp dIx (eVar 1) (eC (D.int 1))))) (sSetFld cs_writing "writing" (eVar 0) (eC (D.bl true)))) (sIf (tOf (eOp dEq (eOp dIx (eVar 1) (eC (D.int 0))) (eC (D.str "wrote")))) (sSeq (sSetFld cs_ended "ended" (eVar 0) (eOp dSub (eApp dLen (aCons (eFld cs_written "written" (eVar 0)) (aNil))) (eC (D.int 1)))) (sSetFld cs_writing "writing" (eVar 0) (eC (D.bl false)))) (sSeq (sSetFld cs_reading "reading" (eVar 0) (eC (D.bl true))) (sSetFld cs_low "low" (eVar 0) (eFld cs_ended "ended" (eVar 0)))))
@[irreducible] def d_Scan_take : List D → C D := fnD 2 p_Scan_take
@[irreducible] def p_Scan_number_b0 : CS :=
  sIf (tOf (eOp dEq (eOp dIx (eFld cs_written "written" (eVar 0)) (eVar 2)) (eVar 1))) (sRet (eVar 2)) (sNext)
@[irreducible] def p_Scan_number : CS :=
  sSeq (sFor (iApp rangeI2 (aCons (eApp dMax2 (aCons (eFld cs_low "low" (eVar 0)) (aCons (eFld cs_least "least" (eVar 0)) (aNil)))) (aCons (eApp dLen (aCons (eFld cs_written "written" (eVar 0)) (aNil))) (aNil)))) (gN 2) (p_Scan_number_b0)) (sRet (eC D.non))
@[irreducible] def d_Scan_number : List D → C D := fnD 3 p_Scan_number
@[irreducible] def p_Scan_told : CS :=
  sSeq (sAsg 2 (eMeth "Scan" "number" 1 [] (d_Scan_number) (eVar 0) (aCons (eVar 1) (aNil)))) (sSeq (sIf (tOf (eOp dIsNot (eVar 2) (eC D.non))) (sSetFld cs_least "least" (eVar 0) (eVar 2)) (sNext)) (sSeq (sSetFld cs_reading "reading" (eVar 0) (eC (D.bl false))) (sRet (eVar 2))))
@[irreducible] def d_Scan_told : List D → C D := fnD 3 p_Scan_told
@[irreducible] def p_is_kind : CS :=
  sRet (eAnd (eUn (dIsi "str") (eVar 0)) (eOp dIn (eVar 0) (eC k_PROMISES)))
@[irreducible] def d_is_kind : List D → C D := fnD 1 p_is_kind
@[irreducible] def p_check_promise : CS :=
  sIf (tNotD (tOf (eCall 1 [] (d_is_kind) (aCons (eVar 0) (aNil))))) (sStuck) (sNext)
@[irreducible] def d_check_promise : List D → C D := fnD 1 p_check_promise
@[irreducible] def p_is_integer : CS :=
  sRet (eAnd (eUn (dIsi "int") (eVar 0)) (eNot (eUn (dIsi "bool") (eVar 0))))
@[irreducible] def d_is_integer : List D → C D := fnD 1 p_is_integer
@[irreducible] def p_is_between : CS :=
  sRet (eAnd (eCall 1 [] (d_is_integer) (aCons (eVar 0) (aNil))) (eChain dLe dLe (eVar 1) (eVar 0) (eVar 2)))
@[irreducible] def d_is_between : List D → C D := fnD 3 p_is_between
@[irreducible] def p_check_setting : CS :=
  sSeq (sIf (tNotD (tOf (eCall 3 [] (d_is_between) (aCons (eVar 0) (aCons (eC (D.int 2)) (aCons (eC (D.int 5)) (aNil))))))) (sStuck) (sNext)) (sIf (tNotD (tOf (eCall 3 [] (d_is_between) (aCons (eVar 1) (aCons (eC (D.int 0)) (aCons (eOp dSub (eVar 0) (eC (D.int 1))) (aNil))))))) (sStuck) (sNext))
@[irreducible] def d_check_setting : List D → C D := fnD 2 p_check_setting
@[irreducible] def p_is_row : CS :=
  sRet (eUn (dIsi2 "list" "tuple") (eVar 0))
@[irreducible] def d_is_row : List D → C D := fnD 1 p_is_row
@[irreducible] def p_is_word_row : CS :=
  sSeq (sIf (tOrD (tNotD (tOf (eCall 1 [] (d_is_row) (aCons (eVar 0) (aNil))))) (tOf (eOp dNe (eApp dLen (aCons (eVar 0) (aNil))) (eVar 2)))) (sRet (eC (D.bl false))) (sNext)) (sRet (eAnd (eUn (dIsi "str") (eOp dIx (eVar 0) (eC (D.int 0)))) (eOp dEq (eOp dIx (eVar 0) (eC (D.int 0))) (eVar 1))))
@[irreducible] def d_is_word_row : List D → C D := fnD 3 p_is_word_row
@[irreducible] def p_event_form : CS :=
  sSeq (sIf (tOrD (tOf (eCall 3 [] (d_is_word_row) (aCons (eVar 0) (aCons (eC (D.str "wrote")) (aCons (eC (D.int 1)) (aNil)))))) (tOf (eCall 3 [] (d_is_word_row) (aCons (eVar 0) (aCons (eC (D.str "read")) (aCons (eC (D.int 1)) (aNil))))))) (sRet (eApp mkTup (aCons (eOp dIx (eVar 0) (eC (D.int 0))) (aNil)))) (sNext)) (sSeq (sIf (tOrD (tOf (eCall 3 [] (d_is_word_row) (aCons (eVar 0) (aCons (eC (D.str "write")) (aCons (eC (D.int 2)) (aNil)))))) (tOf (eCall 3 [] (d_is_word_row) (aCons (eVar 0) (aCons (eC (D.str "told")) (aCons (eC (D.int 2)) (aNil))))))) (sIf (tOf (eCall 3 [] (d_is_between) (aCons (eOp dIx (eVar 0) (eC (D.int 1))) (aCons (eC (D.int 0)) (aCons (eOp dSub (eVar 1) (eC (D.int 1))) (aNil)))))) (sRet (eApp mkTup (aCons (eOp dIx (eVar 0) (eC (D.int 0))) (aCons (eOp dIx (eVar 0) (eC (D.int 1))) (aNil))))) (sNext)) (sNext)) (sRet (eC D.non)))
@[irreducible] def d_event_form : List D → C D := fnD 2 p_event_form
@[irreducible] def p_events_of_b0 : CS :=
  sSeq (sAsg 7 (eCall 2 [] (d_event_form) (aCons (eVar 6) (aCons (eVar 1) (aNil))))) (sSeq (sIf (tOf (eOp dIs (eVar 7) (eC D.non))) (sStuck) (sNext)) (sSeq (sIf (tOf (eOp dIn (eOp dIx (eVar 7) (eC (D.int 0))) (eApp mkTup (aCons (eC (D.str "write")) (aCons (eC (D.str "wrote")) (aNil)))))) (sSeq (sIf (tOf (eOp dNe (eVar 3) (eOp dEq (eOp dIx (eVar 7) (eC (D.int 0))) (eC (D.str "wrote"))))) (sStuck) (sNext)) (sAsg 3 (eNot (eVar 3)))) (sSeq (sIf (tOf (eOp dNe (eVar 4) (eOp dEq (eOp dIx (eVar 7) (eC (D.int 0))) (eC (D.str "told"))))) (sStuck) (sNext)) (sAsg 4 (eNot (eVar 4))))) (sExpr (eApd (eVar 2) (eVar 7)))))
@[irreducible] def p_events_of : CS :=
  sSeq (sIf (tNotD (tOf (eCall 1 [] (d_is_row) (aCons (eVar 0) (aNil))))) (sStuck) (sNext)) (sSeq (sAsg 2 (eApp mkRef (aNil))) (sSeq (sAsg 3 (eC (D.bl false))) (sSeq (sAsg 4 (eC (D.bl false))) (sSeq (sFor (iApp enumI (aCons (eVar 0) (aNil))) (gT (gsCons (gN 5) (gsCons (gN 6) (gsNil)))) (p_events_of_b0)) (sSeq (sFrz 2) (sRet (eVar 2)))))))
@[irreducible] def d_events_of : List D → C D := fnD 8 p_events_of
@[irreducible] def p_fault_b0 : CS :=
  sSeq (sIf (tOf (eOp dNe (eOp dIx (eVar 7) (eC (D.int 0))) (eC (D.str "told")))) (sSeq (sExpr (eMeth "Scan" "take" 1 [] (d_Scan_take) (eVar 5) (aCons (eVar 7) (aNil)))) (sCont)) (sNext)) (sSeq (sIf (tOf (eOp dNotIn (eOp dIx (eVar 7) (eC (D.int 1))) (eMeth "Scan" "allowed" 1 [] (d_Scan_allowed) (eVar 5) (aCons (eVar 1) (aNil))))) (sRet (eVar 6)) (sNext)) (sExpr (eMeth "Scan" "told" 1 [] (d_Scan_told) (eVar 5) (aCons (eOp dIx (eVar 7) (eC (D.int 1))) (aNil)))))
@[irreducible] def p_fault : CS :=
  sSeq (sExpr (eCall 2 [] (d_check_setting) (aCons (eVar 2) (aCons (eVar 3) (aNil))))) (sSeq (sExpr (eCall 1 [] (d_check_promise) (aCons (eVar 1) (aNil)))) (sSeq (sAsg 4 (eCall 2 [] (d_events_of) (aCons (eVar 0) (aCons (eVar 2) (aNil))))) (sSeq (sAsg 5 (eMake "Scan" 2 [] (d_Scan___init__) (aCons (eVar 2) (aCons (eVar 3) (aNil))))) (sSeq (sFor (iApp enumI (aCons (eVar 4) (aNil))) (gT (gsCons (gN 6) (gsCons (gN 7) (gsNil)))) (p_fault_b0)) (sRet (eC D.non))))))
@[irreducible] def d_fault : List D → C D := fnD 8 p_fault
@[irreducible] def p_first_watch : CS :=
  sSeq (sExpr (eCall 1 [] (d_check_promise) (aCons (eVar 0) (aNil)))) (sSeq (sIf (tOf (eOp dEq (eVar 0) (eC (D.str "safe")))) (sRet (eApp mkTup (aCons (eVar 1) (aCons (eUn dNeg (eC (D.int 1))) (aCons (eC (D.int 0)) (aNil)))))) (sNext)) (sSeq (sIf (tOf (eOp dEq (eVar 0) (eC (D.str "regular")))) (sRet (eApp mkTup (aCons (eVar 1) (aCons (eUn dNeg (eC (D.int 1))) (aCons (eApp mkTup (aNil)) (aNil)))))) (sNext)) (sRet (eApp mkTup (aCons (eVar 1) (aCons (eUn dNeg (eC (D.int 1))) (aCons (eC (D.int 0)) (aCons (eApp mkTup (aNil)) (aNil)))))))))
@[irreducible] def d_first_watch : List D → C D := fnD 2 p_first_watch
@[irreducible] def p_merged : CS :=
  sRet (eApp dTuple (aCons (eUn dSortedSet (eOp dAdd (eApp dList (aCons (eVar 0) (aNil))) (eApp dList (aCons (eVar 1) (aNil))))) (aNil)))
@[irreducible] def d_merged : List D → C D := fnD 2 p_merged
@[irreducible] def p_atomic_watch : CS :=
  sSeq (sAsgG (eVar 0) (gT (gsCons (gN 2) (gsCons (gN 3) (gsCons (gN 4) (gsCons (gN 5) (gsNil))))))) (sSeq (sIf (tOf (eOp dEq (eOp dIx (eVar 1) (eC (D.int 0))) (eC (D.str "write")))) (sRet (eApp mkTup (aCons (eVar 2) (aCons (eOp dIx (eVar 1) (eC (D.int 1))) (aCons (eVar 4) (aCons (eVar 5) (aNil))))))) (sNext)) (sSeq (sIf (tOf (eOp dEq (eOp dIx (eVar 1) (eC (D.int 0))) (eC (D.str "wrote")))) (sSeq (sIf (tOf (eOp dEq (eVar 4) (eC (D.int 2)))) (sRet (eApp mkTup (aCons (eVar 3) (aCons (eUn dNeg (eC (D.int 1))) (aCons (eC (D.int 2)) (aCons (eCall 2 [] (d_merged) (aCons (eVar 5) (aCons (eApp mkTup (aCons (eVar 3) (aNil))) (aNil)))) (aNil))))))) (sNext)) (sRet (eApp mkTup (aCons (eVar 3) (aCons (eUn dNeg (eC (D.int 1))) (aCons (eC (D.int 0)) (aCons (eApp mkTup (aNil)) (aNil)))))))) (sNext)) (sSeq (sIf (tOf (eOp dEq (eOp dIx (eVar 1) (eC (D.int 0))) (eC (D.str "read")))) (sRet (eApp mkTup (aCons (eVar 2) (aCons (eVar 3) (aCons (eC (D.int 2)) (aCons (eIf (tOf (eOp dEq (eVar 4) (eC (D.int 0)))) (eApp mkTup (aCons (eVar 2) (aNil))) (eApp mkTup (aNil))) (aNil))))))) (sNext)) (sSeq (sIf (tOf (eOp dIn (eOp dIx (eVar 1) (eC (D.int 1))) (eVar 5))) (sRet (eApp mkTup (aCons (eVar 2) (aCons (eVar 3) (aCons (eC (D.int 0)) (aCons (eApp mkTup (aNil)) (aNil))))))) (sNext)) (sSeq (sIf (tOf (eOp dEq (eOp dIx (eVar 1) (eC (D.int 1))) (eVar 3))) (sRet (eApp mkTup (aCons (eVar 2) (aCons (eVar 3) (aCons (eC (D.int 1)) (aCons (eApp mkTup (aNil)) (aNil))))))) (sNext)) (sRet (eC D.non)))))))
@[irreducible] def d_atomic_watch : List D → C D := fnD 6 p_atomic_watch
@[irreducible] def p_regular_watch : CS :=
  sSeq (sAsgG (eVar 0) (gT (gsCons (gN 2) (gsCons (gN 3) (gsCons (gN 4) (gsNil)))))) (sSeq (sIf (tOf (eOp dEq (eOp dIx (eVar 1) (eC (D.int 0))) (eC (D.str "write")))) (sSeq (sIf (tOf (eOp dGt (eApp dLen (aCons (eVar 4) (aNil))) (eC (D.int 0)))) (sAsg 4 (eCall 2 [] (d_merged) (aCons (eVar 4) (aCons (eApp mkTup (aCons (eOp dIx (eVar 1) (eC (D.int 1))) (aNil))) (aNil))))) (sNext)) (sRet (eApp mkTup (aCons (eVar 2) (aCons (eOp dIx (eVar 1) (eC (D.int 1))) (aCons (eVar 4) (aNil))))))) (sNext)) (sSeq (sIf (tOf (eOp dEq (eOp dIx (eVar 1) (eC (D.int 0))) (eC (D.str "wrote")))) (sRet (eApp mkTup (aCons (eVar 3) (aCons (eUn dNeg (eC (D.int 1))) (aCons (eVar 4) (aNil)))))) (sNext)) (sSeq (sIf (tOf (eOp dEq (eOp dIx (eVar 1) (eC (D.int 0))) (eC (D.str "read")))) (sSeq (sIf (tOf (eOp dEq (eVar 3) (eUn dNeg (eC (D.int 1))))) (sRet (eApp mkTup (aCons (eVar 2) (aCons (eVar 3) (aCons (eApp mkTup (aCons (eVar 2) (aNil))) (aNil)))))) (sNext)) (sRet (eApp mkTup (aCons (eVar 2) (aCons (eVar 3) (aCons (eCall 2 [] (d_merged) (aCons (eApp mkTup (aCons (eVar 2) (aNil))) (aCons (eApp mkTup (aCons (eVar 3) (aNil))) (aNil)))) (aNil))))))) (sNext)) (sSeq (sIf (tOf (eOp dNotIn (eOp dIx (eVar 1) (eC (D.int 1))) (eVar 4))) (sRet (eC D.non)) (sNext)) (sRet (eApp mkTup (aCons (eVar 2) (aCons (eVar 3) (aCons (eApp mkTup (aNil)) (aNil))))))))))
@[irreducible] def d_regular_watch : List D → C D := fnD 5 p_regular_watch
@[irreducible] def p_safe_watch : CS :=
  sSeq (sAsgG (eVar 0) (gT (gsCons (gN 2) (gsCons (gN 3) (gsCons (gN 4) (gsNil)))))) (sSeq (sIf (tOf (eOp dEq (eOp dIx (eVar 1) (eC (D.int 0))) (eC (D.str "write")))) (sRet (eApp mkTup (aCons (eVar 2) (aCons (eOp dIx (eVar 1) (eC (D.int 1))) (aCons (eIf (tOf (eOp dEq (eVar 4) (eC (D.int 1)))) (eC (D.int 2)) (eVar 4)) (aNil)))))) (sNext)) (sSeq (sIf (tOf (eOp dEq (eOp dIx (eVar 1) (eC (D.int 0))) (eC (D.str "wrote")))) (sRet (eApp mkTup (aCons (eVar 3) (aCons (eUn dNeg (eC (D.int 1))) (aCons (eVar 4) (aNil)))))) (sNext)) (sSeq (sIf (tOf (eOp dEq (eOp dIx (eVar 1) (eC (D.int 0))) (eC (D.str "read")))) (sRet (eApp mkTup (aCons (eVar 2) (aCons (eVar 3) (aCons (eIf (tOf (eOp dEq (eVar 3) (eUn dNeg (eC (D.int 1))))) (eC (D.int 1)) (eC (D.int 2))) (aNil)))))) (sNext)) (sSeq (sIf (tAndD (tOf (eOp dEq (eVar 4) (eC (D.int 1)))) (tOf (eOp dNe (eOp dIx (eVar 1) (eC (D.int 1))) (eVar 2)))) (sRet (eC D.non)) (sNext)) (sRet (eApp mkTup (aCons (eVar 2) (aCons (eVar 3) (aCons (eC (D.int 0)) (aNil))))))))))
@[irreducible] def d_safe_watch : List D → C D := fnD 5 p_safe_watch
@[irreducible] def p_next_watch : CS :=
  sSeq (sExpr (eCall 1 [] (d_check_promise) (aCons (eVar 0) (aNil)))) (sSeq (sIf (tOf (eOp dEq (eVar 0) (eC (D.str "safe")))) (sRet (eCall 2 [] (d_safe_watch) (aCons (eVar 1) (aCons (eVar 2) (aNil))))) (sNext)) (sSeq (sIf (tOf (eOp dEq (eVar 0) (eC (D.str "regular")))) (sRet (eCall 2 [] (d_regular_watch) (aCons (eVar 1) (aCons (eVar 2) (aNil))))) (sNext)) (sRet (eCall 2 [] (d_atomic_watch) (aCons (eVar 1) (aCons (eVar 2) (aNil)))))))
@[irreducible] def d_next_watch : List D → C D := fnD 3 p_next_watch
@[irreducible] def p_law_b0 : CS :=
  sIf (tOf (eOp dIs (eVar 7) (eC D.non))) (sSeq (sAsg 10 (eOp dIx (eVar 4) (eVar 9))) (sSeq (sIf (tOf (eOp dEq (eOp dMod (eVar 9) (eC (D.int 2))) (eC (D.int 1)))) (sAsg 10 (eApp dList (aCons (eOp dIx (eVar 4) (eVar 9)) (aNil)))) (sNext)) (sSeq (sAsg 8 (eCall 3 [] (d_next_watch) (aCons (eVar 5) (aCons (eVar 8) (aCons (eVar 10) (aNil)))))) (sIf (tOf (eOp dIs (eVar 8) (eC D.non))) (sAsg 7 (eVar 9)) (sNext))))) (sNext)
@[irreducible] def p_law_b1 : CS :=
  sSeq (sAsg 6 (eCall 3 [] (d__law_breaks) (aCons (eVar 4) (aCons (eVar 3) (aCons (eVar 5) (aNil)))))) (sSeq (sAsg 7 (eC D.non)) (sSeq (sAsg 8 (eCall 2 [] (d_first_watch) (aCons (eVar 5) (aCons (eVar 3) (aNil))))) (sSeq (sFor (iApp rangeI1 (aCons (eApp dLen (aCons (eVar 4) (aNil))) (aNil))) (gN 9) (p_law_b0)) (sSeq (sIf (tNotD (tOf (eCall 2 [] (d__law_same 4) (aCons (eVar 7) (aCons (eVar 6) (aNil)))))) (sRet (eC (D.bl false))) (sNext)) (sIf (tNotD (tOf (eCall 2 [] (d__law_same 4) (aCons (eCallK 2 2 (d_fault) (aCons (eVar 4) (aCons (eVar 5) (aNil))) (aCons (eVar 2) (aCons (eVar 3) (aNil)))) (aCons (eVar 6) (aNil)))))) (sRet (eC (D.bl false))) (sNext))))))
@[irreducible] def p_law : CS :=
  sSeq (sAsg 1 (eCall 1 [] (d__law_pool) (aCons (eVar 0) (aNil)))) (sSeq (sAsg 2 (eOp dAdd (eC (D.int 2)) (eCall 2 [] (d__law_draw) (aCons (eVar 1) (aCons (eC (D.int 3)) (aNil)))))) (sSeq (sAsg 3 (eCall 2 [] (d__law_draw) (aCons (eVar 1) (aCons (eVar 2) (aNil))))) (sSeq (sAsg 4 (eCall 4 [] (d__law_history) (aCons (eVar 1) (aCons (eVar 2) (aCons (eVar 3) (aCons (eC (D.int 40)) (aNil))))))) (sSeq (sFor (iSeq (eApp mkTup (aCons (eC (D.str "safe")) (aCons (eC (D.str "regular")) (aCons (eC (D.str "atomic")) (aNil)))))) (gN 5) (p_law_b1)) (sRet (eC (D.bl true)))))))
@[irreducible] def d_law : List D → C D := fnD 11 p_law
end My

namespace My
open PySem DL L2
local macro_rules | `(tactic| walk_at "d") => `(tactic| simp -implicitDefEqProofs only [↓DL.k_F, ↓DL.k_M, ↓DL.k_onV, ↓DL.k_onL, ↓DL.k_onO, ↓DL.k_onN, ↓DL.r_C, ↓DL.r_var, ↓DL.k_Op2, ↓DL.k_Op, ↓DL.r_op, ↓DL.r_un, ↓DL.r_app, ↓DL.r_call, ↓DL.r_callF, ↓DL.k_CK2, ↓DL.k_CK, ↓DL.r_callK, ↓DL.r_callKF, ↓DL.r_nil, ↓DL.k_A2, ↓DL.k_A, ↓DL.r_cons, ↓DL.k_AndT, ↓DL.k_AndF, ↓DL.r_and, ↓DL.k_OrT, ↓DL.k_OrF, ↓DL.r_or, ↓DL.k_Not, ↓DL.r_not, ↓DL.k_EIfT, ↓DL.k_EIfF, ↓DL.r_eIf, ↓DL.k_Ch3T, ↓DL.k_Ch3F, ↓DL.k_Ch2, ↓DL.k_Ch1, ↓DL.r_chain, ↓DL.k_T, ↓DL.r_of, ↓DL.k_TAT, ↓DL.k_TAF, ↓DL.r_tand, ↓DL.k_TOT, ↓DL.k_TOF, ↓DL.r_tor, ↓DL.k_TN, ↓DL.r_tnot, ↓DL.r_tTrue, ↓DL.k_Asg, ↓DL.r_asg, ↓DL.k_Nx, ↓DL.r_expr, ↓DL.k_Rt, ↓DL.r_ret, ↓DL.r_retN, ↓DL.k_IfT, ↓DL.k_IfF, ↓DL.r_if, ↓DL.r_seq, ↓DL.r_next, ↓DL.r_break, ↓DL.r_cont, ↓DL.r_stuck, ↓DL.k_G, ↓DL.r_asgG, ↓DL.k_For, ↓DL.r_for, ↓DL.k_SI3, ↓DL.k_SI2, ↓DL.k_SI, ↓DL.r_setItemS, ↓DL.k_Ap3, ↓DL.k_Ap2, ↓DL.k_Ap1, ↓DL.r_apd, ↓DL.r_gN, ↓DL.r_iSeq, ↓DL.r_iApp, ↓DL.k_Body, ↓DL.k_Sl3, ↓DL.k_Sl2, ↓DL.k_Sl1, ↓DL.r_sl, ↓DL.r_oNone, ↓DL.k_OS, ↓DL.r_oSome, ↓DL.r_slT, ↓DL.r_slL, ↓DL.r_slS, ↓DL.r_retL, ↓DL.r_newL, ↓DL.r_lc, ↓DL.r_lcM, ↓DL.r_add, ↓DL.r_sub, ↓DL.r_mod, ↓DL.r_div, ↓DL.r_pow1018, ↓DL.r_lt, ↓DL.r_le, ↓DL.r_gt, ↓DL.r_ge, ↓DL.r_neg, ↓DL.r_eqII, ↓DL.r_neII, ↓DL.r_eqSS, ↓DL.r_neSS, ↓DL.r_eqBB, ↓DL.r_neBB, ↓DL.r_isN, ↓DL.r_isB, ↓DL.r_notN, ↓DL.r_int1, ↓DL.r_intb, ↓DL.r_abs, ↓DL.k_Get, ↓DL.r_ixT, ↓DL.r_ixL, ↓DL.r_asLR, ↓DL.r_asLL, ↓DL.r_ixRef, ↓DL.r_lenT, ↓DL.r_lenL, ↓DL.k_Len, ↓DL.r_lenRef, ↓DL.r_sumRef, ↓DL.k_SetJ, ↓DL.k_Set, ↓DL.r_setRef, ↓DL.k_App, ↓DL.r_appRef, ↓DL.r_tup0, ↓DL.r_tup1, ↓DL.r_tup2, ↓DL.r_tup3, ↓DL.r_tup4, ↓DL.r_tup5, ↓DL.r_tup6, ↓DL.r_tup7, ↓DL.r_tup8, ↓DL.r_lst0, ↓DL.r_ref0, ↓DL.r_ref1, ↓DL.r_ref2, ↓DL.r_ref3, ↓DL.r_ref4, ↓DL.r_ref5, ↓DL.r_ref6, ↓DL.r_listL, ↓DL.r_listT, ↓DL.r_tupleL, ↓DL.r_seqT, ↓DL.r_seqL, ↓DL.r_range1, ↓DL.r_range2, ↓DL.r_strEq, ↓DL.r_strEq2, ↓DL.r_isT0, ↓DL.r_isT1, ↓DL.r_isT2, ↓DL.r_isT3, ↓DL.r_isT4, ↓DL.r_isT5, ↓DL.r_isT6, ↓DL.r_isT7, ↓DL.r_isT8, ↓DL.r_isT9, ↓DL.r_isT10, ↓DL.r_isT11, ↓DL.r_isT12, ↓DL.r_isT13, ↓DL.r_isT14, ↓DL.r_isT15, ↓DL.r_isT16, ↓DL.r_isT17, ↓DL.r_isT18, ↓DL.r_isT19, ↓DL.r_isT20, ↓DL.r_isT21, ↓DL.r_isT22, ↓DL.r_isT23, ↓DL.r_isT24, ↓DL.r_isT25, ↓DL.r_isT26, ↓DL.r_isT27, ↓DL.r_isT28, ↓DL.r_isT29, ↓DL.r_isT30, ↓DL.r_isT31, ↓DL.r_isT32, ↓DL.r_isT33, ↓DL.r_isT34, ↓DL.r_isT35, ↓DL.r_isiN, ↓DL.r_isi2N, ↓DL.r_isiB, ↓DL.r_isi2B, ↓DL.r_isiI, ↓DL.r_isi2I, ↓DL.r_isiS, ↓DL.r_isi2S, ↓DL.r_isiT, ↓DL.r_isi2T, ↓DL.r_isiL, ↓DL.r_isi2L, ↓DL.r_inTI, ↓DL.r_ninTI, ↓DL.r_inLI, ↓DL.r_ninLI, ↓DL.r_inTS, ↓DL.r_inD_nil, ↓DL.r_inD_cons, ↓DL.r_flat_nil, ↓DL.r_flat_cons, ↓DL.r_flatS, ↓DL.r_flatI, ↓DL.r_eqvSS, ↓DL.r_eqvII, ↓DL.r_addLL, ↓DL.r_atm1, ↓DL.r_atm2, ↓DL.r_at0, ↓DL.r_at1, ↓DL.r_at2, ↓DL.r_at3, ↓DL.r_at4, ↓DL.r_at5, ↓DL.r_at6, ↓DL.r_at7, ↓DL.r_at8, ↓DL.r_beqI, ↓DL.r_ndec, ↓DL.r_gT, ↓DL.k_Gs, ↓DL.r_gsCons, ↓DL.r_gsNil, ↓DL.r_isDNN, ↓DL.r_isDBB, ↓DL.r_isDBN, ↓DL.r_isDNB, ↓DL.r_isDIN, ↓DL.r_isDIB, ↓DL.r_isDSN, ↓DL.r_isDSB, ↓DL.r_isDTN, ↓DL.r_isDTB, ↓DL.r_isDLN, ↓DL.r_isDLB, ↓DL.r_isDRN, ↓DL.r_isDRB, ↓DL.r_beqTT, ↓DL.r_beqTF, ↓DL.r_beqFT, ↓DL.r_beqFF, ↓DL.k_onI, ↓DL.k_Fld2, ↓DL.r_fld, ↓DL.k_FldR, ↓DL.k_FldO, ↓DL.r_look, ↓DL.r_lookN, ↓DL.r_putD, ↓DL.r_putDN, ↓DL.k_SF3, ↓DL.r_setFldR, ↓DL.k_SF2, ↓DL.k_SF1, ↓DL.r_setFld, ↓DL.r_methF, ↓DL.k_Me2, ↓DL.r_meth, ↓DL.k_MeR, ↓DL.k_MeO, ↓DL.r_make, ↓DL.k_MkN, ↓DL.r_makeF, ↓DL.k_CG2, ↓DL.k_CG, ↓DL.r_callG, ↓DL.r_callGF, ↓DL.r_listRg, ↓DL.r_tupRg, ↓DL.k_SlR, ↓DL.r_slR, ↓DL.r_enumL, ↓DL.r_max2, ↓DL.r_min2, ↓DL.r_isi2R, ↓DL.r_isiR, ↓DL.r_lst1, ↓DL.r_lst2, ↓DL.r_lst3, ↓DL.r_lst4, ↓DL.r_lst5, ↓DL.r_lst6, ↓DL.r_lst7, ↓DL.r_lst8, ↓DL.r_lst9, ↓DL.r_lst10, ↓DL.r_lst11, ↓DL.r_lst12, ↓DL.r_seqR, ↓DL.k_ForR, ↓DL.r_minL, ↓DL.r_clr, ↓DL.k_Clr1R, ↓DL.k_LstR, ↓DL.r_listRef, ↓DL.k_Clr2, ↓DL.Kt.seq_nx, ↓DL.Kt.seq_rt, ↓DL.Kt.seq_bk, ↓DL.Kt.seq_ct, ↓DL.Kt.seq_ex, ↓DL.Kt.fin_nx, ↓DL.Kt.fin_rt, ↓DL.Kt.fin_ex, ↓DL.Kt.loop_nx, ↓DL.Kt.loop_rt, ↓DL.Kt.loop_bk, ↓DL.Kt.loop_ct, ↓DL.Kt.loop_ex, ↓DL.C.run_ret, ↓DL.mset_same, ↓DL.mset_mset, startD, ixN, Option.bind_some, Option.map_some, List.map_cons, List.map_nil, List.length_cons, List.length_nil, List.length_set, List.replicate, List.cons_append, List.nil_append, List.append_nil, List.set_cons_zero, List.set_cons_succ, List.getElem?_cons_zero, List.getElem?_cons_succ, Nat.reduceAdd, Nat.reduceSub, Nat.zero_add, if_true, if_false, decide_eq_true_eq, reduceIte, Bool.not_true, Bool.not_false, beq_self_eq_true, Bool.false_eq_true, Int.reduceLT, Int.reduceLE, Int.reduceNeg, Int.reduceToNat, Int.reduceAdd, Int.reduceSub, Nat.reduceLT, Nat.reduceLeDiff, Int.cast_ofNat_Int, Int.reduceEq, Int.reduceBEq, DL.wipeD, decide_true, decide_false, not_true_eq_false, not_false_eq_true, String.reduceEq, Bool.or_true, Bool.or_false, Bool.true_or, Bool.false_or, Bool.and_true, Bool.and_false, Bool.true_and, Bool.false_and, Bool.not_not, Nat.reduceEqDiff, Int.toNat_natCast, Decidable.not_not, List.mem_cons, List.not_mem_nil, or_false, or_true, true_or, false_or, and_true, true_and, and_self, and_false, false_and, reduceCtorEq, Option.isNone_some, Option.isNone_none, Option.isSome_some, Option.isSome_none])
local macro_rules | `(tactic| walk_at "h") => `(tactic| simp -implicitDefEqProofs only [↓DL.k_F, ↓DL.k_M, ↓DL.k_onV, ↓DL.k_onL, ↓DL.k_onO, ↓DL.k_onN, ↓DL.r_C, ↓DL.r_var, ↓DL.k_Op2, ↓DL.k_Op, ↓DL.r_op, ↓DL.r_un, ↓DL.r_app, ↓DL.r_call, ↓DL.r_callF, ↓DL.k_CK2, ↓DL.k_CK, ↓DL.r_callK, ↓DL.r_callKF, ↓DL.r_nil, ↓DL.k_A2, ↓DL.k_A, ↓DL.r_cons, ↓DL.k_AndT, ↓DL.k_AndF, ↓DL.r_and, ↓DL.k_OrT, ↓DL.k_OrF, ↓DL.r_or, ↓DL.k_Not, ↓DL.r_not, ↓DL.k_EIfT, ↓DL.k_EIfF, ↓DL.r_eIf, ↓DL.k_Ch3T, ↓DL.k_Ch3F, ↓DL.k_Ch2, ↓DL.k_Ch1, ↓DL.r_chain, ↓DL.k_T, ↓DL.r_of, ↓DL.k_TAT, ↓DL.k_TAF, ↓DL.r_tand, ↓DL.k_TOT, ↓DL.k_TOF, ↓DL.r_tor, ↓DL.k_TN, ↓DL.r_tnot, ↓DL.r_tTrue, ↓DL.k_Asg, ↓DL.r_asg, ↓DL.k_Nx, ↓DL.r_expr, ↓DL.k_Rt, ↓DL.r_ret, ↓DL.r_retN, ↓DL.k_IfT, ↓DL.k_IfF, ↓DL.r_if, ↓DL.r_seq, ↓DL.r_next, ↓DL.r_break, ↓DL.r_cont, ↓DL.r_stuck, ↓DL.k_G, ↓DL.r_asgG, ↓DL.k_For, ↓DL.r_for, ↓DL.k_SI3, ↓DL.k_SI2, ↓DL.k_SI, ↓DL.r_setItemS, ↓DL.k_Ap3, ↓DL.k_Ap2, ↓DL.k_Ap1, ↓DL.r_apd, ↓DL.r_gN, ↓DL.r_iSeq, ↓DL.r_iApp, ↓DL.k_Body, ↓DL.k_Sl3, ↓DL.k_Sl2, ↓DL.k_Sl1, ↓DL.r_sl, ↓DL.r_oNone, ↓DL.k_OS, ↓DL.r_oSome, ↓DL.r_slT, ↓DL.r_slL, ↓DL.r_slS, ↓DL.r_retL, ↓DL.r_newL, ↓DL.r_lc, ↓DL.r_lcM, ↓DL.r_add, ↓DL.r_sub, ↓DL.r_mod, ↓DL.r_div, ↓DL.r_pow1018, ↓DL.r_lt, ↓DL.r_le, ↓DL.r_gt, ↓DL.r_ge, ↓DL.r_neg, ↓DL.r_eqII, ↓DL.r_neII, ↓DL.r_eqSS, ↓DL.r_neSS, ↓DL.r_eqBB, ↓DL.r_neBB, ↓DL.r_isN, ↓DL.r_isB, ↓DL.r_notN, ↓DL.r_int1, ↓DL.r_intb, ↓DL.r_abs, ↓DL.k_Get, ↓DL.r_ixT, ↓DL.r_ixL, ↓DL.r_asLR, ↓DL.r_asLL, ↓DL.r_ixRef, ↓DL.r_lenT, ↓DL.r_lenL, ↓DL.k_Len, ↓DL.r_lenRef, ↓DL.r_sumRef, ↓DL.k_SetJ, ↓DL.k_Set, ↓DL.r_setRef, ↓DL.k_App, ↓DL.r_appRef, ↓DL.r_tup0, ↓DL.r_tup1, ↓DL.r_tup2, ↓DL.r_tup3, ↓DL.r_tup4, ↓DL.r_tup5, ↓DL.r_tup6, ↓DL.r_tup7, ↓DL.r_tup8, ↓DL.r_lst0, ↓DL.r_ref0, ↓DL.r_ref1, ↓DL.r_ref2, ↓DL.r_ref3, ↓DL.r_ref4, ↓DL.r_ref5, ↓DL.r_ref6, ↓DL.r_listL, ↓DL.r_listT, ↓DL.r_tupleL, ↓DL.r_seqT, ↓DL.r_seqL, ↓DL.r_range1, ↓DL.r_range2, ↓DL.r_strEq, ↓DL.r_strEq2, ↓DL.r_isT0, ↓DL.r_isT1, ↓DL.r_isT2, ↓DL.r_isT3, ↓DL.r_isT4, ↓DL.r_isT5, ↓DL.r_isT6, ↓DL.r_isT7, ↓DL.r_isT8, ↓DL.r_isT9, ↓DL.r_isT10, ↓DL.r_isT11, ↓DL.r_isT12, ↓DL.r_isT13, ↓DL.r_isT14, ↓DL.r_isT15, ↓DL.r_isT16, ↓DL.r_isT17, ↓DL.r_isT18, ↓DL.r_isT19, ↓DL.r_isT20, ↓DL.r_isT21, ↓DL.r_isT22, ↓DL.r_isT23, ↓DL.r_isT24, ↓DL.r_isT25, ↓DL.r_isT26, ↓DL.r_isT27, ↓DL.r_isT28, ↓DL.r_isT29, ↓DL.r_isT30, ↓DL.r_isT31, ↓DL.r_isT32, ↓DL.r_isT33, ↓DL.r_isT34, ↓DL.r_isT35, ↓DL.r_isiN, ↓DL.r_isi2N, ↓DL.r_isiB, ↓DL.r_isi2B, ↓DL.r_isiI, ↓DL.r_isi2I, ↓DL.r_isiS, ↓DL.r_isi2S, ↓DL.r_isiT, ↓DL.r_isi2T, ↓DL.r_isiL, ↓DL.r_isi2L, ↓DL.r_inTI, ↓DL.r_ninTI, ↓DL.r_inLI, ↓DL.r_ninLI, ↓DL.r_inTS, ↓DL.r_inD_nil, ↓DL.r_inD_cons, ↓DL.r_flat_nil, ↓DL.r_flat_cons, ↓DL.r_flatS, ↓DL.r_flatI, ↓DL.r_eqvSS, ↓DL.r_eqvII, ↓DL.r_addLL, ↓DL.r_atm1, ↓DL.r_atm2, ↓DL.r_at0, ↓DL.r_at1, ↓DL.r_at2, ↓DL.r_at3, ↓DL.r_at4, ↓DL.r_at5, ↓DL.r_at6, ↓DL.r_at7, ↓DL.r_at8, ↓DL.r_beqI, ↓DL.r_ndec, ↓DL.r_gT, ↓DL.k_Gs, ↓DL.r_gsCons, ↓DL.r_gsNil, ↓DL.r_isDNN, ↓DL.r_isDBB, ↓DL.r_isDBN, ↓DL.r_isDNB, ↓DL.r_isDIN, ↓DL.r_isDIB, ↓DL.r_isDSN, ↓DL.r_isDSB, ↓DL.r_isDTN, ↓DL.r_isDTB, ↓DL.r_isDLN, ↓DL.r_isDLB, ↓DL.r_isDRN, ↓DL.r_isDRB, ↓DL.r_beqTT, ↓DL.r_beqTF, ↓DL.r_beqFT, ↓DL.r_beqFF, ↓DL.k_onI, ↓DL.k_Fld2, ↓DL.r_fld, ↓DL.k_FldR, ↓DL.k_FldO, ↓DL.r_look, ↓DL.r_lookN, ↓DL.r_putD, ↓DL.r_putDN, ↓DL.k_SF3, ↓DL.r_setFldR, ↓DL.k_SF2, ↓DL.k_SF1, ↓DL.r_setFld, ↓DL.r_methF, ↓DL.k_Me2, ↓DL.r_meth, ↓DL.k_MeR, ↓DL.k_MeO, ↓DL.r_make, ↓DL.k_MkN, ↓DL.r_makeF, ↓DL.k_CG2, ↓DL.k_CG, ↓DL.r_callG, ↓DL.r_callGF, ↓DL.r_listRg, ↓DL.r_tupRg, ↓DL.k_SlR, ↓DL.r_slR, ↓DL.r_enumL, ↓DL.r_max2, ↓DL.r_min2, ↓DL.r_isi2R, ↓DL.r_isiR, ↓DL.r_lst1, ↓DL.r_lst2, ↓DL.r_lst3, ↓DL.r_lst4, ↓DL.r_lst5, ↓DL.r_lst6, ↓DL.r_lst7, ↓DL.r_lst8, ↓DL.r_lst9, ↓DL.r_lst10, ↓DL.r_lst11, ↓DL.r_lst12, ↓DL.r_seqR, ↓DL.k_ForR, ↓DL.r_minL, ↓DL.r_clr, ↓DL.k_Clr1R, ↓DL.k_LstR, ↓DL.r_listRef, ↓DL.k_Clr2, ↓DL.Kt.seq_nx, ↓DL.Kt.seq_rt, ↓DL.Kt.seq_bk, ↓DL.Kt.seq_ct, ↓DL.Kt.seq_ex, ↓DL.Kt.fin_nx, ↓DL.Kt.fin_rt, ↓DL.Kt.fin_ex, ↓DL.Kt.loop_nx, ↓DL.Kt.loop_rt, ↓DL.Kt.loop_bk, ↓DL.Kt.loop_ct, ↓DL.Kt.loop_ex, ↓DL.C.run_ret, ↓DL.mset_same, ↓DL.mset_mset, startD, ixN, Option.bind_some, Option.map_some, List.map_cons, List.map_nil, List.length_cons, List.length_nil, List.length_set, List.replicate, List.cons_append, List.nil_append, List.append_nil, List.set_cons_zero, List.set_cons_succ, List.getElem?_cons_zero, List.getElem?_cons_succ, Nat.reduceAdd, Nat.reduceSub, Nat.zero_add, if_true, if_false, decide_eq_true_eq, reduceIte, Bool.not_true, Bool.not_false, beq_self_eq_true, Bool.false_eq_true, Int.reduceLT, Int.reduceLE, Int.reduceNeg, Int.reduceToNat, Int.reduceAdd, Int.reduceSub, Nat.reduceLT, Nat.reduceLeDiff, Int.cast_ofNat_Int, Int.reduceEq, Int.reduceBEq, DL.wipeD, decide_true, decide_false, not_true_eq_false, not_false_eq_true, String.reduceEq, Bool.or_true, Bool.or_false, Bool.true_or, Bool.false_or, Bool.and_true, Bool.and_false, Bool.true_and, Bool.false_and, Bool.not_not, Nat.reduceEqDiff, Int.toNat_natCast, Decidable.not_not, List.mem_cons, List.not_mem_nil, or_false, or_true, true_or, false_or, and_true, true_and, and_self, and_false, false_and, reduceCtorEq, Option.isNone_some, Option.isNone_none, Option.isSome_some, Option.isSome_none, *])
local macro_rules | `(tactic| walk_at "s") => `(tactic| ((try walk_at "h"); repeat' ((first | with_reducible refine if_dec (fun _ => ?_) (fun _ => ?_) | with_reducible refine eif_dec (fun _ => ?_) (fun _ => ?_) | with_reducible refine tor_dec (fun _ => ?_) (fun _ => ?_) | with_reducible refine tand_dec (fun _ => ?_) (fun _ => ?_) | with_reducible refine and_dec (fun _ => ?_) (fun _ => ?_) | with_reducible refine or_dec (fun _ => ?_) (fun _ => ?_) | with_reducible refine ch_dec (fun _ => ?_) (fun _ => ?_)) <;> (try walk_at "h"))))
theorem mixed_spec {c k : Int} {m : Mem} {Q : D → Mem → Prop} {E : Xn → Mem → Prop} (hk : 0 ≤ k) (hk2 : k < 2 ^ 40) (h : ∀ r : Int, 0 ≤ r → Q (.int r) m) : (d__law_mixed [.int c, .int k]).run m Q E := by
  unfold d__law_mixed
  refine fn_run ?_
  unfold p__law_mixed
  have hk3 : k < 1099511627776 := hk2
  walk_at "d"
  refine mul_run (.inl ⟨by omega, by omega⟩) ?_
  refine mul_run (.inr ⟨by omega, by omega⟩) ?_
  walk_at "d"
  refine mul_run (.inl ⟨by omega, by omega⟩) ?_
  walk_at "d"
  generalize hv : (c % 1000000000000000000 + 17) * (k + 3) * 48271 % 2147483647 + 7919 * k = v
  have hv1 : 0 ≤ v := by have := Int.emod_nonneg ((c % 1000000000000000000 + 17) * (k + 3) * 48271) (show (2147483647 : Int) ≠ 0 by decide); omega
  have hv2 : v < 2 ^ 62 := by have := Int.emod_lt_of_pos ((c % 1000000000000000000 + 17) * (k + 3) * 48271) (show (0 : Int) < 2147483647 by decide); omega
  refine mul_run (.inl ⟨by omega, by omega⟩) ?_
  walk_at "d"
  generalize hu : v * (v / 1009 + 69621) % 2147483629 = u
  have hu1 : 0 ≤ u := by have := Int.emod_nonneg (v * (v / 1009 + 69621)) (show (2147483629 : Int) ≠ 0 by decide); omega
  have hu2 : u < 2 ^ 62 := by have := Int.emod_lt_of_pos (v * (v / 1009 + 69621)) (show (0 : Int) < 2147483629 by decide); omega
  refine mul_run (.inl ⟨by omega, by omega⟩) ?_
  walk_at "d"
  refine h _ ?_
  have := Int.emod_nonneg (u * (u / 2003 + 40692)) (show (2147483399 : Int) ≠ 0 by decide)
  omega
structure PoolAt (m : Mem) (p c : Addr) (N : Int) : Prop where
  ne : c ≠ p
  ex : ∃ (at' sub cnt sum : Int) (cells : List Int), m p = some (.lst [.ref c, .int at', .int sub, .int cnt, .int sum]) ∧ m c = some (.lst (cells.map D.int)) ∧ 0 ≤ at' ∧ -1 ≤ sub ∧ sub ≤ 7 ∧ 0 ≤ cnt ∧ cnt ≤ N ∧ 0 ≤ sum ∧ (∀ x ∈ cells, 0 ≤ x)
def Same (p c : Addr) (m m' : Mem) : Prop := ∀ a, a ≠ p → a ≠ c → m' a = m a
theorem Same.rfl {p c : Addr} {m : Mem} : Same p c m m := fun _ _ _ => Eq.refl _
theorem Same.trans {p c : Addr} {m m' m'' : Mem} (h : Same p c m m') (h' : Same p c m' m'') : Same p c m m'' := fun a x y => (h' a x y).trans (h a x y)
theorem Same.setp {p c : Addr} {m m' : Mem} {o : MO} (h : Same p c m m') : Same p c m (mset m' p o) := fun a x y => (mset_ne x).trans (h a x y)
theorem Same.setc {p c : Addr} {m m' : Mem} {o : MO} (h : Same p c m m') : Same p c m (mset m' c o) := fun a x y => (mset_ne y).trans (h a x y)
theorem PoolAt.up {m m' : Mem} {p c : Addr} {N N' : Int} (h : PoolAt m p c N) (hN : N ≤ N') (hp : m' p = m p) (hc : m' c = m c) : PoolAt m' p c N' := by
  obtain ⟨ne, a, s, k, u, l, e1, e2, r1, r2, r3, r4, r5, r6, r7⟩ := h
  exact ⟨ne, a, s, k, u, l, hp.trans e1, hc.trans e2, r1, r2, r3, r4, by omega, r6, r7⟩
theorem draw_spec {m : Mem} {p c : Addr} {N n : Int} {Q : D → Mem → Prop} {E : Xn → Mem → Prop} (hP : PoolAt m p c N) (hN : N < 2 ^ 39) (hn : 0 < n) (hn2 : n < 1073741824)
    (h : ∀ (r : Int) (m' : Mem), 0 ≤ r → r < n → PoolAt m' p c (N + 1) → Same p c m m' → Q (.int r) m') : (d__law_draw [.ref p, .int n]).run m Q E := by
  obtain ⟨ne, a, s, k, u, l, e1, e2, r1, r2, r3, r4, r5, r6, r7⟩ := hP
  have hN' : N < 549755813888 := hN
  have hm : ∀ x : Int, 0 ≤ x % n ∧ x % n < n := fun x => ⟨Int.emod_nonneg x (by omega), Int.emod_lt_of_pos x hn⟩
  have ne' : p ≠ c := fun q => ne q.symm
  unfold d__law_draw
  refine fn_run ?_
  unfold p__law_draw
  have f1 : ∀ (m : Mem) (o : MO), mset m p o c = m c := fun m o => mset_ne ne
  have f2 : ∀ (m : Mem) (o : MO), mset m c o p = m p := fun m o => mset_ne ne'
  have hl0 : (List.map D.int l).length = l.length := List.length_map _
  have fin : ∀ (m' : Mem) (a' s' k' : Int) (l' : List Int) (r : Int), m' p = some (.lst [.ref c, .int a', .int s', .int k', .int u]) → m' c = some (.lst (l'.map D.int)) → 0 ≤ a' → -1 ≤ s' → s' ≤ 7 → 0 ≤ k' → k' ≤ N + 1 → (∀ x ∈ l', 0 ≤ x) → Same p c m m' → Q (.int (r % n)) m' := fun m' a' s' k' l' r g1 g2 g3 g4 g5 g6 g7 g8 g9 => h _ _ (hm r).1 (hm r).2 ⟨ne, a', s', k', u, l', g1, g2, g3, g4, g5, g6, g7, r6, g8⟩ g9
  walk_at "h"
  refine if_dec (fun h1 => ?_) (fun h1 => ?_)
  · walk_at "h"
    refine mixed_spec (by omega) (by omega) fun r hr => ?_
    walk_at "d"
    rw [r_mod hn]
    exact fin _ _ _ _ l _ mset_same (by simp only [mset_same, f1, e2]) r1 r2 r3 (by omega) (by omega) r7 (fun z z1 z2 => by simp only [mset_ne z1, mset_ne z2])
  · have h2 : a < ↑l.length := by omega
    have hlt : a.toNat < l.length := by omega
    generalize hv : l[a.toNat] = v
    have hv0 : 0 ≤ v := r7 v (hv ▸ List.getElem_mem _)
    have f3 : atI (List.map D.int l) a = some (.int v) := atI_of r1 (by rw [List.getElem?_map, List.getElem?_eq_getElem hlt, hv]; rfl)
    have f4 : ∀ x, atI ((List.map D.int l).set a.toNat x) a = some x := fun x => atI_of r1 (List.getElem?_set_self (by omega))
    have f5 : (l.set a.toNat (v / n)).map D.int = (l.map D.int).set a.toNat (.int (v / n)) := List.map_set
    have f6 : ∀ x ∈ l.set a.toNat (v / n), 0 ≤ x := fun x hx => (List.mem_or_eq_of_mem_set hx).elim (r7 x) (fun e => e ▸ Int.ediv_nonneg hv0 (by omega))
    walk_at "h"
    refine tor_dec (fun g => ?_) (fun g => ?_)
    · walk_at "h"
      refine if_dec (fun g3 => ?_) (fun g3 => ?_)
      · clear g3
        walk_at "h"
        exact fin _ _ _ _ (l.set a.toNat (v / n)) _ mset_same (by simp only [mset_same, f1, e2, f5]) (by omega) (by omega) (by omega) (by omega) (by omega) f6 (fun z z1 z2 => by simp only [mset_ne z1, mset_ne z2])
      · clear g3
        walk_at "h"
        exact fin _ _ _ _ (l.set a.toNat (v / n)) _ mset_same (by simp only [mset_same, f1, e2, f5]) (by omega) (by omega) (by omega) (by omega) (by omega) f6 (fun z z1 z2 => by simp only [mset_ne z1, mset_ne z2])
    · walk_at "h"
      refine if_dec (fun g2 => ?_) (fun g2 => ?_)
      · walk_at "h"
        refine if_dec (fun g3 => ?_) (fun g3 => ?_)
        · clear g3
          walk_at "h"
          exact fin _ _ _ _ (l.set a.toNat (v / n)) _ mset_same (by simp only [mset_same, f1, e2, f5]) (by omega) (by omega) (by omega) (by omega) (by omega) f6 (fun z z1 z2 => by simp only [mset_ne z1, mset_ne z2])
        · clear g3
          walk_at "h"
          exact fin _ _ _ _ (l.set a.toNat (v / n)) _ mset_same (by simp only [mset_same, f1, e2, f5]) (by omega) (by omega) (by omega) (by omega) (by omega) f6 (fun z z1 z2 => by simp only [mset_ne z1, mset_ne z2])
      · walk_at "h"
        refine mixed_spec (by omega) (by omega) fun r hr => ?_
        walk_at "h"
        refine if_dec (fun g3 => ?_) (fun g3 => ?_)
        · walk_at "h"
          exact fin _ _ _ _ l _ mset_same (by simp only [mset_same, f1, e2]) (by omega) (by omega) (by omega) (by omega) (by omega) r7 (fun z z1 z2 => by simp only [mset_ne z1, mset_ne z2])
        · walk_at "h"
          exact fin _ _ _ _ l _ mset_same (by simp only [mset_same, f1, e2]) (by omega) (by omega) (by omega) (by omega) (by omega) r7 (fun z z1 z2 => by simp only [mset_ne z1, mset_ne z2])
theorem cut_map {ns : List Int} {lo hi : Option Int} : ∃ l : List Int, cutD (ns.map D.int) lo hi = l.map D.int ∧ l.length ≤ ns.length := by
  unfold cutD
  rw [← List.map_drop, ← List.map_take]
  exact ⟨_, rfl, by rw [List.length_take, List.length_drop]; omega⟩
theorem pool_spec {m : Mem} {ns : List Int} {Q : D → Mem → Prop} {E : Xn → Mem → Prop} (hn : ns.length ≤ 63)
    (h : ∀ (p c : Addr) (m' : Mem), m p = none → m c = none → PoolAt m' p c 0 → Same p c m m' → Q (.ref p) m') : (d__law_pool [.scr ns]).run m Q E := by
  unfold d__law_pool
  refine fn_run ?_
  unfold p__law_pool
  walk_at "d"
  obtain ⟨l, e, hl⟩ := cut_map (ns := ns) (lo := none) (hi := some 63)
  rw [e]
  refine lc_all (f := fun d => match d with | .int i => .int (if i < 0 then -i else i) | d => d) (by rw [List.length_map]; exact Nat.le_trans hl (Nat.le_trans hn (by decide))) (fun x hx Y y => ?_) ?_
  · obtain ⟨i, _, rfl⟩ := List.mem_map.mp hx
    walk_at "d"
    exact y
  · rw [List.map_map]
    have e2 : (l.map ((fun d => match d with | D.int i => D.int (if i < 0 then -i else i) | d => d) ∘ D.int)) = (l.map fun i => if i < 0 then -i else i).map D.int := by rw [List.map_map]; rfl
    rw [e2]
    have hc : ∀ x ∈ (l.map fun i : Int => if i < 0 then -i else i), (0 : Int) ≤ x := fun x hx => by
      obtain ⟨i, _, rfl⟩ := List.mem_map.mp hx
      split <;> omega
    generalize (l.map fun i : Int => if i < 0 then -i else i) = cs at hc
    have hs : ∀ cs : List Int, (∀ x ∈ cs, 0 ≤ x) → 0 ≤ cs.sum := fun cs => by
      induction cs with
      | nil => intro _; exact Int.le_refl _
      | cons i r ih => intro q; rw [List.sum_cons]; have := q i (.head _); have := ih fun x hx => q x (.tail _ hx); omega
    rw [r_newL]
    intro c hc0
    walk_at "d"
    rw [allInt_map]
    walk_at "d"
    intro p hp0
    have ne : p ≠ c := fun q => by rw [q, mset_same] at hp0; cases hp0
    refine h p c _ (by rw [mset_ne ne] at hp0; exact hp0) hc0 ⟨fun q => ne q.symm, 0, 0, 0, _, cs, mset_same, (mset_ne fun q => ne q.symm).trans mset_same, by omega, by omega, by omega, by omega, by omega, Int.emod_nonneg _ (by decide), hc⟩ Same.rfl.setc.setp

def okS : Nat → D → Bool
  | 0, _ => false
  | n + 1, .tup l => l.all (okS n) && decide (l.length < 1000000)
  | n + 1, .lst l => l.all (okS n) && decide (l.length < 1000000)
  | _ + 1, .non => true
  | _ + 1, .bl _ => true
  | _ + 1, .int _ => true
  | _ + 1, .str _ => true
  | _, _ => false
theorem c_int_I {i : Int} {m : Mem} {Q : D → Mem → Prop} {E : Xn → Mem → Prop} : (d__law_int [.int i]).run m Q E = Q (.bl true) m := by
  unfold d__law_int
  rw [run_fnD]
  unfold p__law_int
  walk_at "d"
theorem small_len {n : Nat} (h : n < 1000000) : small62 (n : Int) = true := by rw [small62_iff]; omega
theorem same_seq {n : Nat} {l : List D} (ih : ∀ x : D, okS n x = true → Ret (d__law_same n [x, x]) (.bl true)) (h1 : l.all (okS n) = true) (h3 : l.length < 1000000) (m : Mem) (K : Kt) (X Y : D) (hX : (∀ (i : Int) (Q : D → Mem → Prop) (E : Xn → Mem → Prop), (dIx X (.int i)).run m Q E = onO (atI l i) (kM m Q))) (hY : (∀ (i : Int) (Q : D → Mem → Prop) (E : Xn → Mem → Prop), (dIx Y (.int i)).run m Q E = onO (atI l i) (kM m Q)))
    (hK : ∀ y, K.nx [some X, some Y, y] m) : forD (rng 0 (l.length : Int)) none (gN 2) (p__law_same_b0 (d__law_same n)) K (rng 0 (l.length : Int)) [some X, some Y, none] m := by
  refine for_nat (fun i δ m' => m' = m ∧ ∃ y, δ = [some X, some Y, y]) ⟨rfl, _, rfl⟩ (fun i δ m' hi ⟨e1, y, e2⟩ => ?_) (fun δ m' ⟨e1, y, e2⟩ => ?_)
  · subst e1 e2
    have hx : l[i]? = some l[i] := List.getElem?_eq_getElem hi
    have h5 : (↑i : Int) < ↑l.length := by omega
    have h6 : (0 : Int) ≤ ↑i := by omega
    have h7 : onO (atI l (i : Int)) = onO (some l[i]) := by simp only [atI, ixN, if_pos h6, if_pos h5, Option.bind_some, Int.toNat_natCast, hx]
    clear hx h5 h6
    have hi0 := ih l[i] (List.all_eq_true.mp h1 _ (List.getElem_mem hi))
    clear ih h1 h3 hK
    walk_at "d"
    unfold p__law_same_b0
    walk_at "d"
    rw [hX, h7]
    walk_at "d"
    rw [hY, h7]
    walk_at "d"
    refine hi0 _ _ _ ?_
    walk_at "d"
    exact ⟨_, rfl⟩
  · subst e1 e2
    exact hK y
theorem same_step (n : Nat) (ih : ∀ x : D, okS n x = true → Ret (d__law_same n [x, x]) (.bl true)) (x : D) (h : okS (n + 1) x = true) : Ret (d__law_same (n + 1) [x, x]) (.bl true) := by
  intro m Q E q
  unfold d__law_same
  refine fn_run ?_
  unfold p__law_same
  cases x with
  | non => walk_at "d"; exact q
  | bl b =>
    cases b
    · walk_at "d"; exact q
    · walk_at "d"; exact q
  | int i => walk_at "d"; rw [c_int_I]; walk_at "d"; exact q
  | str s => walk_at "d"; exact q
  | tup l =>
    obtain ⟨h1, h2⟩ := Bool.and_eq_true_iff.mp h
    have h3 := of_decide_eq_true h2
    walk_at "d"
    rw [r_range1 (small_len h3)]
    walk_at "d"
    refine same_seq ih h1 h3 m _ _ _ (fun _ _ _ => r_ixT) (fun _ _ _ => r_ixT) fun y => ?_
    walk_at "d"
    exact q
  | lst l =>
    obtain ⟨h1, h2⟩ := Bool.and_eq_true_iff.mp h
    have h3 := of_decide_eq_true h2
    walk_at "d"
    rw [r_range1 (small_len h3)]
    walk_at "d"
    refine same_seq ih h1 h3 m _ _ _ (fun _ _ _ => r_ixL) (fun _ _ _ => r_ixL) fun y => ?_
    walk_at "d"
    exact q
  | _ => cases h
theorem same_refl (n : Nat) (x : D) (h : okS n x = true) : Ret (d__law_same n [x, x]) (.bl true) := by
  induction n generalizing x with
  | zero => cases h
  | succ n ih => exact same_step n ih x h
theorem okS_tup {n : Nat} {l : List D} : okS (n + 1) (.tup l) = (l.all (okS n) && decide (l.length < 1000000)) := rfl
theorem okS_lst {n : Nat} {l : List D} : okS (n + 1) (.lst l) = (l.all (okS n) && decide (l.length < 1000000)) := rfl
theorem okS_int {n : Nat} {i : Int} : okS (n + 1) (.int i) = true := rfl
theorem okS_str {n : Nat} {s : Str} : okS (n + 1) (.str s) = true := rfl
theorem okS_non {n : Nat} : okS (n + 1) .non = true := rfl
theorem okS_bl {n : Nat} {b : Bool} : okS (n + 1) (.bl b) = true := rfl
theorem okS_ints {n : Nat} {l : List Int} (h : l.length < 1000000) : okS (n + 2) (.tup (l.map D.int)) = true := by
  show ((l.map D.int).all (okS (n + 1)) && decide ((l.map D.int).length < 1000000)) = true
  rw [List.length_map, decide_eq_true h, Bool.and_true, List.all_map]
  exact List.all_eq_true.mpr fun _ _ => rfl
theorem okS_intsL {n : Nat} {l : List Int} (h : l.length < 1000000) : okS (n + 2) (.lst (l.map D.int)) = true := by
  rw [okS_lst, List.length_map, decide_eq_true h, Bool.and_true, List.all_map]
  exact List.all_eq_true.mpr fun _ _ => rfl

local macro_rules | `(tactic| walk_at "d") => `(tactic| simp -implicitDefEqProofs only [↓DL.k_F, ↓DL.k_M, ↓DL.k_onV, ↓DL.k_onL, ↓DL.k_onO, ↓DL.k_onN, ↓DL.r_C, ↓DL.r_var, ↓DL.k_Op2, ↓DL.k_Op, ↓DL.r_op, ↓DL.r_un, ↓DL.r_app, ↓DL.r_call, ↓DL.r_callF, ↓DL.k_CK2, ↓DL.k_CK, ↓DL.r_callK, ↓DL.r_callKF, ↓DL.r_nil, ↓DL.k_A2, ↓DL.k_A, ↓DL.r_cons, ↓DL.k_AndT, ↓DL.k_AndF, ↓DL.r_and, ↓DL.k_OrT, ↓DL.k_OrF, ↓DL.r_or, ↓DL.k_Not, ↓DL.r_not, ↓DL.k_EIfT, ↓DL.k_EIfF, ↓DL.r_eIf, ↓DL.k_Ch3T, ↓DL.k_Ch3F, ↓DL.k_Ch2, ↓DL.k_Ch1, ↓DL.r_chain, ↓DL.k_T, ↓DL.r_of, ↓DL.k_TAT, ↓DL.k_TAF, ↓DL.r_tand, ↓DL.k_TOT, ↓DL.k_TOF, ↓DL.r_tor, ↓DL.k_TN, ↓DL.r_tnot, ↓DL.r_tTrue, ↓DL.k_Asg, ↓DL.r_asg, ↓DL.k_Nx, ↓DL.r_expr, ↓DL.k_Rt, ↓DL.r_ret, ↓DL.r_retN, ↓DL.k_IfT, ↓DL.k_IfF, ↓DL.r_if, ↓DL.r_seq, ↓DL.r_next, ↓DL.r_break, ↓DL.r_cont, ↓DL.r_stuck, ↓DL.k_G, ↓DL.r_asgG, ↓DL.k_For, ↓DL.r_for, ↓DL.k_SI3, ↓DL.k_SI2, ↓DL.k_SI, ↓DL.r_setItemS, ↓DL.k_Ap3, ↓DL.k_Ap2, ↓DL.k_Ap1, ↓DL.r_apd, ↓DL.r_gN, ↓DL.r_iSeq, ↓DL.r_iApp, ↓DL.k_Body, ↓DL.k_Sl3, ↓DL.k_Sl2, ↓DL.k_Sl1, ↓DL.r_sl, ↓DL.r_oNone, ↓DL.k_OS, ↓DL.r_oSome, ↓DL.r_slT, ↓DL.r_slL, ↓DL.r_slS, ↓DL.r_retL, ↓DL.r_newL, ↓DL.r_lc, ↓DL.r_lcM, ↓DL.r_add, ↓DL.r_sub, ↓DL.r_mod, ↓DL.r_div, ↓DL.r_pow1018, ↓DL.r_lt, ↓DL.r_le, ↓DL.r_gt, ↓DL.r_ge, ↓DL.r_neg, ↓DL.r_eqII, ↓DL.r_neII, ↓DL.r_eqSS, ↓DL.r_neSS, ↓DL.r_eqBB, ↓DL.r_neBB, ↓DL.r_isN, ↓DL.r_isB, ↓DL.r_notN, ↓DL.r_int1, ↓DL.r_intb, ↓DL.r_abs, ↓DL.k_Get, ↓DL.r_ixT, ↓DL.r_ixL, ↓DL.r_asLR, ↓DL.r_asLL, ↓DL.r_ixRef, ↓DL.r_lenT, ↓DL.r_lenL, ↓DL.k_Len, ↓DL.r_lenRef, ↓DL.r_sumRef, ↓DL.k_SetJ, ↓DL.k_Set, ↓DL.r_setRef, ↓DL.k_App, ↓DL.r_appRef, ↓DL.r_tup0, ↓DL.r_tup1, ↓DL.r_tup2, ↓DL.r_tup3, ↓DL.r_tup4, ↓DL.r_tup5, ↓DL.r_tup6, ↓DL.r_tup7, ↓DL.r_tup8, ↓DL.r_lst0, ↓DL.r_ref0, ↓DL.r_ref1, ↓DL.r_ref2, ↓DL.r_ref3, ↓DL.r_ref4, ↓DL.r_ref5, ↓DL.r_ref6, ↓DL.r_listL, ↓DL.r_listT, ↓DL.r_tupleL, ↓DL.r_seqT, ↓DL.r_seqL, ↓DL.r_range1, ↓DL.r_range2, ↓DL.r_strEq, ↓DL.r_strEq2, ↓DL.r_isT0, ↓DL.r_isT1, ↓DL.r_isT2, ↓DL.r_isT3, ↓DL.r_isT4, ↓DL.r_isT5, ↓DL.r_isT6, ↓DL.r_isT7, ↓DL.r_isT8, ↓DL.r_isT9, ↓DL.r_isT10, ↓DL.r_isT11, ↓DL.r_isT12, ↓DL.r_isT13, ↓DL.r_isT14, ↓DL.r_isT15, ↓DL.r_isT16, ↓DL.r_isT17, ↓DL.r_isT18, ↓DL.r_isT19, ↓DL.r_isT20, ↓DL.r_isT21, ↓DL.r_isT22, ↓DL.r_isT23, ↓DL.r_isT24, ↓DL.r_isT25, ↓DL.r_isT26, ↓DL.r_isT27, ↓DL.r_isT28, ↓DL.r_isT29, ↓DL.r_isT30, ↓DL.r_isT31, ↓DL.r_isT32, ↓DL.r_isT33, ↓DL.r_isT34, ↓DL.r_isT35, ↓DL.r_isiN, ↓DL.r_isi2N, ↓DL.r_isiB, ↓DL.r_isi2B, ↓DL.r_isiI, ↓DL.r_isi2I, ↓DL.r_isiS, ↓DL.r_isi2S, ↓DL.r_isiT, ↓DL.r_isi2T, ↓DL.r_isiL, ↓DL.r_isi2L, ↓DL.r_inTI, ↓DL.r_ninTI, ↓DL.r_inLI, ↓DL.r_ninLI, ↓DL.r_inTS, ↓DL.r_inD_nil, ↓DL.r_inD_cons, ↓DL.r_flat_nil, ↓DL.r_flat_cons, ↓DL.r_flatS, ↓DL.r_flatI, ↓DL.r_eqvSS, ↓DL.r_eqvII, ↓DL.r_addLL, ↓DL.r_atm1, ↓DL.r_atm2, ↓DL.r_at0, ↓DL.r_at1, ↓DL.r_at2, ↓DL.r_at3, ↓DL.r_at4, ↓DL.r_at5, ↓DL.r_at6, ↓DL.r_at7, ↓DL.r_at8, ↓DL.r_beqI, ↓DL.r_ndec, ↓DL.r_gT, ↓DL.k_Gs, ↓DL.r_gsCons, ↓DL.r_gsNil, ↓DL.r_isDNN, ↓DL.r_isDBB, ↓DL.r_isDBN, ↓DL.r_isDNB, ↓DL.r_isDIN, ↓DL.r_isDIB, ↓DL.r_isDSN, ↓DL.r_isDSB, ↓DL.r_isDTN, ↓DL.r_isDTB, ↓DL.r_isDLN, ↓DL.r_isDLB, ↓DL.r_isDRN, ↓DL.r_isDRB, ↓DL.r_beqTT, ↓DL.r_beqTF, ↓DL.r_beqFT, ↓DL.r_beqFF, ↓DL.k_onI, ↓DL.k_Fld2, ↓DL.r_fld, ↓DL.k_FldR, ↓DL.k_FldO, ↓DL.r_look, ↓DL.r_lookN, ↓DL.r_putD, ↓DL.r_putDN, ↓DL.k_SF3, ↓DL.r_setFldR, ↓DL.k_SF2, ↓DL.k_SF1, ↓DL.r_setFld, ↓DL.r_methF, ↓DL.k_Me2, ↓DL.r_meth, ↓DL.k_MeR, ↓DL.k_MeO, ↓DL.r_make, ↓DL.k_MkN, ↓DL.r_makeF, ↓DL.k_CG2, ↓DL.k_CG, ↓DL.r_callG, ↓DL.r_callGF, ↓DL.r_listRg, ↓DL.r_tupRg, ↓DL.k_SlR, ↓DL.r_slR, ↓DL.r_enumL, ↓DL.r_max2, ↓DL.r_min2, ↓DL.r_isi2R, ↓DL.r_isiR, ↓DL.r_lst1, ↓DL.r_lst2, ↓DL.r_lst3, ↓DL.r_lst4, ↓DL.r_lst5, ↓DL.r_lst6, ↓DL.r_lst7, ↓DL.r_lst8, ↓DL.r_lst9, ↓DL.r_lst10, ↓DL.r_lst11, ↓DL.r_lst12, ↓DL.r_seqR, ↓DL.k_ForR, ↓DL.r_minL, ↓DL.r_clr, ↓DL.k_Clr1R, ↓DL.k_LstR, ↓DL.r_listRef, ↓DL.k_Clr2, ↓DL.Kt.seq_nx, ↓DL.Kt.seq_rt, ↓DL.Kt.seq_bk, ↓DL.Kt.seq_ct, ↓DL.Kt.seq_ex, ↓DL.Kt.fin_nx, ↓DL.Kt.fin_rt, ↓DL.Kt.fin_ex, ↓DL.Kt.loop_nx, ↓DL.Kt.loop_rt, ↓DL.Kt.loop_bk, ↓DL.Kt.loop_ct, ↓DL.Kt.loop_ex, ↓DL.C.run_ret, ↓DL.mset_same, ↓DL.mset_mset, startD, ixN, Option.bind_some, Option.map_some, List.map_cons, List.map_nil, List.length_cons, List.length_nil, List.length_set, List.replicate, List.cons_append, List.nil_append, List.append_nil, List.set_cons_zero, List.set_cons_succ, List.getElem?_cons_zero, List.getElem?_cons_succ, Nat.reduceAdd, Nat.reduceSub, Nat.zero_add, if_true, if_false, decide_eq_true_eq, reduceIte, Bool.not_true, Bool.not_false, beq_self_eq_true, Bool.false_eq_true, Int.reduceLT, Int.reduceLE, Int.reduceNeg, Int.reduceToNat, Int.reduceAdd, Int.reduceSub, Nat.reduceLT, Nat.reduceLeDiff, Int.cast_ofNat_Int, Int.reduceEq, Int.reduceBEq, DL.wipeD, decide_true, decide_false, not_true_eq_false, not_false_eq_true, String.reduceEq, Bool.or_true, Bool.or_false, Bool.true_or, Bool.false_or, Bool.and_true, Bool.and_false, Bool.true_and, Bool.false_and, Bool.not_not, Nat.reduceEqDiff, Int.toNat_natCast, Decidable.not_not, List.mem_cons, List.not_mem_nil, or_false, or_true, true_or, false_or, and_true, true_and, and_self, and_false, false_and, reduceCtorEq, Option.isNone_some, Option.isNone_none, Option.isSome_some, Option.isSome_none])
local macro_rules | `(tactic| walk_at "h") => `(tactic| simp -implicitDefEqProofs only [↓DL.k_F, ↓DL.k_M, ↓DL.k_onV, ↓DL.k_onL, ↓DL.k_onO, ↓DL.k_onN, ↓DL.r_C, ↓DL.r_var, ↓DL.k_Op2, ↓DL.k_Op, ↓DL.r_op, ↓DL.r_un, ↓DL.r_app, ↓DL.r_call, ↓DL.r_callF, ↓DL.k_CK2, ↓DL.k_CK, ↓DL.r_callK, ↓DL.r_callKF, ↓DL.r_nil, ↓DL.k_A2, ↓DL.k_A, ↓DL.r_cons, ↓DL.k_AndT, ↓DL.k_AndF, ↓DL.r_and, ↓DL.k_OrT, ↓DL.k_OrF, ↓DL.r_or, ↓DL.k_Not, ↓DL.r_not, ↓DL.k_EIfT, ↓DL.k_EIfF, ↓DL.r_eIf, ↓DL.k_Ch3T, ↓DL.k_Ch3F, ↓DL.k_Ch2, ↓DL.k_Ch1, ↓DL.r_chain, ↓DL.k_T, ↓DL.r_of, ↓DL.k_TAT, ↓DL.k_TAF, ↓DL.r_tand, ↓DL.k_TOT, ↓DL.k_TOF, ↓DL.r_tor, ↓DL.k_TN, ↓DL.r_tnot, ↓DL.r_tTrue, ↓DL.k_Asg, ↓DL.r_asg, ↓DL.k_Nx, ↓DL.r_expr, ↓DL.k_Rt, ↓DL.r_ret, ↓DL.r_retN, ↓DL.k_IfT, ↓DL.k_IfF, ↓DL.r_if, ↓DL.r_seq, ↓DL.r_next, ↓DL.r_break, ↓DL.r_cont, ↓DL.r_stuck, ↓DL.k_G, ↓DL.r_asgG, ↓DL.k_For, ↓DL.r_for, ↓DL.k_SI3, ↓DL.k_SI2, ↓DL.k_SI, ↓DL.r_setItemS, ↓DL.k_Ap3, ↓DL.k_Ap2, ↓DL.k_Ap1, ↓DL.r_apd, ↓DL.r_gN, ↓DL.r_iSeq, ↓DL.r_iApp, ↓DL.k_Body, ↓DL.k_Sl3, ↓DL.k_Sl2, ↓DL.k_Sl1, ↓DL.r_sl, ↓DL.r_oNone, ↓DL.k_OS, ↓DL.r_oSome, ↓DL.r_slT, ↓DL.r_slL, ↓DL.r_slS, ↓DL.r_retL, ↓DL.r_newL, ↓DL.r_lc, ↓DL.r_lcM, ↓DL.r_add, ↓DL.r_sub, ↓DL.r_mod, ↓DL.r_div, ↓DL.r_pow1018, ↓DL.r_lt, ↓DL.r_le, ↓DL.r_gt, ↓DL.r_ge, ↓DL.r_neg, ↓DL.r_eqII, ↓DL.r_neII, ↓DL.r_eqSS, ↓DL.r_neSS, ↓DL.r_eqBB, ↓DL.r_neBB, ↓DL.r_isN, ↓DL.r_isB, ↓DL.r_notN, ↓DL.r_int1, ↓DL.r_intb, ↓DL.r_abs, ↓DL.k_Get, ↓DL.r_ixT, ↓DL.r_ixL, ↓DL.r_asLR, ↓DL.r_asLL, ↓DL.r_ixRef, ↓DL.r_lenT, ↓DL.r_lenL, ↓DL.k_Len, ↓DL.r_lenRef, ↓DL.r_sumRef, ↓DL.k_SetJ, ↓DL.k_Set, ↓DL.r_setRef, ↓DL.k_App, ↓DL.r_appRef, ↓DL.r_tup0, ↓DL.r_tup1, ↓DL.r_tup2, ↓DL.r_tup3, ↓DL.r_tup4, ↓DL.r_tup5, ↓DL.r_tup6, ↓DL.r_tup7, ↓DL.r_tup8, ↓DL.r_lst0, ↓DL.r_ref0, ↓DL.r_ref1, ↓DL.r_ref2, ↓DL.r_ref3, ↓DL.r_ref4, ↓DL.r_ref5, ↓DL.r_ref6, ↓DL.r_listL, ↓DL.r_listT, ↓DL.r_tupleL, ↓DL.r_seqT, ↓DL.r_seqL, ↓DL.r_range1, ↓DL.r_range2, ↓DL.r_strEq, ↓DL.r_strEq2, ↓DL.r_isT0, ↓DL.r_isT1, ↓DL.r_isT2, ↓DL.r_isT3, ↓DL.r_isT4, ↓DL.r_isT5, ↓DL.r_isT6, ↓DL.r_isT7, ↓DL.r_isT8, ↓DL.r_isT9, ↓DL.r_isT10, ↓DL.r_isT11, ↓DL.r_isT12, ↓DL.r_isT13, ↓DL.r_isT14, ↓DL.r_isT15, ↓DL.r_isT16, ↓DL.r_isT17, ↓DL.r_isT18, ↓DL.r_isT19, ↓DL.r_isT20, ↓DL.r_isT21, ↓DL.r_isT22, ↓DL.r_isT23, ↓DL.r_isT24, ↓DL.r_isT25, ↓DL.r_isT26, ↓DL.r_isT27, ↓DL.r_isT28, ↓DL.r_isT29, ↓DL.r_isT30, ↓DL.r_isT31, ↓DL.r_isT32, ↓DL.r_isT33, ↓DL.r_isT34, ↓DL.r_isT35, ↓DL.r_isiN, ↓DL.r_isi2N, ↓DL.r_isiB, ↓DL.r_isi2B, ↓DL.r_isiI, ↓DL.r_isi2I, ↓DL.r_isiS, ↓DL.r_isi2S, ↓DL.r_isiT, ↓DL.r_isi2T, ↓DL.r_isiL, ↓DL.r_isi2L, ↓DL.r_inTI, ↓DL.r_ninTI, ↓DL.r_inLI, ↓DL.r_ninLI, ↓DL.r_inTS, ↓DL.r_inD_nil, ↓DL.r_inD_cons, ↓DL.r_flat_nil, ↓DL.r_flat_cons, ↓DL.r_flatS, ↓DL.r_flatI, ↓DL.r_eqvSS, ↓DL.r_eqvII, ↓DL.r_addLL, ↓DL.r_atm1, ↓DL.r_atm2, ↓DL.r_at0, ↓DL.r_at1, ↓DL.r_at2, ↓DL.r_at3, ↓DL.r_at4, ↓DL.r_at5, ↓DL.r_at6, ↓DL.r_at7, ↓DL.r_at8, ↓DL.r_beqI, ↓DL.r_ndec, ↓DL.r_gT, ↓DL.k_Gs, ↓DL.r_gsCons, ↓DL.r_gsNil, ↓DL.r_isDNN, ↓DL.r_isDBB, ↓DL.r_isDBN, ↓DL.r_isDNB, ↓DL.r_isDIN, ↓DL.r_isDIB, ↓DL.r_isDSN, ↓DL.r_isDSB, ↓DL.r_isDTN, ↓DL.r_isDTB, ↓DL.r_isDLN, ↓DL.r_isDLB, ↓DL.r_isDRN, ↓DL.r_isDRB, ↓DL.r_beqTT, ↓DL.r_beqTF, ↓DL.r_beqFT, ↓DL.r_beqFF, ↓DL.k_onI, ↓DL.k_Fld2, ↓DL.r_fld, ↓DL.k_FldR, ↓DL.k_FldO, ↓DL.r_look, ↓DL.r_lookN, ↓DL.r_putD, ↓DL.r_putDN, ↓DL.k_SF3, ↓DL.r_setFldR, ↓DL.k_SF2, ↓DL.k_SF1, ↓DL.r_setFld, ↓DL.r_methF, ↓DL.k_Me2, ↓DL.r_meth, ↓DL.k_MeR, ↓DL.k_MeO, ↓DL.r_make, ↓DL.k_MkN, ↓DL.r_makeF, ↓DL.k_CG2, ↓DL.k_CG, ↓DL.r_callG, ↓DL.r_callGF, ↓DL.r_listRg, ↓DL.r_tupRg, ↓DL.k_SlR, ↓DL.r_slR, ↓DL.r_enumL, ↓DL.r_max2, ↓DL.r_min2, ↓DL.r_isi2R, ↓DL.r_isiR, ↓DL.r_lst1, ↓DL.r_lst2, ↓DL.r_lst3, ↓DL.r_lst4, ↓DL.r_lst5, ↓DL.r_lst6, ↓DL.r_lst7, ↓DL.r_lst8, ↓DL.r_lst9, ↓DL.r_lst10, ↓DL.r_lst11, ↓DL.r_lst12, ↓DL.r_seqR, ↓DL.k_ForR, ↓DL.r_minL, ↓DL.r_clr, ↓DL.k_Clr1R, ↓DL.k_LstR, ↓DL.r_listRef, ↓DL.k_Clr2, ↓DL.Kt.seq_nx, ↓DL.Kt.seq_rt, ↓DL.Kt.seq_bk, ↓DL.Kt.seq_ct, ↓DL.Kt.seq_ex, ↓DL.Kt.fin_nx, ↓DL.Kt.fin_rt, ↓DL.Kt.fin_ex, ↓DL.Kt.loop_nx, ↓DL.Kt.loop_rt, ↓DL.Kt.loop_bk, ↓DL.Kt.loop_ct, ↓DL.Kt.loop_ex, ↓DL.C.run_ret, ↓DL.mset_same, ↓DL.mset_mset, startD, ixN, Option.bind_some, Option.map_some, List.map_cons, List.map_nil, List.length_cons, List.length_nil, List.length_set, List.replicate, List.cons_append, List.nil_append, List.append_nil, List.set_cons_zero, List.set_cons_succ, List.getElem?_cons_zero, List.getElem?_cons_succ, Nat.reduceAdd, Nat.reduceSub, Nat.zero_add, if_true, if_false, decide_eq_true_eq, reduceIte, Bool.not_true, Bool.not_false, beq_self_eq_true, Bool.false_eq_true, Int.reduceLT, Int.reduceLE, Int.reduceNeg, Int.reduceToNat, Int.reduceAdd, Int.reduceSub, Nat.reduceLT, Nat.reduceLeDiff, Int.cast_ofNat_Int, Int.reduceEq, Int.reduceBEq, DL.wipeD, decide_true, decide_false, not_true_eq_false, not_false_eq_true, String.reduceEq, Bool.or_true, Bool.or_false, Bool.true_or, Bool.false_or, Bool.and_true, Bool.and_false, Bool.true_and, Bool.false_and, Bool.not_not, Nat.reduceEqDiff, Int.toNat_natCast, Decidable.not_not, List.mem_cons, List.not_mem_nil, or_false, or_true, true_or, false_or, and_true, true_and, and_self, and_false, false_and, reduceCtorEq, Option.isNone_some, Option.isNone_none, Option.isSome_some, Option.isSome_none, *])
local macro_rules | `(tactic| walk_at "s") => `(tactic| ((try walk_at "h"); repeat' ((first | with_reducible refine if_dec (fun _ => ?_) (fun _ => ?_) | with_reducible refine eif_dec (fun _ => ?_) (fun _ => ?_) | with_reducible refine tor_dec (fun _ => ?_) (fun _ => ?_) | with_reducible refine tand_dec (fun _ => ?_) (fun _ => ?_) | with_reducible refine and_dec (fun _ => ?_) (fun _ => ?_) | with_reducible refine or_dec (fun _ => ?_) (fun _ => ?_) | with_reducible refine ch_dec (fun _ => ?_) (fun _ => ?_)) <;> (try walk_at "h"))))
inductive Ev where
  | write (v : Int)
  | wrote
  | read
  | told (v : Int)
def Ev.d : Ev → D
  | .write v => .tup [.str "write", .int v]
  | .wrote => .tup [.str "wrote"]
  | .read => .tup [.str "read"]
  | .told v => .tup [.str "told", .int v]
def okStep (size : Int) : Bool × Bool → Ev → Option (Bool × Bool)
  | (w, r), .write v => if w = false ∧ 0 ≤ v ∧ v < size then some (true, r) else none
  | (w, r), .wrote => if w = true then some (false, r) else none
  | (w, r), .read => if r = false then some (w, true) else none
  | (w, r), .told v => if r = true ∧ 0 ≤ v ∧ v < size then some (w, false) else none
theorem ok_write {size v : Int} {r : Bool} (h0 : 0 ≤ v) (h1 : v < size) : okStep size (false, r) (.write v) = some (true, r) := if_pos ⟨rfl, h0, h1⟩
theorem ok_told {size v : Int} {w : Bool} (h0 : 0 ≤ v) (h1 : v < size) : okStep size (w, true) (.told v) = some (w, false) := if_pos ⟨rfl, h0, h1⟩
def hist (size : Int) (evs : List Ev) : Option (Bool × Bool) := evs.foldlM (okStep size) (false, false)
theorem hist_snoc {size : Int} {evs : List Ev} {e : Ev} {s s' : Bool × Bool} (h : hist size evs = some s) (h2 : okStep size s e = some s') : hist size (evs ++ [e]) = some s' := by
  unfold hist at h ⊢
  rw [List.foldlM_append, h]
  show (okStep size s e).bind _ = _
  rw [h2]; rfl
theorem evs_snoc (evs : List Ev) (e : Ev) : evs.map Ev.d ++ [e.d] = (evs ++ [e]).map Ev.d := by rw [List.map_append]; rfl
theorem evs_write (evs : List Ev) (v : Int) : evs.map Ev.d ++ [.tup [.str "write", .int v]] = (evs ++ [Ev.write v]).map Ev.d := evs_snoc evs (.write v)
theorem evs_told (evs : List Ev) (v : Int) : evs.map Ev.d ++ [.tup [.str "told", .int v]] = (evs ++ [Ev.told v]).map Ev.d := evs_snoc evs (.told v)
theorem evs_read (evs : List Ev) : evs.map Ev.d ++ [.tup [.str "read"]] = (evs ++ [Ev.read]).map Ev.d := evs_snoc evs .read
theorem evs_wrote (evs : List Ev) : evs.map Ev.d ++ [.tup [.str "wrote"]] = (evs ++ [Ev.wrote]).map Ev.d := evs_snoc evs .wrote
theorem ints_snoc (ws : List Int) (v : Int) : ws.map D.int ++ [.int v] = (ws ++ [v]).map D.int := by rw [List.map_append]; rfl
structure HI (m0 : Mem) (p c e w : Addr) (size start most N : Int) (i : Int) (δ : DSt) (m : Mem) : Prop where
  ex : ∃ (evs : List Ev) (ws : List Int) (en lo : Int) (wr rd : Bool) (x10 x11 : Option D), δ = [some (.ref p), some (.int size), some (.int start), some (.int most), some (.ref e), some (.ref w), some (.int en), some (.int lo), some (.bl wr), some (.bl rd), x10, x11] ∧
    m e = some (.lst (evs.map Ev.d)) ∧ m w = some (.lst (ws.map D.int)) ∧ PoolAt m p c (N + 4 * i) ∧ hist size evs = some (wr, rd) ∧ (evs.length : Int) ≤ i ∧ (ws.length : Int) ≤ i + 1 ∧ (∀ v ∈ ws, 0 ≤ v ∧ v < size) ∧ 0 ≤ en ∧ en < ws.length ∧ 0 ≤ lo ∧ lo < ws.length ∧
    (∀ a, a ≠ p → a ≠ c → a ≠ e → a ≠ w → m a = m0 a)
theorem len_lt {α : Type} {l : List α} {k : Int} (h : (l.length : Int) ≤ k) (hk : k ≤ 1000) : l.length < sizeLine := Nat.lt_of_lt_of_le (show l.length < 1001 by omega) (by decide)
theorem history_spec {m : Mem} {p c : Addr} {size start most N : Int} {Q : D → Mem → Prop} {E : Xn → Mem → Prop} (hP : PoolAt m p c N) (hN : N + 4 * most + 1000 < 549755813888) (hs : 2 ≤ size) (hs2 : size ≤ 5) (h0 : 0 ≤ start) (h1 : start < size) (hm : 0 ≤ most) (hm2 : most ≤ 900)
    (h : ∀ (evs : List Ev) (wr rd : Bool) (m' : Mem), hist size evs = some (wr, rd) → (evs.length : Int) ≤ most → PoolAt m' p c (N + 4 * most + 1) → Same p c m m' → Q (.lst (evs.map Ev.d)) m') : (d__law_history [.ref p, .int size, .int start, .int most]).run m Q E := by
  unfold d__law_history
  refine fn_run ?_
  unfold p__law_history
  walk_at "d"
  intro e he w hw
  have hpe : p ≠ e := fun q => by rw [← q] at he; obtain ⟨_, _, _, _, _, _, e1, _⟩ := hP; rw [e1] at he; cases he
  have hce : c ≠ e := fun q => by rw [← q] at he; obtain ⟨_, _, _, _, _, _, e1, e2, _⟩ := hP; rw [e2] at he; cases he
  have hwe : w ≠ e := fun q => by rw [q, mset_same] at hw; cases hw
  have hw0 : m w = none := by rw [mset_ne hwe] at hw; exact hw
  have hpw : p ≠ w := fun q => by rw [← q] at hw0; obtain ⟨_, _, _, _, _, _, e1, _⟩ := hP; rw [e1] at hw0; cases hw0
  have hcw : c ≠ w := fun q => by rw [← q] at hw0; obtain ⟨_, _, _, _, _, _, e1, e2, _⟩ := hP; rw [e2] at hw0; cases hw0
  refine draw_spec (N := N) (hP.up (by omega) (by rw [mset_ne hpw, mset_ne hpe]) (by rw [mset_ne hcw, mset_ne hce])) (by omega) (by omega) (by omega) fun k m1 hk0 hk1 hP1 hS1 => ?_
  have hk3 : small62 k = true := by rw [small62_iff]; omega
  walk_at "d"
  rw [r_range1 hk3]
  walk_at "d"
  refine for_int hk0 (HI m p c e w size start most (N + 1)) ?_ ?_ ?_
  · refine ⟨[], [start], 0, 0, false, false, none, none, rfl, ?_, ?_, hP1.up (by omega) rfl rfl, rfl, by simp, by simp, ?_, by omega, by simp, by omega, by simp, ?_⟩
    · rw [hS1 e hpe.symm hce.symm, mset_ne hwe.symm, mset_same]; rfl
    · rw [hS1 w hpw.symm hcw.symm, mset_same]; rfl
    · intro v hv; cases List.mem_singleton.mp hv; exact ⟨h0, h1⟩
    · intro a a1 a2 a3 a4; rw [hS1 a a1 a2, mset_ne a4, mset_ne a3]
  · rintro i δ m2 hi0 hi1 ⟨evs, ws, en, lo, wr, rd, x10, x11, rfl, g1, g2, g3, g4, g5, g6, g7, g8, g9, g10, g11, g12⟩
    walk_at "d"
    unfold p__law_history_b0
    walk_at "d"
    refine draw_spec g3 (by omega) (by omega) (by omega) fun r m3 hr0 hr1 hP3 hS3 => ?_
    have f1 := (hS3 e hpe.symm hce.symm).trans g1
    have f2 := (hS3 w hpw.symm hcw.symm).trans g2
    have f12 : ∀ a, a ≠ p → a ≠ c → a ≠ e → a ≠ w → m3 a = m a := fun a a1 a2 a3 a4 => (hS3 a a1 a2).trans (g12 a a1 a2 a3 a4)
    clear g1 g2 g3 g12 hS3 hS1 hP1 hk3 hP h
    have z1 := len_lt (l := evs.map Ev.d) (k := 1000) (by rw [List.length_map]; omega) (by omega)
    have z2 := len_lt (l := ws.map D.int) (k := 1000) (by rw [List.length_map]; omega) (by omega)
    walk_at "d"
    refine if_dec (fun hr => ?_) (fun hr => ?_)
    · walk_at "d"
      cases wr with
      | true =>
        walk_at "d"
        rw [f1]
        walk_at "h"
        rw [mset_ne hwe, f2]
        walk_at "d"
        refine ⟨evs ++ [.wrote], ws, _, lo, false, rd, _, x11, rfl, ?_, ?_, ?_, hist_snoc g4 rfl, ?_, by omega, g7, ?_, ?_, g10, g11, ?_⟩
        · rw [mset_same, ← evs_snoc]; rfl
        · rw [mset_ne hwe]; exact f2
        · exact hP3.up (by omega) (mset_ne hpe) (mset_ne hce)
        · rw [List.length_append]; show ((evs.length + 1 : Nat) : Int) ≤ i + 1; omega
        · rw [List.length_map]; omega
        · rw [List.length_map]; omega
        · intro a a1 a2 a3 a4; rw [mset_ne a3]; exact f12 a a1 a2 a3 a4
      | false =>
        walk_at "d"
        rw [f2]
        walk_at "d"
        refine draw_spec hP3 (by omega) (by omega) (by omega) fun v m4 hv0 hv1 hP4 hS4 => ?_
        have k1 := (hS4 e hpe.symm hce.symm).trans f1
        have k2 := (hS4 w hpw.symm hcw.symm).trans f2
        walk_at "d"
        rw [k2]
        have k3 : ∀ o, mset m4 w o e = some (.lst (evs.map Ev.d)) := fun o => (mset_ne hwe.symm).trans k1
        walk_at "h"
        rw [ints_snoc, evs_write]
        refine ⟨evs ++ [.write v], ws ++ [v], en, lo, true, rd, _, x11, rfl, ?_, ?_, ?_, hist_snoc g4 (ok_write hv0 hv1), ?_, ?_, ?_, g8, ?_, g10, ?_, ?_⟩
        · rw [mset_same]
        · rw [mset_ne hwe, mset_same]
        · exact hP4.up (by omega) (by rw [mset_ne hpe, mset_ne hpw]) (by rw [mset_ne hce, mset_ne hcw])
        · rw [List.length_append]; show ((evs.length + 1 : Nat) : Int) ≤ i + 1; omega
        · rw [List.length_append]; show ((ws.length + 1 : Nat) : Int) ≤ i + 1 + 1; omega
        · intro u hu
          rcases List.mem_append.mp hu with hu | hu
          · exact g7 u hu
          · cases List.mem_singleton.mp hu; exact ⟨hv0, hv1⟩
        · rw [List.length_append]; show en < ((ws.length + 1 : Nat) : Int); omega
        · rw [List.length_append]; show lo < ((ws.length + 1 : Nat) : Int); omega
        · intro a a1 a2 a3 a4; rw [mset_ne a3, mset_ne a4, hS4 a a1 a2]; exact f12 a a1 a2 a3 a4
    · walk_at "d"
      cases rd with
      | true =>
        walk_at "d"
        rw [f2]
        walk_at "d"
        refine draw_spec hP3 (by omega) (by rw [List.length_map]; omega) (by rw [List.length_map]; omega) fun q m4 hq0 hq1 hP4 hS4 => ?_
        have k1 := (hS4 e hpe.symm hce.symm).trans f1
        have k2 := (hS4 w hpw.symm hcw.symm).trans f2
        rw [List.length_map] at hq1
        have hlt : (lo + q).toNat < ws.length := by omega
        have z3 : atI (ws.map D.int) (lo + q) = some (.int ws[(lo + q).toNat]) := atI_of (by omega) (by rw [List.getElem?_map, List.getElem?_eq_getElem hlt]; rfl)
        obtain ⟨hv0, hv1⟩ := g7 _ (List.getElem_mem hlt)
        generalize ws[(lo + q).toNat] = v at z3 hv0 hv1
        walk_at "d"
        rw [k2]
        walk_at "h"
        refine draw_spec hP4 (by omega) (by omega) (by omega) fun q2 m5 _ _ hP5 hS5 => ?_
        have fin : ∀ (u : Int) (m6 : Mem), 0 ≤ u → u < size → PoolAt m6 p c (N + 1 + 4 * i + 1 + 1 + 1 + 1) → Same p c m5 m6 → HI m p c e w size start most (N + 1) (i + 1) [some (.ref p), some (.int size), some (.int start), some (.int most), some (.ref e), some (.ref w), some (.int en), some (.int lo), some (.bl wr), some (.bl false), some (.int i), some (.int u)] (mset m6 e (MO.lst (evs.map Ev.d ++ [.tup [.str "told", .int u]]))) := by
          intro u m6 hu0 hu1 hP6 hS6
          have j2 := (hS6 w hpw.symm hcw.symm).trans ((hS5 w hpw.symm hcw.symm).trans k2)
          rw [evs_told]
          refine ⟨evs ++ [.told u], ws, en, lo, wr, false, _, _, rfl, ?_, ?_, ?_, hist_snoc g4 (ok_told hu0 hu1), ?_, by omega, g7, g8, g9, g10, g11, ?_⟩
          · rw [mset_same]
          · rw [mset_ne hwe]; exact j2
          · exact hP6.up (by omega) (mset_ne hpe) (mset_ne hce)
          · rw [List.length_append]; show ((evs.length + 1 : Nat) : Int) ≤ i + 1; omega
          · intro a a1 a2 a3 a4; rw [mset_ne a3, hS6 a a1 a2, hS5 a a1 a2, hS4 a a1 a2]; exact f12 a a1 a2 a3 a4
        walk_at "d"
        refine if_dec (fun hq => ?_) (fun hq => ?_)
        · walk_at "d"
          refine draw_spec hP5 (by omega) (by omega) (by omega) fun u m6 hu0 hu1 hP6 hS6 => ?_
          have k6 := (hS6 e hpe.symm hce.symm).trans ((hS5 e hpe.symm hce.symm).trans k1)
          walk_at "h"
        · have k6 := (hS5 e hpe.symm hce.symm).trans k1
          walk_at "h"
          exact fin v m5 hv0 hv1 (hP5.up (by omega) rfl rfl) Same.rfl
      | false =>
        walk_at "d"
        rw [f1]
        walk_at "h"
        rw [evs_read]
        refine ⟨evs ++ [.read], ws, en, en, wr, true, _, x11, rfl, ?_, ?_, ?_, hist_snoc g4 rfl, ?_, by omega, g7, g8, g9, g8, g9, ?_⟩
        · rw [mset_same]
        · rw [mset_ne hwe]; exact f2
        · exact hP3.up (by omega) (mset_ne hpe) (mset_ne hce)
        · rw [List.length_append]; show ((evs.length + 1 : Nat) : Int) ≤ i + 1; omega
        · intro a a1 a2 a3 a4; rw [mset_ne a3]; exact f12 a a1 a2 a3 a4
  · rintro δ m2 ⟨evs, ws, en, lo, wr, rd, x10, x11, rfl, g1, g2, g3, g4, g5, g6, g7, g8, g9, g10, g11, g12⟩
    walk_at "d"
    rw [run_sFrz (a := e) rfl g1]
    walk_at "d"
    rw [run_sFrz (a := w) rfl ((mdel_ne hwe).trans g2)]
    walk_at "d"
    refine h evs wr rd _ g4 (by omega) (g3.up (by omega) (by rw [mdel_ne hpw, mdel_ne hpe]) (by rw [mdel_ne hcw, mdel_ne hce])) fun a a1 a2 => ?_
    by_cases a4 : a = w
    · rw [a4, mdel_same, hw0]
    · rw [mdel_ne a4]
      by_cases a3 : a = e
      · rw [a3, mdel_same, he]
      · rw [mdel_ne a3]; exact g12 a a1 a2 a3 a4

local macro_rules | `(tactic| walk_at "d") => `(tactic| simp -implicitDefEqProofs only [↓DL.k_F, ↓DL.k_M, ↓DL.k_onV, ↓DL.k_onL, ↓DL.k_onO, ↓DL.k_onN, ↓DL.r_C, ↓DL.r_var, ↓DL.k_Op2, ↓DL.k_Op, ↓DL.r_op, ↓DL.r_un, ↓DL.r_app, ↓DL.r_call, ↓DL.r_callF, ↓DL.k_CK2, ↓DL.k_CK, ↓DL.r_callK, ↓DL.r_callKF, ↓DL.r_nil, ↓DL.k_A2, ↓DL.k_A, ↓DL.r_cons, ↓DL.k_AndT, ↓DL.k_AndF, ↓DL.r_and, ↓DL.k_OrT, ↓DL.k_OrF, ↓DL.r_or, ↓DL.k_Not, ↓DL.r_not, ↓DL.k_EIfT, ↓DL.k_EIfF, ↓DL.r_eIf, ↓DL.k_Ch3T, ↓DL.k_Ch3F, ↓DL.k_Ch2, ↓DL.k_Ch1, ↓DL.r_chain, ↓DL.k_T, ↓DL.r_of, ↓DL.k_TAT, ↓DL.k_TAF, ↓DL.r_tand, ↓DL.k_TOT, ↓DL.k_TOF, ↓DL.r_tor, ↓DL.k_TN, ↓DL.r_tnot, ↓DL.r_tTrue, ↓DL.k_Asg, ↓DL.r_asg, ↓DL.k_Nx, ↓DL.r_expr, ↓DL.k_Rt, ↓DL.r_ret, ↓DL.r_retN, ↓DL.k_IfT, ↓DL.k_IfF, ↓DL.r_if, ↓DL.r_seq, ↓DL.r_next, ↓DL.r_break, ↓DL.r_cont, ↓DL.r_stuck, ↓DL.k_G, ↓DL.r_asgG, ↓DL.k_For, ↓DL.r_for, ↓DL.k_SI3, ↓DL.k_SI2, ↓DL.k_SI, ↓DL.r_setItemS, ↓DL.k_Ap3, ↓DL.k_Ap2, ↓DL.k_Ap1, ↓DL.r_apd, ↓DL.r_gN, ↓DL.r_iSeq, ↓DL.r_iApp, ↓DL.k_Body, ↓DL.k_Sl3, ↓DL.k_Sl2, ↓DL.k_Sl1, ↓DL.r_sl, ↓DL.r_oNone, ↓DL.k_OS, ↓DL.r_oSome, ↓DL.r_slT, ↓DL.r_slL, ↓DL.r_slS, ↓DL.r_retL, ↓DL.r_newL, ↓DL.r_lc, ↓DL.r_lcM, ↓DL.r_add, ↓DL.r_sub, ↓DL.r_mod, ↓DL.r_div, ↓DL.r_pow1018, ↓DL.r_lt, ↓DL.r_le, ↓DL.r_gt, ↓DL.r_ge, ↓DL.r_neg, ↓DL.r_eqII, ↓DL.r_neII, ↓DL.r_eqSS, ↓DL.r_neSS, ↓DL.r_eqBB, ↓DL.r_neBB, ↓DL.r_isN, ↓DL.r_isB, ↓DL.r_notN, ↓DL.r_int1, ↓DL.r_intb, ↓DL.r_abs, ↓DL.k_Get, ↓DL.r_ixT, ↓DL.r_ixL, ↓DL.r_asLR, ↓DL.r_asLL, ↓DL.r_ixRef, ↓DL.r_lenT, ↓DL.r_lenL, ↓DL.k_Len, ↓DL.r_lenRef, ↓DL.r_sumRef, ↓DL.k_SetJ, ↓DL.k_Set, ↓DL.r_setRef, ↓DL.k_App, ↓DL.r_appRef, ↓DL.r_tup0, ↓DL.r_tup1, ↓DL.r_tup2, ↓DL.r_tup3, ↓DL.r_tup4, ↓DL.r_tup5, ↓DL.r_tup6, ↓DL.r_tup7, ↓DL.r_tup8, ↓DL.r_lst0, ↓DL.r_ref0, ↓DL.r_ref1, ↓DL.r_ref2, ↓DL.r_ref3, ↓DL.r_ref4, ↓DL.r_ref5, ↓DL.r_ref6, ↓DL.r_listL, ↓DL.r_listT, ↓DL.r_tupleL, ↓DL.r_seqT, ↓DL.r_seqL, ↓DL.r_range1, ↓DL.r_range2, ↓DL.r_strEq, ↓DL.r_strEq2, ↓DL.r_isT0, ↓DL.r_isT1, ↓DL.r_isT2, ↓DL.r_isT3, ↓DL.r_isT4, ↓DL.r_isT5, ↓DL.r_isT6, ↓DL.r_isT7, ↓DL.r_isT8, ↓DL.r_isT9, ↓DL.r_isT10, ↓DL.r_isT11, ↓DL.r_isT12, ↓DL.r_isT13, ↓DL.r_isT14, ↓DL.r_isT15, ↓DL.r_isT16, ↓DL.r_isT17, ↓DL.r_isT18, ↓DL.r_isT19, ↓DL.r_isT20, ↓DL.r_isT21, ↓DL.r_isT22, ↓DL.r_isT23, ↓DL.r_isT24, ↓DL.r_isT25, ↓DL.r_isT26, ↓DL.r_isT27, ↓DL.r_isT28, ↓DL.r_isT29, ↓DL.r_isT30, ↓DL.r_isT31, ↓DL.r_isT32, ↓DL.r_isT33, ↓DL.r_isT34, ↓DL.r_isT35, ↓DL.r_isiN, ↓DL.r_isi2N, ↓DL.r_isiB, ↓DL.r_isi2B, ↓DL.r_isiI, ↓DL.r_isi2I, ↓DL.r_isiS, ↓DL.r_isi2S, ↓DL.r_isiT, ↓DL.r_isi2T, ↓DL.r_isiL, ↓DL.r_isi2L, ↓DL.r_inTI, ↓DL.r_ninTI, ↓DL.r_inLI, ↓DL.r_ninLI, ↓DL.r_inTS, ↓DL.r_inD_nil, ↓DL.r_inD_cons, ↓DL.r_flat_nil, ↓DL.r_flat_cons, ↓DL.r_flatS, ↓DL.r_flatI, ↓DL.r_eqvSS, ↓DL.r_eqvII, ↓DL.r_addLL, ↓DL.r_atm1, ↓DL.r_atm2, ↓DL.r_at0, ↓DL.r_at1, ↓DL.r_at2, ↓DL.r_at3, ↓DL.r_at4, ↓DL.r_at5, ↓DL.r_at6, ↓DL.r_at7, ↓DL.r_at8, ↓DL.r_beqI, ↓DL.r_ndec, ↓DL.r_gT, ↓DL.k_Gs, ↓DL.r_gsCons, ↓DL.r_gsNil, ↓DL.r_isDNN, ↓DL.r_isDBB, ↓DL.r_isDBN, ↓DL.r_isDNB, ↓DL.r_isDIN, ↓DL.r_isDIB, ↓DL.r_isDSN, ↓DL.r_isDSB, ↓DL.r_isDTN, ↓DL.r_isDTB, ↓DL.r_isDLN, ↓DL.r_isDLB, ↓DL.r_isDRN, ↓DL.r_isDRB, ↓DL.r_beqTT, ↓DL.r_beqTF, ↓DL.r_beqFT, ↓DL.r_beqFF, ↓DL.k_onI, ↓DL.k_Fld2, ↓DL.r_fld, ↓DL.k_FldR, ↓DL.k_FldO, ↓DL.r_look, ↓DL.r_lookN, ↓DL.r_putD, ↓DL.r_putDN, ↓DL.k_SF3, ↓DL.r_setFldR, ↓DL.k_SF2, ↓DL.k_SF1, ↓DL.r_setFld, ↓DL.r_methF, ↓DL.k_Me2, ↓DL.r_meth, ↓DL.k_MeR, ↓DL.k_MeO, ↓DL.r_make, ↓DL.k_MkN, ↓DL.r_makeF, ↓DL.k_CG2, ↓DL.k_CG, ↓DL.r_callG, ↓DL.r_callGF, ↓DL.r_listRg, ↓DL.r_tupRg, ↓DL.k_SlR, ↓DL.r_slR, ↓DL.r_enumL, ↓DL.r_max2, ↓DL.r_min2, ↓DL.r_isi2R, ↓DL.r_isiR, ↓DL.r_lst1, ↓DL.r_lst2, ↓DL.r_lst3, ↓DL.r_lst4, ↓DL.r_lst5, ↓DL.r_lst6, ↓DL.r_lst7, ↓DL.r_lst8, ↓DL.r_lst9, ↓DL.r_lst10, ↓DL.r_lst11, ↓DL.r_lst12, ↓DL.r_seqR, ↓DL.k_ForR, ↓DL.r_minL, ↓DL.r_clr, ↓DL.k_Clr1R, ↓DL.k_LstR, ↓DL.r_listRef, ↓DL.k_Clr2, ↓DL.Kt.seq_nx, ↓DL.Kt.seq_rt, ↓DL.Kt.seq_bk, ↓DL.Kt.seq_ct, ↓DL.Kt.seq_ex, ↓DL.Kt.fin_nx, ↓DL.Kt.fin_rt, ↓DL.Kt.fin_ex, ↓DL.Kt.loop_nx, ↓DL.Kt.loop_rt, ↓DL.Kt.loop_bk, ↓DL.Kt.loop_ct, ↓DL.Kt.loop_ex, ↓DL.C.run_ret, ↓DL.mset_same, ↓DL.mset_mset, startD, ixN, Option.bind_some, Option.map_some, List.map_cons, List.map_nil, List.length_cons, List.length_nil, List.length_set, List.replicate, List.cons_append, List.nil_append, List.append_nil, List.set_cons_zero, List.set_cons_succ, List.getElem?_cons_zero, List.getElem?_cons_succ, Nat.reduceAdd, Nat.reduceSub, Nat.zero_add, if_true, if_false, decide_eq_true_eq, reduceIte, Bool.not_true, Bool.not_false, beq_self_eq_true, Bool.false_eq_true, Int.reduceLT, Int.reduceLE, Int.reduceNeg, Int.reduceToNat, Int.reduceAdd, Int.reduceSub, Nat.reduceLT, Nat.reduceLeDiff, Int.cast_ofNat_Int, Int.reduceEq, Int.reduceBEq, DL.wipeD, decide_true, decide_false, not_true_eq_false, not_false_eq_true, String.reduceEq, Bool.or_true, Bool.or_false, Bool.true_or, Bool.false_or, Bool.and_true, Bool.and_false, Bool.true_and, Bool.false_and, Bool.not_not, Nat.reduceEqDiff, Int.toNat_natCast, Decidable.not_not, List.mem_cons, List.not_mem_nil, or_false, or_true, true_or, false_or, and_true, true_and, and_self, and_false, false_and, reduceCtorEq, Option.isNone_some, Option.isNone_none, Option.isSome_some, Option.isSome_none])
local macro_rules | `(tactic| walk_at "h") => `(tactic| simp -implicitDefEqProofs only [↓DL.k_F, ↓DL.k_M, ↓DL.k_onV, ↓DL.k_onL, ↓DL.k_onO, ↓DL.k_onN, ↓DL.r_C, ↓DL.r_var, ↓DL.k_Op2, ↓DL.k_Op, ↓DL.r_op, ↓DL.r_un, ↓DL.r_app, ↓DL.r_call, ↓DL.r_callF, ↓DL.k_CK2, ↓DL.k_CK, ↓DL.r_callK, ↓DL.r_callKF, ↓DL.r_nil, ↓DL.k_A2, ↓DL.k_A, ↓DL.r_cons, ↓DL.k_AndT, ↓DL.k_AndF, ↓DL.r_and, ↓DL.k_OrT, ↓DL.k_OrF, ↓DL.r_or, ↓DL.k_Not, ↓DL.r_not, ↓DL.k_EIfT, ↓DL.k_EIfF, ↓DL.r_eIf, ↓DL.k_Ch3T, ↓DL.k_Ch3F, ↓DL.k_Ch2, ↓DL.k_Ch1, ↓DL.r_chain, ↓DL.k_T, ↓DL.r_of, ↓DL.k_TAT, ↓DL.k_TAF, ↓DL.r_tand, ↓DL.k_TOT, ↓DL.k_TOF, ↓DL.r_tor, ↓DL.k_TN, ↓DL.r_tnot, ↓DL.r_tTrue, ↓DL.k_Asg, ↓DL.r_asg, ↓DL.k_Nx, ↓DL.r_expr, ↓DL.k_Rt, ↓DL.r_ret, ↓DL.r_retN, ↓DL.k_IfT, ↓DL.k_IfF, ↓DL.r_if, ↓DL.r_seq, ↓DL.r_next, ↓DL.r_break, ↓DL.r_cont, ↓DL.r_stuck, ↓DL.k_G, ↓DL.r_asgG, ↓DL.k_For, ↓DL.r_for, ↓DL.k_SI3, ↓DL.k_SI2, ↓DL.k_SI, ↓DL.r_setItemS, ↓DL.k_Ap3, ↓DL.k_Ap2, ↓DL.k_Ap1, ↓DL.r_apd, ↓DL.r_gN, ↓DL.r_iSeq, ↓DL.r_iApp, ↓DL.k_Body, ↓DL.k_Sl3, ↓DL.k_Sl2, ↓DL.k_Sl1, ↓DL.r_sl, ↓DL.r_oNone, ↓DL.k_OS, ↓DL.r_oSome, ↓DL.r_slT, ↓DL.r_slL, ↓DL.r_slS, ↓DL.r_retL, ↓DL.r_newL, ↓DL.r_lc, ↓DL.r_lcM, ↓DL.r_add, ↓DL.r_sub, ↓DL.r_mod, ↓DL.r_div, ↓DL.r_pow1018, ↓DL.r_lt, ↓DL.r_le, ↓DL.r_gt, ↓DL.r_ge, ↓DL.r_neg, ↓DL.r_eqII, ↓DL.r_neII, ↓DL.r_eqSS, ↓DL.r_neSS, ↓DL.r_eqBB, ↓DL.r_neBB, ↓DL.r_isN, ↓DL.r_isB, ↓DL.r_notN, ↓DL.r_int1, ↓DL.r_intb, ↓DL.r_abs, ↓DL.k_Get, ↓DL.r_ixT, ↓DL.r_ixL, ↓DL.r_asLR, ↓DL.r_asLL, ↓DL.r_ixRef, ↓DL.r_lenT, ↓DL.r_lenL, ↓DL.k_Len, ↓DL.r_lenRef, ↓DL.r_sumRef, ↓DL.k_SetJ, ↓DL.k_Set, ↓DL.r_setRef, ↓DL.k_App, ↓DL.r_appRef, ↓DL.r_tup0, ↓DL.r_tup1, ↓DL.r_tup2, ↓DL.r_tup3, ↓DL.r_tup4, ↓DL.r_tup5, ↓DL.r_tup6, ↓DL.r_tup7, ↓DL.r_tup8, ↓DL.r_lst0, ↓DL.r_ref0, ↓DL.r_ref1, ↓DL.r_ref2, ↓DL.r_ref3, ↓DL.r_ref4, ↓DL.r_ref5, ↓DL.r_ref6, ↓DL.r_listL, ↓DL.r_listT, ↓DL.r_tupleL, ↓DL.r_seqT, ↓DL.r_seqL, ↓DL.r_range1, ↓DL.r_range2, ↓DL.r_strEq, ↓DL.r_strEq2, ↓DL.r_isT0, ↓DL.r_isT1, ↓DL.r_isT2, ↓DL.r_isT3, ↓DL.r_isT4, ↓DL.r_isT5, ↓DL.r_isT6, ↓DL.r_isT7, ↓DL.r_isT8, ↓DL.r_isT9, ↓DL.r_isT10, ↓DL.r_isT11, ↓DL.r_isT12, ↓DL.r_isT13, ↓DL.r_isT14, ↓DL.r_isT15, ↓DL.r_isT16, ↓DL.r_isT17, ↓DL.r_isT18, ↓DL.r_isT19, ↓DL.r_isT20, ↓DL.r_isT21, ↓DL.r_isT22, ↓DL.r_isT23, ↓DL.r_isT24, ↓DL.r_isT25, ↓DL.r_isT26, ↓DL.r_isT27, ↓DL.r_isT28, ↓DL.r_isT29, ↓DL.r_isT30, ↓DL.r_isT31, ↓DL.r_isT32, ↓DL.r_isT33, ↓DL.r_isT34, ↓DL.r_isT35, ↓DL.r_isiN, ↓DL.r_isi2N, ↓DL.r_isiB, ↓DL.r_isi2B, ↓DL.r_isiI, ↓DL.r_isi2I, ↓DL.r_isiS, ↓DL.r_isi2S, ↓DL.r_isiT, ↓DL.r_isi2T, ↓DL.r_isiL, ↓DL.r_isi2L, ↓DL.r_inTI, ↓DL.r_ninTI, ↓DL.r_inLI, ↓DL.r_ninLI, ↓DL.r_inTS, ↓DL.r_inD_nil, ↓DL.r_inD_cons, ↓DL.r_flat_nil, ↓DL.r_flat_cons, ↓DL.r_flatS, ↓DL.r_flatI, ↓DL.r_eqvSS, ↓DL.r_eqvII, ↓DL.r_addLL, ↓DL.r_atm1, ↓DL.r_atm2, ↓DL.r_at0, ↓DL.r_at1, ↓DL.r_at2, ↓DL.r_at3, ↓DL.r_at4, ↓DL.r_at5, ↓DL.r_at6, ↓DL.r_at7, ↓DL.r_at8, ↓DL.r_beqI, ↓DL.r_ndec, ↓DL.r_gT, ↓DL.k_Gs, ↓DL.r_gsCons, ↓DL.r_gsNil, ↓DL.r_isDNN, ↓DL.r_isDBB, ↓DL.r_isDBN, ↓DL.r_isDNB, ↓DL.r_isDIN, ↓DL.r_isDIB, ↓DL.r_isDSN, ↓DL.r_isDSB, ↓DL.r_isDTN, ↓DL.r_isDTB, ↓DL.r_isDLN, ↓DL.r_isDLB, ↓DL.r_isDRN, ↓DL.r_isDRB, ↓DL.r_beqTT, ↓DL.r_beqTF, ↓DL.r_beqFT, ↓DL.r_beqFF, ↓DL.k_onI, ↓DL.k_Fld2, ↓DL.r_fld, ↓DL.k_FldR, ↓DL.k_FldO, ↓DL.r_look, ↓DL.r_lookN, ↓DL.r_putD, ↓DL.r_putDN, ↓DL.k_SF3, ↓DL.r_setFldR, ↓DL.k_SF2, ↓DL.k_SF1, ↓DL.r_setFld, ↓DL.r_methF, ↓DL.k_Me2, ↓DL.r_meth, ↓DL.k_MeR, ↓DL.k_MeO, ↓DL.r_make, ↓DL.k_MkN, ↓DL.r_makeF, ↓DL.k_CG2, ↓DL.k_CG, ↓DL.r_callG, ↓DL.r_callGF, ↓DL.r_listRg, ↓DL.r_tupRg, ↓DL.k_SlR, ↓DL.r_slR, ↓DL.r_enumL, ↓DL.r_max2, ↓DL.r_min2, ↓DL.r_isi2R, ↓DL.r_isiR, ↓DL.r_lst1, ↓DL.r_lst2, ↓DL.r_lst3, ↓DL.r_lst4, ↓DL.r_lst5, ↓DL.r_lst6, ↓DL.r_lst7, ↓DL.r_lst8, ↓DL.r_lst9, ↓DL.r_lst10, ↓DL.r_lst11, ↓DL.r_lst12, ↓DL.r_seqR, ↓DL.k_ForR, ↓DL.r_minL, ↓DL.r_clr, ↓DL.k_Clr1R, ↓DL.k_LstR, ↓DL.r_listRef, ↓DL.k_Clr2, ↓DL.Kt.seq_nx, ↓DL.Kt.seq_rt, ↓DL.Kt.seq_bk, ↓DL.Kt.seq_ct, ↓DL.Kt.seq_ex, ↓DL.Kt.fin_nx, ↓DL.Kt.fin_rt, ↓DL.Kt.fin_ex, ↓DL.Kt.loop_nx, ↓DL.Kt.loop_rt, ↓DL.Kt.loop_bk, ↓DL.Kt.loop_ct, ↓DL.Kt.loop_ex, ↓DL.C.run_ret, ↓DL.mset_same, ↓DL.mset_mset, startD, ixN, Option.bind_some, Option.map_some, List.map_cons, List.map_nil, List.length_cons, List.length_nil, List.length_set, List.replicate, List.cons_append, List.nil_append, List.append_nil, List.set_cons_zero, List.set_cons_succ, List.getElem?_cons_zero, List.getElem?_cons_succ, Nat.reduceAdd, Nat.reduceSub, Nat.zero_add, if_true, if_false, decide_eq_true_eq, reduceIte, Bool.not_true, Bool.not_false, beq_self_eq_true, Bool.false_eq_true, Int.reduceLT, Int.reduceLE, Int.reduceNeg, Int.reduceToNat, Int.reduceAdd, Int.reduceSub, Nat.reduceLT, Nat.reduceLeDiff, Int.cast_ofNat_Int, Int.reduceEq, Int.reduceBEq, DL.wipeD, decide_true, decide_false, not_true_eq_false, not_false_eq_true, String.reduceEq, Bool.or_true, Bool.or_false, Bool.true_or, Bool.false_or, Bool.and_true, Bool.and_false, Bool.true_and, Bool.false_and, Bool.not_not, Nat.reduceEqDiff, Int.toNat_natCast, Decidable.not_not, List.mem_cons, List.not_mem_nil, or_false, or_true, true_or, false_or, and_true, true_and, and_self, and_false, false_and, reduceCtorEq, Option.isNone_some, Option.isNone_none, Option.isSome_some, Option.isSome_none, *])
local macro_rules | `(tactic| walk_at "s") => `(tactic| ((try walk_at "h"); repeat' ((first | with_reducible refine if_dec (fun _ => ?_) (fun _ => ?_) | with_reducible refine eif_dec (fun _ => ?_) (fun _ => ?_) | with_reducible refine tor_dec (fun _ => ?_) (fun _ => ?_) | with_reducible refine tand_dec (fun _ => ?_) (fun _ => ?_) | with_reducible refine and_dec (fun _ => ?_) (fun _ => ?_) | with_reducible refine or_dec (fun _ => ?_) (fun _ => ?_) | with_reducible refine ch_dec (fun _ => ?_) (fun _ => ?_)) <;> (try walk_at "h"))))
section
variable {m : Mem} {Q : D → Mem → Prop} {E : Xn → Mem → Prop} {i a b size start : Int} {l : List D} {s : Str}
theorem c_isint : (d_is_integer [.int i]).run m Q E = Q (.bl true) m := by
  unfold d_is_integer; rw [run_fnD]; unfold p_is_integer; walk_at "d"
theorem c_rowL : (d_is_row [.lst l]).run m Q E = Q (.bl true) m := by
  unfold d_is_row; rw [run_fnD]; unfold p_is_row; walk_at "d"
theorem c_rowT : (d_is_row [.tup l]).run m Q E = Q (.bl true) m := by
  unfold d_is_row; rw [run_fnD]; unfold p_is_row; walk_at "d"
local macro_rules | `(tactic| walk_at "d") => `(tactic| simp -implicitDefEqProofs only [↓DL.k_F, ↓DL.k_M, ↓DL.k_onV, ↓DL.k_onL, ↓DL.k_onO, ↓DL.k_onN, ↓DL.r_C, ↓DL.r_var, ↓DL.k_Op2, ↓DL.k_Op, ↓DL.r_op, ↓DL.r_un, ↓DL.r_app, ↓DL.r_call, ↓DL.r_callF, ↓DL.k_CK2, ↓DL.k_CK, ↓DL.r_callK, ↓DL.r_callKF, ↓DL.r_nil, ↓DL.k_A2, ↓DL.k_A, ↓DL.r_cons, ↓DL.k_AndT, ↓DL.k_AndF, ↓DL.r_and, ↓DL.k_OrT, ↓DL.k_OrF, ↓DL.r_or, ↓DL.k_Not, ↓DL.r_not, ↓DL.k_EIfT, ↓DL.k_EIfF, ↓DL.r_eIf, ↓DL.k_Ch3T, ↓DL.k_Ch3F, ↓DL.k_Ch2, ↓DL.k_Ch1, ↓DL.r_chain, ↓DL.k_T, ↓DL.r_of, ↓DL.k_TAT, ↓DL.k_TAF, ↓DL.r_tand, ↓DL.k_TOT, ↓DL.k_TOF, ↓DL.r_tor, ↓DL.k_TN, ↓DL.r_tnot, ↓DL.r_tTrue, ↓DL.k_Asg, ↓DL.r_asg, ↓DL.k_Nx, ↓DL.r_expr, ↓DL.k_Rt, ↓DL.r_ret, ↓DL.r_retN, ↓DL.k_IfT, ↓DL.k_IfF, ↓DL.r_if, ↓DL.r_seq, ↓DL.r_next, ↓DL.r_break, ↓DL.r_cont, ↓DL.r_stuck, ↓DL.k_G, ↓DL.r_asgG, ↓DL.k_For, ↓DL.r_for, ↓DL.k_SI3, ↓DL.k_SI2, ↓DL.k_SI, ↓DL.r_setItemS, ↓DL.k_Ap3, ↓DL.k_Ap2, ↓DL.k_Ap1, ↓DL.r_apd, ↓DL.r_gN, ↓DL.r_iSeq, ↓DL.r_iApp, ↓DL.k_Body, ↓DL.k_Sl3, ↓DL.k_Sl2, ↓DL.k_Sl1, ↓DL.r_sl, ↓DL.r_oNone, ↓DL.k_OS, ↓DL.r_oSome, ↓DL.r_slT, ↓DL.r_slL, ↓DL.r_slS, ↓DL.r_retL, ↓DL.r_newL, ↓DL.r_lc, ↓DL.r_lcM, ↓DL.r_add, ↓DL.r_sub, ↓DL.r_mod, ↓DL.r_div, ↓DL.r_pow1018, ↓DL.r_lt, ↓DL.r_le, ↓DL.r_gt, ↓DL.r_ge, ↓DL.r_neg, ↓DL.r_eqII, ↓DL.r_neII, ↓DL.r_eqSS, ↓DL.r_neSS, ↓DL.r_eqBB, ↓DL.r_neBB, ↓DL.r_isN, ↓DL.r_isB, ↓DL.r_notN, ↓DL.r_int1, ↓DL.r_intb, ↓DL.r_abs, ↓DL.k_Get, ↓DL.r_ixT, ↓DL.r_ixL, ↓DL.r_asLR, ↓DL.r_asLL, ↓DL.r_ixRef, ↓DL.r_lenT, ↓DL.r_lenL, ↓DL.k_Len, ↓DL.r_lenRef, ↓DL.r_sumRef, ↓DL.k_SetJ, ↓DL.k_Set, ↓DL.r_setRef, ↓DL.k_App, ↓DL.r_appRef, ↓DL.r_tup0, ↓DL.r_tup1, ↓DL.r_tup2, ↓DL.r_tup3, ↓DL.r_tup4, ↓DL.r_tup5, ↓DL.r_tup6, ↓DL.r_tup7, ↓DL.r_tup8, ↓DL.r_lst0, ↓DL.r_ref0, ↓DL.r_ref1, ↓DL.r_ref2, ↓DL.r_ref3, ↓DL.r_ref4, ↓DL.r_ref5, ↓DL.r_ref6, ↓DL.r_listL, ↓DL.r_listT, ↓DL.r_tupleL, ↓DL.r_seqT, ↓DL.r_seqL, ↓DL.r_range1, ↓DL.r_range2, ↓DL.r_strEq, ↓DL.r_strEq2, ↓DL.r_isT0, ↓DL.r_isT1, ↓DL.r_isT2, ↓DL.r_isT3, ↓DL.r_isT4, ↓DL.r_isT5, ↓DL.r_isT6, ↓DL.r_isT7, ↓DL.r_isT8, ↓DL.r_isT9, ↓DL.r_isT10, ↓DL.r_isT11, ↓DL.r_isT12, ↓DL.r_isT13, ↓DL.r_isT14, ↓DL.r_isT15, ↓DL.r_isT16, ↓DL.r_isT17, ↓DL.r_isT18, ↓DL.r_isT19, ↓DL.r_isT20, ↓DL.r_isT21, ↓DL.r_isT22, ↓DL.r_isT23, ↓DL.r_isT24, ↓DL.r_isT25, ↓DL.r_isT26, ↓DL.r_isT27, ↓DL.r_isT28, ↓DL.r_isT29, ↓DL.r_isT30, ↓DL.r_isT31, ↓DL.r_isT32, ↓DL.r_isT33, ↓DL.r_isT34, ↓DL.r_isT35, ↓DL.r_isiN, ↓DL.r_isi2N, ↓DL.r_isiB, ↓DL.r_isi2B, ↓DL.r_isiI, ↓DL.r_isi2I, ↓DL.r_isiS, ↓DL.r_isi2S, ↓DL.r_isiT, ↓DL.r_isi2T, ↓DL.r_isiL, ↓DL.r_isi2L, ↓DL.r_inTI, ↓DL.r_ninTI, ↓DL.r_inLI, ↓DL.r_ninLI, ↓DL.r_inTS, ↓DL.r_inD_nil, ↓DL.r_inD_cons, ↓DL.r_flat_nil, ↓DL.r_flat_cons, ↓DL.r_flatS, ↓DL.r_flatI, ↓DL.r_eqvSS, ↓DL.r_eqvII, ↓DL.r_addLL, ↓DL.r_atm1, ↓DL.r_atm2, ↓DL.r_at0, ↓DL.r_at1, ↓DL.r_at2, ↓DL.r_at3, ↓DL.r_at4, ↓DL.r_at5, ↓DL.r_at6, ↓DL.r_at7, ↓DL.r_at8, ↓DL.r_beqI, ↓DL.r_ndec, ↓DL.r_gT, ↓DL.k_Gs, ↓DL.r_gsCons, ↓DL.r_gsNil, ↓DL.r_isDNN, ↓DL.r_isDBB, ↓DL.r_isDBN, ↓DL.r_isDNB, ↓DL.r_isDIN, ↓DL.r_isDIB, ↓DL.r_isDSN, ↓DL.r_isDSB, ↓DL.r_isDTN, ↓DL.r_isDTB, ↓DL.r_isDLN, ↓DL.r_isDLB, ↓DL.r_isDRN, ↓DL.r_isDRB, ↓DL.r_beqTT, ↓DL.r_beqTF, ↓DL.r_beqFT, ↓DL.r_beqFF, ↓DL.k_onI, ↓DL.k_Fld2, ↓DL.r_fld, ↓DL.k_FldR, ↓DL.k_FldO, ↓DL.r_look, ↓DL.r_lookN, ↓DL.r_putD, ↓DL.r_putDN, ↓DL.k_SF3, ↓DL.r_setFldR, ↓DL.k_SF2, ↓DL.k_SF1, ↓DL.r_setFld, ↓DL.r_methF, ↓DL.k_Me2, ↓DL.r_meth, ↓DL.k_MeR, ↓DL.k_MeO, ↓DL.r_make, ↓DL.k_MkN, ↓DL.r_makeF, ↓DL.k_CG2, ↓DL.k_CG, ↓DL.r_callG, ↓DL.r_callGF, ↓DL.r_listRg, ↓DL.r_tupRg, ↓DL.k_SlR, ↓DL.r_slR, ↓DL.r_enumL, ↓DL.r_max2, ↓DL.r_min2, ↓DL.r_isi2R, ↓DL.r_isiR, ↓DL.r_lst1, ↓DL.r_lst2, ↓DL.r_lst3, ↓DL.r_lst4, ↓DL.r_lst5, ↓DL.r_lst6, ↓DL.r_lst7, ↓DL.r_lst8, ↓DL.r_lst9, ↓DL.r_lst10, ↓DL.r_lst11, ↓DL.r_lst12, ↓DL.r_seqR, ↓DL.k_ForR, ↓DL.r_minL, ↓DL.r_clr, ↓DL.k_Clr1R, ↓DL.k_LstR, ↓DL.r_listRef, ↓DL.k_Clr2, ↓DL.Kt.seq_nx, ↓DL.Kt.seq_rt, ↓DL.Kt.seq_bk, ↓DL.Kt.seq_ct, ↓DL.Kt.seq_ex, ↓DL.Kt.fin_nx, ↓DL.Kt.fin_rt, ↓DL.Kt.fin_ex, ↓DL.Kt.loop_nx, ↓DL.Kt.loop_rt, ↓DL.Kt.loop_bk, ↓DL.Kt.loop_ct, ↓DL.Kt.loop_ex, ↓DL.C.run_ret, ↓DL.mset_same, ↓DL.mset_mset, startD, ixN, Option.bind_some, Option.map_some, List.map_cons, List.map_nil, List.length_cons, List.length_nil, List.length_set, List.replicate, List.cons_append, List.nil_append, List.append_nil, List.set_cons_zero, List.set_cons_succ, List.getElem?_cons_zero, List.getElem?_cons_succ, Nat.reduceAdd, Nat.reduceSub, Nat.zero_add, if_true, if_false, decide_eq_true_eq, reduceIte, Bool.not_true, Bool.not_false, beq_self_eq_true, Bool.false_eq_true, Int.reduceLT, Int.reduceLE, Int.reduceNeg, Int.reduceToNat, Int.reduceAdd, Int.reduceSub, Nat.reduceLT, Nat.reduceLeDiff, Int.cast_ofNat_Int, Int.reduceEq, Int.reduceBEq, DL.wipeD, decide_true, decide_false, not_true_eq_false, not_false_eq_true, String.reduceEq, Bool.or_true, Bool.or_false, Bool.true_or, Bool.false_or, Bool.and_true, Bool.and_false, Bool.true_and, Bool.false_and, Bool.not_not, Nat.reduceEqDiff, Int.toNat_natCast, Decidable.not_not, List.mem_cons, List.not_mem_nil, or_false, or_true, true_or, false_or, and_true, true_and, and_self, and_false, false_and, reduceCtorEq, Option.isNone_some, Option.isNone_none, Option.isSome_some, Option.isSome_none, ↓c_isint, ↓c_rowL, ↓c_rowT])
local macro_rules | `(tactic| walk_at "h") => `(tactic| simp -implicitDefEqProofs only [↓DL.k_F, ↓DL.k_M, ↓DL.k_onV, ↓DL.k_onL, ↓DL.k_onO, ↓DL.k_onN, ↓DL.r_C, ↓DL.r_var, ↓DL.k_Op2, ↓DL.k_Op, ↓DL.r_op, ↓DL.r_un, ↓DL.r_app, ↓DL.r_call, ↓DL.r_callF, ↓DL.k_CK2, ↓DL.k_CK, ↓DL.r_callK, ↓DL.r_callKF, ↓DL.r_nil, ↓DL.k_A2, ↓DL.k_A, ↓DL.r_cons, ↓DL.k_AndT, ↓DL.k_AndF, ↓DL.r_and, ↓DL.k_OrT, ↓DL.k_OrF, ↓DL.r_or, ↓DL.k_Not, ↓DL.r_not, ↓DL.k_EIfT, ↓DL.k_EIfF, ↓DL.r_eIf, ↓DL.k_Ch3T, ↓DL.k_Ch3F, ↓DL.k_Ch2, ↓DL.k_Ch1, ↓DL.r_chain, ↓DL.k_T, ↓DL.r_of, ↓DL.k_TAT, ↓DL.k_TAF, ↓DL.r_tand, ↓DL.k_TOT, ↓DL.k_TOF, ↓DL.r_tor, ↓DL.k_TN, ↓DL.r_tnot, ↓DL.r_tTrue, ↓DL.k_Asg, ↓DL.r_asg, ↓DL.k_Nx, ↓DL.r_expr, ↓DL.k_Rt, ↓DL.r_ret, ↓DL.r_retN, ↓DL.k_IfT, ↓DL.k_IfF, ↓DL.r_if, ↓DL.r_seq, ↓DL.r_next, ↓DL.r_break, ↓DL.r_cont, ↓DL.r_stuck, ↓DL.k_G, ↓DL.r_asgG, ↓DL.k_For, ↓DL.r_for, ↓DL.k_SI3, ↓DL.k_SI2, ↓DL.k_SI, ↓DL.r_setItemS, ↓DL.k_Ap3, ↓DL.k_Ap2, ↓DL.k_Ap1, ↓DL.r_apd, ↓DL.r_gN, ↓DL.r_iSeq, ↓DL.r_iApp, ↓DL.k_Body, ↓DL.k_Sl3, ↓DL.k_Sl2, ↓DL.k_Sl1, ↓DL.r_sl, ↓DL.r_oNone, ↓DL.k_OS, ↓DL.r_oSome, ↓DL.r_slT, ↓DL.r_slL, ↓DL.r_slS, ↓DL.r_retL, ↓DL.r_newL, ↓DL.r_lc, ↓DL.r_lcM, ↓DL.r_add, ↓DL.r_sub, ↓DL.r_mod, ↓DL.r_div, ↓DL.r_pow1018, ↓DL.r_lt, ↓DL.r_le, ↓DL.r_gt, ↓DL.r_ge, ↓DL.r_neg, ↓DL.r_eqII, ↓DL.r_neII, ↓DL.r_eqSS, ↓DL.r_neSS, ↓DL.r_eqBB, ↓DL.r_neBB, ↓DL.r_isN, ↓DL.r_isB, ↓DL.r_notN, ↓DL.r_int1, ↓DL.r_intb, ↓DL.r_abs, ↓DL.k_Get, ↓DL.r_ixT, ↓DL.r_ixL, ↓DL.r_asLR, ↓DL.r_asLL, ↓DL.r_ixRef, ↓DL.r_lenT, ↓DL.r_lenL, ↓DL.k_Len, ↓DL.r_lenRef, ↓DL.r_sumRef, ↓DL.k_SetJ, ↓DL.k_Set, ↓DL.r_setRef, ↓DL.k_App, ↓DL.r_appRef, ↓DL.r_tup0, ↓DL.r_tup1, ↓DL.r_tup2, ↓DL.r_tup3, ↓DL.r_tup4, ↓DL.r_tup5, ↓DL.r_tup6, ↓DL.r_tup7, ↓DL.r_tup8, ↓DL.r_lst0, ↓DL.r_ref0, ↓DL.r_ref1, ↓DL.r_ref2, ↓DL.r_ref3, ↓DL.r_ref4, ↓DL.r_ref5, ↓DL.r_ref6, ↓DL.r_listL, ↓DL.r_listT, ↓DL.r_tupleL, ↓DL.r_seqT, ↓DL.r_seqL, ↓DL.r_range1, ↓DL.r_range2, ↓DL.r_strEq, ↓DL.r_strEq2, ↓DL.r_isT0, ↓DL.r_isT1, ↓DL.r_isT2, ↓DL.r_isT3, ↓DL.r_isT4, ↓DL.r_isT5, ↓DL.r_isT6, ↓DL.r_isT7, ↓DL.r_isT8, ↓DL.r_isT9, ↓DL.r_isT10, ↓DL.r_isT11, ↓DL.r_isT12, ↓DL.r_isT13, ↓DL.r_isT14, ↓DL.r_isT15, ↓DL.r_isT16, ↓DL.r_isT17, ↓DL.r_isT18, ↓DL.r_isT19, ↓DL.r_isT20, ↓DL.r_isT21, ↓DL.r_isT22, ↓DL.r_isT23, ↓DL.r_isT24, ↓DL.r_isT25, ↓DL.r_isT26, ↓DL.r_isT27, ↓DL.r_isT28, ↓DL.r_isT29, ↓DL.r_isT30, ↓DL.r_isT31, ↓DL.r_isT32, ↓DL.r_isT33, ↓DL.r_isT34, ↓DL.r_isT35, ↓DL.r_isiN, ↓DL.r_isi2N, ↓DL.r_isiB, ↓DL.r_isi2B, ↓DL.r_isiI, ↓DL.r_isi2I, ↓DL.r_isiS, ↓DL.r_isi2S, ↓DL.r_isiT, ↓DL.r_isi2T, ↓DL.r_isiL, ↓DL.r_isi2L, ↓DL.r_inTI, ↓DL.r_ninTI, ↓DL.r_inLI, ↓DL.r_ninLI, ↓DL.r_inTS, ↓DL.r_inD_nil, ↓DL.r_inD_cons, ↓DL.r_flat_nil, ↓DL.r_flat_cons, ↓DL.r_flatS, ↓DL.r_flatI, ↓DL.r_eqvSS, ↓DL.r_eqvII, ↓DL.r_addLL, ↓DL.r_atm1, ↓DL.r_atm2, ↓DL.r_at0, ↓DL.r_at1, ↓DL.r_at2, ↓DL.r_at3, ↓DL.r_at4, ↓DL.r_at5, ↓DL.r_at6, ↓DL.r_at7, ↓DL.r_at8, ↓DL.r_beqI, ↓DL.r_ndec, ↓DL.r_gT, ↓DL.k_Gs, ↓DL.r_gsCons, ↓DL.r_gsNil, ↓DL.r_isDNN, ↓DL.r_isDBB, ↓DL.r_isDBN, ↓DL.r_isDNB, ↓DL.r_isDIN, ↓DL.r_isDIB, ↓DL.r_isDSN, ↓DL.r_isDSB, ↓DL.r_isDTN, ↓DL.r_isDTB, ↓DL.r_isDLN, ↓DL.r_isDLB, ↓DL.r_isDRN, ↓DL.r_isDRB, ↓DL.r_beqTT, ↓DL.r_beqTF, ↓DL.r_beqFT, ↓DL.r_beqFF, ↓DL.k_onI, ↓DL.k_Fld2, ↓DL.r_fld, ↓DL.k_FldR, ↓DL.k_FldO, ↓DL.r_look, ↓DL.r_lookN, ↓DL.r_putD, ↓DL.r_putDN, ↓DL.k_SF3, ↓DL.r_setFldR, ↓DL.k_SF2, ↓DL.k_SF1, ↓DL.r_setFld, ↓DL.r_methF, ↓DL.k_Me2, ↓DL.r_meth, ↓DL.k_MeR, ↓DL.k_MeO, ↓DL.r_make, ↓DL.k_MkN, ↓DL.r_makeF, ↓DL.k_CG2, ↓DL.k_CG, ↓DL.r_callG, ↓DL.r_callGF, ↓DL.r_listRg, ↓DL.r_tupRg, ↓DL.k_SlR, ↓DL.r_slR, ↓DL.r_enumL, ↓DL.r_max2, ↓DL.r_min2, ↓DL.r_isi2R, ↓DL.r_isiR, ↓DL.r_lst1, ↓DL.r_lst2, ↓DL.r_lst3, ↓DL.r_lst4, ↓DL.r_lst5, ↓DL.r_lst6, ↓DL.r_lst7, ↓DL.r_lst8, ↓DL.r_lst9, ↓DL.r_lst10, ↓DL.r_lst11, ↓DL.r_lst12, ↓DL.r_seqR, ↓DL.k_ForR, ↓DL.r_minL, ↓DL.r_clr, ↓DL.k_Clr1R, ↓DL.k_LstR, ↓DL.r_listRef, ↓DL.k_Clr2, ↓DL.Kt.seq_nx, ↓DL.Kt.seq_rt, ↓DL.Kt.seq_bk, ↓DL.Kt.seq_ct, ↓DL.Kt.seq_ex, ↓DL.Kt.fin_nx, ↓DL.Kt.fin_rt, ↓DL.Kt.fin_ex, ↓DL.Kt.loop_nx, ↓DL.Kt.loop_rt, ↓DL.Kt.loop_bk, ↓DL.Kt.loop_ct, ↓DL.Kt.loop_ex, ↓DL.C.run_ret, ↓DL.mset_same, ↓DL.mset_mset, startD, ixN, Option.bind_some, Option.map_some, List.map_cons, List.map_nil, List.length_cons, List.length_nil, List.length_set, List.replicate, List.cons_append, List.nil_append, List.append_nil, List.set_cons_zero, List.set_cons_succ, List.getElem?_cons_zero, List.getElem?_cons_succ, Nat.reduceAdd, Nat.reduceSub, Nat.zero_add, if_true, if_false, decide_eq_true_eq, reduceIte, Bool.not_true, Bool.not_false, beq_self_eq_true, Bool.false_eq_true, Int.reduceLT, Int.reduceLE, Int.reduceNeg, Int.reduceToNat, Int.reduceAdd, Int.reduceSub, Nat.reduceLT, Nat.reduceLeDiff, Int.cast_ofNat_Int, Int.reduceEq, Int.reduceBEq, DL.wipeD, decide_true, decide_false, not_true_eq_false, not_false_eq_true, String.reduceEq, Bool.or_true, Bool.or_false, Bool.true_or, Bool.false_or, Bool.and_true, Bool.and_false, Bool.true_and, Bool.false_and, Bool.not_not, Nat.reduceEqDiff, Int.toNat_natCast, Decidable.not_not, List.mem_cons, List.not_mem_nil, or_false, or_true, true_or, false_or, and_true, true_and, and_self, and_false, false_and, reduceCtorEq, Option.isNone_some, Option.isNone_none, Option.isSome_some, Option.isSome_none, ↓c_isint, ↓c_rowL, ↓c_rowT, *])
local macro_rules | `(tactic| walk_at "s") => `(tactic| ((try walk_at "h"); repeat' ((first | with_reducible refine if_dec (fun _ => ?_) (fun _ => ?_) | with_reducible refine eif_dec (fun _ => ?_) (fun _ => ?_) | with_reducible refine tor_dec (fun _ => ?_) (fun _ => ?_) | with_reducible refine tand_dec (fun _ => ?_) (fun _ => ?_) | with_reducible refine and_dec (fun _ => ?_) (fun _ => ?_) | with_reducible refine or_dec (fun _ => ?_) (fun _ => ?_) | with_reducible refine ch_dec (fun _ => ?_) (fun _ => ?_)) <;> (try walk_at "h"))))
theorem c_between (h1 : a ≤ i) (h2 : i ≤ b) : (d_is_between [.int i, .int a, .int b]).run m Q E = Q (.bl true) m := by
  unfold d_is_between; rw [run_fnD]; unfold p_is_between; walk_at "h"
theorem c_word1 {w : Str} (hw : w = "write" ∨ w = "wrote" ∨ w = "read" ∨ w = "told") {k : Int} (h : k = 1 ∨ k = 2) : (d_is_word_row [.tup [.str s], .str w, .int k]).run m Q E = Q (.bl (decide (k = 1) && (s == w))) m := by
  unfold d_is_word_row; rw [run_fnD]; unfold p_is_word_row
  rcases h with rfl | rfl <;> walk_at "d"
theorem c_word2 {w : Str} (hw : w = "write" ∨ w = "wrote" ∨ w = "read" ∨ w = "told") {k : Int} (h : k = 1 ∨ k = 2) {y : D} : (d_is_word_row [.tup [.str s, y], .str w, .int k]).run m Q E = Q (.bl (decide (k = 2) && (s == w))) m := by
  unfold d_is_word_row; rw [run_fnD]; unfold p_is_word_row
  rcases h with rfl | rfl <;> walk_at "d"
theorem c_word1L {w : Str} {k : Int} (h : k = 1 ∨ k = 2) : (d_is_word_row [.lst [.str s], .str w, .int k]).run m Q E = Q (.bl (decide (k = 1) && (s == w))) m := by
  unfold d_is_word_row; rw [run_fnD]; unfold p_is_word_row
  rcases h with rfl | rfl <;> walk_at "d"
theorem c_word2L {w : Str} {k : Int} (h : k = 1 ∨ k = 2) {y : D} : (d_is_word_row [.lst [.str s, y], .str w, .int k]).run m Q E = Q (.bl (decide (k = 2) && (s == w))) m := by
  unfold d_is_word_row; rw [run_fnD]; unfold p_is_word_row
  rcases h with rfl | rfl <;> walk_at "d"
theorem c_setting (h1 : 2 ≤ size) (h2 : size ≤ 5) (h3 : 0 ≤ start) (h4 : start < size) : (d_check_setting [.int size, .int start]).run m Q E = Q .non m := by
  unfold d_check_setting; rw [run_fnD]; unfold p_check_setting
  have h5 : start ≤ size - 1 := by omega
  walk_at "d"
  rw [c_between h1 h2]
  walk_at "d"
  rw [c_between h3 h5]
  walk_at "d"
end
local macro_rules | `(tactic| walk_at "d") => `(tactic| simp -implicitDefEqProofs only [↓DL.k_F, ↓DL.k_M, ↓DL.k_onV, ↓DL.k_onL, ↓DL.k_onO, ↓DL.k_onN, ↓DL.r_C, ↓DL.r_var, ↓DL.k_Op2, ↓DL.k_Op, ↓DL.r_op, ↓DL.r_un, ↓DL.r_app, ↓DL.r_call, ↓DL.r_callF, ↓DL.k_CK2, ↓DL.k_CK, ↓DL.r_callK, ↓DL.r_callKF, ↓DL.r_nil, ↓DL.k_A2, ↓DL.k_A, ↓DL.r_cons, ↓DL.k_AndT, ↓DL.k_AndF, ↓DL.r_and, ↓DL.k_OrT, ↓DL.k_OrF, ↓DL.r_or, ↓DL.k_Not, ↓DL.r_not, ↓DL.k_EIfT, ↓DL.k_EIfF, ↓DL.r_eIf, ↓DL.k_Ch3T, ↓DL.k_Ch3F, ↓DL.k_Ch2, ↓DL.k_Ch1, ↓DL.r_chain, ↓DL.k_T, ↓DL.r_of, ↓DL.k_TAT, ↓DL.k_TAF, ↓DL.r_tand, ↓DL.k_TOT, ↓DL.k_TOF, ↓DL.r_tor, ↓DL.k_TN, ↓DL.r_tnot, ↓DL.r_tTrue, ↓DL.k_Asg, ↓DL.r_asg, ↓DL.k_Nx, ↓DL.r_expr, ↓DL.k_Rt, ↓DL.r_ret, ↓DL.r_retN, ↓DL.k_IfT, ↓DL.k_IfF, ↓DL.r_if, ↓DL.r_seq, ↓DL.r_next, ↓DL.r_break, ↓DL.r_cont, ↓DL.r_stuck, ↓DL.k_G, ↓DL.r_asgG, ↓DL.k_For, ↓DL.r_for, ↓DL.k_SI3, ↓DL.k_SI2, ↓DL.k_SI, ↓DL.r_setItemS, ↓DL.k_Ap3, ↓DL.k_Ap2, ↓DL.k_Ap1, ↓DL.r_apd, ↓DL.r_gN, ↓DL.r_iSeq, ↓DL.r_iApp, ↓DL.k_Body, ↓DL.k_Sl3, ↓DL.k_Sl2, ↓DL.k_Sl1, ↓DL.r_sl, ↓DL.r_oNone, ↓DL.k_OS, ↓DL.r_oSome, ↓DL.r_slT, ↓DL.r_slL, ↓DL.r_slS, ↓DL.r_retL, ↓DL.r_newL, ↓DL.r_lc, ↓DL.r_lcM, ↓DL.r_add, ↓DL.r_sub, ↓DL.r_mod, ↓DL.r_div, ↓DL.r_pow1018, ↓DL.r_lt, ↓DL.r_le, ↓DL.r_gt, ↓DL.r_ge, ↓DL.r_neg, ↓DL.r_eqII, ↓DL.r_neII, ↓DL.r_eqSS, ↓DL.r_neSS, ↓DL.r_eqBB, ↓DL.r_neBB, ↓DL.r_isN, ↓DL.r_isB, ↓DL.r_notN, ↓DL.r_int1, ↓DL.r_intb, ↓DL.r_abs, ↓DL.k_Get, ↓DL.r_ixT, ↓DL.r_ixL, ↓DL.r_asLR, ↓DL.r_asLL, ↓DL.r_ixRef, ↓DL.r_lenT, ↓DL.r_lenL, ↓DL.k_Len, ↓DL.r_lenRef, ↓DL.r_sumRef, ↓DL.k_SetJ, ↓DL.k_Set, ↓DL.r_setRef, ↓DL.k_App, ↓DL.r_appRef, ↓DL.r_tup0, ↓DL.r_tup1, ↓DL.r_tup2, ↓DL.r_tup3, ↓DL.r_tup4, ↓DL.r_tup5, ↓DL.r_tup6, ↓DL.r_tup7, ↓DL.r_tup8, ↓DL.r_lst0, ↓DL.r_ref0, ↓DL.r_ref1, ↓DL.r_ref2, ↓DL.r_ref3, ↓DL.r_ref4, ↓DL.r_ref5, ↓DL.r_ref6, ↓DL.r_listL, ↓DL.r_listT, ↓DL.r_tupleL, ↓DL.r_seqT, ↓DL.r_seqL, ↓DL.r_range1, ↓DL.r_range2, ↓DL.r_strEq, ↓DL.r_strEq2, ↓DL.r_isT0, ↓DL.r_isT1, ↓DL.r_isT2, ↓DL.r_isT3, ↓DL.r_isT4, ↓DL.r_isT5, ↓DL.r_isT6, ↓DL.r_isT7, ↓DL.r_isT8, ↓DL.r_isT9, ↓DL.r_isT10, ↓DL.r_isT11, ↓DL.r_isT12, ↓DL.r_isT13, ↓DL.r_isT14, ↓DL.r_isT15, ↓DL.r_isT16, ↓DL.r_isT17, ↓DL.r_isT18, ↓DL.r_isT19, ↓DL.r_isT20, ↓DL.r_isT21, ↓DL.r_isT22, ↓DL.r_isT23, ↓DL.r_isT24, ↓DL.r_isT25, ↓DL.r_isT26, ↓DL.r_isT27, ↓DL.r_isT28, ↓DL.r_isT29, ↓DL.r_isT30, ↓DL.r_isT31, ↓DL.r_isT32, ↓DL.r_isT33, ↓DL.r_isT34, ↓DL.r_isT35, ↓DL.r_isiN, ↓DL.r_isi2N, ↓DL.r_isiB, ↓DL.r_isi2B, ↓DL.r_isiI, ↓DL.r_isi2I, ↓DL.r_isiS, ↓DL.r_isi2S, ↓DL.r_isiT, ↓DL.r_isi2T, ↓DL.r_isiL, ↓DL.r_isi2L, ↓DL.r_inTI, ↓DL.r_ninTI, ↓DL.r_inLI, ↓DL.r_ninLI, ↓DL.r_inTS, ↓DL.r_inD_nil, ↓DL.r_inD_cons, ↓DL.r_flat_nil, ↓DL.r_flat_cons, ↓DL.r_flatS, ↓DL.r_flatI, ↓DL.r_eqvSS, ↓DL.r_eqvII, ↓DL.r_addLL, ↓DL.r_atm1, ↓DL.r_atm2, ↓DL.r_at0, ↓DL.r_at1, ↓DL.r_at2, ↓DL.r_at3, ↓DL.r_at4, ↓DL.r_at5, ↓DL.r_at6, ↓DL.r_at7, ↓DL.r_at8, ↓DL.r_beqI, ↓DL.r_ndec, ↓DL.r_gT, ↓DL.k_Gs, ↓DL.r_gsCons, ↓DL.r_gsNil, ↓DL.r_isDNN, ↓DL.r_isDBB, ↓DL.r_isDBN, ↓DL.r_isDNB, ↓DL.r_isDIN, ↓DL.r_isDIB, ↓DL.r_isDSN, ↓DL.r_isDSB, ↓DL.r_isDTN, ↓DL.r_isDTB, ↓DL.r_isDLN, ↓DL.r_isDLB, ↓DL.r_isDRN, ↓DL.r_isDRB, ↓DL.r_beqTT, ↓DL.r_beqTF, ↓DL.r_beqFT, ↓DL.r_beqFF, ↓DL.k_onI, ↓DL.k_Fld2, ↓DL.r_fld, ↓DL.k_FldR, ↓DL.k_FldO, ↓DL.r_look, ↓DL.r_lookN, ↓DL.r_putD, ↓DL.r_putDN, ↓DL.k_SF3, ↓DL.r_setFldR, ↓DL.k_SF2, ↓DL.k_SF1, ↓DL.r_setFld, ↓DL.r_methF, ↓DL.k_Me2, ↓DL.r_meth, ↓DL.k_MeR, ↓DL.k_MeO, ↓DL.r_make, ↓DL.k_MkN, ↓DL.r_makeF, ↓DL.k_CG2, ↓DL.k_CG, ↓DL.r_callG, ↓DL.r_callGF, ↓DL.r_listRg, ↓DL.r_tupRg, ↓DL.k_SlR, ↓DL.r_slR, ↓DL.r_enumL, ↓DL.r_max2, ↓DL.r_min2, ↓DL.r_isi2R, ↓DL.r_isiR, ↓DL.r_lst1, ↓DL.r_lst2, ↓DL.r_lst3, ↓DL.r_lst4, ↓DL.r_lst5, ↓DL.r_lst6, ↓DL.r_lst7, ↓DL.r_lst8, ↓DL.r_lst9, ↓DL.r_lst10, ↓DL.r_lst11, ↓DL.r_lst12, ↓DL.r_seqR, ↓DL.k_ForR, ↓DL.r_minL, ↓DL.r_clr, ↓DL.k_Clr1R, ↓DL.k_LstR, ↓DL.r_listRef, ↓DL.k_Clr2, ↓DL.Kt.seq_nx, ↓DL.Kt.seq_rt, ↓DL.Kt.seq_bk, ↓DL.Kt.seq_ct, ↓DL.Kt.seq_ex, ↓DL.Kt.fin_nx, ↓DL.Kt.fin_rt, ↓DL.Kt.fin_ex, ↓DL.Kt.loop_nx, ↓DL.Kt.loop_rt, ↓DL.Kt.loop_bk, ↓DL.Kt.loop_ct, ↓DL.Kt.loop_ex, ↓DL.C.run_ret, ↓DL.mset_same, ↓DL.mset_mset, startD, ixN, Option.bind_some, Option.map_some, List.map_cons, List.map_nil, List.length_cons, List.length_nil, List.length_set, List.replicate, List.cons_append, List.nil_append, List.append_nil, List.set_cons_zero, List.set_cons_succ, List.getElem?_cons_zero, List.getElem?_cons_succ, Nat.reduceAdd, Nat.reduceSub, Nat.zero_add, if_true, if_false, decide_eq_true_eq, reduceIte, Bool.not_true, Bool.not_false, beq_self_eq_true, Bool.false_eq_true, Int.reduceLT, Int.reduceLE, Int.reduceNeg, Int.reduceToNat, Int.reduceAdd, Int.reduceSub, Nat.reduceLT, Nat.reduceLeDiff, Int.cast_ofNat_Int, Int.reduceEq, Int.reduceBEq, DL.wipeD, decide_true, decide_false, not_true_eq_false, not_false_eq_true, String.reduceEq, Bool.or_true, Bool.or_false, Bool.true_or, Bool.false_or, Bool.and_true, Bool.and_false, Bool.true_and, Bool.false_and, Bool.not_not, Nat.reduceEqDiff, Int.toNat_natCast, Decidable.not_not, List.mem_cons, List.not_mem_nil, or_false, or_true, true_or, false_or, and_true, true_and, and_self, and_false, false_and, reduceCtorEq, Option.isNone_some, Option.isNone_none, Option.isSome_some, Option.isSome_none, ↓c_isint, ↓c_rowL, ↓c_rowT])
local macro_rules | `(tactic| walk_at "h") => `(tactic| simp -implicitDefEqProofs only [↓DL.k_F, ↓DL.k_M, ↓DL.k_onV, ↓DL.k_onL, ↓DL.k_onO, ↓DL.k_onN, ↓DL.r_C, ↓DL.r_var, ↓DL.k_Op2, ↓DL.k_Op, ↓DL.r_op, ↓DL.r_un, ↓DL.r_app, ↓DL.r_call, ↓DL.r_callF, ↓DL.k_CK2, ↓DL.k_CK, ↓DL.r_callK, ↓DL.r_callKF, ↓DL.r_nil, ↓DL.k_A2, ↓DL.k_A, ↓DL.r_cons, ↓DL.k_AndT, ↓DL.k_AndF, ↓DL.r_and, ↓DL.k_OrT, ↓DL.k_OrF, ↓DL.r_or, ↓DL.k_Not, ↓DL.r_not, ↓DL.k_EIfT, ↓DL.k_EIfF, ↓DL.r_eIf, ↓DL.k_Ch3T, ↓DL.k_Ch3F, ↓DL.k_Ch2, ↓DL.k_Ch1, ↓DL.r_chain, ↓DL.k_T, ↓DL.r_of, ↓DL.k_TAT, ↓DL.k_TAF, ↓DL.r_tand, ↓DL.k_TOT, ↓DL.k_TOF, ↓DL.r_tor, ↓DL.k_TN, ↓DL.r_tnot, ↓DL.r_tTrue, ↓DL.k_Asg, ↓DL.r_asg, ↓DL.k_Nx, ↓DL.r_expr, ↓DL.k_Rt, ↓DL.r_ret, ↓DL.r_retN, ↓DL.k_IfT, ↓DL.k_IfF, ↓DL.r_if, ↓DL.r_seq, ↓DL.r_next, ↓DL.r_break, ↓DL.r_cont, ↓DL.r_stuck, ↓DL.k_G, ↓DL.r_asgG, ↓DL.k_For, ↓DL.r_for, ↓DL.k_SI3, ↓DL.k_SI2, ↓DL.k_SI, ↓DL.r_setItemS, ↓DL.k_Ap3, ↓DL.k_Ap2, ↓DL.k_Ap1, ↓DL.r_apd, ↓DL.r_gN, ↓DL.r_iSeq, ↓DL.r_iApp, ↓DL.k_Body, ↓DL.k_Sl3, ↓DL.k_Sl2, ↓DL.k_Sl1, ↓DL.r_sl, ↓DL.r_oNone, ↓DL.k_OS, ↓DL.r_oSome, ↓DL.r_slT, ↓DL.r_slL, ↓DL.r_slS, ↓DL.r_retL, ↓DL.r_newL, ↓DL.r_lc, ↓DL.r_lcM, ↓DL.r_add, ↓DL.r_sub, ↓DL.r_mod, ↓DL.r_div, ↓DL.r_pow1018, ↓DL.r_lt, ↓DL.r_le, ↓DL.r_gt, ↓DL.r_ge, ↓DL.r_neg, ↓DL.r_eqII, ↓DL.r_neII, ↓DL.r_eqSS, ↓DL.r_neSS, ↓DL.r_eqBB, ↓DL.r_neBB, ↓DL.r_isN, ↓DL.r_isB, ↓DL.r_notN, ↓DL.r_int1, ↓DL.r_intb, ↓DL.r_abs, ↓DL.k_Get, ↓DL.r_ixT, ↓DL.r_ixL, ↓DL.r_asLR, ↓DL.r_asLL, ↓DL.r_ixRef, ↓DL.r_lenT, ↓DL.r_lenL, ↓DL.k_Len, ↓DL.r_lenRef, ↓DL.r_sumRef, ↓DL.k_SetJ, ↓DL.k_Set, ↓DL.r_setRef, ↓DL.k_App, ↓DL.r_appRef, ↓DL.r_tup0, ↓DL.r_tup1, ↓DL.r_tup2, ↓DL.r_tup3, ↓DL.r_tup4, ↓DL.r_tup5, ↓DL.r_tup6, ↓DL.r_tup7, ↓DL.r_tup8, ↓DL.r_lst0, ↓DL.r_ref0, ↓DL.r_ref1, ↓DL.r_ref2, ↓DL.r_ref3, ↓DL.r_ref4, ↓DL.r_ref5, ↓DL.r_ref6, ↓DL.r_listL, ↓DL.r_listT, ↓DL.r_tupleL, ↓DL.r_seqT, ↓DL.r_seqL, ↓DL.r_range1, ↓DL.r_range2, ↓DL.r_strEq, ↓DL.r_strEq2, ↓DL.r_isT0, ↓DL.r_isT1, ↓DL.r_isT2, ↓DL.r_isT3, ↓DL.r_isT4, ↓DL.r_isT5, ↓DL.r_isT6, ↓DL.r_isT7, ↓DL.r_isT8, ↓DL.r_isT9, ↓DL.r_isT10, ↓DL.r_isT11, ↓DL.r_isT12, ↓DL.r_isT13, ↓DL.r_isT14, ↓DL.r_isT15, ↓DL.r_isT16, ↓DL.r_isT17, ↓DL.r_isT18, ↓DL.r_isT19, ↓DL.r_isT20, ↓DL.r_isT21, ↓DL.r_isT22, ↓DL.r_isT23, ↓DL.r_isT24, ↓DL.r_isT25, ↓DL.r_isT26, ↓DL.r_isT27, ↓DL.r_isT28, ↓DL.r_isT29, ↓DL.r_isT30, ↓DL.r_isT31, ↓DL.r_isT32, ↓DL.r_isT33, ↓DL.r_isT34, ↓DL.r_isT35, ↓DL.r_isiN, ↓DL.r_isi2N, ↓DL.r_isiB, ↓DL.r_isi2B, ↓DL.r_isiI, ↓DL.r_isi2I, ↓DL.r_isiS, ↓DL.r_isi2S, ↓DL.r_isiT, ↓DL.r_isi2T, ↓DL.r_isiL, ↓DL.r_isi2L, ↓DL.r_inTI, ↓DL.r_ninTI, ↓DL.r_inLI, ↓DL.r_ninLI, ↓DL.r_inTS, ↓DL.r_inD_nil, ↓DL.r_inD_cons, ↓DL.r_flat_nil, ↓DL.r_flat_cons, ↓DL.r_flatS, ↓DL.r_flatI, ↓DL.r_eqvSS, ↓DL.r_eqvII, ↓DL.r_addLL, ↓DL.r_atm1, ↓DL.r_atm2, ↓DL.r_at0, ↓DL.r_at1, ↓DL.r_at2, ↓DL.r_at3, ↓DL.r_at4, ↓DL.r_at5, ↓DL.r_at6, ↓DL.r_at7, ↓DL.r_at8, ↓DL.r_beqI, ↓DL.r_ndec, ↓DL.r_gT, ↓DL.k_Gs, ↓DL.r_gsCons, ↓DL.r_gsNil, ↓DL.r_isDNN, ↓DL.r_isDBB, ↓DL.r_isDBN, ↓DL.r_isDNB, ↓DL.r_isDIN, ↓DL.r_isDIB, ↓DL.r_isDSN, ↓DL.r_isDSB, ↓DL.r_isDTN, ↓DL.r_isDTB, ↓DL.r_isDLN, ↓DL.r_isDLB, ↓DL.r_isDRN, ↓DL.r_isDRB, ↓DL.r_beqTT, ↓DL.r_beqTF, ↓DL.r_beqFT, ↓DL.r_beqFF, ↓DL.k_onI, ↓DL.k_Fld2, ↓DL.r_fld, ↓DL.k_FldR, ↓DL.k_FldO, ↓DL.r_look, ↓DL.r_lookN, ↓DL.r_putD, ↓DL.r_putDN, ↓DL.k_SF3, ↓DL.r_setFldR, ↓DL.k_SF2, ↓DL.k_SF1, ↓DL.r_setFld, ↓DL.r_methF, ↓DL.k_Me2, ↓DL.r_meth, ↓DL.k_MeR, ↓DL.k_MeO, ↓DL.r_make, ↓DL.k_MkN, ↓DL.r_makeF, ↓DL.k_CG2, ↓DL.k_CG, ↓DL.r_callG, ↓DL.r_callGF, ↓DL.r_listRg, ↓DL.r_tupRg, ↓DL.k_SlR, ↓DL.r_slR, ↓DL.r_enumL, ↓DL.r_max2, ↓DL.r_min2, ↓DL.r_isi2R, ↓DL.r_isiR, ↓DL.r_lst1, ↓DL.r_lst2, ↓DL.r_lst3, ↓DL.r_lst4, ↓DL.r_lst5, ↓DL.r_lst6, ↓DL.r_lst7, ↓DL.r_lst8, ↓DL.r_lst9, ↓DL.r_lst10, ↓DL.r_lst11, ↓DL.r_lst12, ↓DL.r_seqR, ↓DL.k_ForR, ↓DL.r_minL, ↓DL.r_clr, ↓DL.k_Clr1R, ↓DL.k_LstR, ↓DL.r_listRef, ↓DL.k_Clr2, ↓DL.Kt.seq_nx, ↓DL.Kt.seq_rt, ↓DL.Kt.seq_bk, ↓DL.Kt.seq_ct, ↓DL.Kt.seq_ex, ↓DL.Kt.fin_nx, ↓DL.Kt.fin_rt, ↓DL.Kt.fin_ex, ↓DL.Kt.loop_nx, ↓DL.Kt.loop_rt, ↓DL.Kt.loop_bk, ↓DL.Kt.loop_ct, ↓DL.Kt.loop_ex, ↓DL.C.run_ret, ↓DL.mset_same, ↓DL.mset_mset, startD, ixN, Option.bind_some, Option.map_some, List.map_cons, List.map_nil, List.length_cons, List.length_nil, List.length_set, List.replicate, List.cons_append, List.nil_append, List.append_nil, List.set_cons_zero, List.set_cons_succ, List.getElem?_cons_zero, List.getElem?_cons_succ, Nat.reduceAdd, Nat.reduceSub, Nat.zero_add, if_true, if_false, decide_eq_true_eq, reduceIte, Bool.not_true, Bool.not_false, beq_self_eq_true, Bool.false_eq_true, Int.reduceLT, Int.reduceLE, Int.reduceNeg, Int.reduceToNat, Int.reduceAdd, Int.reduceSub, Nat.reduceLT, Nat.reduceLeDiff, Int.cast_ofNat_Int, Int.reduceEq, Int.reduceBEq, DL.wipeD, decide_true, decide_false, not_true_eq_false, not_false_eq_true, String.reduceEq, Bool.or_true, Bool.or_false, Bool.true_or, Bool.false_or, Bool.and_true, Bool.and_false, Bool.true_and, Bool.false_and, Bool.not_not, Nat.reduceEqDiff, Int.toNat_natCast, Decidable.not_not, List.mem_cons, List.not_mem_nil, or_false, or_true, true_or, false_or, and_true, true_and, and_self, and_false, false_and, reduceCtorEq, Option.isNone_some, Option.isNone_none, Option.isSome_some, Option.isSome_none, ↓c_isint, ↓c_rowL, ↓c_rowT, *])
local macro_rules | `(tactic| walk_at "s") => `(tactic| ((try walk_at "h"); repeat' ((first | with_reducible refine if_dec (fun _ => ?_) (fun _ => ?_) | with_reducible refine eif_dec (fun _ => ?_) (fun _ => ?_) | with_reducible refine tor_dec (fun _ => ?_) (fun _ => ?_) | with_reducible refine tand_dec (fun _ => ?_) (fun _ => ?_) | with_reducible refine and_dec (fun _ => ?_) (fun _ => ?_) | with_reducible refine or_dec (fun _ => ?_) (fun _ => ?_) | with_reducible refine ch_dec (fun _ => ?_) (fun _ => ?_)) <;> (try walk_at "h"))))
theorem c_promise {s : Str} {m : Mem} {Q : D → Mem → Prop} {E : Xn → Mem → Prop} (h : s = "safe" ∨ s = "regular" ∨ s = "atomic") (q : Q .non m) : (d_check_promise [.str s]).run m Q E := by
  unfold d_check_promise
  refine fn_run ?_
  unfold p_check_promise
  walk_at "d"
  unfold d_is_kind
  rw [run_fnD]
  unfold p_is_kind k_PROMISES
  rcases h with rfl | rfl | rfl
  · walk_at "d"; exact q
  · walk_at "d"; exact q
  · walk_at "d"; exact q
def Ev.ok (size : Int) : Ev → Prop
  | .write v => 0 ≤ v ∧ v < size
  | .told v => 0 ≤ v ∧ v < size
  | _ => True
theorem c_form {e : Ev} {size : Int} {m : Mem} {Q : D → Mem → Prop} {E : Xn → Mem → Prop} (h : e.ok size) (q : Q e.d m) : (d_event_form [e.d, .int size]).run m Q E := by
  unfold d_event_form
  refine fn_run ?_
  unfold p_event_form
  cases e with
  | write v =>
    have h1 : v ≤ size - 1 := by have := h.2; omega
    simp only [Ev.d] at q ⊢
    walk_at "d"
    rw [c_word2 (by simp) (by simp)]
    walk_at "d"
    rw [c_word2 (by simp) (by simp)]
    walk_at "d"
    rw [c_word2 (by simp) (by simp)]
    walk_at "d"
    rw [c_between h.1 h1]
    walk_at "d"
    exact q
  | told v =>
    have h1 : v ≤ size - 1 := by have := h.2; omega
    simp only [Ev.d] at q ⊢
    walk_at "d"
    rw [c_word2 (by simp) (by simp)]
    walk_at "d"
    rw [c_word2 (by simp) (by simp)]
    walk_at "d"
    rw [c_word2 (by simp) (by simp)]
    walk_at "d"
    rw [c_word2 (by simp) (by simp)]
    walk_at "d"
    rw [c_between h.1 h1]
    walk_at "d"
    exact q
  | wrote =>
    simp only [Ev.d] at q ⊢
    walk_at "d"
    rw [c_word1 (by simp) (by simp)]
    walk_at "d"
    exact q
  | read =>
    simp only [Ev.d] at q ⊢
    walk_at "d"
    rw [c_word1 (by simp) (by simp)]
    walk_at "d"
    rw [c_word1 (by simp) (by simp)]
    walk_at "d"
    exact q
/-- the event as a list -/
def Ev.l : Ev → D
  | .write v => .lst [.str "write", .int v]
  | .wrote => .lst [.str "wrote"]
  | .read => .lst [.str "read"]
  | .told v => .lst [.str "told", .int v]
def shp (x : Ev × Bool) : D := if x.2 then x.1.l else x.1.d
theorem c_formL {e : Ev} {size : Int} {m : Mem} {Q : D → Mem → Prop} {E : Xn → Mem → Prop} (h : e.ok size) (q : Q e.d m) : (d_event_form [e.l, .int size]).run m Q E := by
  unfold d_event_form
  refine fn_run ?_
  unfold p_event_form
  cases e with
  | write v =>
    have h1 : v ≤ size - 1 := by have := h.2; omega
    simp only [Ev.d] at q
    simp only [Ev.l]
    walk_at "d"
    rw [c_word2L (by simp)]
    walk_at "d"
    rw [c_word2L (by simp)]
    walk_at "d"
    rw [c_word2L (by simp)]
    walk_at "d"
    rw [c_between h.1 h1]
    walk_at "d"
    exact q
  | told v =>
    have h1 : v ≤ size - 1 := by have := h.2; omega
    simp only [Ev.d] at q
    simp only [Ev.l]
    walk_at "d"
    rw [c_word2L (by simp)]
    walk_at "d"
    rw [c_word2L (by simp)]
    walk_at "d"
    rw [c_word2L (by simp)]
    walk_at "d"
    rw [c_word2L (by simp)]
    walk_at "d"
    rw [c_between h.1 h1]
    walk_at "d"
    exact q
  | wrote =>
    simp only [Ev.d] at q
    simp only [Ev.l]
    walk_at "d"
    rw [c_word1L (by simp)]
    walk_at "d"
    exact q
  | read =>
    simp only [Ev.d] at q
    simp only [Ev.l]
    walk_at "d"
    rw [c_word1L (by simp)]
    walk_at "d"
    rw [c_word1L (by simp)]
    walk_at "d"
    exact q
theorem c_formS {x : Ev × Bool} {size : Int} {m : Mem} {Q : D → Mem → Prop} {E : Xn → Mem → Prop} (h : x.1.ok size) (q : Q x.1.d m) : (d_event_form [shp x, .int size]).run m Q E := by
  obtain ⟨e, b⟩ := x
  cases b with
  | true => exact c_formL h q
  | false => exact c_form h q
theorem okStep_ok {size : Int} {s s' : Bool × Bool} {e : Ev} (h : okStep size s e = some s') : e.ok size := by
  obtain ⟨w, r⟩ := s
  cases e with
  | write v =>
    simp only [okStep] at h
    split at h
    · rename_i q; exact q.2
    · cases h
  | told v =>
    simp only [okStep] at h
    split at h
    · rename_i q; exact q.2
    · cases h
  | _ => trivial
def histFrom (size : Int) (s : Bool × Bool) (evs : List Ev) : Option (Bool × Bool) := evs.foldlM (okStep size) s
theorem hist_split {size : Int} {pre r : List Ev} {e : Ev} {s : Bool × Bool} (h : hist size (pre ++ e :: r) = some s) : ∃ s1 s2, hist size pre = some s1 ∧ okStep size s1 e = some s2 := by
  unfold hist at h
  rw [List.foldlM_append] at h
  obtain ⟨s1, h1, h2⟩ := Option.bind_eq_some_iff.mp h
  rw [List.foldlM_cons] at h2
  obtain ⟨s2, h3, _⟩ := Option.bind_eq_some_iff.mp h2
  exact ⟨s1, s2, h1, h3⟩
structure EI (m0 : Mem) (e : Addr) (x0 x1 : D) (size : Int) (pre : List (Ev × Bool)) (δ : DSt) (m : Mem) : Prop where
  ex : ∃ (wr rd : Bool) (x5 x6 x7 : Option D), δ = [some x0, some x1, some (.ref e), some (.bl wr), some (.bl rd), x5, x6, x7] ∧ hist size (pre.map (·.1)) = some (wr, rd) ∧ m = mset m0 e (.lst ((pre.map (·.1)).map Ev.d))
theorem events_specS {xs : List (Ev × Bool)} {size : Int} {st : Bool × Bool} {m : Mem} {Q : D → Mem → Prop} {E : Xn → Mem → Prop} (hH : hist size (xs.map (·.1)) = some st) (hl : xs.length ≤ 1000) (q : Q (.lst ((xs.map (·.1)).map Ev.d)) m) : (d_events_of [.lst (xs.map shp), .int size]).run m Q E := by
  unfold d_events_of
  refine fn_run ?_
  unfold p_events_of
  walk_at "d"
  intro e he
  refine for_enum (enc := shp) (EI m e (.lst (xs.map shp)) (.int size) size) ⟨false, false, none, none, none, rfl, rfl, rfl⟩ ?_ ?_
  · rintro pre x r δ m1 hsp ⟨wr, rd, x5, x6, x7, rfl, hp, rfl⟩
    obtain ⟨s1, s2, h1, h2⟩ := hist_split (pre := pre.map (·.1)) (e := x.1) (r := r.map (·.1)) (s := st) (by rw [hsp, List.map_append, List.map_cons] at hH; exact hH)
    obtain rfl : s1 = (wr, rd) := Option.some.inj (h1.symm.trans hp)
    have hlen : ((pre.map (·.1)).map Ev.d).length < sizeLine := by rw [List.length_map, List.length_map]; rw [hsp, List.length_append] at hl; exact Nat.lt_of_lt_of_le (show pre.length < 1001 by omega) (by decide)
    have fin : EI m e (.lst (xs.map shp)) (.int size) size (pre ++ [x]) [some (.lst (xs.map shp)), some (.int size), some (.ref e), some (.bl s2.1), some (.bl s2.2), some (.int pre.length), some (shp x), some x.1.d] (mset m e (.lst ((pre.map (·.1)).map Ev.d ++ [x.1.d]))) :=
      ⟨s2.1, s2.2, _, _, _, rfl, by rw [List.map_append]; exact hist_snoc hp h2, by simp⟩
    walk_at "d"
    unfold p_events_of_b0
    walk_at "d"
    refine c_formS (okStep_ok h2) ?_
    clear hsp hl hH q he h1
    generalize shp x = sx at *
    obtain ⟨x, xb⟩ := x
    generalize pre.map (·.1) = pre1 at *
    cases x with
    | write v =>
      cases wr with
      | true => simp [okStep] at h2
      | false =>
        obtain rfl : (true, rd) = s2 := by simp only [okStep] at h2; split at h2 <;> simp_all
        simp only [Ev.d] at fin ⊢
        walk_at "h"
    | wrote =>
      cases wr with
      | false => simp [okStep] at h2
      | true =>
        obtain rfl : (false, rd) = s2 := by simp only [okStep] at h2; split at h2 <;> simp_all
        simp only [Ev.d] at fin ⊢
        walk_at "h"
    | read =>
      cases rd with
      | true => simp [okStep] at h2
      | false =>
        obtain rfl : (wr, true) = s2 := by simp only [okStep] at h2; split at h2 <;> simp_all
        simp only [Ev.d] at fin ⊢
        walk_at "h"
    | told v =>
      cases rd with
      | false => simp [okStep] at h2
      | true =>
        obtain rfl : (wr, false) = s2 := by simp only [okStep] at h2; split at h2 <;> simp_all
        simp only [Ev.d] at fin ⊢
        walk_at "h"
  · rintro δ m1 ⟨wr, rd, x5, x6, x7, rfl, hp, rfl⟩
    walk_at "d"
    rw [run_sFrz (a := e) rfl mset_same]
    walk_at "d"
    rw [mdel_back he]
    exact q
theorem shp_plain (evs : List Ev) : (evs.map fun e => (e, false)).map shp = evs.map Ev.d ∧ (evs.map fun e => (e, false)).map (·.1) = evs := by
  constructor
  · rw [List.map_map]; rfl
  · rw [List.map_map]; exact List.map_id _
theorem shp_lists (evs : List Ev) : (evs.map fun e => (e, true)).map shp = evs.map Ev.l ∧ (evs.map fun e => (e, true)).map (·.1) = evs := by
  constructor
  · rw [List.map_map]; rfl
  · rw [List.map_map]; exact List.map_id _
theorem events_spec {evs : List Ev} {size : Int} {st : Bool × Bool} {m : Mem} {Q : D → Mem → Prop} {E : Xn → Mem → Prop} (hH : hist size evs = some st) (hl : evs.length ≤ 1000) (q : Q (.lst (evs.map Ev.d)) m) : (d_events_of [.lst (evs.map Ev.d), .int size]).run m Q E := by
  obtain ⟨e1, e2⟩ := shp_plain evs
  rw [← e1]
  exact events_specS (st := st) (by rw [e2]; exact hH) (by rw [List.length_map]; exact hl) (by rw [e2]; exact q)

local macro_rules | `(tactic| walk_at "d") => `(tactic| simp -implicitDefEqProofs only [↓DL.k_F, ↓DL.k_M, ↓DL.k_onV, ↓DL.k_onL, ↓DL.k_onO, ↓DL.k_onN, ↓DL.r_C, ↓DL.r_var, ↓DL.k_Op2, ↓DL.k_Op, ↓DL.r_op, ↓DL.r_un, ↓DL.r_app, ↓DL.r_call, ↓DL.r_callF, ↓DL.k_CK2, ↓DL.k_CK, ↓DL.r_callK, ↓DL.r_callKF, ↓DL.r_nil, ↓DL.k_A2, ↓DL.k_A, ↓DL.r_cons, ↓DL.k_AndT, ↓DL.k_AndF, ↓DL.r_and, ↓DL.k_OrT, ↓DL.k_OrF, ↓DL.r_or, ↓DL.k_Not, ↓DL.r_not, ↓DL.k_EIfT, ↓DL.k_EIfF, ↓DL.r_eIf, ↓DL.k_Ch3T, ↓DL.k_Ch3F, ↓DL.k_Ch2, ↓DL.k_Ch1, ↓DL.r_chain, ↓DL.k_T, ↓DL.r_of, ↓DL.k_TAT, ↓DL.k_TAF, ↓DL.r_tand, ↓DL.k_TOT, ↓DL.k_TOF, ↓DL.r_tor, ↓DL.k_TN, ↓DL.r_tnot, ↓DL.r_tTrue, ↓DL.k_Asg, ↓DL.r_asg, ↓DL.k_Nx, ↓DL.r_expr, ↓DL.k_Rt, ↓DL.r_ret, ↓DL.r_retN, ↓DL.k_IfT, ↓DL.k_IfF, ↓DL.r_if, ↓DL.r_seq, ↓DL.r_next, ↓DL.r_break, ↓DL.r_cont, ↓DL.r_stuck, ↓DL.k_G, ↓DL.r_asgG, ↓DL.k_For, ↓DL.r_for, ↓DL.k_SI3, ↓DL.k_SI2, ↓DL.k_SI, ↓DL.r_setItemS, ↓DL.k_Ap3, ↓DL.k_Ap2, ↓DL.k_Ap1, ↓DL.r_apd, ↓DL.r_gN, ↓DL.r_iSeq, ↓DL.r_iApp, ↓DL.k_Body, ↓DL.k_Sl3, ↓DL.k_Sl2, ↓DL.k_Sl1, ↓DL.r_sl, ↓DL.r_oNone, ↓DL.k_OS, ↓DL.r_oSome, ↓DL.r_slT, ↓DL.r_slL, ↓DL.r_slS, ↓DL.r_retL, ↓DL.r_newL, ↓DL.r_lc, ↓DL.r_lcM, ↓DL.r_add, ↓DL.r_sub, ↓DL.r_mod, ↓DL.r_div, ↓DL.r_pow1018, ↓DL.r_lt, ↓DL.r_le, ↓DL.r_gt, ↓DL.r_ge, ↓DL.r_neg, ↓DL.r_eqII, ↓DL.r_neII, ↓DL.r_eqSS, ↓DL.r_neSS, ↓DL.r_eqBB, ↓DL.r_neBB, ↓DL.r_isN, ↓DL.r_isB, ↓DL.r_notN, ↓DL.r_int1, ↓DL.r_intb, ↓DL.r_abs, ↓DL.k_Get, ↓DL.r_ixT, ↓DL.r_ixL, ↓DL.r_asLR, ↓DL.r_asLL, ↓DL.r_ixRef, ↓DL.r_lenT, ↓DL.r_lenL, ↓DL.k_Len, ↓DL.r_lenRef, ↓DL.r_sumRef, ↓DL.k_SetJ, ↓DL.k_Set, ↓DL.r_setRef, ↓DL.k_App, ↓DL.r_appRef, ↓DL.r_tup0, ↓DL.r_tup1, ↓DL.r_tup2, ↓DL.r_tup3, ↓DL.r_tup4, ↓DL.r_tup5, ↓DL.r_tup6, ↓DL.r_tup7, ↓DL.r_tup8, ↓DL.r_lst0, ↓DL.r_ref0, ↓DL.r_ref1, ↓DL.r_ref2, ↓DL.r_ref3, ↓DL.r_ref4, ↓DL.r_ref5, ↓DL.r_ref6, ↓DL.r_listL, ↓DL.r_listT, ↓DL.r_tupleL, ↓DL.r_seqT, ↓DL.r_seqL, ↓DL.r_range1, ↓DL.r_range2, ↓DL.r_strEq, ↓DL.r_strEq2, ↓DL.r_isT0, ↓DL.r_isT1, ↓DL.r_isT2, ↓DL.r_isT3, ↓DL.r_isT4, ↓DL.r_isT5, ↓DL.r_isT6, ↓DL.r_isT7, ↓DL.r_isT8, ↓DL.r_isT9, ↓DL.r_isT10, ↓DL.r_isT11, ↓DL.r_isT12, ↓DL.r_isT13, ↓DL.r_isT14, ↓DL.r_isT15, ↓DL.r_isT16, ↓DL.r_isT17, ↓DL.r_isT18, ↓DL.r_isT19, ↓DL.r_isT20, ↓DL.r_isT21, ↓DL.r_isT22, ↓DL.r_isT23, ↓DL.r_isT24, ↓DL.r_isT25, ↓DL.r_isT26, ↓DL.r_isT27, ↓DL.r_isT28, ↓DL.r_isT29, ↓DL.r_isT30, ↓DL.r_isT31, ↓DL.r_isT32, ↓DL.r_isT33, ↓DL.r_isT34, ↓DL.r_isT35, ↓DL.r_isiN, ↓DL.r_isi2N, ↓DL.r_isiB, ↓DL.r_isi2B, ↓DL.r_isiI, ↓DL.r_isi2I, ↓DL.r_isiS, ↓DL.r_isi2S, ↓DL.r_isiT, ↓DL.r_isi2T, ↓DL.r_isiL, ↓DL.r_isi2L, ↓DL.r_inTI, ↓DL.r_ninTI, ↓DL.r_inLI, ↓DL.r_ninLI, ↓DL.r_inTS, ↓DL.r_inD_nil, ↓DL.r_inD_cons, ↓DL.r_flat_nil, ↓DL.r_flat_cons, ↓DL.r_flatS, ↓DL.r_flatI, ↓DL.r_eqvSS, ↓DL.r_eqvII, ↓DL.r_addLL, ↓DL.r_atm1, ↓DL.r_atm2, ↓DL.r_at0, ↓DL.r_at1, ↓DL.r_at2, ↓DL.r_at3, ↓DL.r_at4, ↓DL.r_at5, ↓DL.r_at6, ↓DL.r_at7, ↓DL.r_at8, ↓DL.r_beqI, ↓DL.r_ndec, ↓DL.r_gT, ↓DL.k_Gs, ↓DL.r_gsCons, ↓DL.r_gsNil, ↓DL.r_isDNN, ↓DL.r_isDBB, ↓DL.r_isDBN, ↓DL.r_isDNB, ↓DL.r_isDIN, ↓DL.r_isDIB, ↓DL.r_isDSN, ↓DL.r_isDSB, ↓DL.r_isDTN, ↓DL.r_isDTB, ↓DL.r_isDLN, ↓DL.r_isDLB, ↓DL.r_isDRN, ↓DL.r_isDRB, ↓DL.r_beqTT, ↓DL.r_beqTF, ↓DL.r_beqFT, ↓DL.r_beqFF, ↓DL.k_onI, ↓DL.k_Fld2, ↓DL.r_fld, ↓DL.k_FldR, ↓DL.k_FldO, ↓DL.r_look, ↓DL.r_lookN, ↓DL.r_putD, ↓DL.r_putDN, ↓DL.k_SF3, ↓DL.r_setFldR, ↓DL.k_SF2, ↓DL.k_SF1, ↓DL.r_setFld, ↓DL.r_methF, ↓DL.k_Me2, ↓DL.r_meth, ↓DL.k_MeR, ↓DL.k_MeO, ↓DL.r_make, ↓DL.k_MkN, ↓DL.r_makeF, ↓DL.k_CG2, ↓DL.k_CG, ↓DL.r_callG, ↓DL.r_callGF, ↓DL.r_listRg, ↓DL.r_tupRg, ↓DL.k_SlR, ↓DL.r_slR, ↓DL.r_enumL, ↓DL.r_max2, ↓DL.r_min2, ↓DL.r_isi2R, ↓DL.r_isiR, ↓DL.r_lst1, ↓DL.r_lst2, ↓DL.r_lst3, ↓DL.r_lst4, ↓DL.r_lst5, ↓DL.r_lst6, ↓DL.r_lst7, ↓DL.r_lst8, ↓DL.r_lst9, ↓DL.r_lst10, ↓DL.r_lst11, ↓DL.r_lst12, ↓DL.r_seqR, ↓DL.k_ForR, ↓DL.r_minL, ↓DL.r_clr, ↓DL.k_Clr1R, ↓DL.k_LstR, ↓DL.r_listRef, ↓DL.k_Clr2, ↓DL.Kt.seq_nx, ↓DL.Kt.seq_rt, ↓DL.Kt.seq_bk, ↓DL.Kt.seq_ct, ↓DL.Kt.seq_ex, ↓DL.Kt.fin_nx, ↓DL.Kt.fin_rt, ↓DL.Kt.fin_ex, ↓DL.Kt.loop_nx, ↓DL.Kt.loop_rt, ↓DL.Kt.loop_bk, ↓DL.Kt.loop_ct, ↓DL.Kt.loop_ex, ↓DL.C.run_ret, ↓DL.mset_same, ↓DL.mset_mset, startD, ixN, Option.bind_some, Option.map_some, List.map_cons, List.map_nil, List.length_cons, List.length_nil, List.length_set, List.replicate, List.cons_append, List.nil_append, List.append_nil, List.set_cons_zero, List.set_cons_succ, List.getElem?_cons_zero, List.getElem?_cons_succ, Nat.reduceAdd, Nat.reduceSub, Nat.zero_add, if_true, if_false, decide_eq_true_eq, reduceIte, Bool.not_true, Bool.not_false, beq_self_eq_true, Bool.false_eq_true, Int.reduceLT, Int.reduceLE, Int.reduceNeg, Int.reduceToNat, Int.reduceAdd, Int.reduceSub, Nat.reduceLT, Nat.reduceLeDiff, Int.cast_ofNat_Int, Int.reduceEq, Int.reduceBEq, DL.wipeD, decide_true, decide_false, not_true_eq_false, not_false_eq_true, String.reduceEq, Bool.or_true, Bool.or_false, Bool.true_or, Bool.false_or, Bool.and_true, Bool.and_false, Bool.true_and, Bool.false_and, Bool.not_not, Nat.reduceEqDiff, Int.toNat_natCast, Decidable.not_not, List.mem_cons, List.not_mem_nil, or_false, or_true, true_or, false_or, and_true, true_and, and_self, and_false, false_and, reduceCtorEq, Option.isNone_some, Option.isNone_none, Option.isSome_some, Option.isSome_none, ↓c_isint, ↓c_rowL, ↓c_rowT, cs_size, cs_written, cs_ended, cs_writing, cs_reading, cs_low, cs_least])
local macro_rules | `(tactic| walk_at "h") => `(tactic| simp -implicitDefEqProofs only [↓DL.k_F, ↓DL.k_M, ↓DL.k_onV, ↓DL.k_onL, ↓DL.k_onO, ↓DL.k_onN, ↓DL.r_C, ↓DL.r_var, ↓DL.k_Op2, ↓DL.k_Op, ↓DL.r_op, ↓DL.r_un, ↓DL.r_app, ↓DL.r_call, ↓DL.r_callF, ↓DL.k_CK2, ↓DL.k_CK, ↓DL.r_callK, ↓DL.r_callKF, ↓DL.r_nil, ↓DL.k_A2, ↓DL.k_A, ↓DL.r_cons, ↓DL.k_AndT, ↓DL.k_AndF, ↓DL.r_and, ↓DL.k_OrT, ↓DL.k_OrF, ↓DL.r_or, ↓DL.k_Not, ↓DL.r_not, ↓DL.k_EIfT, ↓DL.k_EIfF, ↓DL.r_eIf, ↓DL.k_Ch3T, ↓DL.k_Ch3F, ↓DL.k_Ch2, ↓DL.k_Ch1, ↓DL.r_chain, ↓DL.k_T, ↓DL.r_of, ↓DL.k_TAT, ↓DL.k_TAF, ↓DL.r_tand, ↓DL.k_TOT, ↓DL.k_TOF, ↓DL.r_tor, ↓DL.k_TN, ↓DL.r_tnot, ↓DL.r_tTrue, ↓DL.k_Asg, ↓DL.r_asg, ↓DL.k_Nx, ↓DL.r_expr, ↓DL.k_Rt, ↓DL.r_ret, ↓DL.r_retN, ↓DL.k_IfT, ↓DL.k_IfF, ↓DL.r_if, ↓DL.r_seq, ↓DL.r_next, ↓DL.r_break, ↓DL.r_cont, ↓DL.r_stuck, ↓DL.k_G, ↓DL.r_asgG, ↓DL.k_For, ↓DL.r_for, ↓DL.k_SI3, ↓DL.k_SI2, ↓DL.k_SI, ↓DL.r_setItemS, ↓DL.k_Ap3, ↓DL.k_Ap2, ↓DL.k_Ap1, ↓DL.r_apd, ↓DL.r_gN, ↓DL.r_iSeq, ↓DL.r_iApp, ↓DL.k_Body, ↓DL.k_Sl3, ↓DL.k_Sl2, ↓DL.k_Sl1, ↓DL.r_sl, ↓DL.r_oNone, ↓DL.k_OS, ↓DL.r_oSome, ↓DL.r_slT, ↓DL.r_slL, ↓DL.r_slS, ↓DL.r_retL, ↓DL.r_newL, ↓DL.r_lc, ↓DL.r_lcM, ↓DL.r_add, ↓DL.r_sub, ↓DL.r_mod, ↓DL.r_div, ↓DL.r_pow1018, ↓DL.r_lt, ↓DL.r_le, ↓DL.r_gt, ↓DL.r_ge, ↓DL.r_neg, ↓DL.r_eqII, ↓DL.r_neII, ↓DL.r_eqSS, ↓DL.r_neSS, ↓DL.r_eqBB, ↓DL.r_neBB, ↓DL.r_isN, ↓DL.r_isB, ↓DL.r_notN, ↓DL.r_int1, ↓DL.r_intb, ↓DL.r_abs, ↓DL.k_Get, ↓DL.r_ixT, ↓DL.r_ixL, ↓DL.r_asLR, ↓DL.r_asLL, ↓DL.r_ixRef, ↓DL.r_lenT, ↓DL.r_lenL, ↓DL.k_Len, ↓DL.r_lenRef, ↓DL.r_sumRef, ↓DL.k_SetJ, ↓DL.k_Set, ↓DL.r_setRef, ↓DL.k_App, ↓DL.r_appRef, ↓DL.r_tup0, ↓DL.r_tup1, ↓DL.r_tup2, ↓DL.r_tup3, ↓DL.r_tup4, ↓DL.r_tup5, ↓DL.r_tup6, ↓DL.r_tup7, ↓DL.r_tup8, ↓DL.r_lst0, ↓DL.r_ref0, ↓DL.r_ref1, ↓DL.r_ref2, ↓DL.r_ref3, ↓DL.r_ref4, ↓DL.r_ref5, ↓DL.r_ref6, ↓DL.r_listL, ↓DL.r_listT, ↓DL.r_tupleL, ↓DL.r_seqT, ↓DL.r_seqL, ↓DL.r_range1, ↓DL.r_range2, ↓DL.r_strEq, ↓DL.r_strEq2, ↓DL.r_isT0, ↓DL.r_isT1, ↓DL.r_isT2, ↓DL.r_isT3, ↓DL.r_isT4, ↓DL.r_isT5, ↓DL.r_isT6, ↓DL.r_isT7, ↓DL.r_isT8, ↓DL.r_isT9, ↓DL.r_isT10, ↓DL.r_isT11, ↓DL.r_isT12, ↓DL.r_isT13, ↓DL.r_isT14, ↓DL.r_isT15, ↓DL.r_isT16, ↓DL.r_isT17, ↓DL.r_isT18, ↓DL.r_isT19, ↓DL.r_isT20, ↓DL.r_isT21, ↓DL.r_isT22, ↓DL.r_isT23, ↓DL.r_isT24, ↓DL.r_isT25, ↓DL.r_isT26, ↓DL.r_isT27, ↓DL.r_isT28, ↓DL.r_isT29, ↓DL.r_isT30, ↓DL.r_isT31, ↓DL.r_isT32, ↓DL.r_isT33, ↓DL.r_isT34, ↓DL.r_isT35, ↓DL.r_isiN, ↓DL.r_isi2N, ↓DL.r_isiB, ↓DL.r_isi2B, ↓DL.r_isiI, ↓DL.r_isi2I, ↓DL.r_isiS, ↓DL.r_isi2S, ↓DL.r_isiT, ↓DL.r_isi2T, ↓DL.r_isiL, ↓DL.r_isi2L, ↓DL.r_inTI, ↓DL.r_ninTI, ↓DL.r_inLI, ↓DL.r_ninLI, ↓DL.r_inTS, ↓DL.r_inD_nil, ↓DL.r_inD_cons, ↓DL.r_flat_nil, ↓DL.r_flat_cons, ↓DL.r_flatS, ↓DL.r_flatI, ↓DL.r_eqvSS, ↓DL.r_eqvII, ↓DL.r_addLL, ↓DL.r_atm1, ↓DL.r_atm2, ↓DL.r_at0, ↓DL.r_at1, ↓DL.r_at2, ↓DL.r_at3, ↓DL.r_at4, ↓DL.r_at5, ↓DL.r_at6, ↓DL.r_at7, ↓DL.r_at8, ↓DL.r_beqI, ↓DL.r_ndec, ↓DL.r_gT, ↓DL.k_Gs, ↓DL.r_gsCons, ↓DL.r_gsNil, ↓DL.r_isDNN, ↓DL.r_isDBB, ↓DL.r_isDBN, ↓DL.r_isDNB, ↓DL.r_isDIN, ↓DL.r_isDIB, ↓DL.r_isDSN, ↓DL.r_isDSB, ↓DL.r_isDTN, ↓DL.r_isDTB, ↓DL.r_isDLN, ↓DL.r_isDLB, ↓DL.r_isDRN, ↓DL.r_isDRB, ↓DL.r_beqTT, ↓DL.r_beqTF, ↓DL.r_beqFT, ↓DL.r_beqFF, ↓DL.k_onI, ↓DL.k_Fld2, ↓DL.r_fld, ↓DL.k_FldR, ↓DL.k_FldO, ↓DL.r_look, ↓DL.r_lookN, ↓DL.r_putD, ↓DL.r_putDN, ↓DL.k_SF3, ↓DL.r_setFldR, ↓DL.k_SF2, ↓DL.k_SF1, ↓DL.r_setFld, ↓DL.r_methF, ↓DL.k_Me2, ↓DL.r_meth, ↓DL.k_MeR, ↓DL.k_MeO, ↓DL.r_make, ↓DL.k_MkN, ↓DL.r_makeF, ↓DL.k_CG2, ↓DL.k_CG, ↓DL.r_callG, ↓DL.r_callGF, ↓DL.r_listRg, ↓DL.r_tupRg, ↓DL.k_SlR, ↓DL.r_slR, ↓DL.r_enumL, ↓DL.r_max2, ↓DL.r_min2, ↓DL.r_isi2R, ↓DL.r_isiR, ↓DL.r_lst1, ↓DL.r_lst2, ↓DL.r_lst3, ↓DL.r_lst4, ↓DL.r_lst5, ↓DL.r_lst6, ↓DL.r_lst7, ↓DL.r_lst8, ↓DL.r_lst9, ↓DL.r_lst10, ↓DL.r_lst11, ↓DL.r_lst12, ↓DL.r_seqR, ↓DL.k_ForR, ↓DL.r_minL, ↓DL.r_clr, ↓DL.k_Clr1R, ↓DL.k_LstR, ↓DL.r_listRef, ↓DL.k_Clr2, ↓DL.Kt.seq_nx, ↓DL.Kt.seq_rt, ↓DL.Kt.seq_bk, ↓DL.Kt.seq_ct, ↓DL.Kt.seq_ex, ↓DL.Kt.fin_nx, ↓DL.Kt.fin_rt, ↓DL.Kt.fin_ex, ↓DL.Kt.loop_nx, ↓DL.Kt.loop_rt, ↓DL.Kt.loop_bk, ↓DL.Kt.loop_ct, ↓DL.Kt.loop_ex, ↓DL.C.run_ret, ↓DL.mset_same, ↓DL.mset_mset, startD, ixN, Option.bind_some, Option.map_some, List.map_cons, List.map_nil, List.length_cons, List.length_nil, List.length_set, List.replicate, List.cons_append, List.nil_append, List.append_nil, List.set_cons_zero, List.set_cons_succ, List.getElem?_cons_zero, List.getElem?_cons_succ, Nat.reduceAdd, Nat.reduceSub, Nat.zero_add, if_true, if_false, decide_eq_true_eq, reduceIte, Bool.not_true, Bool.not_false, beq_self_eq_true, Bool.false_eq_true, Int.reduceLT, Int.reduceLE, Int.reduceNeg, Int.reduceToNat, Int.reduceAdd, Int.reduceSub, Nat.reduceLT, Nat.reduceLeDiff, Int.cast_ofNat_Int, Int.reduceEq, Int.reduceBEq, DL.wipeD, decide_true, decide_false, not_true_eq_false, not_false_eq_true, String.reduceEq, Bool.or_true, Bool.or_false, Bool.true_or, Bool.false_or, Bool.and_true, Bool.and_false, Bool.true_and, Bool.false_and, Bool.not_not, Nat.reduceEqDiff, Int.toNat_natCast, Decidable.not_not, List.mem_cons, List.not_mem_nil, or_false, or_true, true_or, false_or, and_true, true_and, and_self, and_false, false_and, reduceCtorEq, Option.isNone_some, Option.isNone_none, Option.isSome_some, Option.isSome_none, ↓c_isint, ↓c_rowL, ↓c_rowT, cs_size, cs_written, cs_ended, cs_writing, cs_reading, cs_low, cs_least, *])
local macro_rules | `(tactic| walk_at "s") => `(tactic| ((try walk_at "h"); repeat' ((first | with_reducible refine if_dec (fun _ => ?_) (fun _ => ?_) | with_reducible refine eif_dec (fun _ => ?_) (fun _ => ?_) | with_reducible refine tor_dec (fun _ => ?_) (fun _ => ?_) | with_reducible refine tand_dec (fun _ => ?_) (fun _ => ?_) | with_reducible refine and_dec (fun _ => ?_) (fun _ => ?_) | with_reducible refine or_dec (fun _ => ?_) (fun _ => ?_) | with_reducible refine ch_dec (fun _ => ?_) (fun _ => ?_)) <;> (try walk_at "h"))))
/-- what has been seen -/
structure Sc where
  ws : List Int
  en : Int
  wr : Bool
  rd : Bool
  lo : Int
  le : Int
def scO (size : Int) (w : Addr) (S : Sc) : MO := .ins "Scan" [("size", .int size), ("written", .ref w), ("ended", .int S.en), ("writing", .bl S.wr), ("reading", .bl S.rd), ("low", .int S.lo), ("least", .int S.le)]
structure ScAt (m : Mem) (s w : Addr) (size : Int) (S : Sc) : Prop where
  ne : w ≠ s
  hs : m s = some (scO size w S)
  hw : m w = some (.lst (S.ws.map D.int))
def numF : List Int → Nat → Int → Option Nat
  | [], _, _ => none
  | x :: r, i, v => if x = v then some i else numF r (i + 1) v
def Sc.low (S : Sc) : Int := if S.le > S.lo then S.le else S.lo
def Sc.num (S : Sc) (v : Int) : Option Nat := numF (S.ws.drop S.low.toNat) S.low.toNat v
def Sc.take (S : Sc) : Ev → Sc
  | .write v => { S with ws := S.ws ++ [v], wr := true }
  | .wrote => { S with en := (S.ws.length : Int) - 1, wr := false }
  | .read => { S with rd := true, lo := S.en }
  | .told v => match S.num v with
    | some i => { S with le := i, rd := false }
    | none => { S with rd := false }
/-- bounds -/
structure Sc.ok (S : Sc) (n : Nat) : Prop where
  n0 : S.ws.length ≤ n
  e0 : 0 ≤ S.en
  e1 : S.en < S.ws.length
  l0 : 0 ≤ S.lo
  l1 : S.lo < S.ws.length
  t0 : 0 ≤ S.le
  t1 : S.le < S.ws.length
def promises : List Str := ["safe", "regular", "atomic"]
def Sc.allowed (S : Sc) (size : Int) (P : Str) : List Int :=
  if P = "safe" then (if S.lo = (S.ws.length : Int) - 1 then [S.ws.getD S.lo.toNat 0] else (List.range size.toNat).map fun (i : Nat) => (i : Int))
  else sortSet (S.ws.drop (if P = "atomic" then S.low else S.lo).toNat)
def optI : Option Nat → D
  | none => .non
  | some i => .int i
theorem numF_lt : ∀ {l : List Int} {i : Nat} {v : Int} {k : Nat}, numF l i v = some k → i ≤ k ∧ k < i + l.length
  | [], _, _, _, h => by cases h
  | x :: r, i, v, k, h => by
    unfold numF at h
    split at h
    · cases h; exact ⟨Nat.le_refl _, by simp⟩
    · have := numF_lt h; simp only [List.length_cons]; omega
def Two (s w : Addr) (m m' : Mem) : Prop := ∀ a, a ≠ s → a ≠ w → m' a = m a
theorem take_spec {m : Mem} {s w : Addr} {size : Int} {S : Sc} {e : Ev} {Q : D → Mem → Prop} {E : Xn → Mem → Prop} (h : ScAt m s w size S) (hl : S.ws.length ≤ 1000) (he : ∀ v, e ≠ .told v)
    (q : ∀ m', ScAt m' s w size (S.take e) → Two s w m m' → Q .non m') : (d_Scan_take [.ref s, e.d]).run m Q E := by
  obtain ⟨ne, hs, hw⟩ := h
  have hz : (S.ws.map D.int).length < sizeLine := by rw [List.length_map]; exact Nat.lt_of_lt_of_le (show S.ws.length < 1001 by omega) (by decide)
  have ne' : s ≠ w := fun z => ne z.symm
  have f1 : ∀ (m : Mem) (o : MO), mset m w o s = m s := fun m o => mset_ne ne'
  have f2 : ∀ (m : Mem) (o : MO), mset m s o w = m w := fun m o => mset_ne ne
  unfold d_Scan_take
  refine fn_run ?_
  unfold p_Scan_take
  cases e with
  | told v => exact absurd rfl (he v)
  | write v =>
    simp only [Ev.d]
    simp only [scO] at hs
    walk_at "h"
    refine q _ ⟨ne, ?_, ?_⟩ ?_
    · rw [mset_same]; rfl
    · rw [mset_ne ne, mset_same, ints_snoc]; rfl
    · intro a a1 a2; rw [mset_ne a1, mset_ne a2]
  | wrote =>
    simp only [Ev.d]
    simp only [scO] at hs
    walk_at "h"
    refine q _ ⟨ne, ?_, ?_⟩ ?_
    · rw [mset_same]; simp [scO, Sc.take]
    · rw [mset_ne ne]; exact hw
    · intro a a1 a2; rw [mset_ne a1]
  | read =>
    simp only [Ev.d]
    simp only [scO] at hs
    walk_at "h"
    refine q _ ⟨ne, ?_, ?_⟩ ?_
    · rw [mset_same]; simp [scO, Sc.take]
    · rw [mset_ne ne]; exact hw
    · intro a a1 a2; rw [mset_ne a1]
theorem cut_drop {ns : List Int} {i : Int} (h : 0 ≤ i) (h2 : i ≤ ns.length) : cutD (ns.map D.int) (some i) none = (ns.drop i.toNat).map D.int := by
  unfold cutD
  have e1 : HT.sIx (ns.map D.int).length 0 (some i) = i.toNat := by
    rw [List.length_map]
    show (if i < 0 then _ else min i.toNat ns.length) = _
    rw [if_neg (by omega)]; omega
  have e2 : HT.sIx (ns.map D.int).length (ns.map D.int).length none = ns.length := by rw [List.length_map]; rfl
  rw [e1, e2, ← List.map_drop, ← List.map_take]
  congr 1
  rw [List.take_of_length_le (by rw [List.length_drop]; omega)]
theorem getD_at {ns : List Int} {i : Int} (h : 0 ≤ i) (h2 : i < ns.length) : atI (ns.map D.int) i = some (.int (ns.getD i.toNat 0)) := by
  have hlt : i.toNat < ns.length := by omega
  refine atI_of h ?_
  rw [List.getElem?_map, List.getD_eq_getElem?_getD, List.getElem?_eq_getElem hlt]; rfl
theorem low_le {S : Sc} {n : Nat} (h : S.ok n) : 0 ≤ S.low ∧ S.low < S.ws.length ∧ S.lo ≤ S.low ∧ S.le ≤ S.low := by
  have := h.l0; have := h.l1; have := h.t0; have := h.t1
  unfold Sc.low
  split <;> omega
theorem rng_ints {n : Int} : rng 0 n = ((List.range n.toNat).map fun (i : Nat) => (i : Int)).map D.int := by
  unfold rng
  rw [List.map_map]
  have : (n - 0).toNat = n.toNat := by omega
  rw [this]
  congr 1
  funext i
  show D.int (0 + (i : Int)) = D.int i
  rw [Int.zero_add]
theorem allowed_spec {m : Mem} {s w : Addr} {size : Int} {S : Sc} {n : Nat} {P : Str} {Q : D → Mem → Prop} {E : Xn → Mem → Prop} (h : ScAt m s w size S) (hk : S.ok n) (hn : n < 64) (hP : P = "safe" ∨ P = "regular" ∨ P = "atomic") (hs1 : 0 ≤ size) (hs2 : size ≤ 1000)
    (q : Q (.lst ((S.allowed size P).map D.int)) m) : (d_Scan_allowed [.ref s, .str P]).run m Q E := by
  obtain ⟨ne, hs, hw⟩ := h
  have hb := low_le hk
  have hk0 := hk.n0; have hk1 := hk.l0; have hk2 := hk.l1
  simp only [scO] at hs
  unfold d_Scan_allowed
  refine fn_run ?_
  unfold p_Scan_allowed
  rcases hP with rfl | rfl | rfl
  · simp only [Sc.allowed, if_pos] at q
    walk_at "h"
    simp only [List.length_map]
    refine if_dec (fun z => ?_) (fun z => ?_)
    · rw [if_pos z] at q
      have e := getD_at (ns := S.ws) (i := (S.ws.length : Int) - 1) (by omega) (by omega)
      walk_at "h"
      rw [z] at q
      exact q
    · rw [if_neg z] at q
      have h3 : size ≤ 1000000 := by omega
      walk_at "h"
      rw [rng_ints]
      exact q
  · have e1 : ("regular" : Str) ≠ "safe" := by rw [Ne, r_strEq2]; decide
    have e2 : ("regular" : Str) ≠ "atomic" := by rw [Ne, r_strEq2]; decide
    simp only [Sc.allowed, if_neg e1, if_neg e2] at q
    walk_at "h"
    rw [cut_drop hk1 (by omega)]
    refine sset_run (by rw [List.length_drop]; omega) ?_
    walk_at "d"
    exact q
  · have e1 : ("atomic" : Str) ≠ "safe" := by rw [Ne, r_strEq2]; decide
    simp only [Sc.allowed, if_neg e1, if_pos] at q
    walk_at "h"
    have e3 : (if S.le > S.lo then S.le else S.lo) = S.low := rfl
    rw [e3, cut_drop hb.1 (by omega)]
    refine sset_run (by rw [List.length_drop]; omega) ?_
    walk_at "d"
    exact q
theorem number_spec {m : Mem} {s w : Addr} {size v : Int} {S : Sc} {n : Nat} {Q : D → Mem → Prop} {E : Xn → Mem → Prop} (h : ScAt m s w size S) (hk : S.ok n) (hn : n < 1000) (q : Q (optI (S.num v)) m) : (d_Scan_number [.ref s, .int v]).run m Q E := by
  obtain ⟨ne, hs, hw⟩ := h
  have hb := low_le hk
  have hk0 := hk.n0
  simp only [scO] at hs
  unfold d_Scan_number
  refine fn_run ?_
  unfold p_Scan_number
  walk_at "h"
  have e3 : (if S.le > S.lo then S.le else S.lo) = S.low := rfl
  rw [e3, List.length_map, r_range2 (by rw [small62_iff]; omega) (by rw [small62_iff]; omega)]
  walk_at "d"
  refine for_range2 (by omega) (fun i δ m' => m' = m ∧ S.num v = numF (S.ws.drop i.toNat) i.toNat v ∧ ∃ y, δ = [some (.ref s), some (.int v), y]) ⟨rfl, rfl, _, rfl⟩ ?_ ?_
  · rintro i δ m1 hi0 hi1 ⟨rfl, hnum, y, rfl⟩
    have e := getD_at (ns := S.ws) (i := i) (by omega) (by omega)
    have hd : S.ws.drop i.toNat = S.ws.getD i.toNat 0 :: S.ws.drop (i.toNat + 1) := by
      have hlt : i.toNat < S.ws.length := by omega
      rw [List.drop_eq_getElem_cons hlt, List.getD_eq_getElem?_getD, List.getElem?_eq_getElem hlt]; rfl
    rw [hd] at hnum
    unfold numF at hnum
    have e4 : (i + 1).toNat = i.toNat + 1 := by omega
    generalize S.ws.getD i.toNat 0 = u at hnum e
    walk_at "d"
    unfold p_Scan_number_b0
    clear hd
    walk_at "d"
    rw [hs]
    walk_at "d"
    rw [hw]
    walk_at "d"
    rw [e]
    walk_at "d"
    refine if_dec (fun z => ?_) (fun z => ?_)
    · rw [if_pos z] at hnum
      rw [hnum] at q
      walk_at "d"
      have e5 : (optI (some i.toNat)) = .int i := by show D.int _ = _; congr 1; omega
      rw [e5] at q
      exact q
    · rw [if_neg z] at hnum
      walk_at "d"
      rw [e4]
      exact ⟨hnum, _, rfl⟩
  · rintro δ m1 ⟨rfl, hnum, y, rfl⟩
    rw [Int.toNat_natCast, List.drop_length] at hnum
    rw [hnum] at q
    walk_at "d"
    exact q
theorem num_lt {S : Sc} {n : Nat} {v : Int} {i : Nat} (hk : S.ok n) (h : S.num v = some i) : i < S.ws.length := by
  have := (numF_lt h).2
  have hb := low_le hk
  rw [List.length_drop] at this
  omega
theorem told_spec {m : Mem} {s w : Addr} {size v : Int} {S : Sc} {n : Nat} {Q : D → Mem → Prop} {E : Xn → Mem → Prop} (h : ScAt m s w size S) (hk : S.ok n) (hn : n < 1000)
    (q : ∀ m', ScAt m' s w size (S.take (.told v)) → Two s w m m' → Q (optI (S.num v)) m') : (d_Scan_told [.ref s, .int v]).run m Q E := by
  have h0 := h
  obtain ⟨ne, hs, hw⟩ := h
  simp only [scO] at hs
  unfold d_Scan_told
  refine fn_run ?_
  unfold p_Scan_told
  walk_at "h"
  refine number_spec h0 hk hn ?_
  cases hnum : S.num v with
  | none =>
    simp only [optI]
    walk_at "h"
    have q' := q (mset m s (scO size w (S.take (.told v)))) ⟨ne, mset_same, by rw [mset_ne ne]; simp [Sc.take, hnum, hw]⟩ (fun a a1 a2 => mset_ne a1)
    simp only [Sc.take, hnum, scO, optI] at q'
    exact q'
  | some i =>
    simp only [optI]
    walk_at "h"
    have q' := q (mset m s (scO size w (S.take (.told v)))) ⟨ne, mset_same, by rw [mset_ne ne]; simp [Sc.take, hnum, hw]⟩ (fun a a1 a2 => mset_ne a1)
    simp only [Sc.take, hnum, scO, optI] at q'
    exact q'

local macro_rules | `(tactic| walk_at "d") => `(tactic| simp -implicitDefEqProofs only [↓DL.k_F, ↓DL.k_M, ↓DL.k_onV, ↓DL.k_onL, ↓DL.k_onO, ↓DL.k_onN, ↓DL.r_C, ↓DL.r_var, ↓DL.k_Op2, ↓DL.k_Op, ↓DL.r_op, ↓DL.r_un, ↓DL.r_app, ↓DL.r_call, ↓DL.r_callF, ↓DL.k_CK2, ↓DL.k_CK, ↓DL.r_callK, ↓DL.r_callKF, ↓DL.r_nil, ↓DL.k_A2, ↓DL.k_A, ↓DL.r_cons, ↓DL.k_AndT, ↓DL.k_AndF, ↓DL.r_and, ↓DL.k_OrT, ↓DL.k_OrF, ↓DL.r_or, ↓DL.k_Not, ↓DL.r_not, ↓DL.k_EIfT, ↓DL.k_EIfF, ↓DL.r_eIf, ↓DL.k_Ch3T, ↓DL.k_Ch3F, ↓DL.k_Ch2, ↓DL.k_Ch1, ↓DL.r_chain, ↓DL.k_T, ↓DL.r_of, ↓DL.k_TAT, ↓DL.k_TAF, ↓DL.r_tand, ↓DL.k_TOT, ↓DL.k_TOF, ↓DL.r_tor, ↓DL.k_TN, ↓DL.r_tnot, ↓DL.r_tTrue, ↓DL.k_Asg, ↓DL.r_asg, ↓DL.k_Nx, ↓DL.r_expr, ↓DL.k_Rt, ↓DL.r_ret, ↓DL.r_retN, ↓DL.k_IfT, ↓DL.k_IfF, ↓DL.r_if, ↓DL.r_seq, ↓DL.r_next, ↓DL.r_break, ↓DL.r_cont, ↓DL.r_stuck, ↓DL.k_G, ↓DL.r_asgG, ↓DL.k_For, ↓DL.r_for, ↓DL.k_SI3, ↓DL.k_SI2, ↓DL.k_SI, ↓DL.r_setItemS, ↓DL.k_Ap3, ↓DL.k_Ap2, ↓DL.k_Ap1, ↓DL.r_apd, ↓DL.r_gN, ↓DL.r_iSeq, ↓DL.r_iApp, ↓DL.k_Body, ↓DL.k_Sl3, ↓DL.k_Sl2, ↓DL.k_Sl1, ↓DL.r_sl, ↓DL.r_oNone, ↓DL.k_OS, ↓DL.r_oSome, ↓DL.r_slT, ↓DL.r_slL, ↓DL.r_slS, ↓DL.r_retL, ↓DL.r_newL, ↓DL.r_lc, ↓DL.r_lcM, ↓DL.r_add, ↓DL.r_sub, ↓DL.r_mod, ↓DL.r_div, ↓DL.r_pow1018, ↓DL.r_lt, ↓DL.r_le, ↓DL.r_gt, ↓DL.r_ge, ↓DL.r_neg, ↓DL.r_eqII, ↓DL.r_neII, ↓DL.r_eqSS, ↓DL.r_neSS, ↓DL.r_eqBB, ↓DL.r_neBB, ↓DL.r_isN, ↓DL.r_isB, ↓DL.r_notN, ↓DL.r_int1, ↓DL.r_intb, ↓DL.r_abs, ↓DL.k_Get, ↓DL.r_ixT, ↓DL.r_ixL, ↓DL.r_asLR, ↓DL.r_asLL, ↓DL.r_ixRef, ↓DL.r_lenT, ↓DL.r_lenL, ↓DL.k_Len, ↓DL.r_lenRef, ↓DL.r_sumRef, ↓DL.k_SetJ, ↓DL.k_Set, ↓DL.r_setRef, ↓DL.k_App, ↓DL.r_appRef, ↓DL.r_tup0, ↓DL.r_tup1, ↓DL.r_tup2, ↓DL.r_tup3, ↓DL.r_tup4, ↓DL.r_tup5, ↓DL.r_tup6, ↓DL.r_tup7, ↓DL.r_tup8, ↓DL.r_lst0, ↓DL.r_ref0, ↓DL.r_ref1, ↓DL.r_ref2, ↓DL.r_ref3, ↓DL.r_ref4, ↓DL.r_ref5, ↓DL.r_ref6, ↓DL.r_listL, ↓DL.r_listT, ↓DL.r_tupleL, ↓DL.r_seqT, ↓DL.r_seqL, ↓DL.r_range1, ↓DL.r_range2, ↓DL.r_strEq, ↓DL.r_strEq2, ↓DL.r_isT0, ↓DL.r_isT1, ↓DL.r_isT2, ↓DL.r_isT3, ↓DL.r_isT4, ↓DL.r_isT5, ↓DL.r_isT6, ↓DL.r_isT7, ↓DL.r_isT8, ↓DL.r_isT9, ↓DL.r_isT10, ↓DL.r_isT11, ↓DL.r_isT12, ↓DL.r_isT13, ↓DL.r_isT14, ↓DL.r_isT15, ↓DL.r_isT16, ↓DL.r_isT17, ↓DL.r_isT18, ↓DL.r_isT19, ↓DL.r_isT20, ↓DL.r_isT21, ↓DL.r_isT22, ↓DL.r_isT23, ↓DL.r_isT24, ↓DL.r_isT25, ↓DL.r_isT26, ↓DL.r_isT27, ↓DL.r_isT28, ↓DL.r_isT29, ↓DL.r_isT30, ↓DL.r_isT31, ↓DL.r_isT32, ↓DL.r_isT33, ↓DL.r_isT34, ↓DL.r_isT35, ↓DL.r_isiN, ↓DL.r_isi2N, ↓DL.r_isiB, ↓DL.r_isi2B, ↓DL.r_isiI, ↓DL.r_isi2I, ↓DL.r_isiS, ↓DL.r_isi2S, ↓DL.r_isiT, ↓DL.r_isi2T, ↓DL.r_isiL, ↓DL.r_isi2L, ↓DL.r_inTI, ↓DL.r_ninTI, ↓DL.r_inLI, ↓DL.r_ninLI, ↓DL.r_inTS, ↓DL.r_inD_nil, ↓DL.r_inD_cons, ↓DL.r_flat_nil, ↓DL.r_flat_cons, ↓DL.r_flatS, ↓DL.r_flatI, ↓DL.r_eqvSS, ↓DL.r_eqvII, ↓DL.r_addLL, ↓DL.r_atm1, ↓DL.r_atm2, ↓DL.r_at0, ↓DL.r_at1, ↓DL.r_at2, ↓DL.r_at3, ↓DL.r_at4, ↓DL.r_at5, ↓DL.r_at6, ↓DL.r_at7, ↓DL.r_at8, ↓DL.r_beqI, ↓DL.r_ndec, ↓DL.r_gT, ↓DL.k_Gs, ↓DL.r_gsCons, ↓DL.r_gsNil, ↓DL.r_isDNN, ↓DL.r_isDBB, ↓DL.r_isDBN, ↓DL.r_isDNB, ↓DL.r_isDIN, ↓DL.r_isDIB, ↓DL.r_isDSN, ↓DL.r_isDSB, ↓DL.r_isDTN, ↓DL.r_isDTB, ↓DL.r_isDLN, ↓DL.r_isDLB, ↓DL.r_isDRN, ↓DL.r_isDRB, ↓DL.r_beqTT, ↓DL.r_beqTF, ↓DL.r_beqFT, ↓DL.r_beqFF, ↓DL.k_onI, ↓DL.k_Fld2, ↓DL.r_fld, ↓DL.k_FldR, ↓DL.k_FldO, ↓DL.r_look, ↓DL.r_lookN, ↓DL.r_putD, ↓DL.r_putDN, ↓DL.k_SF3, ↓DL.r_setFldR, ↓DL.k_SF2, ↓DL.k_SF1, ↓DL.r_setFld, ↓DL.r_methF, ↓DL.k_Me2, ↓DL.r_meth, ↓DL.k_MeR, ↓DL.k_MeO, ↓DL.r_make, ↓DL.k_MkN, ↓DL.r_makeF, ↓DL.k_CG2, ↓DL.k_CG, ↓DL.r_callG, ↓DL.r_callGF, ↓DL.r_listRg, ↓DL.r_tupRg, ↓DL.k_SlR, ↓DL.r_slR, ↓DL.r_enumL, ↓DL.r_max2, ↓DL.r_min2, ↓DL.r_isi2R, ↓DL.r_isiR, ↓DL.r_lst1, ↓DL.r_lst2, ↓DL.r_lst3, ↓DL.r_lst4, ↓DL.r_lst5, ↓DL.r_lst6, ↓DL.r_lst7, ↓DL.r_lst8, ↓DL.r_lst9, ↓DL.r_lst10, ↓DL.r_lst11, ↓DL.r_lst12, ↓DL.r_seqR, ↓DL.k_ForR, ↓DL.r_minL, ↓DL.r_clr, ↓DL.k_Clr1R, ↓DL.k_LstR, ↓DL.r_listRef, ↓DL.k_Clr2, ↓DL.Kt.seq_nx, ↓DL.Kt.seq_rt, ↓DL.Kt.seq_bk, ↓DL.Kt.seq_ct, ↓DL.Kt.seq_ex, ↓DL.Kt.fin_nx, ↓DL.Kt.fin_rt, ↓DL.Kt.fin_ex, ↓DL.Kt.loop_nx, ↓DL.Kt.loop_rt, ↓DL.Kt.loop_bk, ↓DL.Kt.loop_ct, ↓DL.Kt.loop_ex, ↓DL.C.run_ret, ↓DL.mset_same, ↓DL.mset_mset, startD, ixN, Option.bind_some, Option.map_some, List.map_cons, List.map_nil, List.length_cons, List.length_nil, List.length_set, List.replicate, List.cons_append, List.nil_append, List.append_nil, List.set_cons_zero, List.set_cons_succ, List.getElem?_cons_zero, List.getElem?_cons_succ, Nat.reduceAdd, Nat.reduceSub, Nat.zero_add, if_true, if_false, decide_eq_true_eq, reduceIte, Bool.not_true, Bool.not_false, beq_self_eq_true, Bool.false_eq_true, Int.reduceLT, Int.reduceLE, Int.reduceNeg, Int.reduceToNat, Int.reduceAdd, Int.reduceSub, Nat.reduceLT, Nat.reduceLeDiff, Int.cast_ofNat_Int, Int.reduceEq, Int.reduceBEq, DL.wipeD, decide_true, decide_false, not_true_eq_false, not_false_eq_true, String.reduceEq, Bool.or_true, Bool.or_false, Bool.true_or, Bool.false_or, Bool.and_true, Bool.and_false, Bool.true_and, Bool.false_and, Bool.not_not, Nat.reduceEqDiff, Int.toNat_natCast, Decidable.not_not, List.mem_cons, List.not_mem_nil, or_false, or_true, true_or, false_or, and_true, true_and, and_self, and_false, false_and, reduceCtorEq, Option.isNone_some, Option.isNone_none, Option.isSome_some, Option.isSome_none, ↓c_isint, ↓c_rowL, ↓c_rowT, cs_size, cs_written, cs_ended, cs_writing, cs_reading, cs_low, cs_least])
local macro_rules | `(tactic| walk_at "h") => `(tactic| simp -implicitDefEqProofs only [↓DL.k_F, ↓DL.k_M, ↓DL.k_onV, ↓DL.k_onL, ↓DL.k_onO, ↓DL.k_onN, ↓DL.r_C, ↓DL.r_var, ↓DL.k_Op2, ↓DL.k_Op, ↓DL.r_op, ↓DL.r_un, ↓DL.r_app, ↓DL.r_call, ↓DL.r_callF, ↓DL.k_CK2, ↓DL.k_CK, ↓DL.r_callK, ↓DL.r_callKF, ↓DL.r_nil, ↓DL.k_A2, ↓DL.k_A, ↓DL.r_cons, ↓DL.k_AndT, ↓DL.k_AndF, ↓DL.r_and, ↓DL.k_OrT, ↓DL.k_OrF, ↓DL.r_or, ↓DL.k_Not, ↓DL.r_not, ↓DL.k_EIfT, ↓DL.k_EIfF, ↓DL.r_eIf, ↓DL.k_Ch3T, ↓DL.k_Ch3F, ↓DL.k_Ch2, ↓DL.k_Ch1, ↓DL.r_chain, ↓DL.k_T, ↓DL.r_of, ↓DL.k_TAT, ↓DL.k_TAF, ↓DL.r_tand, ↓DL.k_TOT, ↓DL.k_TOF, ↓DL.r_tor, ↓DL.k_TN, ↓DL.r_tnot, ↓DL.r_tTrue, ↓DL.k_Asg, ↓DL.r_asg, ↓DL.k_Nx, ↓DL.r_expr, ↓DL.k_Rt, ↓DL.r_ret, ↓DL.r_retN, ↓DL.k_IfT, ↓DL.k_IfF, ↓DL.r_if, ↓DL.r_seq, ↓DL.r_next, ↓DL.r_break, ↓DL.r_cont, ↓DL.r_stuck, ↓DL.k_G, ↓DL.r_asgG, ↓DL.k_For, ↓DL.r_for, ↓DL.k_SI3, ↓DL.k_SI2, ↓DL.k_SI, ↓DL.r_setItemS, ↓DL.k_Ap3, ↓DL.k_Ap2, ↓DL.k_Ap1, ↓DL.r_apd, ↓DL.r_gN, ↓DL.r_iSeq, ↓DL.r_iApp, ↓DL.k_Body, ↓DL.k_Sl3, ↓DL.k_Sl2, ↓DL.k_Sl1, ↓DL.r_sl, ↓DL.r_oNone, ↓DL.k_OS, ↓DL.r_oSome, ↓DL.r_slT, ↓DL.r_slL, ↓DL.r_slS, ↓DL.r_retL, ↓DL.r_newL, ↓DL.r_lc, ↓DL.r_lcM, ↓DL.r_add, ↓DL.r_sub, ↓DL.r_mod, ↓DL.r_div, ↓DL.r_pow1018, ↓DL.r_lt, ↓DL.r_le, ↓DL.r_gt, ↓DL.r_ge, ↓DL.r_neg, ↓DL.r_eqII, ↓DL.r_neII, ↓DL.r_eqSS, ↓DL.r_neSS, ↓DL.r_eqBB, ↓DL.r_neBB, ↓DL.r_isN, ↓DL.r_isB, ↓DL.r_notN, ↓DL.r_int1, ↓DL.r_intb, ↓DL.r_abs, ↓DL.k_Get, ↓DL.r_ixT, ↓DL.r_ixL, ↓DL.r_asLR, ↓DL.r_asLL, ↓DL.r_ixRef, ↓DL.r_lenT, ↓DL.r_lenL, ↓DL.k_Len, ↓DL.r_lenRef, ↓DL.r_sumRef, ↓DL.k_SetJ, ↓DL.k_Set, ↓DL.r_setRef, ↓DL.k_App, ↓DL.r_appRef, ↓DL.r_tup0, ↓DL.r_tup1, ↓DL.r_tup2, ↓DL.r_tup3, ↓DL.r_tup4, ↓DL.r_tup5, ↓DL.r_tup6, ↓DL.r_tup7, ↓DL.r_tup8, ↓DL.r_lst0, ↓DL.r_ref0, ↓DL.r_ref1, ↓DL.r_ref2, ↓DL.r_ref3, ↓DL.r_ref4, ↓DL.r_ref5, ↓DL.r_ref6, ↓DL.r_listL, ↓DL.r_listT, ↓DL.r_tupleL, ↓DL.r_seqT, ↓DL.r_seqL, ↓DL.r_range1, ↓DL.r_range2, ↓DL.r_strEq, ↓DL.r_strEq2, ↓DL.r_isT0, ↓DL.r_isT1, ↓DL.r_isT2, ↓DL.r_isT3, ↓DL.r_isT4, ↓DL.r_isT5, ↓DL.r_isT6, ↓DL.r_isT7, ↓DL.r_isT8, ↓DL.r_isT9, ↓DL.r_isT10, ↓DL.r_isT11, ↓DL.r_isT12, ↓DL.r_isT13, ↓DL.r_isT14, ↓DL.r_isT15, ↓DL.r_isT16, ↓DL.r_isT17, ↓DL.r_isT18, ↓DL.r_isT19, ↓DL.r_isT20, ↓DL.r_isT21, ↓DL.r_isT22, ↓DL.r_isT23, ↓DL.r_isT24, ↓DL.r_isT25, ↓DL.r_isT26, ↓DL.r_isT27, ↓DL.r_isT28, ↓DL.r_isT29, ↓DL.r_isT30, ↓DL.r_isT31, ↓DL.r_isT32, ↓DL.r_isT33, ↓DL.r_isT34, ↓DL.r_isT35, ↓DL.r_isiN, ↓DL.r_isi2N, ↓DL.r_isiB, ↓DL.r_isi2B, ↓DL.r_isiI, ↓DL.r_isi2I, ↓DL.r_isiS, ↓DL.r_isi2S, ↓DL.r_isiT, ↓DL.r_isi2T, ↓DL.r_isiL, ↓DL.r_isi2L, ↓DL.r_inTI, ↓DL.r_ninTI, ↓DL.r_inLI, ↓DL.r_ninLI, ↓DL.r_inTS, ↓DL.r_inD_nil, ↓DL.r_inD_cons, ↓DL.r_flat_nil, ↓DL.r_flat_cons, ↓DL.r_flatS, ↓DL.r_flatI, ↓DL.r_eqvSS, ↓DL.r_eqvII, ↓DL.r_addLL, ↓DL.r_atm1, ↓DL.r_atm2, ↓DL.r_at0, ↓DL.r_at1, ↓DL.r_at2, ↓DL.r_at3, ↓DL.r_at4, ↓DL.r_at5, ↓DL.r_at6, ↓DL.r_at7, ↓DL.r_at8, ↓DL.r_beqI, ↓DL.r_ndec, ↓DL.r_gT, ↓DL.k_Gs, ↓DL.r_gsCons, ↓DL.r_gsNil, ↓DL.r_isDNN, ↓DL.r_isDBB, ↓DL.r_isDBN, ↓DL.r_isDNB, ↓DL.r_isDIN, ↓DL.r_isDIB, ↓DL.r_isDSN, ↓DL.r_isDSB, ↓DL.r_isDTN, ↓DL.r_isDTB, ↓DL.r_isDLN, ↓DL.r_isDLB, ↓DL.r_isDRN, ↓DL.r_isDRB, ↓DL.r_beqTT, ↓DL.r_beqTF, ↓DL.r_beqFT, ↓DL.r_beqFF, ↓DL.k_onI, ↓DL.k_Fld2, ↓DL.r_fld, ↓DL.k_FldR, ↓DL.k_FldO, ↓DL.r_look, ↓DL.r_lookN, ↓DL.r_putD, ↓DL.r_putDN, ↓DL.k_SF3, ↓DL.r_setFldR, ↓DL.k_SF2, ↓DL.k_SF1, ↓DL.r_setFld, ↓DL.r_methF, ↓DL.k_Me2, ↓DL.r_meth, ↓DL.k_MeR, ↓DL.k_MeO, ↓DL.r_make, ↓DL.k_MkN, ↓DL.r_makeF, ↓DL.k_CG2, ↓DL.k_CG, ↓DL.r_callG, ↓DL.r_callGF, ↓DL.r_listRg, ↓DL.r_tupRg, ↓DL.k_SlR, ↓DL.r_slR, ↓DL.r_enumL, ↓DL.r_max2, ↓DL.r_min2, ↓DL.r_isi2R, ↓DL.r_isiR, ↓DL.r_lst1, ↓DL.r_lst2, ↓DL.r_lst3, ↓DL.r_lst4, ↓DL.r_lst5, ↓DL.r_lst6, ↓DL.r_lst7, ↓DL.r_lst8, ↓DL.r_lst9, ↓DL.r_lst10, ↓DL.r_lst11, ↓DL.r_lst12, ↓DL.r_seqR, ↓DL.k_ForR, ↓DL.r_minL, ↓DL.r_clr, ↓DL.k_Clr1R, ↓DL.k_LstR, ↓DL.r_listRef, ↓DL.k_Clr2, ↓DL.Kt.seq_nx, ↓DL.Kt.seq_rt, ↓DL.Kt.seq_bk, ↓DL.Kt.seq_ct, ↓DL.Kt.seq_ex, ↓DL.Kt.fin_nx, ↓DL.Kt.fin_rt, ↓DL.Kt.fin_ex, ↓DL.Kt.loop_nx, ↓DL.Kt.loop_rt, ↓DL.Kt.loop_bk, ↓DL.Kt.loop_ct, ↓DL.Kt.loop_ex, ↓DL.C.run_ret, ↓DL.mset_same, ↓DL.mset_mset, startD, ixN, Option.bind_some, Option.map_some, List.map_cons, List.map_nil, List.length_cons, List.length_nil, List.length_set, List.replicate, List.cons_append, List.nil_append, List.append_nil, List.set_cons_zero, List.set_cons_succ, List.getElem?_cons_zero, List.getElem?_cons_succ, Nat.reduceAdd, Nat.reduceSub, Nat.zero_add, if_true, if_false, decide_eq_true_eq, reduceIte, Bool.not_true, Bool.not_false, beq_self_eq_true, Bool.false_eq_true, Int.reduceLT, Int.reduceLE, Int.reduceNeg, Int.reduceToNat, Int.reduceAdd, Int.reduceSub, Nat.reduceLT, Nat.reduceLeDiff, Int.cast_ofNat_Int, Int.reduceEq, Int.reduceBEq, DL.wipeD, decide_true, decide_false, not_true_eq_false, not_false_eq_true, String.reduceEq, Bool.or_true, Bool.or_false, Bool.true_or, Bool.false_or, Bool.and_true, Bool.and_false, Bool.true_and, Bool.false_and, Bool.not_not, Nat.reduceEqDiff, Int.toNat_natCast, Decidable.not_not, List.mem_cons, List.not_mem_nil, or_false, or_true, true_or, false_or, and_true, true_and, and_self, and_false, false_and, reduceCtorEq, Option.isNone_some, Option.isNone_none, Option.isSome_some, Option.isSome_none, ↓c_isint, ↓c_rowL, ↓c_rowT, cs_size, cs_written, cs_ended, cs_writing, cs_reading, cs_low, cs_least, *])
local macro_rules | `(tactic| walk_at "s") => `(tactic| ((try walk_at "h"); repeat' ((first | with_reducible refine if_dec (fun _ => ?_) (fun _ => ?_) | with_reducible refine eif_dec (fun _ => ?_) (fun _ => ?_) | with_reducible refine tor_dec (fun _ => ?_) (fun _ => ?_) | with_reducible refine tand_dec (fun _ => ?_) (fun _ => ?_) | with_reducible refine and_dec (fun _ => ?_) (fun _ => ?_) | with_reducible refine or_dec (fun _ => ?_) (fun _ => ?_) | with_reducible refine ch_dec (fun _ => ?_) (fun _ => ?_)) <;> (try walk_at "h"))))
def S0 (start : Int) : Sc := ⟨[start], 0, false, false, 0, 0⟩
theorem S0_ok {start : Int} : (S0 start).ok 1 := ⟨by simp [S0], by simp [S0], by simp [S0], by simp [S0], by simp [S0], by simp [S0], by simp [S0]⟩
theorem take_ok {S : Sc} {n : Nat} (h : S.ok n) (e : Ev) : (S.take e).ok (n + 1) := by
  obtain ⟨a, b, c, d, e1, f, g⟩ := h
  cases e with
  | write v => refine ⟨?_, b, ?_, d, ?_, f, ?_⟩ <;> simp only [Sc.take, List.length_append, List.length_cons, List.length_nil] <;> omega
  | wrote => refine ⟨?_, ?_, ?_, d, e1, f, g⟩ <;> simp only [Sc.take] <;> omega
  | read => refine ⟨?_, b, c, b, c, f, g⟩; simp only [Sc.take]; omega
  | told v =>
    cases q : S.num v with
    | none => simp only [Sc.take, q]; exact ⟨by show S.ws.length ≤ _; omega, b, c, d, e1, f, g⟩
    | some i =>
      have := num_lt ⟨a, b, c, d, e1, f, g⟩ q
      simp only [Sc.take, q]
      exact ⟨by show S.ws.length ≤ _; omega, b, c, d, e1, by show (0 : Int) ≤ i; omega, by show (i : Int) < S.ws.length; omega⟩
theorem init_spec {m : Mem} {s : Addr} {size start : Int} {Q : D → Mem → Prop} {E : Xn → Mem → Prop} (hs : m s = some (.ins "Scan" [])) (q : ∀ w m', m w = none → ScAt m' s w size (S0 start) → Two s w m m' → Q .non m') : (d_Scan___init__ [.ref s, .int size, .int start]).run m Q E := by
  unfold d_Scan___init__
  refine fn_run ?_
  unfold p_Scan___init__
  walk_at "h"
  intro w hw
  have ne : w ≠ s := fun z => by rw [z, mset_same] at hw; cases hw
  have ne' : s ≠ w := fun z => ne z.symm
  have f1 : ∀ (m : Mem) (o : MO), mset m w o s = m s := fun m o => mset_ne ne'
  have f2 : ∀ (m : Mem) (o : MO), mset m s o w = m w := fun m o => mset_ne ne
  walk_at "h"
  refine q w _ (by rw [f2] at hw; exact hw) ⟨ne, ?_, ?_⟩ ?_
  · rw [mset_same]; rfl
  · rw [f2, mset_same]; rfl
  · intro a a1 a2; simp only [mset_ne a1, mset_ne a2]
def faultP (P : Str) (size : Int) : Sc → Nat → List Ev → Option Nat
  | _, _, [] => none
  | S, k, .told v :: r => if v ∈ S.allowed size P then faultP P size (S.take (.told v)) (k + 1) r else some k
  | S, k, e :: r => faultP P size (S.take e) (k + 1) r
def Ext (m m' : Mem) : Prop := ∀ a o, m a = some o → m' a = some o
theorem Ext.rfl {m : Mem} : Ext m m := fun _ _ h => h
theorem Ext.trans {m m' m'' : Mem} (h : Ext m m') (h' : Ext m' m'') : Ext m m'' := fun a o e => h' a o (h a o e)
theorem Ext.new {m : Mem} {a : Addr} {o : MO} (h : m a = none) : Ext m (mset m a o) := fun b u e => by rw [mset_ne (mem_ne e h)]; exact e
theorem Ext.two {m m1 m2 : Mem} {s w : Addr} (h : Ext m m1) (hs : m s = none) (hw : m w = none) (t : Two s w m1 m2) : Ext m m2 := fun a o e => by
  rw [t a (mem_ne e hs) (mem_ne e hw)]; exact h a o e

local macro_rules | `(tactic| walk_at "d") => `(tactic| simp -implicitDefEqProofs only [↓DL.k_F, ↓DL.k_M, ↓DL.k_onV, ↓DL.k_onL, ↓DL.k_onO, ↓DL.k_onN, ↓DL.r_C, ↓DL.r_var, ↓DL.k_Op2, ↓DL.k_Op, ↓DL.r_op, ↓DL.r_un, ↓DL.r_app, ↓DL.r_call, ↓DL.r_callF, ↓DL.k_CK2, ↓DL.k_CK, ↓DL.r_callK, ↓DL.r_callKF, ↓DL.r_nil, ↓DL.k_A2, ↓DL.k_A, ↓DL.r_cons, ↓DL.k_AndT, ↓DL.k_AndF, ↓DL.r_and, ↓DL.k_OrT, ↓DL.k_OrF, ↓DL.r_or, ↓DL.k_Not, ↓DL.r_not, ↓DL.k_EIfT, ↓DL.k_EIfF, ↓DL.r_eIf, ↓DL.k_Ch3T, ↓DL.k_Ch3F, ↓DL.k_Ch2, ↓DL.k_Ch1, ↓DL.r_chain, ↓DL.k_T, ↓DL.r_of, ↓DL.k_TAT, ↓DL.k_TAF, ↓DL.r_tand, ↓DL.k_TOT, ↓DL.k_TOF, ↓DL.r_tor, ↓DL.k_TN, ↓DL.r_tnot, ↓DL.r_tTrue, ↓DL.k_Asg, ↓DL.r_asg, ↓DL.k_Nx, ↓DL.r_expr, ↓DL.k_Rt, ↓DL.r_ret, ↓DL.r_retN, ↓DL.k_IfT, ↓DL.k_IfF, ↓DL.r_if, ↓DL.r_seq, ↓DL.r_next, ↓DL.r_break, ↓DL.r_cont, ↓DL.r_stuck, ↓DL.k_G, ↓DL.r_asgG, ↓DL.k_For, ↓DL.r_for, ↓DL.k_SI3, ↓DL.k_SI2, ↓DL.k_SI, ↓DL.r_setItemS, ↓DL.k_Ap3, ↓DL.k_Ap2, ↓DL.k_Ap1, ↓DL.r_apd, ↓DL.r_gN, ↓DL.r_iSeq, ↓DL.r_iApp, ↓DL.k_Body, ↓DL.k_Sl3, ↓DL.k_Sl2, ↓DL.k_Sl1, ↓DL.r_sl, ↓DL.r_oNone, ↓DL.k_OS, ↓DL.r_oSome, ↓DL.r_slT, ↓DL.r_slL, ↓DL.r_slS, ↓DL.r_retL, ↓DL.r_newL, ↓DL.r_lc, ↓DL.r_lcM, ↓DL.r_add, ↓DL.r_sub, ↓DL.r_mod, ↓DL.r_div, ↓DL.r_pow1018, ↓DL.r_lt, ↓DL.r_le, ↓DL.r_gt, ↓DL.r_ge, ↓DL.r_neg, ↓DL.r_eqII, ↓DL.r_neII, ↓DL.r_eqSS, ↓DL.r_neSS, ↓DL.r_eqBB, ↓DL.r_neBB, ↓DL.r_isN, ↓DL.r_isB, ↓DL.r_notN, ↓DL.r_int1, ↓DL.r_intb, ↓DL.r_abs, ↓DL.k_Get, ↓DL.r_ixT, ↓DL.r_ixL, ↓DL.r_asLR, ↓DL.r_asLL, ↓DL.r_ixRef, ↓DL.r_lenT, ↓DL.r_lenL, ↓DL.k_Len, ↓DL.r_lenRef, ↓DL.r_sumRef, ↓DL.k_SetJ, ↓DL.k_Set, ↓DL.r_setRef, ↓DL.k_App, ↓DL.r_appRef, ↓DL.r_tup0, ↓DL.r_tup1, ↓DL.r_tup2, ↓DL.r_tup3, ↓DL.r_tup4, ↓DL.r_tup5, ↓DL.r_tup6, ↓DL.r_tup7, ↓DL.r_tup8, ↓DL.r_lst0, ↓DL.r_ref0, ↓DL.r_ref1, ↓DL.r_ref2, ↓DL.r_ref3, ↓DL.r_ref4, ↓DL.r_ref5, ↓DL.r_ref6, ↓DL.r_listL, ↓DL.r_listT, ↓DL.r_tupleL, ↓DL.r_seqT, ↓DL.r_seqL, ↓DL.r_range1, ↓DL.r_range2, ↓DL.r_strEq, ↓DL.r_strEq2, ↓DL.r_isT0, ↓DL.r_isT1, ↓DL.r_isT2, ↓DL.r_isT3, ↓DL.r_isT4, ↓DL.r_isT5, ↓DL.r_isT6, ↓DL.r_isT7, ↓DL.r_isT8, ↓DL.r_isT9, ↓DL.r_isT10, ↓DL.r_isT11, ↓DL.r_isT12, ↓DL.r_isT13, ↓DL.r_isT14, ↓DL.r_isT15, ↓DL.r_isT16, ↓DL.r_isT17, ↓DL.r_isT18, ↓DL.r_isT19, ↓DL.r_isT20, ↓DL.r_isT21, ↓DL.r_isT22, ↓DL.r_isT23, ↓DL.r_isT24, ↓DL.r_isT25, ↓DL.r_isT26, ↓DL.r_isT27, ↓DL.r_isT28, ↓DL.r_isT29, ↓DL.r_isT30, ↓DL.r_isT31, ↓DL.r_isT32, ↓DL.r_isT33, ↓DL.r_isT34, ↓DL.r_isT35, ↓DL.r_isiN, ↓DL.r_isi2N, ↓DL.r_isiB, ↓DL.r_isi2B, ↓DL.r_isiI, ↓DL.r_isi2I, ↓DL.r_isiS, ↓DL.r_isi2S, ↓DL.r_isiT, ↓DL.r_isi2T, ↓DL.r_isiL, ↓DL.r_isi2L, ↓DL.r_inTI, ↓DL.r_ninTI, ↓DL.r_inLI, ↓DL.r_ninLI, ↓DL.r_inTS, ↓DL.r_inD_nil, ↓DL.r_inD_cons, ↓DL.r_flat_nil, ↓DL.r_flat_cons, ↓DL.r_flatS, ↓DL.r_flatI, ↓DL.r_eqvSS, ↓DL.r_eqvII, ↓DL.r_addLL, ↓DL.r_atm1, ↓DL.r_atm2, ↓DL.r_at0, ↓DL.r_at1, ↓DL.r_at2, ↓DL.r_at3, ↓DL.r_at4, ↓DL.r_at5, ↓DL.r_at6, ↓DL.r_at7, ↓DL.r_at8, ↓DL.r_beqI, ↓DL.r_ndec, ↓DL.r_gT, ↓DL.k_Gs, ↓DL.r_gsCons, ↓DL.r_gsNil, ↓DL.r_isDNN, ↓DL.r_isDBB, ↓DL.r_isDBN, ↓DL.r_isDNB, ↓DL.r_isDIN, ↓DL.r_isDIB, ↓DL.r_isDSN, ↓DL.r_isDSB, ↓DL.r_isDTN, ↓DL.r_isDTB, ↓DL.r_isDLN, ↓DL.r_isDLB, ↓DL.r_isDRN, ↓DL.r_isDRB, ↓DL.r_beqTT, ↓DL.r_beqTF, ↓DL.r_beqFT, ↓DL.r_beqFF, ↓DL.k_onI, ↓DL.k_Fld2, ↓DL.r_fld, ↓DL.k_FldR, ↓DL.k_FldO, ↓DL.r_look, ↓DL.r_lookN, ↓DL.r_putD, ↓DL.r_putDN, ↓DL.k_SF3, ↓DL.r_setFldR, ↓DL.k_SF2, ↓DL.k_SF1, ↓DL.r_setFld, ↓DL.r_methF, ↓DL.k_Me2, ↓DL.r_meth, ↓DL.k_MeR, ↓DL.k_MeO, ↓DL.r_make, ↓DL.k_MkN, ↓DL.r_makeF, ↓DL.k_CG2, ↓DL.k_CG, ↓DL.r_callG, ↓DL.r_callGF, ↓DL.r_listRg, ↓DL.r_tupRg, ↓DL.k_SlR, ↓DL.r_slR, ↓DL.r_enumL, ↓DL.r_max2, ↓DL.r_min2, ↓DL.r_isi2R, ↓DL.r_isiR, ↓DL.r_lst1, ↓DL.r_lst2, ↓DL.r_lst3, ↓DL.r_lst4, ↓DL.r_lst5, ↓DL.r_lst6, ↓DL.r_lst7, ↓DL.r_lst8, ↓DL.r_lst9, ↓DL.r_lst10, ↓DL.r_lst11, ↓DL.r_lst12, ↓DL.r_seqR, ↓DL.k_ForR, ↓DL.r_minL, ↓DL.r_clr, ↓DL.k_Clr1R, ↓DL.k_LstR, ↓DL.r_listRef, ↓DL.k_Clr2, ↓DL.Kt.seq_nx, ↓DL.Kt.seq_rt, ↓DL.Kt.seq_bk, ↓DL.Kt.seq_ct, ↓DL.Kt.seq_ex, ↓DL.Kt.fin_nx, ↓DL.Kt.fin_rt, ↓DL.Kt.fin_ex, ↓DL.Kt.loop_nx, ↓DL.Kt.loop_rt, ↓DL.Kt.loop_bk, ↓DL.Kt.loop_ct, ↓DL.Kt.loop_ex, ↓DL.C.run_ret, ↓DL.mset_same, ↓DL.mset_mset, startD, ixN, Option.bind_some, Option.map_some, List.map_cons, List.map_nil, List.length_cons, List.length_nil, List.length_set, List.replicate, List.cons_append, List.nil_append, List.append_nil, List.set_cons_zero, List.set_cons_succ, List.getElem?_cons_zero, List.getElem?_cons_succ, Nat.reduceAdd, Nat.reduceSub, Nat.zero_add, if_true, if_false, decide_eq_true_eq, reduceIte, Bool.not_true, Bool.not_false, beq_self_eq_true, Bool.false_eq_true, Int.reduceLT, Int.reduceLE, Int.reduceNeg, Int.reduceToNat, Int.reduceAdd, Int.reduceSub, Nat.reduceLT, Nat.reduceLeDiff, Int.cast_ofNat_Int, Int.reduceEq, Int.reduceBEq, DL.wipeD, decide_true, decide_false, not_true_eq_false, not_false_eq_true, String.reduceEq, Bool.or_true, Bool.or_false, Bool.true_or, Bool.false_or, Bool.and_true, Bool.and_false, Bool.true_and, Bool.false_and, Bool.not_not, Nat.reduceEqDiff, Int.toNat_natCast, Decidable.not_not, List.mem_cons, List.not_mem_nil, or_false, or_true, true_or, false_or, and_true, true_and, and_self, and_false, false_and, reduceCtorEq, Option.isNone_some, Option.isNone_none, Option.isSome_some, Option.isSome_none, ↓c_isint, ↓c_rowL, ↓c_rowT, cs_size, cs_written, cs_ended, cs_writing, cs_reading, cs_low, cs_least])
local macro_rules | `(tactic| walk_at "h") => `(tactic| simp -implicitDefEqProofs only [↓DL.k_F, ↓DL.k_M, ↓DL.k_onV, ↓DL.k_onL, ↓DL.k_onO, ↓DL.k_onN, ↓DL.r_C, ↓DL.r_var, ↓DL.k_Op2, ↓DL.k_Op, ↓DL.r_op, ↓DL.r_un, ↓DL.r_app, ↓DL.r_call, ↓DL.r_callF, ↓DL.k_CK2, ↓DL.k_CK, ↓DL.r_callK, ↓DL.r_callKF, ↓DL.r_nil, ↓DL.k_A2, ↓DL.k_A, ↓DL.r_cons, ↓DL.k_AndT, ↓DL.k_AndF, ↓DL.r_and, ↓DL.k_OrT, ↓DL.k_OrF, ↓DL.r_or, ↓DL.k_Not, ↓DL.r_not, ↓DL.k_EIfT, ↓DL.k_EIfF, ↓DL.r_eIf, ↓DL.k_Ch3T, ↓DL.k_Ch3F, ↓DL.k_Ch2, ↓DL.k_Ch1, ↓DL.r_chain, ↓DL.k_T, ↓DL.r_of, ↓DL.k_TAT, ↓DL.k_TAF, ↓DL.r_tand, ↓DL.k_TOT, ↓DL.k_TOF, ↓DL.r_tor, ↓DL.k_TN, ↓DL.r_tnot, ↓DL.r_tTrue, ↓DL.k_Asg, ↓DL.r_asg, ↓DL.k_Nx, ↓DL.r_expr, ↓DL.k_Rt, ↓DL.r_ret, ↓DL.r_retN, ↓DL.k_IfT, ↓DL.k_IfF, ↓DL.r_if, ↓DL.r_seq, ↓DL.r_next, ↓DL.r_break, ↓DL.r_cont, ↓DL.r_stuck, ↓DL.k_G, ↓DL.r_asgG, ↓DL.k_For, ↓DL.r_for, ↓DL.k_SI3, ↓DL.k_SI2, ↓DL.k_SI, ↓DL.r_setItemS, ↓DL.k_Ap3, ↓DL.k_Ap2, ↓DL.k_Ap1, ↓DL.r_apd, ↓DL.r_gN, ↓DL.r_iSeq, ↓DL.r_iApp, ↓DL.k_Body, ↓DL.k_Sl3, ↓DL.k_Sl2, ↓DL.k_Sl1, ↓DL.r_sl, ↓DL.r_oNone, ↓DL.k_OS, ↓DL.r_oSome, ↓DL.r_slT, ↓DL.r_slL, ↓DL.r_slS, ↓DL.r_retL, ↓DL.r_newL, ↓DL.r_lc, ↓DL.r_lcM, ↓DL.r_add, ↓DL.r_sub, ↓DL.r_mod, ↓DL.r_div, ↓DL.r_pow1018, ↓DL.r_lt, ↓DL.r_le, ↓DL.r_gt, ↓DL.r_ge, ↓DL.r_neg, ↓DL.r_eqII, ↓DL.r_neII, ↓DL.r_eqSS, ↓DL.r_neSS, ↓DL.r_eqBB, ↓DL.r_neBB, ↓DL.r_isN, ↓DL.r_isB, ↓DL.r_notN, ↓DL.r_int1, ↓DL.r_intb, ↓DL.r_abs, ↓DL.k_Get, ↓DL.r_ixT, ↓DL.r_ixL, ↓DL.r_asLR, ↓DL.r_asLL, ↓DL.r_ixRef, ↓DL.r_lenT, ↓DL.r_lenL, ↓DL.k_Len, ↓DL.r_lenRef, ↓DL.r_sumRef, ↓DL.k_SetJ, ↓DL.k_Set, ↓DL.r_setRef, ↓DL.k_App, ↓DL.r_appRef, ↓DL.r_tup0, ↓DL.r_tup1, ↓DL.r_tup2, ↓DL.r_tup3, ↓DL.r_tup4, ↓DL.r_tup5, ↓DL.r_tup6, ↓DL.r_tup7, ↓DL.r_tup8, ↓DL.r_lst0, ↓DL.r_ref0, ↓DL.r_ref1, ↓DL.r_ref2, ↓DL.r_ref3, ↓DL.r_ref4, ↓DL.r_ref5, ↓DL.r_ref6, ↓DL.r_listL, ↓DL.r_listT, ↓DL.r_tupleL, ↓DL.r_seqT, ↓DL.r_seqL, ↓DL.r_range1, ↓DL.r_range2, ↓DL.r_strEq, ↓DL.r_strEq2, ↓DL.r_isT0, ↓DL.r_isT1, ↓DL.r_isT2, ↓DL.r_isT3, ↓DL.r_isT4, ↓DL.r_isT5, ↓DL.r_isT6, ↓DL.r_isT7, ↓DL.r_isT8, ↓DL.r_isT9, ↓DL.r_isT10, ↓DL.r_isT11, ↓DL.r_isT12, ↓DL.r_isT13, ↓DL.r_isT14, ↓DL.r_isT15, ↓DL.r_isT16, ↓DL.r_isT17, ↓DL.r_isT18, ↓DL.r_isT19, ↓DL.r_isT20, ↓DL.r_isT21, ↓DL.r_isT22, ↓DL.r_isT23, ↓DL.r_isT24, ↓DL.r_isT25, ↓DL.r_isT26, ↓DL.r_isT27, ↓DL.r_isT28, ↓DL.r_isT29, ↓DL.r_isT30, ↓DL.r_isT31, ↓DL.r_isT32, ↓DL.r_isT33, ↓DL.r_isT34, ↓DL.r_isT35, ↓DL.r_isiN, ↓DL.r_isi2N, ↓DL.r_isiB, ↓DL.r_isi2B, ↓DL.r_isiI, ↓DL.r_isi2I, ↓DL.r_isiS, ↓DL.r_isi2S, ↓DL.r_isiT, ↓DL.r_isi2T, ↓DL.r_isiL, ↓DL.r_isi2L, ↓DL.r_inTI, ↓DL.r_ninTI, ↓DL.r_inLI, ↓DL.r_ninLI, ↓DL.r_inTS, ↓DL.r_inD_nil, ↓DL.r_inD_cons, ↓DL.r_flat_nil, ↓DL.r_flat_cons, ↓DL.r_flatS, ↓DL.r_flatI, ↓DL.r_eqvSS, ↓DL.r_eqvII, ↓DL.r_addLL, ↓DL.r_atm1, ↓DL.r_atm2, ↓DL.r_at0, ↓DL.r_at1, ↓DL.r_at2, ↓DL.r_at3, ↓DL.r_at4, ↓DL.r_at5, ↓DL.r_at6, ↓DL.r_at7, ↓DL.r_at8, ↓DL.r_beqI, ↓DL.r_ndec, ↓DL.r_gT, ↓DL.k_Gs, ↓DL.r_gsCons, ↓DL.r_gsNil, ↓DL.r_isDNN, ↓DL.r_isDBB, ↓DL.r_isDBN, ↓DL.r_isDNB, ↓DL.r_isDIN, ↓DL.r_isDIB, ↓DL.r_isDSN, ↓DL.r_isDSB, ↓DL.r_isDTN, ↓DL.r_isDTB, ↓DL.r_isDLN, ↓DL.r_isDLB, ↓DL.r_isDRN, ↓DL.r_isDRB, ↓DL.r_beqTT, ↓DL.r_beqTF, ↓DL.r_beqFT, ↓DL.r_beqFF, ↓DL.k_onI, ↓DL.k_Fld2, ↓DL.r_fld, ↓DL.k_FldR, ↓DL.k_FldO, ↓DL.r_look, ↓DL.r_lookN, ↓DL.r_putD, ↓DL.r_putDN, ↓DL.k_SF3, ↓DL.r_setFldR, ↓DL.k_SF2, ↓DL.k_SF1, ↓DL.r_setFld, ↓DL.r_methF, ↓DL.k_Me2, ↓DL.r_meth, ↓DL.k_MeR, ↓DL.k_MeO, ↓DL.r_make, ↓DL.k_MkN, ↓DL.r_makeF, ↓DL.k_CG2, ↓DL.k_CG, ↓DL.r_callG, ↓DL.r_callGF, ↓DL.r_listRg, ↓DL.r_tupRg, ↓DL.k_SlR, ↓DL.r_slR, ↓DL.r_enumL, ↓DL.r_max2, ↓DL.r_min2, ↓DL.r_isi2R, ↓DL.r_isiR, ↓DL.r_lst1, ↓DL.r_lst2, ↓DL.r_lst3, ↓DL.r_lst4, ↓DL.r_lst5, ↓DL.r_lst6, ↓DL.r_lst7, ↓DL.r_lst8, ↓DL.r_lst9, ↓DL.r_lst10, ↓DL.r_lst11, ↓DL.r_lst12, ↓DL.r_seqR, ↓DL.k_ForR, ↓DL.r_minL, ↓DL.r_clr, ↓DL.k_Clr1R, ↓DL.k_LstR, ↓DL.r_listRef, ↓DL.k_Clr2, ↓DL.Kt.seq_nx, ↓DL.Kt.seq_rt, ↓DL.Kt.seq_bk, ↓DL.Kt.seq_ct, ↓DL.Kt.seq_ex, ↓DL.Kt.fin_nx, ↓DL.Kt.fin_rt, ↓DL.Kt.fin_ex, ↓DL.Kt.loop_nx, ↓DL.Kt.loop_rt, ↓DL.Kt.loop_bk, ↓DL.Kt.loop_ct, ↓DL.Kt.loop_ex, ↓DL.C.run_ret, ↓DL.mset_same, ↓DL.mset_mset, startD, ixN, Option.bind_some, Option.map_some, List.map_cons, List.map_nil, List.length_cons, List.length_nil, List.length_set, List.replicate, List.cons_append, List.nil_append, List.append_nil, List.set_cons_zero, List.set_cons_succ, List.getElem?_cons_zero, List.getElem?_cons_succ, Nat.reduceAdd, Nat.reduceSub, Nat.zero_add, if_true, if_false, decide_eq_true_eq, reduceIte, Bool.not_true, Bool.not_false, beq_self_eq_true, Bool.false_eq_true, Int.reduceLT, Int.reduceLE, Int.reduceNeg, Int.reduceToNat, Int.reduceAdd, Int.reduceSub, Nat.reduceLT, Nat.reduceLeDiff, Int.cast_ofNat_Int, Int.reduceEq, Int.reduceBEq, DL.wipeD, decide_true, decide_false, not_true_eq_false, not_false_eq_true, String.reduceEq, Bool.or_true, Bool.or_false, Bool.true_or, Bool.false_or, Bool.and_true, Bool.and_false, Bool.true_and, Bool.false_and, Bool.not_not, Nat.reduceEqDiff, Int.toNat_natCast, Decidable.not_not, List.mem_cons, List.not_mem_nil, or_false, or_true, true_or, false_or, and_true, true_and, and_self, and_false, false_and, reduceCtorEq, Option.isNone_some, Option.isNone_none, Option.isSome_some, Option.isSome_none, ↓c_isint, ↓c_rowL, ↓c_rowT, cs_size, cs_written, cs_ended, cs_writing, cs_reading, cs_low, cs_least, *])
local macro_rules | `(tactic| walk_at "s") => `(tactic| ((try walk_at "h"); repeat' ((first | with_reducible refine if_dec (fun _ => ?_) (fun _ => ?_) | with_reducible refine eif_dec (fun _ => ?_) (fun _ => ?_) | with_reducible refine tor_dec (fun _ => ?_) (fun _ => ?_) | with_reducible refine tand_dec (fun _ => ?_) (fun _ => ?_) | with_reducible refine and_dec (fun _ => ?_) (fun _ => ?_) | with_reducible refine or_dec (fun _ => ?_) (fun _ => ?_) | with_reducible refine ch_dec (fun _ => ?_) (fun _ => ?_)) <;> (try walk_at "h"))))
structure FI (P : Str) (x0 : D) (evs : List Ev) (start size : Int) (m0 : Mem) (s w : Addr) (pre : List Ev) (δ : DSt) (m : Mem) : Prop where
  ex : ∃ (S : Sc) (x6 x7 : Option D), δ = [some x0, some (.str P), some (.int size), some (.int start), some (.lst (evs.map Ev.d)), some (.ref s), x6, x7] ∧ ScAt m s w size S ∧ S.ok (pre.length + 1) ∧ Ext m0 m ∧
    faultP P size (S0 start) 0 evs = faultP P size S pre.length (evs.drop pre.length)
theorem fault_specS {xs : List (Ev × Bool)} {evs : List Ev} (hx : xs.map (·.1) = evs) {P : Str} {size start : Int} {st : Bool × Bool} {m : Mem} {Q : D → Mem → Prop} {E : Xn → Mem → Prop} (hP : P = "safe" ∨ P = "regular" ∨ P = "atomic") (hz1 : 2 ≤ size) (hz2 : size ≤ 5) (h0 : 0 ≤ start) (h1 : start < size) (hH : hist size evs = some st) (hl : evs.length ≤ 60)
    (q : ∀ m', Ext m m' → Q (optI (faultP P size (S0 start) 0 evs)) m') : (d_fault [.lst (xs.map shp), .str P, .int size, .int start]).run m Q E := by
  unfold d_fault
  refine fn_run ?_
  unfold p_fault
  walk_at "d"
  rw [c_setting hz1 hz2 h0 h1]
  walk_at "d"
  refine c_promise hP ?_
  walk_at "d"
  refine events_specS (st := st) (by rw [hx]; exact hH) (by rw [← hx, List.length_map] at hl; omega) ?_
  rw [hx]
  walk_at "d"
  intro s hs
  refine init_spec mset_same fun w m1 hw hS0 hT => ?_
  have ne : w ≠ s := hS0.ne
  have hw0 : m w = none := by rw [mset_ne ne] at hw; exact hw
  have hE : Ext m m1 := Ext.two (Ext.new hs) hs hw0 hT
  walk_at "d"
  refine for_enum (enc := Ev.d) (FI P (.lst (xs.map shp)) evs start size m s w) ⟨S0 start, none, none, rfl, hS0, S0_ok, hE, rfl⟩ ?_ ?_
  · rintro pre x r δ m2 hsp ⟨S, x6, x7, rfl, hS, hok, hE2, hf⟩
    have hlen : pre.length + 1 ≤ 60 := by rw [hsp, List.length_append, List.length_cons] at hl; omega
    have hd : evs.drop pre.length = x :: r := by rw [hsp]; exact List.drop_left' rfl
    have hd2 : evs.drop (pre.length + 1) = r := by rw [hsp, List.append_cons]; exact List.drop_left' (by simp)
    rw [hd] at hf
    have nx : ∀ m3, ScAt m3 s w size (S.take x) → Ext m m3 → faultP P size (S0 start) 0 evs = faultP P size (S.take x) (pre.length + 1) r → FI P (.lst (xs.map shp)) evs start size m s w (pre ++ [x]) [some (.lst (xs.map shp)), some (.str P), some (.int size), some (.int start), some (.lst (evs.map Ev.d)), some (.ref s), some (.int pre.length), some x.d] m3 := by
      intro m3 a1 a2 a3
      refine ⟨S.take x, _, _, rfl, a1, ?_, a2, ?_⟩
      · rw [List.length_append]; exact take_ok hok x
      · rw [List.length_append]; show _ = faultP P size (S.take x) (pre.length + 1) (evs.drop (pre.length + 1)); rw [hd2]; exact a3
    have hs2 : m2 s = some (scO size w S) := hS.hs
    simp only [scO] at hs2
    walk_at "d"
    unfold p_fault_b0
    clear hsp hl hH hd hd2 hS0 hT hE hw
    cases x with
    | told v =>
      simp only [Ev.d] at nx ⊢
      simp only [faultP] at hf
      walk_at "d"
      rw [hs2]
      walk_at "d"
      refine allowed_spec hS hok (by omega) hP (by omega) (by omega) ?_
      walk_at "d"
      refine if_ndec' (fun z => ?_) (fun z => ?_)
      · rw [if_neg z] at hf
        rw [hf] at q
        walk_at "d"
        exact q m2 hE2
      · rw [if_pos z] at hf
        walk_at "d"
        rw [hs2]
        walk_at "d"
        refine told_spec hS hok (by omega) fun m3 hS3 hT3 => ?_
        walk_at "d"
        exact nx m3 hS3 (Ext.two hE2 hs hw0 hT3) hf
    | write v =>
      simp only [Ev.d] at nx ⊢
      walk_at "d"
      rw [hs2]
      walk_at "d"
      refine take_spec (e := .write v) hS (by have := hok.n0; omega) (fun _ z => by cases z) fun m3 hS3 hT3 => ?_
      walk_at "d"
      exact nx m3 hS3 (Ext.two hE2 hs hw0 hT3) hf
    | wrote =>
      simp only [Ev.d] at nx ⊢
      walk_at "d"
      rw [hs2]
      walk_at "d"
      refine take_spec (e := .wrote) hS (by have := hok.n0; omega) (fun _ z => by cases z) fun m3 hS3 hT3 => ?_
      walk_at "d"
      exact nx m3 hS3 (Ext.two hE2 hs hw0 hT3) hf
    | read =>
      simp only [Ev.d] at nx ⊢
      walk_at "d"
      rw [hs2]
      walk_at "d"
      refine take_spec (e := .read) hS (by have := hok.n0; omega) (fun _ z => by cases z) fun m3 hS3 hT3 => ?_
      walk_at "d"
      exact nx m3 hS3 (Ext.two hE2 hs hw0 hT3) hf
  · rintro δ m2 ⟨S, x6, x7, rfl, hS, hok, hE2, hf⟩
    rw [List.drop_length] at hf
    have hf2 : faultP P size (S0 start) 0 evs = none := by rw [hf]; rfl
    rw [hf2] at q
    walk_at "d"
    exact q m2 hE2
theorem fault_spec {evs : List Ev} {P : Str} {size start : Int} {st : Bool × Bool} {m : Mem} {Q : D → Mem → Prop} {E : Xn → Mem → Prop} (hP : P = "safe" ∨ P = "regular" ∨ P = "atomic") (hz1 : 2 ≤ size) (hz2 : size ≤ 5) (h0 : 0 ≤ start) (h1 : start < size) (hH : hist size evs = some st) (hl : evs.length ≤ 60)
    (q : ∀ m', Ext m m' → Q (optI (faultP P size (S0 start) 0 evs)) m') : (d_fault [.lst (evs.map Ev.d), .str P, .int size, .int start]).run m Q E := by
  obtain ⟨e1, e2⟩ := shp_plain evs
  rw [← e1]
  exact fault_specS e2 hP hz1 hz2 h0 h1 hH hl q

local macro_rules | `(tactic| walk_at "d") => `(tactic| simp -implicitDefEqProofs only [↓DL.k_F, ↓DL.k_M, ↓DL.k_onV, ↓DL.k_onL, ↓DL.k_onO, ↓DL.k_onN, ↓DL.r_C, ↓DL.r_var, ↓DL.k_Op2, ↓DL.k_Op, ↓DL.r_op, ↓DL.r_un, ↓DL.r_app, ↓DL.r_call, ↓DL.r_callF, ↓DL.k_CK2, ↓DL.k_CK, ↓DL.r_callK, ↓DL.r_callKF, ↓DL.r_nil, ↓DL.k_A2, ↓DL.k_A, ↓DL.r_cons, ↓DL.k_AndT, ↓DL.k_AndF, ↓DL.r_and, ↓DL.k_OrT, ↓DL.k_OrF, ↓DL.r_or, ↓DL.k_Not, ↓DL.r_not, ↓DL.k_EIfT, ↓DL.k_EIfF, ↓DL.r_eIf, ↓DL.k_Ch3T, ↓DL.k_Ch3F, ↓DL.k_Ch2, ↓DL.k_Ch1, ↓DL.r_chain, ↓DL.k_T, ↓DL.r_of, ↓DL.k_TAT, ↓DL.k_TAF, ↓DL.r_tand, ↓DL.k_TOT, ↓DL.k_TOF, ↓DL.r_tor, ↓DL.k_TN, ↓DL.r_tnot, ↓DL.r_tTrue, ↓DL.k_Asg, ↓DL.r_asg, ↓DL.k_Nx, ↓DL.r_expr, ↓DL.k_Rt, ↓DL.r_ret, ↓DL.r_retN, ↓DL.k_IfT, ↓DL.k_IfF, ↓DL.r_if, ↓DL.r_seq, ↓DL.r_next, ↓DL.r_break, ↓DL.r_cont, ↓DL.r_stuck, ↓DL.k_G, ↓DL.r_asgG, ↓DL.k_For, ↓DL.r_for, ↓DL.k_SI3, ↓DL.k_SI2, ↓DL.k_SI, ↓DL.r_setItemS, ↓DL.k_Ap3, ↓DL.k_Ap2, ↓DL.k_Ap1, ↓DL.r_apd, ↓DL.r_gN, ↓DL.r_iSeq, ↓DL.r_iApp, ↓DL.k_Body, ↓DL.k_Sl3, ↓DL.k_Sl2, ↓DL.k_Sl1, ↓DL.r_sl, ↓DL.r_oNone, ↓DL.k_OS, ↓DL.r_oSome, ↓DL.r_slT, ↓DL.r_slL, ↓DL.r_slS, ↓DL.r_retL, ↓DL.r_newL, ↓DL.r_lc, ↓DL.r_lcM, ↓DL.r_add, ↓DL.r_sub, ↓DL.r_mod, ↓DL.r_div, ↓DL.r_pow1018, ↓DL.r_lt, ↓DL.r_le, ↓DL.r_gt, ↓DL.r_ge, ↓DL.r_neg, ↓DL.r_eqII, ↓DL.r_neII, ↓DL.r_eqSS, ↓DL.r_neSS, ↓DL.r_eqBB, ↓DL.r_neBB, ↓DL.r_isN, ↓DL.r_isB, ↓DL.r_notN, ↓DL.r_int1, ↓DL.r_intb, ↓DL.r_abs, ↓DL.k_Get, ↓DL.r_ixT, ↓DL.r_ixL, ↓DL.r_asLR, ↓DL.r_asLL, ↓DL.r_ixRef, ↓DL.r_lenT, ↓DL.r_lenL, ↓DL.k_Len, ↓DL.r_lenRef, ↓DL.r_sumRef, ↓DL.k_SetJ, ↓DL.k_Set, ↓DL.r_setRef, ↓DL.k_App, ↓DL.r_appRef, ↓DL.r_tup0, ↓DL.r_tup1, ↓DL.r_tup2, ↓DL.r_tup3, ↓DL.r_tup4, ↓DL.r_tup5, ↓DL.r_tup6, ↓DL.r_tup7, ↓DL.r_tup8, ↓DL.r_lst0, ↓DL.r_ref0, ↓DL.r_ref1, ↓DL.r_ref2, ↓DL.r_ref3, ↓DL.r_ref4, ↓DL.r_ref5, ↓DL.r_ref6, ↓DL.r_listL, ↓DL.r_listT, ↓DL.r_tupleL, ↓DL.r_seqT, ↓DL.r_seqL, ↓DL.r_range1, ↓DL.r_range2, ↓DL.r_strEq, ↓DL.r_strEq2, ↓DL.r_isT0, ↓DL.r_isT1, ↓DL.r_isT2, ↓DL.r_isT3, ↓DL.r_isT4, ↓DL.r_isT5, ↓DL.r_isT6, ↓DL.r_isT7, ↓DL.r_isT8, ↓DL.r_isT9, ↓DL.r_isT10, ↓DL.r_isT11, ↓DL.r_isT12, ↓DL.r_isT13, ↓DL.r_isT14, ↓DL.r_isT15, ↓DL.r_isT16, ↓DL.r_isT17, ↓DL.r_isT18, ↓DL.r_isT19, ↓DL.r_isT20, ↓DL.r_isT21, ↓DL.r_isT22, ↓DL.r_isT23, ↓DL.r_isT24, ↓DL.r_isT25, ↓DL.r_isT26, ↓DL.r_isT27, ↓DL.r_isT28, ↓DL.r_isT29, ↓DL.r_isT30, ↓DL.r_isT31, ↓DL.r_isT32, ↓DL.r_isT33, ↓DL.r_isT34, ↓DL.r_isT35, ↓DL.r_isiN, ↓DL.r_isi2N, ↓DL.r_isiB, ↓DL.r_isi2B, ↓DL.r_isiI, ↓DL.r_isi2I, ↓DL.r_isiS, ↓DL.r_isi2S, ↓DL.r_isiT, ↓DL.r_isi2T, ↓DL.r_isiL, ↓DL.r_isi2L, ↓DL.r_inTI, ↓DL.r_ninTI, ↓DL.r_inLI, ↓DL.r_ninLI, ↓DL.r_inTS, ↓DL.r_inD_nil, ↓DL.r_inD_cons, ↓DL.r_flat_nil, ↓DL.r_flat_cons, ↓DL.r_flatS, ↓DL.r_flatI, ↓DL.r_eqvSS, ↓DL.r_eqvII, ↓DL.r_addLL, ↓DL.r_atm1, ↓DL.r_atm2, ↓DL.r_at0, ↓DL.r_at1, ↓DL.r_at2, ↓DL.r_at3, ↓DL.r_at4, ↓DL.r_at5, ↓DL.r_at6, ↓DL.r_at7, ↓DL.r_at8, ↓DL.r_beqI, ↓DL.r_ndec, ↓DL.r_gT, ↓DL.k_Gs, ↓DL.r_gsCons, ↓DL.r_gsNil, ↓DL.r_isDNN, ↓DL.r_isDBB, ↓DL.r_isDBN, ↓DL.r_isDNB, ↓DL.r_isDIN, ↓DL.r_isDIB, ↓DL.r_isDSN, ↓DL.r_isDSB, ↓DL.r_isDTN, ↓DL.r_isDTB, ↓DL.r_isDLN, ↓DL.r_isDLB, ↓DL.r_isDRN, ↓DL.r_isDRB, ↓DL.r_beqTT, ↓DL.r_beqTF, ↓DL.r_beqFT, ↓DL.r_beqFF, ↓DL.k_onI, ↓DL.k_Fld2, ↓DL.r_fld, ↓DL.k_FldR, ↓DL.k_FldO, ↓DL.r_look, ↓DL.r_lookN, ↓DL.r_putD, ↓DL.r_putDN, ↓DL.k_SF3, ↓DL.r_setFldR, ↓DL.k_SF2, ↓DL.k_SF1, ↓DL.r_setFld, ↓DL.r_methF, ↓DL.k_Me2, ↓DL.r_meth, ↓DL.k_MeR, ↓DL.k_MeO, ↓DL.r_make, ↓DL.k_MkN, ↓DL.r_makeF, ↓DL.k_CG2, ↓DL.k_CG, ↓DL.r_callG, ↓DL.r_callGF, ↓DL.r_listRg, ↓DL.r_tupRg, ↓DL.k_SlR, ↓DL.r_slR, ↓DL.r_enumL, ↓DL.r_max2, ↓DL.r_min2, ↓DL.r_isi2R, ↓DL.r_isiR, ↓DL.r_lst1, ↓DL.r_lst2, ↓DL.r_lst3, ↓DL.r_lst4, ↓DL.r_lst5, ↓DL.r_lst6, ↓DL.r_lst7, ↓DL.r_lst8, ↓DL.r_lst9, ↓DL.r_lst10, ↓DL.r_lst11, ↓DL.r_lst12, ↓DL.r_seqR, ↓DL.k_ForR, ↓DL.r_minL, ↓DL.r_clr, ↓DL.k_Clr1R, ↓DL.k_LstR, ↓DL.r_listRef, ↓DL.k_Clr2, ↓DL.Kt.seq_nx, ↓DL.Kt.seq_rt, ↓DL.Kt.seq_bk, ↓DL.Kt.seq_ct, ↓DL.Kt.seq_ex, ↓DL.Kt.fin_nx, ↓DL.Kt.fin_rt, ↓DL.Kt.fin_ex, ↓DL.Kt.loop_nx, ↓DL.Kt.loop_rt, ↓DL.Kt.loop_bk, ↓DL.Kt.loop_ct, ↓DL.Kt.loop_ex, ↓DL.C.run_ret, ↓DL.mset_same, ↓DL.mset_mset, startD, ixN, Option.bind_some, Option.map_some, List.map_cons, List.map_nil, List.length_cons, List.length_nil, List.length_set, List.replicate, List.cons_append, List.nil_append, List.append_nil, List.set_cons_zero, List.set_cons_succ, List.getElem?_cons_zero, List.getElem?_cons_succ, Nat.reduceAdd, Nat.reduceSub, Nat.zero_add, if_true, if_false, decide_eq_true_eq, reduceIte, Bool.not_true, Bool.not_false, beq_self_eq_true, Bool.false_eq_true, Int.reduceLT, Int.reduceLE, Int.reduceNeg, Int.reduceToNat, Int.reduceAdd, Int.reduceSub, Nat.reduceLT, Nat.reduceLeDiff, Int.cast_ofNat_Int, Int.reduceEq, Int.reduceBEq, DL.wipeD, decide_true, decide_false, not_true_eq_false, not_false_eq_true, String.reduceEq, Bool.or_true, Bool.or_false, Bool.true_or, Bool.false_or, Bool.and_true, Bool.and_false, Bool.true_and, Bool.false_and, Bool.not_not, Nat.reduceEqDiff, Int.toNat_natCast, Decidable.not_not, List.mem_cons, List.not_mem_nil, or_false, or_true, true_or, false_or, and_true, true_and, and_self, and_false, false_and, reduceCtorEq, Option.isNone_some, Option.isNone_none, Option.isSome_some, Option.isSome_none, ↓c_isint, ↓c_rowL, ↓c_rowT, cs_size, cs_written, cs_ended, cs_writing, cs_reading, cs_low, cs_least])
local macro_rules | `(tactic| walk_at "h") => `(tactic| simp -implicitDefEqProofs only [↓DL.k_F, ↓DL.k_M, ↓DL.k_onV, ↓DL.k_onL, ↓DL.k_onO, ↓DL.k_onN, ↓DL.r_C, ↓DL.r_var, ↓DL.k_Op2, ↓DL.k_Op, ↓DL.r_op, ↓DL.r_un, ↓DL.r_app, ↓DL.r_call, ↓DL.r_callF, ↓DL.k_CK2, ↓DL.k_CK, ↓DL.r_callK, ↓DL.r_callKF, ↓DL.r_nil, ↓DL.k_A2, ↓DL.k_A, ↓DL.r_cons, ↓DL.k_AndT, ↓DL.k_AndF, ↓DL.r_and, ↓DL.k_OrT, ↓DL.k_OrF, ↓DL.r_or, ↓DL.k_Not, ↓DL.r_not, ↓DL.k_EIfT, ↓DL.k_EIfF, ↓DL.r_eIf, ↓DL.k_Ch3T, ↓DL.k_Ch3F, ↓DL.k_Ch2, ↓DL.k_Ch1, ↓DL.r_chain, ↓DL.k_T, ↓DL.r_of, ↓DL.k_TAT, ↓DL.k_TAF, ↓DL.r_tand, ↓DL.k_TOT, ↓DL.k_TOF, ↓DL.r_tor, ↓DL.k_TN, ↓DL.r_tnot, ↓DL.r_tTrue, ↓DL.k_Asg, ↓DL.r_asg, ↓DL.k_Nx, ↓DL.r_expr, ↓DL.k_Rt, ↓DL.r_ret, ↓DL.r_retN, ↓DL.k_IfT, ↓DL.k_IfF, ↓DL.r_if, ↓DL.r_seq, ↓DL.r_next, ↓DL.r_break, ↓DL.r_cont, ↓DL.r_stuck, ↓DL.k_G, ↓DL.r_asgG, ↓DL.k_For, ↓DL.r_for, ↓DL.k_SI3, ↓DL.k_SI2, ↓DL.k_SI, ↓DL.r_setItemS, ↓DL.k_Ap3, ↓DL.k_Ap2, ↓DL.k_Ap1, ↓DL.r_apd, ↓DL.r_gN, ↓DL.r_iSeq, ↓DL.r_iApp, ↓DL.k_Body, ↓DL.k_Sl3, ↓DL.k_Sl2, ↓DL.k_Sl1, ↓DL.r_sl, ↓DL.r_oNone, ↓DL.k_OS, ↓DL.r_oSome, ↓DL.r_slT, ↓DL.r_slL, ↓DL.r_slS, ↓DL.r_retL, ↓DL.r_newL, ↓DL.r_lc, ↓DL.r_lcM, ↓DL.r_add, ↓DL.r_sub, ↓DL.r_mod, ↓DL.r_div, ↓DL.r_pow1018, ↓DL.r_lt, ↓DL.r_le, ↓DL.r_gt, ↓DL.r_ge, ↓DL.r_neg, ↓DL.r_eqII, ↓DL.r_neII, ↓DL.r_eqSS, ↓DL.r_neSS, ↓DL.r_eqBB, ↓DL.r_neBB, ↓DL.r_isN, ↓DL.r_isB, ↓DL.r_notN, ↓DL.r_int1, ↓DL.r_intb, ↓DL.r_abs, ↓DL.k_Get, ↓DL.r_ixT, ↓DL.r_ixL, ↓DL.r_asLR, ↓DL.r_asLL, ↓DL.r_ixRef, ↓DL.r_lenT, ↓DL.r_lenL, ↓DL.k_Len, ↓DL.r_lenRef, ↓DL.r_sumRef, ↓DL.k_SetJ, ↓DL.k_Set, ↓DL.r_setRef, ↓DL.k_App, ↓DL.r_appRef, ↓DL.r_tup0, ↓DL.r_tup1, ↓DL.r_tup2, ↓DL.r_tup3, ↓DL.r_tup4, ↓DL.r_tup5, ↓DL.r_tup6, ↓DL.r_tup7, ↓DL.r_tup8, ↓DL.r_lst0, ↓DL.r_ref0, ↓DL.r_ref1, ↓DL.r_ref2, ↓DL.r_ref3, ↓DL.r_ref4, ↓DL.r_ref5, ↓DL.r_ref6, ↓DL.r_listL, ↓DL.r_listT, ↓DL.r_tupleL, ↓DL.r_seqT, ↓DL.r_seqL, ↓DL.r_range1, ↓DL.r_range2, ↓DL.r_strEq, ↓DL.r_strEq2, ↓DL.r_isT0, ↓DL.r_isT1, ↓DL.r_isT2, ↓DL.r_isT3, ↓DL.r_isT4, ↓DL.r_isT5, ↓DL.r_isT6, ↓DL.r_isT7, ↓DL.r_isT8, ↓DL.r_isT9, ↓DL.r_isT10, ↓DL.r_isT11, ↓DL.r_isT12, ↓DL.r_isT13, ↓DL.r_isT14, ↓DL.r_isT15, ↓DL.r_isT16, ↓DL.r_isT17, ↓DL.r_isT18, ↓DL.r_isT19, ↓DL.r_isT20, ↓DL.r_isT21, ↓DL.r_isT22, ↓DL.r_isT23, ↓DL.r_isT24, ↓DL.r_isT25, ↓DL.r_isT26, ↓DL.r_isT27, ↓DL.r_isT28, ↓DL.r_isT29, ↓DL.r_isT30, ↓DL.r_isT31, ↓DL.r_isT32, ↓DL.r_isT33, ↓DL.r_isT34, ↓DL.r_isT35, ↓DL.r_isiN, ↓DL.r_isi2N, ↓DL.r_isiB, ↓DL.r_isi2B, ↓DL.r_isiI, ↓DL.r_isi2I, ↓DL.r_isiS, ↓DL.r_isi2S, ↓DL.r_isiT, ↓DL.r_isi2T, ↓DL.r_isiL, ↓DL.r_isi2L, ↓DL.r_inTI, ↓DL.r_ninTI, ↓DL.r_inLI, ↓DL.r_ninLI, ↓DL.r_inTS, ↓DL.r_inD_nil, ↓DL.r_inD_cons, ↓DL.r_flat_nil, ↓DL.r_flat_cons, ↓DL.r_flatS, ↓DL.r_flatI, ↓DL.r_eqvSS, ↓DL.r_eqvII, ↓DL.r_addLL, ↓DL.r_atm1, ↓DL.r_atm2, ↓DL.r_at0, ↓DL.r_at1, ↓DL.r_at2, ↓DL.r_at3, ↓DL.r_at4, ↓DL.r_at5, ↓DL.r_at6, ↓DL.r_at7, ↓DL.r_at8, ↓DL.r_beqI, ↓DL.r_ndec, ↓DL.r_gT, ↓DL.k_Gs, ↓DL.r_gsCons, ↓DL.r_gsNil, ↓DL.r_isDNN, ↓DL.r_isDBB, ↓DL.r_isDBN, ↓DL.r_isDNB, ↓DL.r_isDIN, ↓DL.r_isDIB, ↓DL.r_isDSN, ↓DL.r_isDSB, ↓DL.r_isDTN, ↓DL.r_isDTB, ↓DL.r_isDLN, ↓DL.r_isDLB, ↓DL.r_isDRN, ↓DL.r_isDRB, ↓DL.r_beqTT, ↓DL.r_beqTF, ↓DL.r_beqFT, ↓DL.r_beqFF, ↓DL.k_onI, ↓DL.k_Fld2, ↓DL.r_fld, ↓DL.k_FldR, ↓DL.k_FldO, ↓DL.r_look, ↓DL.r_lookN, ↓DL.r_putD, ↓DL.r_putDN, ↓DL.k_SF3, ↓DL.r_setFldR, ↓DL.k_SF2, ↓DL.k_SF1, ↓DL.r_setFld, ↓DL.r_methF, ↓DL.k_Me2, ↓DL.r_meth, ↓DL.k_MeR, ↓DL.k_MeO, ↓DL.r_make, ↓DL.k_MkN, ↓DL.r_makeF, ↓DL.k_CG2, ↓DL.k_CG, ↓DL.r_callG, ↓DL.r_callGF, ↓DL.r_listRg, ↓DL.r_tupRg, ↓DL.k_SlR, ↓DL.r_slR, ↓DL.r_enumL, ↓DL.r_max2, ↓DL.r_min2, ↓DL.r_isi2R, ↓DL.r_isiR, ↓DL.r_lst1, ↓DL.r_lst2, ↓DL.r_lst3, ↓DL.r_lst4, ↓DL.r_lst5, ↓DL.r_lst6, ↓DL.r_lst7, ↓DL.r_lst8, ↓DL.r_lst9, ↓DL.r_lst10, ↓DL.r_lst11, ↓DL.r_lst12, ↓DL.r_seqR, ↓DL.k_ForR, ↓DL.r_minL, ↓DL.r_clr, ↓DL.k_Clr1R, ↓DL.k_LstR, ↓DL.r_listRef, ↓DL.k_Clr2, ↓DL.Kt.seq_nx, ↓DL.Kt.seq_rt, ↓DL.Kt.seq_bk, ↓DL.Kt.seq_ct, ↓DL.Kt.seq_ex, ↓DL.Kt.fin_nx, ↓DL.Kt.fin_rt, ↓DL.Kt.fin_ex, ↓DL.Kt.loop_nx, ↓DL.Kt.loop_rt, ↓DL.Kt.loop_bk, ↓DL.Kt.loop_ct, ↓DL.Kt.loop_ex, ↓DL.C.run_ret, ↓DL.mset_same, ↓DL.mset_mset, startD, ixN, Option.bind_some, Option.map_some, List.map_cons, List.map_nil, List.length_cons, List.length_nil, List.length_set, List.replicate, List.cons_append, List.nil_append, List.append_nil, List.set_cons_zero, List.set_cons_succ, List.getElem?_cons_zero, List.getElem?_cons_succ, Nat.reduceAdd, Nat.reduceSub, Nat.zero_add, if_true, if_false, decide_eq_true_eq, reduceIte, Bool.not_true, Bool.not_false, beq_self_eq_true, Bool.false_eq_true, Int.reduceLT, Int.reduceLE, Int.reduceNeg, Int.reduceToNat, Int.reduceAdd, Int.reduceSub, Nat.reduceLT, Nat.reduceLeDiff, Int.cast_ofNat_Int, Int.reduceEq, Int.reduceBEq, DL.wipeD, decide_true, decide_false, not_true_eq_false, not_false_eq_true, String.reduceEq, Bool.or_true, Bool.or_false, Bool.true_or, Bool.false_or, Bool.and_true, Bool.and_false, Bool.true_and, Bool.false_and, Bool.not_not, Nat.reduceEqDiff, Int.toNat_natCast, Decidable.not_not, List.mem_cons, List.not_mem_nil, or_false, or_true, true_or, false_or, and_true, true_and, and_self, and_false, false_and, reduceCtorEq, Option.isNone_some, Option.isNone_none, Option.isSome_some, Option.isSome_none, ↓c_isint, ↓c_rowL, ↓c_rowT, cs_size, cs_written, cs_ended, cs_writing, cs_reading, cs_low, cs_least, *])
local macro_rules | `(tactic| walk_at "s") => `(tactic| ((try walk_at "h"); repeat' ((first | with_reducible refine if_dec (fun _ => ?_) (fun _ => ?_) | with_reducible refine eif_dec (fun _ => ?_) (fun _ => ?_) | with_reducible refine tor_dec (fun _ => ?_) (fun _ => ?_) | with_reducible refine tand_dec (fun _ => ?_) (fun _ => ?_) | with_reducible refine and_dec (fun _ => ?_) (fun _ => ?_) | with_reducible refine or_dec (fun _ => ?_) (fun _ => ?_) | with_reducible refine ch_dec (fun _ => ?_) (fun _ => ?_)) <;> (try walk_at "h"))))
structure Td where
  k : Nat
  S : Sc
  v : Int
def tolds : Sc → Nat → List Ev → List Td
  | _, _, [] => []
  | S, k, .told v :: r => ⟨k, S, v⟩ :: tolds (S.take (.told v)) (k + 1) r
  | S, k, .write v :: r => tolds (S.take (.write v)) (k + 1) r
  | S, k, .wrote :: r => tolds (S.take .wrote) (k + 1) r
  | S, k, .read :: r => tolds (S.take .read) (k + 1) r
def scan (S : Sc) (evs : List Ev) : Sc := evs.foldl Sc.take S
theorem scan_snoc {S : Sc} {evs : List Ev} {e : Ev} : scan S (evs ++ [e]) = (scan S evs).take e := by unfold scan; rw [List.foldl_append]; rfl
theorem tolds_snoc {e : Ev} : ∀ {evs : List Ev} {S : Sc} {k : Nat}, tolds S k (evs ++ [e]) = tolds S k evs ++ tolds (scan S evs) (k + evs.length) [e]
  | [], S, k => rfl
  | x :: r, S, k => by
    have h := tolds_snoc (e := e) (evs := r) (S := S.take x) (k := k + 1)
    have e1 : k + (x :: r).length = k + 1 + r.length := by simp only [List.length_cons]; omega
    have e2 : scan S (x :: r) = scan (S.take x) r := rfl
    rw [e1, e2]
    cases x <;> (simp only [List.cons_append, tolds]; rw [h])
theorem scan_ok {S : Sc} {n : Nat} : ∀ {evs : List Ev}, S.ok n → (scan S evs).ok (n + evs.length)
  | [], h => h
  | x :: r, h => by
    have := scan_ok (evs := r) (take_ok h x)
    have e1 : n + (x :: r).length = n + 1 + r.length := by simp only [List.length_cons]; omega
    rw [e1]; exact this
theorem take_ws {S : Sc} {e : Ev} : ∃ r, (S.take e).ws = S.ws ++ r := by
  cases e with
  | write v => exact ⟨[v], rfl⟩
  | wrote => exact ⟨[], (List.append_nil _).symm⟩
  | read => exact ⟨[], (List.append_nil _).symm⟩
  | told v => simp only [Sc.take]; split <;> exact ⟨[], (List.append_nil _).symm⟩
theorem scan_ws {S : Sc} : ∀ {evs : List Ev}, ∃ r, (scan S evs).ws = S.ws ++ r
  | [] => ⟨[], (List.append_nil _).symm⟩
  | x :: r => by
    obtain ⟨a, ha⟩ := take_ws (S := S) (e := x)
    obtain ⟨b, hb⟩ := scan_ws (S := S.take x) (evs := r)
    exact ⟨a ++ b, by rw [← List.append_assoc, ← ha]; exact hb⟩
/-- what is known of each told read -/
structure Td.ok (t : Td) (n : Nat) (W : List Int) (size : Int) : Prop where
  ok : t.S.ok n
  pre : ∃ r, W = t.S.ws ++ r
  v0 : 0 ≤ t.v
  v1 : t.v < size
theorem tolds_ok {size : Int} {N : Nat} : ∀ {evs : List Ev} {S : Sc} {k n : Nat} {st st' : Bool × Bool}, S.ok n → n + evs.length ≤ N → evs.foldlM (okStep size) st = some st' → ∀ t ∈ tolds S k evs, t.ok N (scan S evs).ws size
  | [], _, _, _, _, _, _, _, _, t, ht => by cases ht
  | x :: r, S, k, n, st, st', hS, hN, hH, t, ht => by
    rw [List.foldlM_cons] at hH
    obtain ⟨s1, h1, h2⟩ := Option.bind_eq_some_iff.mp hH
    have hN2 : n + 1 + r.length ≤ N := by simp only [List.length_cons] at hN; omega
    have ih := tolds_ok (evs := r) (S := S.take x) (k := k + 1) (take_ok hS x) hN2 h2
    have hup : S.ok N := ⟨by have := hS.n0; omega, hS.e0, hS.e1, hS.l0, hS.l1, hS.t0, hS.t1⟩
    cases x with
    | told v =>
      rcases List.mem_cons.mp ht with rfl | ht
      · have hv := okStep_ok h1
        obtain ⟨a, ha⟩ := scan_ws (S := S) (evs := .told v :: r)
        exact ⟨hup, ⟨a, ha⟩, hv.1, hv.2⟩
      · exact ih t ht
    | write v => exact ih t ht
    | wrote => exact ih t ht
    | read => exact ih t ht
theorem faultP_find {P : Str} {size : Int} : ∀ {evs : List Ev} {S : Sc} {k : Nat}, faultP P size S k evs = ((tolds S k evs).find? fun t => !decide (t.v ∈ t.S.allowed size P)).map Td.k
  | [], _, _ => rfl
  | x :: r, S, k => by
    have ih := faultP_find (P := P) (size := size) (evs := r) (S := S.take x) (k := k + 1)
    cases x with
    | told v =>
      simp only [faultP, tolds, List.find?_cons]
      by_cases h : v ∈ S.allowed size P
      · simp only [h, decide_true, Bool.not_true, if_true]; exact ih
      · simp only [h, decide_false, Bool.not_false, if_false]; rfl
    | write v => exact ih
    | wrote => exact ih
    | read => exact ih
theorem tolds_len : ∀ {l : List Ev} {S : Sc} {k : Nat}, (tolds S k l).length ≤ l.length
  | [], _, _ => Nat.le_refl _
  | .told v :: r, S, k => by have := tolds_len (l := r) (S := S.take (.told v)) (k := k + 1); simp only [tolds, List.length_cons]; omega
  | .write v :: r, S, k => by have := tolds_len (l := r) (S := S.take (.write v)) (k := k + 1); simp only [tolds, List.length_cons]; omega
  | .wrote :: r, S, k => by have := tolds_len (l := r) (S := S.take .wrote) (k := k + 1); simp only [tolds, List.length_cons]; omega
  | .read :: r, S, k => by have := tolds_len (l := r) (S := S.take .read) (k := k + 1); simp only [tolds, List.length_cons]; omega
def quad (t : Td) : D := .tup [.int t.k, .int t.S.lo, .int ((t.S.ws.length : Int) - 1), .int t.v]
theorem quad_snoc (l : List Td) (t : Td) : l.map quad ++ [quad t] = (l ++ [t]).map quad := by rw [List.map_append]; rfl

local macro_rules | `(tactic| walk_at "d") => `(tactic| simp -implicitDefEqProofs only [↓DL.k_F, ↓DL.k_M, ↓DL.k_onV, ↓DL.k_onL, ↓DL.k_onO, ↓DL.k_onN, ↓DL.r_C, ↓DL.r_var, ↓DL.k_Op2, ↓DL.k_Op, ↓DL.r_op, ↓DL.r_un, ↓DL.r_app, ↓DL.r_call, ↓DL.r_callF, ↓DL.k_CK2, ↓DL.k_CK, ↓DL.r_callK, ↓DL.r_callKF, ↓DL.r_nil, ↓DL.k_A2, ↓DL.k_A, ↓DL.r_cons, ↓DL.k_AndT, ↓DL.k_AndF, ↓DL.r_and, ↓DL.k_OrT, ↓DL.k_OrF, ↓DL.r_or, ↓DL.k_Not, ↓DL.r_not, ↓DL.k_EIfT, ↓DL.k_EIfF, ↓DL.r_eIf, ↓DL.k_Ch3T, ↓DL.k_Ch3F, ↓DL.k_Ch2, ↓DL.k_Ch1, ↓DL.r_chain, ↓DL.k_T, ↓DL.r_of, ↓DL.k_TAT, ↓DL.k_TAF, ↓DL.r_tand, ↓DL.k_TOT, ↓DL.k_TOF, ↓DL.r_tor, ↓DL.k_TN, ↓DL.r_tnot, ↓DL.r_tTrue, ↓DL.k_Asg, ↓DL.r_asg, ↓DL.k_Nx, ↓DL.r_expr, ↓DL.k_Rt, ↓DL.r_ret, ↓DL.r_retN, ↓DL.k_IfT, ↓DL.k_IfF, ↓DL.r_if, ↓DL.r_seq, ↓DL.r_next, ↓DL.r_break, ↓DL.r_cont, ↓DL.r_stuck, ↓DL.k_G, ↓DL.r_asgG, ↓DL.k_For, ↓DL.r_for, ↓DL.k_SI3, ↓DL.k_SI2, ↓DL.k_SI, ↓DL.r_setItemS, ↓DL.k_Ap3, ↓DL.k_Ap2, ↓DL.k_Ap1, ↓DL.r_apd, ↓DL.r_gN, ↓DL.r_iSeq, ↓DL.r_iApp, ↓DL.k_Body, ↓DL.k_Sl3, ↓DL.k_Sl2, ↓DL.k_Sl1, ↓DL.r_sl, ↓DL.r_oNone, ↓DL.k_OS, ↓DL.r_oSome, ↓DL.r_slT, ↓DL.r_slL, ↓DL.r_slS, ↓DL.r_retL, ↓DL.r_newL, ↓DL.r_lc, ↓DL.r_lcM, ↓DL.r_add, ↓DL.r_sub, ↓DL.r_mod, ↓DL.r_div, ↓DL.r_pow1018, ↓DL.r_lt, ↓DL.r_le, ↓DL.r_gt, ↓DL.r_ge, ↓DL.r_neg, ↓DL.r_eqII, ↓DL.r_neII, ↓DL.r_eqSS, ↓DL.r_neSS, ↓DL.r_eqBB, ↓DL.r_neBB, ↓DL.r_isN, ↓DL.r_isB, ↓DL.r_notN, ↓DL.r_int1, ↓DL.r_intb, ↓DL.r_abs, ↓DL.k_Get, ↓DL.r_ixT, ↓DL.r_ixL, ↓DL.r_asLR, ↓DL.r_asLL, ↓DL.r_ixRef, ↓DL.r_lenT, ↓DL.r_lenL, ↓DL.k_Len, ↓DL.r_lenRef, ↓DL.r_sumRef, ↓DL.k_SetJ, ↓DL.k_Set, ↓DL.r_setRef, ↓DL.k_App, ↓DL.r_appRef, ↓DL.r_tup0, ↓DL.r_tup1, ↓DL.r_tup2, ↓DL.r_tup3, ↓DL.r_tup4, ↓DL.r_tup5, ↓DL.r_tup6, ↓DL.r_tup7, ↓DL.r_tup8, ↓DL.r_lst0, ↓DL.r_ref0, ↓DL.r_ref1, ↓DL.r_ref2, ↓DL.r_ref3, ↓DL.r_ref4, ↓DL.r_ref5, ↓DL.r_ref6, ↓DL.r_listL, ↓DL.r_listT, ↓DL.r_tupleL, ↓DL.r_seqT, ↓DL.r_seqL, ↓DL.r_range1, ↓DL.r_range2, ↓DL.r_strEq, ↓DL.r_strEq2, ↓DL.r_isT0, ↓DL.r_isT1, ↓DL.r_isT2, ↓DL.r_isT3, ↓DL.r_isT4, ↓DL.r_isT5, ↓DL.r_isT6, ↓DL.r_isT7, ↓DL.r_isT8, ↓DL.r_isT9, ↓DL.r_isT10, ↓DL.r_isT11, ↓DL.r_isT12, ↓DL.r_isT13, ↓DL.r_isT14, ↓DL.r_isT15, ↓DL.r_isT16, ↓DL.r_isT17, ↓DL.r_isT18, ↓DL.r_isT19, ↓DL.r_isT20, ↓DL.r_isT21, ↓DL.r_isT22, ↓DL.r_isT23, ↓DL.r_isT24, ↓DL.r_isT25, ↓DL.r_isT26, ↓DL.r_isT27, ↓DL.r_isT28, ↓DL.r_isT29, ↓DL.r_isT30, ↓DL.r_isT31, ↓DL.r_isT32, ↓DL.r_isT33, ↓DL.r_isT34, ↓DL.r_isT35, ↓DL.r_isiN, ↓DL.r_isi2N, ↓DL.r_isiB, ↓DL.r_isi2B, ↓DL.r_isiI, ↓DL.r_isi2I, ↓DL.r_isiS, ↓DL.r_isi2S, ↓DL.r_isiT, ↓DL.r_isi2T, ↓DL.r_isiL, ↓DL.r_isi2L, ↓DL.r_inTI, ↓DL.r_ninTI, ↓DL.r_inLI, ↓DL.r_ninLI, ↓DL.r_inTS, ↓DL.r_inD_nil, ↓DL.r_inD_cons, ↓DL.r_flat_nil, ↓DL.r_flat_cons, ↓DL.r_flatS, ↓DL.r_flatI, ↓DL.r_eqvSS, ↓DL.r_eqvII, ↓DL.r_addLL, ↓DL.r_atm1, ↓DL.r_atm2, ↓DL.r_at0, ↓DL.r_at1, ↓DL.r_at2, ↓DL.r_at3, ↓DL.r_at4, ↓DL.r_at5, ↓DL.r_at6, ↓DL.r_at7, ↓DL.r_at8, ↓DL.r_beqI, ↓DL.r_ndec, ↓DL.r_gT, ↓DL.k_Gs, ↓DL.r_gsCons, ↓DL.r_gsNil, ↓DL.r_isDNN, ↓DL.r_isDBB, ↓DL.r_isDBN, ↓DL.r_isDNB, ↓DL.r_isDIN, ↓DL.r_isDIB, ↓DL.r_isDSN, ↓DL.r_isDSB, ↓DL.r_isDTN, ↓DL.r_isDTB, ↓DL.r_isDLN, ↓DL.r_isDLB, ↓DL.r_isDRN, ↓DL.r_isDRB, ↓DL.r_beqTT, ↓DL.r_beqTF, ↓DL.r_beqFT, ↓DL.r_beqFF, ↓DL.k_onI, ↓DL.k_Fld2, ↓DL.r_fld, ↓DL.k_FldR, ↓DL.k_FldO, ↓DL.r_look, ↓DL.r_lookN, ↓DL.r_putD, ↓DL.r_putDN, ↓DL.k_SF3, ↓DL.r_setFldR, ↓DL.k_SF2, ↓DL.k_SF1, ↓DL.r_setFld, ↓DL.r_methF, ↓DL.k_Me2, ↓DL.r_meth, ↓DL.k_MeR, ↓DL.k_MeO, ↓DL.r_make, ↓DL.k_MkN, ↓DL.r_makeF, ↓DL.k_CG2, ↓DL.k_CG, ↓DL.r_callG, ↓DL.r_callGF, ↓DL.r_listRg, ↓DL.r_tupRg, ↓DL.k_SlR, ↓DL.r_slR, ↓DL.r_enumL, ↓DL.r_max2, ↓DL.r_min2, ↓DL.r_isi2R, ↓DL.r_isiR, ↓DL.r_lst1, ↓DL.r_lst2, ↓DL.r_lst3, ↓DL.r_lst4, ↓DL.r_lst5, ↓DL.r_lst6, ↓DL.r_lst7, ↓DL.r_lst8, ↓DL.r_lst9, ↓DL.r_lst10, ↓DL.r_lst11, ↓DL.r_lst12, ↓DL.r_seqR, ↓DL.k_ForR, ↓DL.r_minL, ↓DL.r_clr, ↓DL.k_Clr1R, ↓DL.k_LstR, ↓DL.r_listRef, ↓DL.k_Clr2, ↓DL.Kt.seq_nx, ↓DL.Kt.seq_rt, ↓DL.Kt.seq_bk, ↓DL.Kt.seq_ct, ↓DL.Kt.seq_ex, ↓DL.Kt.fin_nx, ↓DL.Kt.fin_rt, ↓DL.Kt.fin_ex, ↓DL.Kt.loop_nx, ↓DL.Kt.loop_rt, ↓DL.Kt.loop_bk, ↓DL.Kt.loop_ct, ↓DL.Kt.loop_ex, ↓DL.C.run_ret, ↓DL.mset_same, ↓DL.mset_mset, startD, ixN, Option.bind_some, Option.map_some, List.map_cons, List.map_nil, List.length_cons, List.length_nil, List.length_set, List.replicate, List.cons_append, List.nil_append, List.append_nil, List.set_cons_zero, List.set_cons_succ, List.getElem?_cons_zero, List.getElem?_cons_succ, Nat.reduceAdd, Nat.reduceSub, Nat.zero_add, if_true, if_false, decide_eq_true_eq, reduceIte, Bool.not_true, Bool.not_false, beq_self_eq_true, Bool.false_eq_true, Int.reduceLT, Int.reduceLE, Int.reduceNeg, Int.reduceToNat, Int.reduceAdd, Int.reduceSub, Nat.reduceLT, Nat.reduceLeDiff, Int.cast_ofNat_Int, Int.reduceEq, Int.reduceBEq, DL.wipeD, decide_true, decide_false, not_true_eq_false, not_false_eq_true, String.reduceEq, Bool.or_true, Bool.or_false, Bool.true_or, Bool.false_or, Bool.and_true, Bool.and_false, Bool.true_and, Bool.false_and, Bool.not_not, Nat.reduceEqDiff, Int.toNat_natCast, Decidable.not_not, List.mem_cons, List.not_mem_nil, or_false, or_true, true_or, false_or, and_true, true_and, and_self, and_false, false_and, reduceCtorEq, Option.isNone_some, Option.isNone_none, Option.isSome_some, Option.isSome_none, ↓c_isint, ↓c_rowL, ↓c_rowT, cs_size, cs_written, cs_ended, cs_writing, cs_reading, cs_low, cs_least])
local macro_rules | `(tactic| walk_at "h") => `(tactic| simp -implicitDefEqProofs only [↓DL.k_F, ↓DL.k_M, ↓DL.k_onV, ↓DL.k_onL, ↓DL.k_onO, ↓DL.k_onN, ↓DL.r_C, ↓DL.r_var, ↓DL.k_Op2, ↓DL.k_Op, ↓DL.r_op, ↓DL.r_un, ↓DL.r_app, ↓DL.r_call, ↓DL.r_callF, ↓DL.k_CK2, ↓DL.k_CK, ↓DL.r_callK, ↓DL.r_callKF, ↓DL.r_nil, ↓DL.k_A2, ↓DL.k_A, ↓DL.r_cons, ↓DL.k_AndT, ↓DL.k_AndF, ↓DL.r_and, ↓DL.k_OrT, ↓DL.k_OrF, ↓DL.r_or, ↓DL.k_Not, ↓DL.r_not, ↓DL.k_EIfT, ↓DL.k_EIfF, ↓DL.r_eIf, ↓DL.k_Ch3T, ↓DL.k_Ch3F, ↓DL.k_Ch2, ↓DL.k_Ch1, ↓DL.r_chain, ↓DL.k_T, ↓DL.r_of, ↓DL.k_TAT, ↓DL.k_TAF, ↓DL.r_tand, ↓DL.k_TOT, ↓DL.k_TOF, ↓DL.r_tor, ↓DL.k_TN, ↓DL.r_tnot, ↓DL.r_tTrue, ↓DL.k_Asg, ↓DL.r_asg, ↓DL.k_Nx, ↓DL.r_expr, ↓DL.k_Rt, ↓DL.r_ret, ↓DL.r_retN, ↓DL.k_IfT, ↓DL.k_IfF, ↓DL.r_if, ↓DL.r_seq, ↓DL.r_next, ↓DL.r_break, ↓DL.r_cont, ↓DL.r_stuck, ↓DL.k_G, ↓DL.r_asgG, ↓DL.k_For, ↓DL.r_for, ↓DL.k_SI3, ↓DL.k_SI2, ↓DL.k_SI, ↓DL.r_setItemS, ↓DL.k_Ap3, ↓DL.k_Ap2, ↓DL.k_Ap1, ↓DL.r_apd, ↓DL.r_gN, ↓DL.r_iSeq, ↓DL.r_iApp, ↓DL.k_Body, ↓DL.k_Sl3, ↓DL.k_Sl2, ↓DL.k_Sl1, ↓DL.r_sl, ↓DL.r_oNone, ↓DL.k_OS, ↓DL.r_oSome, ↓DL.r_slT, ↓DL.r_slL, ↓DL.r_slS, ↓DL.r_retL, ↓DL.r_newL, ↓DL.r_lc, ↓DL.r_lcM, ↓DL.r_add, ↓DL.r_sub, ↓DL.r_mod, ↓DL.r_div, ↓DL.r_pow1018, ↓DL.r_lt, ↓DL.r_le, ↓DL.r_gt, ↓DL.r_ge, ↓DL.r_neg, ↓DL.r_eqII, ↓DL.r_neII, ↓DL.r_eqSS, ↓DL.r_neSS, ↓DL.r_eqBB, ↓DL.r_neBB, ↓DL.r_isN, ↓DL.r_isB, ↓DL.r_notN, ↓DL.r_int1, ↓DL.r_intb, ↓DL.r_abs, ↓DL.k_Get, ↓DL.r_ixT, ↓DL.r_ixL, ↓DL.r_asLR, ↓DL.r_asLL, ↓DL.r_ixRef, ↓DL.r_lenT, ↓DL.r_lenL, ↓DL.k_Len, ↓DL.r_lenRef, ↓DL.r_sumRef, ↓DL.k_SetJ, ↓DL.k_Set, ↓DL.r_setRef, ↓DL.k_App, ↓DL.r_appRef, ↓DL.r_tup0, ↓DL.r_tup1, ↓DL.r_tup2, ↓DL.r_tup3, ↓DL.r_tup4, ↓DL.r_tup5, ↓DL.r_tup6, ↓DL.r_tup7, ↓DL.r_tup8, ↓DL.r_lst0, ↓DL.r_ref0, ↓DL.r_ref1, ↓DL.r_ref2, ↓DL.r_ref3, ↓DL.r_ref4, ↓DL.r_ref5, ↓DL.r_ref6, ↓DL.r_listL, ↓DL.r_listT, ↓DL.r_tupleL, ↓DL.r_seqT, ↓DL.r_seqL, ↓DL.r_range1, ↓DL.r_range2, ↓DL.r_strEq, ↓DL.r_strEq2, ↓DL.r_isT0, ↓DL.r_isT1, ↓DL.r_isT2, ↓DL.r_isT3, ↓DL.r_isT4, ↓DL.r_isT5, ↓DL.r_isT6, ↓DL.r_isT7, ↓DL.r_isT8, ↓DL.r_isT9, ↓DL.r_isT10, ↓DL.r_isT11, ↓DL.r_isT12, ↓DL.r_isT13, ↓DL.r_isT14, ↓DL.r_isT15, ↓DL.r_isT16, ↓DL.r_isT17, ↓DL.r_isT18, ↓DL.r_isT19, ↓DL.r_isT20, ↓DL.r_isT21, ↓DL.r_isT22, ↓DL.r_isT23, ↓DL.r_isT24, ↓DL.r_isT25, ↓DL.r_isT26, ↓DL.r_isT27, ↓DL.r_isT28, ↓DL.r_isT29, ↓DL.r_isT30, ↓DL.r_isT31, ↓DL.r_isT32, ↓DL.r_isT33, ↓DL.r_isT34, ↓DL.r_isT35, ↓DL.r_isiN, ↓DL.r_isi2N, ↓DL.r_isiB, ↓DL.r_isi2B, ↓DL.r_isiI, ↓DL.r_isi2I, ↓DL.r_isiS, ↓DL.r_isi2S, ↓DL.r_isiT, ↓DL.r_isi2T, ↓DL.r_isiL, ↓DL.r_isi2L, ↓DL.r_inTI, ↓DL.r_ninTI, ↓DL.r_inLI, ↓DL.r_ninLI, ↓DL.r_inTS, ↓DL.r_inD_nil, ↓DL.r_inD_cons, ↓DL.r_flat_nil, ↓DL.r_flat_cons, ↓DL.r_flatS, ↓DL.r_flatI, ↓DL.r_eqvSS, ↓DL.r_eqvII, ↓DL.r_addLL, ↓DL.r_atm1, ↓DL.r_atm2, ↓DL.r_at0, ↓DL.r_at1, ↓DL.r_at2, ↓DL.r_at3, ↓DL.r_at4, ↓DL.r_at5, ↓DL.r_at6, ↓DL.r_at7, ↓DL.r_at8, ↓DL.r_beqI, ↓DL.r_ndec, ↓DL.r_gT, ↓DL.k_Gs, ↓DL.r_gsCons, ↓DL.r_gsNil, ↓DL.r_isDNN, ↓DL.r_isDBB, ↓DL.r_isDBN, ↓DL.r_isDNB, ↓DL.r_isDIN, ↓DL.r_isDIB, ↓DL.r_isDSN, ↓DL.r_isDSB, ↓DL.r_isDTN, ↓DL.r_isDTB, ↓DL.r_isDLN, ↓DL.r_isDLB, ↓DL.r_isDRN, ↓DL.r_isDRB, ↓DL.r_beqTT, ↓DL.r_beqTF, ↓DL.r_beqFT, ↓DL.r_beqFF, ↓DL.k_onI, ↓DL.k_Fld2, ↓DL.r_fld, ↓DL.k_FldR, ↓DL.k_FldO, ↓DL.r_look, ↓DL.r_lookN, ↓DL.r_putD, ↓DL.r_putDN, ↓DL.k_SF3, ↓DL.r_setFldR, ↓DL.k_SF2, ↓DL.k_SF1, ↓DL.r_setFld, ↓DL.r_methF, ↓DL.k_Me2, ↓DL.r_meth, ↓DL.k_MeR, ↓DL.k_MeO, ↓DL.r_make, ↓DL.k_MkN, ↓DL.r_makeF, ↓DL.k_CG2, ↓DL.k_CG, ↓DL.r_callG, ↓DL.r_callGF, ↓DL.r_listRg, ↓DL.r_tupRg, ↓DL.k_SlR, ↓DL.r_slR, ↓DL.r_enumL, ↓DL.r_max2, ↓DL.r_min2, ↓DL.r_isi2R, ↓DL.r_isiR, ↓DL.r_lst1, ↓DL.r_lst2, ↓DL.r_lst3, ↓DL.r_lst4, ↓DL.r_lst5, ↓DL.r_lst6, ↓DL.r_lst7, ↓DL.r_lst8, ↓DL.r_lst9, ↓DL.r_lst10, ↓DL.r_lst11, ↓DL.r_lst12, ↓DL.r_seqR, ↓DL.k_ForR, ↓DL.r_minL, ↓DL.r_clr, ↓DL.k_Clr1R, ↓DL.k_LstR, ↓DL.r_listRef, ↓DL.k_Clr2, ↓DL.Kt.seq_nx, ↓DL.Kt.seq_rt, ↓DL.Kt.seq_bk, ↓DL.Kt.seq_ct, ↓DL.Kt.seq_ex, ↓DL.Kt.fin_nx, ↓DL.Kt.fin_rt, ↓DL.Kt.fin_ex, ↓DL.Kt.loop_nx, ↓DL.Kt.loop_rt, ↓DL.Kt.loop_bk, ↓DL.Kt.loop_ct, ↓DL.Kt.loop_ex, ↓DL.C.run_ret, ↓DL.mset_same, ↓DL.mset_mset, startD, ixN, Option.bind_some, Option.map_some, List.map_cons, List.map_nil, List.length_cons, List.length_nil, List.length_set, List.replicate, List.cons_append, List.nil_append, List.append_nil, List.set_cons_zero, List.set_cons_succ, List.getElem?_cons_zero, List.getElem?_cons_succ, Nat.reduceAdd, Nat.reduceSub, Nat.zero_add, if_true, if_false, decide_eq_true_eq, reduceIte, Bool.not_true, Bool.not_false, beq_self_eq_true, Bool.false_eq_true, Int.reduceLT, Int.reduceLE, Int.reduceNeg, Int.reduceToNat, Int.reduceAdd, Int.reduceSub, Nat.reduceLT, Nat.reduceLeDiff, Int.cast_ofNat_Int, Int.reduceEq, Int.reduceBEq, DL.wipeD, decide_true, decide_false, not_true_eq_false, not_false_eq_true, String.reduceEq, Bool.or_true, Bool.or_false, Bool.true_or, Bool.false_or, Bool.and_true, Bool.and_false, Bool.true_and, Bool.false_and, Bool.not_not, Nat.reduceEqDiff, Int.toNat_natCast, Decidable.not_not, List.mem_cons, List.not_mem_nil, or_false, or_true, true_or, false_or, and_true, true_and, and_self, and_false, false_and, reduceCtorEq, Option.isNone_some, Option.isNone_none, Option.isSome_some, Option.isSome_none, ↓c_isint, ↓c_rowL, ↓c_rowT, cs_size, cs_written, cs_ended, cs_writing, cs_reading, cs_low, cs_least, *])
local macro_rules | `(tactic| walk_at "s") => `(tactic| ((try walk_at "h"); repeat' ((first | with_reducible refine if_dec (fun _ => ?_) (fun _ => ?_) | with_reducible refine eif_dec (fun _ => ?_) (fun _ => ?_) | with_reducible refine tor_dec (fun _ => ?_) (fun _ => ?_) | with_reducible refine tand_dec (fun _ => ?_) (fun _ => ?_) | with_reducible refine and_dec (fun _ => ?_) (fun _ => ?_) | with_reducible refine or_dec (fun _ => ?_) (fun _ => ?_) | with_reducible refine ch_dec (fun _ => ?_) (fun _ => ?_)) <;> (try walk_at "h"))))
structure RI (x0 x1 : D) (start : Int) (w r : Addr) (m0 : Mem) (pre : List Ev) (δ : DSt) (m : Mem) : Prop where
  ex : ∃ (x6 x7 : Option D), δ = [some x0, some x1, some (.ref w), some (.int (scan (S0 start) pre).en), some (.int (scan (S0 start) pre).lo), some (.ref r), x6, x7] ∧ m w = some (.lst ((scan (S0 start) pre).ws.map D.int)) ∧ m r = some (.lst ((tolds (S0 start) 0 pre).map quad)) ∧ Two w r m0 m
theorem reads_spec {evs : List Ev} {start : Int} {m : Mem} {Q : D → Mem → Prop} {E : Xn → Mem → Prop} (hl : evs.length ≤ 900) (q : Q (.tup [.lst ((tolds (S0 start) 0 evs).map quad), .lst ((scan (S0 start) evs).ws.map D.int), .int (scan (S0 start) evs).lo]) m) :
    (d__law_reads [.lst (evs.map Ev.d), .int start]).run m Q E := by
  unfold d__law_reads
  refine fn_run ?_
  unfold p__law_reads
  walk_at "d"
  intro w hw r hr
  have ne : r ≠ w := fun z => by rw [z, mset_same] at hr; cases hr
  have ne' : w ≠ r := fun z => ne z.symm
  have hr0 : m r = none := by rw [mset_ne ne] at hr; exact hr
  rw [List.length_map, r_range1 (by rw [small62_iff]; omega)]
  walk_at "d"
  refine for_nat (fun i => RI (.lst (evs.map Ev.d)) (.int start) start w r m (evs.take i)) ?_ ?_ ?_
  · refine ⟨none, none, rfl, ?_, ?_, ?_⟩
    · rw [mset_ne ne', mset_same]; rfl
    · rw [mset_same]; rfl
    · intro a a1 a2; rw [mset_ne a2, mset_ne a1]
  · rintro i δ m1 hi ⟨x6, x7, rfl, g1, g2, g3⟩
    have hx : evs[i]? = some evs[i] := List.getElem?_eq_getElem hi
    have ht : evs.take (i + 1) = evs.take i ++ [evs[i]] := by rw [List.take_succ, hx]; rfl
    have hlen : (evs.take i).length = i := by rw [List.length_take]; omega
    have e : atI (evs.map Ev.d) (i : Int) = some (evs[i]).d := atI_of (by omega) (by rw [Int.toNat_natCast, List.getElem?_map, hx]; rfl)
    have hsc := scan_ok (evs := evs.take i) (S0_ok (start := start))
    have hw1 := hsc.n0
    have z1 : (List.map D.int (scan (S0 start) (evs.take i)).ws).length < sizeLine := by
      rw [List.length_map]; exact Nat.lt_of_lt_of_le (show _ < 1001 by rw [hlen] at hw1; omega) (by decide)
    have z2 : (List.map quad (tolds (S0 start) 0 (evs.take i))).length < sizeLine := by
      rw [List.length_map]; exact Nat.lt_of_lt_of_le (show _ < 1001 by have := tolds_len (l := evs.take i) (S := S0 start) (k := 0); omega) (by decide)
    have hts := tolds_snoc (e := evs[i]) (evs := evs.take i) (S := S0 start) (k := 0)
    rw [hlen, Nat.zero_add] at hts
    have hss := scan_snoc (S := S0 start) (evs := evs.take i) (e := evs[i])
    rw [ht]
    clear hx ht hlen hsc hw1 hl q hr hw hr0
    generalize evs[i] = x at *
    generalize evs.take i = pre at *
    generalize hS : scan (S0 start) pre = S at *
    generalize hT : tolds (S0 start) 0 pre = T at *
    walk_at "d"
    unfold p__law_reads_b0
    have f1 : ∀ (m : Mem) (o : MO), mset m r o w = m w := fun m o => mset_ne ne'
    have f2 : ∀ (m : Mem) (o : MO), mset m w o r = m r := fun m o => mset_ne ne
    cases x with
    | write v =>
      simp only [Ev.d] at e
      simp only [Sc.take] at hss
      simp only [tolds, List.append_nil] at hts
      walk_at "h"
      refine ⟨_, _, by rw [hss], ?_, ?_, ?_⟩
      · rw [hss, mset_same, ints_snoc]
      · rw [hts, f2]; exact g2
      · intro a a1 a2; rw [mset_ne a1]; exact g3 a a1 a2
    | wrote =>
      simp only [Ev.d] at e
      simp only [Sc.take] at hss
      simp only [tolds, List.append_nil] at hts
      walk_at "h"
      refine ⟨_, _, by rw [hss, List.length_map], ?_, ?_, g3⟩
      · rw [hss]; exact g1
      · rw [hts]; exact g2
    | read =>
      simp only [Ev.d] at e
      simp only [Sc.take] at hss
      simp only [tolds, List.append_nil] at hts
      walk_at "h"
      refine ⟨_, _, by rw [hss], ?_, ?_, g3⟩
      · rw [hss]; exact g1
      · rw [hts]; exact g2
    | told v =>
      simp only [Ev.d] at e
      have h1 : (S.take (.told v)).ws = S.ws ∧ (S.take (.told v)).en = S.en ∧ (S.take (.told v)).lo = S.lo := by simp only [Sc.take]; split <;> exact ⟨rfl, rfl, rfl⟩
      simp only [tolds] at hts
      walk_at "h"
      refine ⟨_, _, by rw [hss, h1.2.1, h1.2.2], ?_, ?_, ?_⟩
      · rw [hss, h1.1, f1]; exact g1
      · rw [hts, mset_same, ← quad_snoc]; simp [quad]
      · intro a a1 a2; rw [mset_ne a2]; exact g3 a a1 a2
  · rintro δ m1 ⟨x6, x7, rfl, g1, g2, g3⟩
    rw [List.take_length] at *
    walk_at "d"
    rw [run_sFrz (a := w) rfl g1]
    walk_at "d"
    rw [run_sFrz (a := r) rfl ((mdel_ne ne).trans g2)]
    walk_at "d"
    have em : mdel (mdel m1 w) r = m := by
      funext a
      by_cases a1 : a = r
      · rw [a1, mdel_same, hr0]
      · rw [mdel_ne a1]
        by_cases a2 : a = w
        · rw [a2, mdel_same, hw]
        · rw [mdel_ne a2]; exact g3 a a2 a1
    rw [em]
    exact q

local macro_rules | `(tactic| walk_at "d") => `(tactic| simp -implicitDefEqProofs only [↓DL.k_F, ↓DL.k_M, ↓DL.k_onV, ↓DL.k_onL, ↓DL.k_onO, ↓DL.k_onN, ↓DL.r_C, ↓DL.r_var, ↓DL.k_Op2, ↓DL.k_Op, ↓DL.r_op, ↓DL.r_un, ↓DL.r_app, ↓DL.r_call, ↓DL.r_callF, ↓DL.k_CK2, ↓DL.k_CK, ↓DL.r_callK, ↓DL.r_callKF, ↓DL.r_nil, ↓DL.k_A2, ↓DL.k_A, ↓DL.r_cons, ↓DL.k_AndT, ↓DL.k_AndF, ↓DL.r_and, ↓DL.k_OrT, ↓DL.k_OrF, ↓DL.r_or, ↓DL.k_Not, ↓DL.r_not, ↓DL.k_EIfT, ↓DL.k_EIfF, ↓DL.r_eIf, ↓DL.k_Ch3T, ↓DL.k_Ch3F, ↓DL.k_Ch2, ↓DL.k_Ch1, ↓DL.r_chain, ↓DL.k_T, ↓DL.r_of, ↓DL.k_TAT, ↓DL.k_TAF, ↓DL.r_tand, ↓DL.k_TOT, ↓DL.k_TOF, ↓DL.r_tor, ↓DL.k_TN, ↓DL.r_tnot, ↓DL.r_tTrue, ↓DL.k_Asg, ↓DL.r_asg, ↓DL.k_Nx, ↓DL.r_expr, ↓DL.k_Rt, ↓DL.r_ret, ↓DL.r_retN, ↓DL.k_IfT, ↓DL.k_IfF, ↓DL.r_if, ↓DL.r_seq, ↓DL.r_next, ↓DL.r_break, ↓DL.r_cont, ↓DL.r_stuck, ↓DL.k_G, ↓DL.r_asgG, ↓DL.k_For, ↓DL.r_for, ↓DL.k_SI3, ↓DL.k_SI2, ↓DL.k_SI, ↓DL.r_setItemS, ↓DL.k_Ap3, ↓DL.k_Ap2, ↓DL.k_Ap1, ↓DL.r_apd, ↓DL.r_gN, ↓DL.r_iSeq, ↓DL.r_iApp, ↓DL.k_Body, ↓DL.k_Sl3, ↓DL.k_Sl2, ↓DL.k_Sl1, ↓DL.r_sl, ↓DL.r_oNone, ↓DL.k_OS, ↓DL.r_oSome, ↓DL.r_slT, ↓DL.r_slL, ↓DL.r_slS, ↓DL.r_retL, ↓DL.r_newL, ↓DL.r_lc, ↓DL.r_lcM, ↓DL.r_add, ↓DL.r_sub, ↓DL.r_mod, ↓DL.r_div, ↓DL.r_pow1018, ↓DL.r_lt, ↓DL.r_le, ↓DL.r_gt, ↓DL.r_ge, ↓DL.r_neg, ↓DL.r_eqII, ↓DL.r_neII, ↓DL.r_eqSS, ↓DL.r_neSS, ↓DL.r_eqBB, ↓DL.r_neBB, ↓DL.r_isN, ↓DL.r_isB, ↓DL.r_notN, ↓DL.r_int1, ↓DL.r_intb, ↓DL.r_abs, ↓DL.k_Get, ↓DL.r_ixT, ↓DL.r_ixL, ↓DL.r_asLR, ↓DL.r_asLL, ↓DL.r_ixRef, ↓DL.r_lenT, ↓DL.r_lenL, ↓DL.k_Len, ↓DL.r_lenRef, ↓DL.r_sumRef, ↓DL.k_SetJ, ↓DL.k_Set, ↓DL.r_setRef, ↓DL.k_App, ↓DL.r_appRef, ↓DL.r_tup0, ↓DL.r_tup1, ↓DL.r_tup2, ↓DL.r_tup3, ↓DL.r_tup4, ↓DL.r_tup5, ↓DL.r_tup6, ↓DL.r_tup7, ↓DL.r_tup8, ↓DL.r_lst0, ↓DL.r_ref0, ↓DL.r_ref1, ↓DL.r_ref2, ↓DL.r_ref3, ↓DL.r_ref4, ↓DL.r_ref5, ↓DL.r_ref6, ↓DL.r_listL, ↓DL.r_listT, ↓DL.r_tupleL, ↓DL.r_seqT, ↓DL.r_seqL, ↓DL.r_range1, ↓DL.r_range2, ↓DL.r_strEq, ↓DL.r_strEq2, ↓DL.r_isT0, ↓DL.r_isT1, ↓DL.r_isT2, ↓DL.r_isT3, ↓DL.r_isT4, ↓DL.r_isT5, ↓DL.r_isT6, ↓DL.r_isT7, ↓DL.r_isT8, ↓DL.r_isT9, ↓DL.r_isT10, ↓DL.r_isT11, ↓DL.r_isT12, ↓DL.r_isT13, ↓DL.r_isT14, ↓DL.r_isT15, ↓DL.r_isT16, ↓DL.r_isT17, ↓DL.r_isT18, ↓DL.r_isT19, ↓DL.r_isT20, ↓DL.r_isT21, ↓DL.r_isT22, ↓DL.r_isT23, ↓DL.r_isT24, ↓DL.r_isT25, ↓DL.r_isT26, ↓DL.r_isT27, ↓DL.r_isT28, ↓DL.r_isT29, ↓DL.r_isT30, ↓DL.r_isT31, ↓DL.r_isT32, ↓DL.r_isT33, ↓DL.r_isT34, ↓DL.r_isT35, ↓DL.r_isiN, ↓DL.r_isi2N, ↓DL.r_isiB, ↓DL.r_isi2B, ↓DL.r_isiI, ↓DL.r_isi2I, ↓DL.r_isiS, ↓DL.r_isi2S, ↓DL.r_isiT, ↓DL.r_isi2T, ↓DL.r_isiL, ↓DL.r_isi2L, ↓DL.r_inTI, ↓DL.r_ninTI, ↓DL.r_inLI, ↓DL.r_ninLI, ↓DL.r_inTS, ↓DL.r_inD_nil, ↓DL.r_inD_cons, ↓DL.r_flat_nil, ↓DL.r_flat_cons, ↓DL.r_flatS, ↓DL.r_flatI, ↓DL.r_eqvSS, ↓DL.r_eqvII, ↓DL.r_addLL, ↓DL.r_atm1, ↓DL.r_atm2, ↓DL.r_at0, ↓DL.r_at1, ↓DL.r_at2, ↓DL.r_at3, ↓DL.r_at4, ↓DL.r_at5, ↓DL.r_at6, ↓DL.r_at7, ↓DL.r_at8, ↓DL.r_beqI, ↓DL.r_ndec, ↓DL.r_gT, ↓DL.k_Gs, ↓DL.r_gsCons, ↓DL.r_gsNil, ↓DL.r_isDNN, ↓DL.r_isDBB, ↓DL.r_isDBN, ↓DL.r_isDNB, ↓DL.r_isDIN, ↓DL.r_isDIB, ↓DL.r_isDSN, ↓DL.r_isDSB, ↓DL.r_isDTN, ↓DL.r_isDTB, ↓DL.r_isDLN, ↓DL.r_isDLB, ↓DL.r_isDRN, ↓DL.r_isDRB, ↓DL.r_beqTT, ↓DL.r_beqTF, ↓DL.r_beqFT, ↓DL.r_beqFF, ↓DL.k_onI, ↓DL.k_Fld2, ↓DL.r_fld, ↓DL.k_FldR, ↓DL.k_FldO, ↓DL.r_look, ↓DL.r_lookN, ↓DL.r_putD, ↓DL.r_putDN, ↓DL.k_SF3, ↓DL.r_setFldR, ↓DL.k_SF2, ↓DL.k_SF1, ↓DL.r_setFld, ↓DL.r_methF, ↓DL.k_Me2, ↓DL.r_meth, ↓DL.k_MeR, ↓DL.k_MeO, ↓DL.r_make, ↓DL.k_MkN, ↓DL.r_makeF, ↓DL.k_CG2, ↓DL.k_CG, ↓DL.r_callG, ↓DL.r_callGF, ↓DL.r_listRg, ↓DL.r_tupRg, ↓DL.k_SlR, ↓DL.r_slR, ↓DL.r_enumL, ↓DL.r_max2, ↓DL.r_min2, ↓DL.r_isi2R, ↓DL.r_isiR, ↓DL.r_lst1, ↓DL.r_lst2, ↓DL.r_lst3, ↓DL.r_lst4, ↓DL.r_lst5, ↓DL.r_lst6, ↓DL.r_lst7, ↓DL.r_lst8, ↓DL.r_lst9, ↓DL.r_lst10, ↓DL.r_lst11, ↓DL.r_lst12, ↓DL.r_seqR, ↓DL.k_ForR, ↓DL.r_minL, ↓DL.r_clr, ↓DL.k_Clr1R, ↓DL.k_LstR, ↓DL.r_listRef, ↓DL.k_Clr2, ↓DL.Kt.seq_nx, ↓DL.Kt.seq_rt, ↓DL.Kt.seq_bk, ↓DL.Kt.seq_ct, ↓DL.Kt.seq_ex, ↓DL.Kt.fin_nx, ↓DL.Kt.fin_rt, ↓DL.Kt.fin_ex, ↓DL.Kt.loop_nx, ↓DL.Kt.loop_rt, ↓DL.Kt.loop_bk, ↓DL.Kt.loop_ct, ↓DL.Kt.loop_ex, ↓DL.C.run_ret, ↓DL.mset_same, ↓DL.mset_mset, startD, ixN, Option.bind_some, Option.map_some, List.map_cons, List.map_nil, List.length_cons, List.length_nil, List.length_set, List.replicate, List.cons_append, List.nil_append, List.append_nil, List.set_cons_zero, List.set_cons_succ, List.getElem?_cons_zero, List.getElem?_cons_succ, Nat.reduceAdd, Nat.reduceSub, Nat.zero_add, if_true, if_false, decide_eq_true_eq, reduceIte, Bool.not_true, Bool.not_false, beq_self_eq_true, Bool.false_eq_true, Int.reduceLT, Int.reduceLE, Int.reduceNeg, Int.reduceToNat, Int.reduceAdd, Int.reduceSub, Nat.reduceLT, Nat.reduceLeDiff, Int.cast_ofNat_Int, Int.reduceEq, Int.reduceBEq, DL.wipeD, decide_true, decide_false, not_true_eq_false, not_false_eq_true, String.reduceEq, Bool.or_true, Bool.or_false, Bool.true_or, Bool.false_or, Bool.and_true, Bool.and_false, Bool.true_and, Bool.false_and, Bool.not_not, Nat.reduceEqDiff, Int.toNat_natCast, Decidable.not_not, List.mem_cons, List.not_mem_nil, or_false, or_true, true_or, false_or, and_true, true_and, and_self, and_false, false_and, reduceCtorEq, Option.isNone_some, Option.isNone_none, Option.isSome_some, Option.isSome_none, ↓c_isint, ↓c_rowL, ↓c_rowT, cs_size, cs_written, cs_ended, cs_writing, cs_reading, cs_low, cs_least])
local macro_rules | `(tactic| walk_at "h") => `(tactic| simp -implicitDefEqProofs only [↓DL.k_F, ↓DL.k_M, ↓DL.k_onV, ↓DL.k_onL, ↓DL.k_onO, ↓DL.k_onN, ↓DL.r_C, ↓DL.r_var, ↓DL.k_Op2, ↓DL.k_Op, ↓DL.r_op, ↓DL.r_un, ↓DL.r_app, ↓DL.r_call, ↓DL.r_callF, ↓DL.k_CK2, ↓DL.k_CK, ↓DL.r_callK, ↓DL.r_callKF, ↓DL.r_nil, ↓DL.k_A2, ↓DL.k_A, ↓DL.r_cons, ↓DL.k_AndT, ↓DL.k_AndF, ↓DL.r_and, ↓DL.k_OrT, ↓DL.k_OrF, ↓DL.r_or, ↓DL.k_Not, ↓DL.r_not, ↓DL.k_EIfT, ↓DL.k_EIfF, ↓DL.r_eIf, ↓DL.k_Ch3T, ↓DL.k_Ch3F, ↓DL.k_Ch2, ↓DL.k_Ch1, ↓DL.r_chain, ↓DL.k_T, ↓DL.r_of, ↓DL.k_TAT, ↓DL.k_TAF, ↓DL.r_tand, ↓DL.k_TOT, ↓DL.k_TOF, ↓DL.r_tor, ↓DL.k_TN, ↓DL.r_tnot, ↓DL.r_tTrue, ↓DL.k_Asg, ↓DL.r_asg, ↓DL.k_Nx, ↓DL.r_expr, ↓DL.k_Rt, ↓DL.r_ret, ↓DL.r_retN, ↓DL.k_IfT, ↓DL.k_IfF, ↓DL.r_if, ↓DL.r_seq, ↓DL.r_next, ↓DL.r_break, ↓DL.r_cont, ↓DL.r_stuck, ↓DL.k_G, ↓DL.r_asgG, ↓DL.k_For, ↓DL.r_for, ↓DL.k_SI3, ↓DL.k_SI2, ↓DL.k_SI, ↓DL.r_setItemS, ↓DL.k_Ap3, ↓DL.k_Ap2, ↓DL.k_Ap1, ↓DL.r_apd, ↓DL.r_gN, ↓DL.r_iSeq, ↓DL.r_iApp, ↓DL.k_Body, ↓DL.k_Sl3, ↓DL.k_Sl2, ↓DL.k_Sl1, ↓DL.r_sl, ↓DL.r_oNone, ↓DL.k_OS, ↓DL.r_oSome, ↓DL.r_slT, ↓DL.r_slL, ↓DL.r_slS, ↓DL.r_retL, ↓DL.r_newL, ↓DL.r_lc, ↓DL.r_lcM, ↓DL.r_add, ↓DL.r_sub, ↓DL.r_mod, ↓DL.r_div, ↓DL.r_pow1018, ↓DL.r_lt, ↓DL.r_le, ↓DL.r_gt, ↓DL.r_ge, ↓DL.r_neg, ↓DL.r_eqII, ↓DL.r_neII, ↓DL.r_eqSS, ↓DL.r_neSS, ↓DL.r_eqBB, ↓DL.r_neBB, ↓DL.r_isN, ↓DL.r_isB, ↓DL.r_notN, ↓DL.r_int1, ↓DL.r_intb, ↓DL.r_abs, ↓DL.k_Get, ↓DL.r_ixT, ↓DL.r_ixL, ↓DL.r_asLR, ↓DL.r_asLL, ↓DL.r_ixRef, ↓DL.r_lenT, ↓DL.r_lenL, ↓DL.k_Len, ↓DL.r_lenRef, ↓DL.r_sumRef, ↓DL.k_SetJ, ↓DL.k_Set, ↓DL.r_setRef, ↓DL.k_App, ↓DL.r_appRef, ↓DL.r_tup0, ↓DL.r_tup1, ↓DL.r_tup2, ↓DL.r_tup3, ↓DL.r_tup4, ↓DL.r_tup5, ↓DL.r_tup6, ↓DL.r_tup7, ↓DL.r_tup8, ↓DL.r_lst0, ↓DL.r_ref0, ↓DL.r_ref1, ↓DL.r_ref2, ↓DL.r_ref3, ↓DL.r_ref4, ↓DL.r_ref5, ↓DL.r_ref6, ↓DL.r_listL, ↓DL.r_listT, ↓DL.r_tupleL, ↓DL.r_seqT, ↓DL.r_seqL, ↓DL.r_range1, ↓DL.r_range2, ↓DL.r_strEq, ↓DL.r_strEq2, ↓DL.r_isT0, ↓DL.r_isT1, ↓DL.r_isT2, ↓DL.r_isT3, ↓DL.r_isT4, ↓DL.r_isT5, ↓DL.r_isT6, ↓DL.r_isT7, ↓DL.r_isT8, ↓DL.r_isT9, ↓DL.r_isT10, ↓DL.r_isT11, ↓DL.r_isT12, ↓DL.r_isT13, ↓DL.r_isT14, ↓DL.r_isT15, ↓DL.r_isT16, ↓DL.r_isT17, ↓DL.r_isT18, ↓DL.r_isT19, ↓DL.r_isT20, ↓DL.r_isT21, ↓DL.r_isT22, ↓DL.r_isT23, ↓DL.r_isT24, ↓DL.r_isT25, ↓DL.r_isT26, ↓DL.r_isT27, ↓DL.r_isT28, ↓DL.r_isT29, ↓DL.r_isT30, ↓DL.r_isT31, ↓DL.r_isT32, ↓DL.r_isT33, ↓DL.r_isT34, ↓DL.r_isT35, ↓DL.r_isiN, ↓DL.r_isi2N, ↓DL.r_isiB, ↓DL.r_isi2B, ↓DL.r_isiI, ↓DL.r_isi2I, ↓DL.r_isiS, ↓DL.r_isi2S, ↓DL.r_isiT, ↓DL.r_isi2T, ↓DL.r_isiL, ↓DL.r_isi2L, ↓DL.r_inTI, ↓DL.r_ninTI, ↓DL.r_inLI, ↓DL.r_ninLI, ↓DL.r_inTS, ↓DL.r_inD_nil, ↓DL.r_inD_cons, ↓DL.r_flat_nil, ↓DL.r_flat_cons, ↓DL.r_flatS, ↓DL.r_flatI, ↓DL.r_eqvSS, ↓DL.r_eqvII, ↓DL.r_addLL, ↓DL.r_atm1, ↓DL.r_atm2, ↓DL.r_at0, ↓DL.r_at1, ↓DL.r_at2, ↓DL.r_at3, ↓DL.r_at4, ↓DL.r_at5, ↓DL.r_at6, ↓DL.r_at7, ↓DL.r_at8, ↓DL.r_beqI, ↓DL.r_ndec, ↓DL.r_gT, ↓DL.k_Gs, ↓DL.r_gsCons, ↓DL.r_gsNil, ↓DL.r_isDNN, ↓DL.r_isDBB, ↓DL.r_isDBN, ↓DL.r_isDNB, ↓DL.r_isDIN, ↓DL.r_isDIB, ↓DL.r_isDSN, ↓DL.r_isDSB, ↓DL.r_isDTN, ↓DL.r_isDTB, ↓DL.r_isDLN, ↓DL.r_isDLB, ↓DL.r_isDRN, ↓DL.r_isDRB, ↓DL.r_beqTT, ↓DL.r_beqTF, ↓DL.r_beqFT, ↓DL.r_beqFF, ↓DL.k_onI, ↓DL.k_Fld2, ↓DL.r_fld, ↓DL.k_FldR, ↓DL.k_FldO, ↓DL.r_look, ↓DL.r_lookN, ↓DL.r_putD, ↓DL.r_putDN, ↓DL.k_SF3, ↓DL.r_setFldR, ↓DL.k_SF2, ↓DL.k_SF1, ↓DL.r_setFld, ↓DL.r_methF, ↓DL.k_Me2, ↓DL.r_meth, ↓DL.k_MeR, ↓DL.k_MeO, ↓DL.r_make, ↓DL.k_MkN, ↓DL.r_makeF, ↓DL.k_CG2, ↓DL.k_CG, ↓DL.r_callG, ↓DL.r_callGF, ↓DL.r_listRg, ↓DL.r_tupRg, ↓DL.k_SlR, ↓DL.r_slR, ↓DL.r_enumL, ↓DL.r_max2, ↓DL.r_min2, ↓DL.r_isi2R, ↓DL.r_isiR, ↓DL.r_lst1, ↓DL.r_lst2, ↓DL.r_lst3, ↓DL.r_lst4, ↓DL.r_lst5, ↓DL.r_lst6, ↓DL.r_lst7, ↓DL.r_lst8, ↓DL.r_lst9, ↓DL.r_lst10, ↓DL.r_lst11, ↓DL.r_lst12, ↓DL.r_seqR, ↓DL.k_ForR, ↓DL.r_minL, ↓DL.r_clr, ↓DL.k_Clr1R, ↓DL.k_LstR, ↓DL.r_listRef, ↓DL.k_Clr2, ↓DL.Kt.seq_nx, ↓DL.Kt.seq_rt, ↓DL.Kt.seq_bk, ↓DL.Kt.seq_ct, ↓DL.Kt.seq_ex, ↓DL.Kt.fin_nx, ↓DL.Kt.fin_rt, ↓DL.Kt.fin_ex, ↓DL.Kt.loop_nx, ↓DL.Kt.loop_rt, ↓DL.Kt.loop_bk, ↓DL.Kt.loop_ct, ↓DL.Kt.loop_ex, ↓DL.C.run_ret, ↓DL.mset_same, ↓DL.mset_mset, startD, ixN, Option.bind_some, Option.map_some, List.map_cons, List.map_nil, List.length_cons, List.length_nil, List.length_set, List.replicate, List.cons_append, List.nil_append, List.append_nil, List.set_cons_zero, List.set_cons_succ, List.getElem?_cons_zero, List.getElem?_cons_succ, Nat.reduceAdd, Nat.reduceSub, Nat.zero_add, if_true, if_false, decide_eq_true_eq, reduceIte, Bool.not_true, Bool.not_false, beq_self_eq_true, Bool.false_eq_true, Int.reduceLT, Int.reduceLE, Int.reduceNeg, Int.reduceToNat, Int.reduceAdd, Int.reduceSub, Nat.reduceLT, Nat.reduceLeDiff, Int.cast_ofNat_Int, Int.reduceEq, Int.reduceBEq, DL.wipeD, decide_true, decide_false, not_true_eq_false, not_false_eq_true, String.reduceEq, Bool.or_true, Bool.or_false, Bool.true_or, Bool.false_or, Bool.and_true, Bool.and_false, Bool.true_and, Bool.false_and, Bool.not_not, Nat.reduceEqDiff, Int.toNat_natCast, Decidable.not_not, List.mem_cons, List.not_mem_nil, or_false, or_true, true_or, false_or, and_true, true_and, and_self, and_false, false_and, reduceCtorEq, Option.isNone_some, Option.isNone_none, Option.isSome_some, Option.isSome_none, ↓c_isint, ↓c_rowL, ↓c_rowT, cs_size, cs_written, cs_ended, cs_writing, cs_reading, cs_low, cs_least, *])
local macro_rules | `(tactic| walk_at "s") => `(tactic| ((try walk_at "h"); repeat' ((first | with_reducible refine if_dec (fun _ => ?_) (fun _ => ?_) | with_reducible refine eif_dec (fun _ => ?_) (fun _ => ?_) | with_reducible refine tor_dec (fun _ => ?_) (fun _ => ?_) | with_reducible refine tand_dec (fun _ => ?_) (fun _ => ?_) | with_reducible refine and_dec (fun _ => ?_) (fun _ => ?_) | with_reducible refine or_dec (fun _ => ?_) (fun _ => ?_) | with_reducible refine ch_dec (fun _ => ?_) (fun _ => ?_)) <;> (try walk_at "h"))))
theorem cut_pre {ws r : List Int} {lo : Int} (h0 : 0 ≤ lo) (h1 : lo < ws.length) : cutD ((ws ++ r).map D.int) (some lo) (some ((ws.length : Int) - 1 + 1)) = (ws.drop lo.toNat).map D.int := by
  have e0 : (ws.length : Int) - 1 + 1 = ws.length := by omega
  rw [e0]
  unfold cutD
  have hl : ((ws ++ r).map D.int).length = ws.length + r.length := by simp
  have e1 : HT.sIx ((ws ++ r).map D.int).length 0 (some lo) = lo.toNat := by
    rw [hl]
    show (if lo < 0 then _ else min lo.toNat (ws.length + r.length)) = _
    rw [if_neg (by omega)]; omega
  have e2 : HT.sIx ((ws ++ r).map D.int).length ((ws ++ r).map D.int).length (some (ws.length : Int)) = ws.length := by
    rw [HT.sIx_nat, hl]; omega
  rw [e1, e2, ← List.map_drop, ← List.map_take]
  congr 1
  rw [List.drop_append_of_le_length (by omega), List.take_left' (by rw [List.length_drop])]
def badR (t : Td) : Bool := !decide (t.v ∈ t.S.ws.drop t.S.lo.toNat)
def badS (t : Td) : Bool := badR t && decide (t.S.lo = (t.S.ws.length : Int) - 1)
theorem find_congr {α : Type} {p q : α → Bool} : ∀ {l : List α}, (∀ x ∈ l, p x = q x) → l.find? p = l.find? q
  | [], _ => rfl
  | x :: r, h => by
    rw [List.find?_cons, List.find?_cons, h x (.head _), find_congr fun y hy => h y (.tail _ hy)]
theorem ne_rs : ("regular" : Str) ≠ "safe" := by rw [Ne, r_strEq2]; decide
theorem ne_ra : ("regular" : Str) ≠ "atomic" := by rw [Ne, r_strEq2]; decide
theorem ne_as : ("atomic" : Str) ≠ "safe" := by rw [Ne, r_strEq2]; decide
theorem mem_range_int {v size : Int} (h0 : 0 ≤ v) (h1 : v < size) : v ∈ (List.range size.toNat).map fun (i : Nat) => (i : Int) :=
  List.mem_map.mpr ⟨v.toNat, List.mem_range.mpr (by omega), by omega⟩
theorem reg_bad {t : Td} {size : Int} : (!decide (t.v ∈ t.S.allowed size "regular")) = badR t := by
  unfold badR Sc.allowed
  rw [if_neg ne_rs, if_neg ne_ra]
  congr 1
  exact decide_eq_decide.mpr mem_sortSet
theorem safe_bad {t : Td} {n : Nat} {W : List Int} {size : Int} (h : t.ok n W size) : (!decide (t.v ∈ t.S.allowed size "safe")) = badS t := by
  obtain ⟨hk, _, h0, h1⟩ := h
  unfold badS badR Sc.allowed
  rw [if_pos rfl]
  have hl0 := hk.l0; have hl1 := hk.l1
  by_cases z : t.S.lo = (t.S.ws.length : Int) - 1
  · rw [if_pos z, decide_eq_true z, Bool.and_true]
    have hlt : t.S.lo.toNat < t.S.ws.length := by omega
    have e : t.S.ws.drop t.S.lo.toNat = [t.S.ws.getD t.S.lo.toNat 0] := by
      rw [List.drop_eq_getElem_cons hlt, List.getD_eq_getElem?_getD, List.getElem?_eq_getElem hlt, List.drop_of_length_le (by omega)]; rfl
    rw [e]
  · rw [if_neg z, decide_eq_false z, Bool.and_false, decide_eq_true (mem_range_int h0 h1)]; rfl
def fnd (p : Td → Bool) (l : List Td) : D := optI ((l.find? p).map Td.k)
theorem fnd_snoc {p : Td → Bool} {l : List Td} {t : Td} : fnd p (l ++ [t]) = if isD (fnd p l) .non = true ∧ p t = true then .int t.k else fnd p l := by
  unfold fnd
  rw [List.find?_append]
  cases h : l.find? p with
  | some u => simp [optI, isD]
  | none =>
    rw [List.find?_cons]
    cases hp : p t <;> simp [optI, isD, hp]
theorem isD_fnd {p : Td → Bool} {l : List Td} : ∃ b : Bool, isD (fnd p l) .non = b := ⟨_, rfl⟩

local macro_rules | `(tactic| walk_at "d") => `(tactic| simp -implicitDefEqProofs only [↓DL.k_F, ↓DL.k_M, ↓DL.k_onV, ↓DL.k_onL, ↓DL.k_onO, ↓DL.k_onN, ↓DL.r_C, ↓DL.r_var, ↓DL.k_Op2, ↓DL.k_Op, ↓DL.r_op, ↓DL.r_un, ↓DL.r_app, ↓DL.r_call, ↓DL.r_callF, ↓DL.k_CK2, ↓DL.k_CK, ↓DL.r_callK, ↓DL.r_callKF, ↓DL.r_nil, ↓DL.k_A2, ↓DL.k_A, ↓DL.r_cons, ↓DL.k_AndT, ↓DL.k_AndF, ↓DL.r_and, ↓DL.k_OrT, ↓DL.k_OrF, ↓DL.r_or, ↓DL.k_Not, ↓DL.r_not, ↓DL.k_EIfT, ↓DL.k_EIfF, ↓DL.r_eIf, ↓DL.k_Ch3T, ↓DL.k_Ch3F, ↓DL.k_Ch2, ↓DL.k_Ch1, ↓DL.r_chain, ↓DL.k_T, ↓DL.r_of, ↓DL.k_TAT, ↓DL.k_TAF, ↓DL.r_tand, ↓DL.k_TOT, ↓DL.k_TOF, ↓DL.r_tor, ↓DL.k_TN, ↓DL.r_tnot, ↓DL.r_tTrue, ↓DL.k_Asg, ↓DL.r_asg, ↓DL.k_Nx, ↓DL.r_expr, ↓DL.k_Rt, ↓DL.r_ret, ↓DL.r_retN, ↓DL.k_IfT, ↓DL.k_IfF, ↓DL.r_if, ↓DL.r_seq, ↓DL.r_next, ↓DL.r_break, ↓DL.r_cont, ↓DL.r_stuck, ↓DL.k_G, ↓DL.r_asgG, ↓DL.k_For, ↓DL.r_for, ↓DL.k_SI3, ↓DL.k_SI2, ↓DL.k_SI, ↓DL.r_setItemS, ↓DL.k_Ap3, ↓DL.k_Ap2, ↓DL.k_Ap1, ↓DL.r_apd, ↓DL.r_gN, ↓DL.r_iSeq, ↓DL.r_iApp, ↓DL.k_Body, ↓DL.k_Sl3, ↓DL.k_Sl2, ↓DL.k_Sl1, ↓DL.r_sl, ↓DL.r_oNone, ↓DL.k_OS, ↓DL.r_oSome, ↓DL.r_slT, ↓DL.r_slL, ↓DL.r_slS, ↓DL.r_retL, ↓DL.r_newL, ↓DL.r_lc, ↓DL.r_lcM, ↓DL.r_add, ↓DL.r_sub, ↓DL.r_mod, ↓DL.r_div, ↓DL.r_pow1018, ↓DL.r_lt, ↓DL.r_le, ↓DL.r_gt, ↓DL.r_ge, ↓DL.r_neg, ↓DL.r_eqII, ↓DL.r_neII, ↓DL.r_eqSS, ↓DL.r_neSS, ↓DL.r_eqBB, ↓DL.r_neBB, ↓DL.r_isN, ↓DL.r_isB, ↓DL.r_notN, ↓DL.r_int1, ↓DL.r_intb, ↓DL.r_abs, ↓DL.k_Get, ↓DL.r_ixT, ↓DL.r_ixL, ↓DL.r_asLR, ↓DL.r_asLL, ↓DL.r_ixRef, ↓DL.r_lenT, ↓DL.r_lenL, ↓DL.k_Len, ↓DL.r_lenRef, ↓DL.r_sumRef, ↓DL.k_SetJ, ↓DL.k_Set, ↓DL.r_setRef, ↓DL.k_App, ↓DL.r_appRef, ↓DL.r_tup0, ↓DL.r_tup1, ↓DL.r_tup2, ↓DL.r_tup3, ↓DL.r_tup4, ↓DL.r_tup5, ↓DL.r_tup6, ↓DL.r_tup7, ↓DL.r_tup8, ↓DL.r_lst0, ↓DL.r_ref0, ↓DL.r_ref1, ↓DL.r_ref2, ↓DL.r_ref3, ↓DL.r_ref4, ↓DL.r_ref5, ↓DL.r_ref6, ↓DL.r_listL, ↓DL.r_listT, ↓DL.r_tupleL, ↓DL.r_seqT, ↓DL.r_seqL, ↓DL.r_range1, ↓DL.r_range2, ↓DL.r_strEq, ↓DL.r_strEq2, ↓DL.r_isT0, ↓DL.r_isT1, ↓DL.r_isT2, ↓DL.r_isT3, ↓DL.r_isT4, ↓DL.r_isT5, ↓DL.r_isT6, ↓DL.r_isT7, ↓DL.r_isT8, ↓DL.r_isT9, ↓DL.r_isT10, ↓DL.r_isT11, ↓DL.r_isT12, ↓DL.r_isT13, ↓DL.r_isT14, ↓DL.r_isT15, ↓DL.r_isT16, ↓DL.r_isT17, ↓DL.r_isT18, ↓DL.r_isT19, ↓DL.r_isT20, ↓DL.r_isT21, ↓DL.r_isT22, ↓DL.r_isT23, ↓DL.r_isT24, ↓DL.r_isT25, ↓DL.r_isT26, ↓DL.r_isT27, ↓DL.r_isT28, ↓DL.r_isT29, ↓DL.r_isT30, ↓DL.r_isT31, ↓DL.r_isT32, ↓DL.r_isT33, ↓DL.r_isT34, ↓DL.r_isT35, ↓DL.r_isiN, ↓DL.r_isi2N, ↓DL.r_isiB, ↓DL.r_isi2B, ↓DL.r_isiI, ↓DL.r_isi2I, ↓DL.r_isiS, ↓DL.r_isi2S, ↓DL.r_isiT, ↓DL.r_isi2T, ↓DL.r_isiL, ↓DL.r_isi2L, ↓DL.r_inTI, ↓DL.r_ninTI, ↓DL.r_inLI, ↓DL.r_ninLI, ↓DL.r_inTS, ↓DL.r_inD_nil, ↓DL.r_inD_cons, ↓DL.r_flat_nil, ↓DL.r_flat_cons, ↓DL.r_flatS, ↓DL.r_flatI, ↓DL.r_eqvSS, ↓DL.r_eqvII, ↓DL.r_addLL, ↓DL.r_atm1, ↓DL.r_atm2, ↓DL.r_at0, ↓DL.r_at1, ↓DL.r_at2, ↓DL.r_at3, ↓DL.r_at4, ↓DL.r_at5, ↓DL.r_at6, ↓DL.r_at7, ↓DL.r_at8, ↓DL.r_beqI, ↓DL.r_ndec, ↓DL.r_gT, ↓DL.k_Gs, ↓DL.r_gsCons, ↓DL.r_gsNil, ↓DL.r_isDNN, ↓DL.r_isDBB, ↓DL.r_isDBN, ↓DL.r_isDNB, ↓DL.r_isDIN, ↓DL.r_isDIB, ↓DL.r_isDSN, ↓DL.r_isDSB, ↓DL.r_isDTN, ↓DL.r_isDTB, ↓DL.r_isDLN, ↓DL.r_isDLB, ↓DL.r_isDRN, ↓DL.r_isDRB, ↓DL.r_beqTT, ↓DL.r_beqTF, ↓DL.r_beqFT, ↓DL.r_beqFF, ↓DL.k_onI, ↓DL.k_Fld2, ↓DL.r_fld, ↓DL.k_FldR, ↓DL.k_FldO, ↓DL.r_look, ↓DL.r_lookN, ↓DL.r_putD, ↓DL.r_putDN, ↓DL.k_SF3, ↓DL.r_setFldR, ↓DL.k_SF2, ↓DL.k_SF1, ↓DL.r_setFld, ↓DL.r_methF, ↓DL.k_Me2, ↓DL.r_meth, ↓DL.k_MeR, ↓DL.k_MeO, ↓DL.r_make, ↓DL.k_MkN, ↓DL.r_makeF, ↓DL.k_CG2, ↓DL.k_CG, ↓DL.r_callG, ↓DL.r_callGF, ↓DL.r_listRg, ↓DL.r_tupRg, ↓DL.k_SlR, ↓DL.r_slR, ↓DL.r_enumL, ↓DL.r_max2, ↓DL.r_min2, ↓DL.r_isi2R, ↓DL.r_isiR, ↓DL.r_lst1, ↓DL.r_lst2, ↓DL.r_lst3, ↓DL.r_lst4, ↓DL.r_lst5, ↓DL.r_lst6, ↓DL.r_lst7, ↓DL.r_lst8, ↓DL.r_lst9, ↓DL.r_lst10, ↓DL.r_lst11, ↓DL.r_lst12, ↓DL.r_seqR, ↓DL.k_ForR, ↓DL.r_minL, ↓DL.r_clr, ↓DL.k_Clr1R, ↓DL.k_LstR, ↓DL.r_listRef, ↓DL.k_Clr2, ↓DL.Kt.seq_nx, ↓DL.Kt.seq_rt, ↓DL.Kt.seq_bk, ↓DL.Kt.seq_ct, ↓DL.Kt.seq_ex, ↓DL.Kt.fin_nx, ↓DL.Kt.fin_rt, ↓DL.Kt.fin_ex, ↓DL.Kt.loop_nx, ↓DL.Kt.loop_rt, ↓DL.Kt.loop_bk, ↓DL.Kt.loop_ct, ↓DL.Kt.loop_ex, ↓DL.C.run_ret, ↓DL.mset_same, ↓DL.mset_mset, startD, ixN, Option.bind_some, Option.map_some, List.map_cons, List.map_nil, List.length_cons, List.length_nil, List.length_set, List.replicate, List.cons_append, List.nil_append, List.append_nil, List.set_cons_zero, List.set_cons_succ, List.getElem?_cons_zero, List.getElem?_cons_succ, Nat.reduceAdd, Nat.reduceSub, Nat.zero_add, if_true, if_false, decide_eq_true_eq, reduceIte, Bool.not_true, Bool.not_false, beq_self_eq_true, Bool.false_eq_true, Int.reduceLT, Int.reduceLE, Int.reduceNeg, Int.reduceToNat, Int.reduceAdd, Int.reduceSub, Nat.reduceLT, Nat.reduceLeDiff, Int.cast_ofNat_Int, Int.reduceEq, Int.reduceBEq, DL.wipeD, decide_true, decide_false, not_true_eq_false, not_false_eq_true, String.reduceEq, Bool.or_true, Bool.or_false, Bool.true_or, Bool.false_or, Bool.and_true, Bool.and_false, Bool.true_and, Bool.false_and, Bool.not_not, Nat.reduceEqDiff, Int.toNat_natCast, Decidable.not_not, List.mem_cons, List.not_mem_nil, or_false, or_true, true_or, false_or, and_true, true_and, and_self, and_false, false_and, reduceCtorEq, Option.isNone_some, Option.isNone_none, Option.isSome_some, Option.isSome_none, ↓c_isint, ↓c_rowL, ↓c_rowT, cs_size, cs_written, cs_ended, cs_writing, cs_reading, cs_low, cs_least])
local macro_rules | `(tactic| walk_at "h") => `(tactic| simp -implicitDefEqProofs only [↓DL.k_F, ↓DL.k_M, ↓DL.k_onV, ↓DL.k_onL, ↓DL.k_onO, ↓DL.k_onN, ↓DL.r_C, ↓DL.r_var, ↓DL.k_Op2, ↓DL.k_Op, ↓DL.r_op, ↓DL.r_un, ↓DL.r_app, ↓DL.r_call, ↓DL.r_callF, ↓DL.k_CK2, ↓DL.k_CK, ↓DL.r_callK, ↓DL.r_callKF, ↓DL.r_nil, ↓DL.k_A2, ↓DL.k_A, ↓DL.r_cons, ↓DL.k_AndT, ↓DL.k_AndF, ↓DL.r_and, ↓DL.k_OrT, ↓DL.k_OrF, ↓DL.r_or, ↓DL.k_Not, ↓DL.r_not, ↓DL.k_EIfT, ↓DL.k_EIfF, ↓DL.r_eIf, ↓DL.k_Ch3T, ↓DL.k_Ch3F, ↓DL.k_Ch2, ↓DL.k_Ch1, ↓DL.r_chain, ↓DL.k_T, ↓DL.r_of, ↓DL.k_TAT, ↓DL.k_TAF, ↓DL.r_tand, ↓DL.k_TOT, ↓DL.k_TOF, ↓DL.r_tor, ↓DL.k_TN, ↓DL.r_tnot, ↓DL.r_tTrue, ↓DL.k_Asg, ↓DL.r_asg, ↓DL.k_Nx, ↓DL.r_expr, ↓DL.k_Rt, ↓DL.r_ret, ↓DL.r_retN, ↓DL.k_IfT, ↓DL.k_IfF, ↓DL.r_if, ↓DL.r_seq, ↓DL.r_next, ↓DL.r_break, ↓DL.r_cont, ↓DL.r_stuck, ↓DL.k_G, ↓DL.r_asgG, ↓DL.k_For, ↓DL.r_for, ↓DL.k_SI3, ↓DL.k_SI2, ↓DL.k_SI, ↓DL.r_setItemS, ↓DL.k_Ap3, ↓DL.k_Ap2, ↓DL.k_Ap1, ↓DL.r_apd, ↓DL.r_gN, ↓DL.r_iSeq, ↓DL.r_iApp, ↓DL.k_Body, ↓DL.k_Sl3, ↓DL.k_Sl2, ↓DL.k_Sl1, ↓DL.r_sl, ↓DL.r_oNone, ↓DL.k_OS, ↓DL.r_oSome, ↓DL.r_slT, ↓DL.r_slL, ↓DL.r_slS, ↓DL.r_retL, ↓DL.r_newL, ↓DL.r_lc, ↓DL.r_lcM, ↓DL.r_add, ↓DL.r_sub, ↓DL.r_mod, ↓DL.r_div, ↓DL.r_pow1018, ↓DL.r_lt, ↓DL.r_le, ↓DL.r_gt, ↓DL.r_ge, ↓DL.r_neg, ↓DL.r_eqII, ↓DL.r_neII, ↓DL.r_eqSS, ↓DL.r_neSS, ↓DL.r_eqBB, ↓DL.r_neBB, ↓DL.r_isN, ↓DL.r_isB, ↓DL.r_notN, ↓DL.r_int1, ↓DL.r_intb, ↓DL.r_abs, ↓DL.k_Get, ↓DL.r_ixT, ↓DL.r_ixL, ↓DL.r_asLR, ↓DL.r_asLL, ↓DL.r_ixRef, ↓DL.r_lenT, ↓DL.r_lenL, ↓DL.k_Len, ↓DL.r_lenRef, ↓DL.r_sumRef, ↓DL.k_SetJ, ↓DL.k_Set, ↓DL.r_setRef, ↓DL.k_App, ↓DL.r_appRef, ↓DL.r_tup0, ↓DL.r_tup1, ↓DL.r_tup2, ↓DL.r_tup3, ↓DL.r_tup4, ↓DL.r_tup5, ↓DL.r_tup6, ↓DL.r_tup7, ↓DL.r_tup8, ↓DL.r_lst0, ↓DL.r_ref0, ↓DL.r_ref1, ↓DL.r_ref2, ↓DL.r_ref3, ↓DL.r_ref4, ↓DL.r_ref5, ↓DL.r_ref6, ↓DL.r_listL, ↓DL.r_listT, ↓DL.r_tupleL, ↓DL.r_seqT, ↓DL.r_seqL, ↓DL.r_range1, ↓DL.r_range2, ↓DL.r_strEq, ↓DL.r_strEq2, ↓DL.r_isT0, ↓DL.r_isT1, ↓DL.r_isT2, ↓DL.r_isT3, ↓DL.r_isT4, ↓DL.r_isT5, ↓DL.r_isT6, ↓DL.r_isT7, ↓DL.r_isT8, ↓DL.r_isT9, ↓DL.r_isT10, ↓DL.r_isT11, ↓DL.r_isT12, ↓DL.r_isT13, ↓DL.r_isT14, ↓DL.r_isT15, ↓DL.r_isT16, ↓DL.r_isT17, ↓DL.r_isT18, ↓DL.r_isT19, ↓DL.r_isT20, ↓DL.r_isT21, ↓DL.r_isT22, ↓DL.r_isT23, ↓DL.r_isT24, ↓DL.r_isT25, ↓DL.r_isT26, ↓DL.r_isT27, ↓DL.r_isT28, ↓DL.r_isT29, ↓DL.r_isT30, ↓DL.r_isT31, ↓DL.r_isT32, ↓DL.r_isT33, ↓DL.r_isT34, ↓DL.r_isT35, ↓DL.r_isiN, ↓DL.r_isi2N, ↓DL.r_isiB, ↓DL.r_isi2B, ↓DL.r_isiI, ↓DL.r_isi2I, ↓DL.r_isiS, ↓DL.r_isi2S, ↓DL.r_isiT, ↓DL.r_isi2T, ↓DL.r_isiL, ↓DL.r_isi2L, ↓DL.r_inTI, ↓DL.r_ninTI, ↓DL.r_inLI, ↓DL.r_ninLI, ↓DL.r_inTS, ↓DL.r_inD_nil, ↓DL.r_inD_cons, ↓DL.r_flat_nil, ↓DL.r_flat_cons, ↓DL.r_flatS, ↓DL.r_flatI, ↓DL.r_eqvSS, ↓DL.r_eqvII, ↓DL.r_addLL, ↓DL.r_atm1, ↓DL.r_atm2, ↓DL.r_at0, ↓DL.r_at1, ↓DL.r_at2, ↓DL.r_at3, ↓DL.r_at4, ↓DL.r_at5, ↓DL.r_at6, ↓DL.r_at7, ↓DL.r_at8, ↓DL.r_beqI, ↓DL.r_ndec, ↓DL.r_gT, ↓DL.k_Gs, ↓DL.r_gsCons, ↓DL.r_gsNil, ↓DL.r_isDNN, ↓DL.r_isDBB, ↓DL.r_isDBN, ↓DL.r_isDNB, ↓DL.r_isDIN, ↓DL.r_isDIB, ↓DL.r_isDSN, ↓DL.r_isDSB, ↓DL.r_isDTN, ↓DL.r_isDTB, ↓DL.r_isDLN, ↓DL.r_isDLB, ↓DL.r_isDRN, ↓DL.r_isDRB, ↓DL.r_beqTT, ↓DL.r_beqTF, ↓DL.r_beqFT, ↓DL.r_beqFF, ↓DL.k_onI, ↓DL.k_Fld2, ↓DL.r_fld, ↓DL.k_FldR, ↓DL.k_FldO, ↓DL.r_look, ↓DL.r_lookN, ↓DL.r_putD, ↓DL.r_putDN, ↓DL.k_SF3, ↓DL.r_setFldR, ↓DL.k_SF2, ↓DL.k_SF1, ↓DL.r_setFld, ↓DL.r_methF, ↓DL.k_Me2, ↓DL.r_meth, ↓DL.k_MeR, ↓DL.k_MeO, ↓DL.r_make, ↓DL.k_MkN, ↓DL.r_makeF, ↓DL.k_CG2, ↓DL.k_CG, ↓DL.r_callG, ↓DL.r_callGF, ↓DL.r_listRg, ↓DL.r_tupRg, ↓DL.k_SlR, ↓DL.r_slR, ↓DL.r_enumL, ↓DL.r_max2, ↓DL.r_min2, ↓DL.r_isi2R, ↓DL.r_isiR, ↓DL.r_lst1, ↓DL.r_lst2, ↓DL.r_lst3, ↓DL.r_lst4, ↓DL.r_lst5, ↓DL.r_lst6, ↓DL.r_lst7, ↓DL.r_lst8, ↓DL.r_lst9, ↓DL.r_lst10, ↓DL.r_lst11, ↓DL.r_lst12, ↓DL.r_seqR, ↓DL.k_ForR, ↓DL.r_minL, ↓DL.r_clr, ↓DL.k_Clr1R, ↓DL.k_LstR, ↓DL.r_listRef, ↓DL.k_Clr2, ↓DL.Kt.seq_nx, ↓DL.Kt.seq_rt, ↓DL.Kt.seq_bk, ↓DL.Kt.seq_ct, ↓DL.Kt.seq_ex, ↓DL.Kt.fin_nx, ↓DL.Kt.fin_rt, ↓DL.Kt.fin_ex, ↓DL.Kt.loop_nx, ↓DL.Kt.loop_rt, ↓DL.Kt.loop_bk, ↓DL.Kt.loop_ct, ↓DL.Kt.loop_ex, ↓DL.C.run_ret, ↓DL.mset_same, ↓DL.mset_mset, startD, ixN, Option.bind_some, Option.map_some, List.map_cons, List.map_nil, List.length_cons, List.length_nil, List.length_set, List.replicate, List.cons_append, List.nil_append, List.append_nil, List.set_cons_zero, List.set_cons_succ, List.getElem?_cons_zero, List.getElem?_cons_succ, Nat.reduceAdd, Nat.reduceSub, Nat.zero_add, if_true, if_false, decide_eq_true_eq, reduceIte, Bool.not_true, Bool.not_false, beq_self_eq_true, Bool.false_eq_true, Int.reduceLT, Int.reduceLE, Int.reduceNeg, Int.reduceToNat, Int.reduceAdd, Int.reduceSub, Nat.reduceLT, Nat.reduceLeDiff, Int.cast_ofNat_Int, Int.reduceEq, Int.reduceBEq, DL.wipeD, decide_true, decide_false, not_true_eq_false, not_false_eq_true, String.reduceEq, Bool.or_true, Bool.or_false, Bool.true_or, Bool.false_or, Bool.and_true, Bool.and_false, Bool.true_and, Bool.false_and, Bool.not_not, Nat.reduceEqDiff, Int.toNat_natCast, Decidable.not_not, List.mem_cons, List.not_mem_nil, or_false, or_true, true_or, false_or, and_true, true_and, and_self, and_false, false_and, reduceCtorEq, Option.isNone_some, Option.isNone_none, Option.isSome_some, Option.isSome_none, ↓c_isint, ↓c_rowL, ↓c_rowT, cs_size, cs_written, cs_ended, cs_writing, cs_reading, cs_low, cs_least, *])
local macro_rules | `(tactic| walk_at "s") => `(tactic| ((try walk_at "h"); repeat' ((first | with_reducible refine if_dec (fun _ => ?_) (fun _ => ?_) | with_reducible refine eif_dec (fun _ => ?_) (fun _ => ?_) | with_reducible refine tor_dec (fun _ => ?_) (fun _ => ?_) | with_reducible refine tand_dec (fun _ => ?_) (fun _ => ?_) | with_reducible refine and_dec (fun _ => ?_) (fun _ => ?_) | with_reducible refine or_dec (fun _ => ?_) (fun _ => ?_) | with_reducible refine ch_dec (fun _ => ?_) (fun _ => ?_)) <;> (try walk_at "h"))))
theorem okS_opt {o : Option Nat} : okS 4 (optI o) = true := by cases o <;> rfl
theorem same_fnd {p : Td → Bool} {l : List Td} {m : Mem} {Q : D → Mem → Prop} {E : Xn → Mem → Prop} (q : Q (.bl true) m) : (d__law_same 4 [fnd p l, fnd p l]).run m Q E := same_refl 4 _ okS_opt _ _ _ q

local macro_rules | `(tactic| walk_at "d") => `(tactic| simp -implicitDefEqProofs only [↓DL.k_F, ↓DL.k_M, ↓DL.k_onV, ↓DL.k_onL, ↓DL.k_onO, ↓DL.k_onN, ↓DL.r_C, ↓DL.r_var, ↓DL.k_Op2, ↓DL.k_Op, ↓DL.r_op, ↓DL.r_un, ↓DL.r_app, ↓DL.r_call, ↓DL.r_callF, ↓DL.k_CK2, ↓DL.k_CK, ↓DL.r_callK, ↓DL.r_callKF, ↓DL.r_nil, ↓DL.k_A2, ↓DL.k_A, ↓DL.r_cons, ↓DL.k_AndT, ↓DL.k_AndF, ↓DL.r_and, ↓DL.k_OrT, ↓DL.k_OrF, ↓DL.r_or, ↓DL.k_Not, ↓DL.r_not, ↓DL.k_EIfT, ↓DL.k_EIfF, ↓DL.r_eIf, ↓DL.k_Ch3T, ↓DL.k_Ch3F, ↓DL.k_Ch2, ↓DL.k_Ch1, ↓DL.r_chain, ↓DL.k_T, ↓DL.r_of, ↓DL.k_TAT, ↓DL.k_TAF, ↓DL.r_tand, ↓DL.k_TOT, ↓DL.k_TOF, ↓DL.r_tor, ↓DL.k_TN, ↓DL.r_tnot, ↓DL.r_tTrue, ↓DL.k_Asg, ↓DL.r_asg, ↓DL.k_Nx, ↓DL.r_expr, ↓DL.k_Rt, ↓DL.r_ret, ↓DL.r_retN, ↓DL.k_IfT, ↓DL.k_IfF, ↓DL.r_if, ↓DL.r_seq, ↓DL.r_next, ↓DL.r_break, ↓DL.r_cont, ↓DL.r_stuck, ↓DL.k_G, ↓DL.r_asgG, ↓DL.k_For, ↓DL.r_for, ↓DL.k_SI3, ↓DL.k_SI2, ↓DL.k_SI, ↓DL.r_setItemS, ↓DL.k_Ap3, ↓DL.k_Ap2, ↓DL.k_Ap1, ↓DL.r_apd, ↓DL.r_gN, ↓DL.r_iSeq, ↓DL.r_iApp, ↓DL.k_Body, ↓DL.k_Sl3, ↓DL.k_Sl2, ↓DL.k_Sl1, ↓DL.r_sl, ↓DL.r_oNone, ↓DL.k_OS, ↓DL.r_oSome, ↓DL.r_slT, ↓DL.r_slL, ↓DL.r_slS, ↓DL.r_retL, ↓DL.r_newL, ↓DL.r_lc, ↓DL.r_lcM, ↓DL.r_add, ↓DL.r_sub, ↓DL.r_mod, ↓DL.r_div, ↓DL.r_pow1018, ↓DL.r_lt, ↓DL.r_le, ↓DL.r_gt, ↓DL.r_ge, ↓DL.r_neg, ↓DL.r_eqII, ↓DL.r_neII, ↓DL.r_eqSS, ↓DL.r_neSS, ↓DL.r_eqBB, ↓DL.r_neBB, ↓DL.r_isN, ↓DL.r_isB, ↓DL.r_notN, ↓DL.r_int1, ↓DL.r_intb, ↓DL.r_abs, ↓DL.k_Get, ↓DL.r_ixT, ↓DL.r_ixL, ↓DL.r_asLR, ↓DL.r_asLL, ↓DL.r_ixRef, ↓DL.r_lenT, ↓DL.r_lenL, ↓DL.k_Len, ↓DL.r_lenRef, ↓DL.r_sumRef, ↓DL.k_SetJ, ↓DL.k_Set, ↓DL.r_setRef, ↓DL.k_App, ↓DL.r_appRef, ↓DL.r_tup0, ↓DL.r_tup1, ↓DL.r_tup2, ↓DL.r_tup3, ↓DL.r_tup4, ↓DL.r_tup5, ↓DL.r_tup6, ↓DL.r_tup7, ↓DL.r_tup8, ↓DL.r_lst0, ↓DL.r_ref0, ↓DL.r_ref1, ↓DL.r_ref2, ↓DL.r_ref3, ↓DL.r_ref4, ↓DL.r_ref5, ↓DL.r_ref6, ↓DL.r_listL, ↓DL.r_listT, ↓DL.r_tupleL, ↓DL.r_seqT, ↓DL.r_seqL, ↓DL.r_range1, ↓DL.r_range2, ↓DL.r_strEq, ↓DL.r_strEq2, ↓DL.r_isT0, ↓DL.r_isT1, ↓DL.r_isT2, ↓DL.r_isT3, ↓DL.r_isT4, ↓DL.r_isT5, ↓DL.r_isT6, ↓DL.r_isT7, ↓DL.r_isT8, ↓DL.r_isT9, ↓DL.r_isT10, ↓DL.r_isT11, ↓DL.r_isT12, ↓DL.r_isT13, ↓DL.r_isT14, ↓DL.r_isT15, ↓DL.r_isT16, ↓DL.r_isT17, ↓DL.r_isT18, ↓DL.r_isT19, ↓DL.r_isT20, ↓DL.r_isT21, ↓DL.r_isT22, ↓DL.r_isT23, ↓DL.r_isT24, ↓DL.r_isT25, ↓DL.r_isT26, ↓DL.r_isT27, ↓DL.r_isT28, ↓DL.r_isT29, ↓DL.r_isT30, ↓DL.r_isT31, ↓DL.r_isT32, ↓DL.r_isT33, ↓DL.r_isT34, ↓DL.r_isT35, ↓DL.r_isiN, ↓DL.r_isi2N, ↓DL.r_isiB, ↓DL.r_isi2B, ↓DL.r_isiI, ↓DL.r_isi2I, ↓DL.r_isiS, ↓DL.r_isi2S, ↓DL.r_isiT, ↓DL.r_isi2T, ↓DL.r_isiL, ↓DL.r_isi2L, ↓DL.r_inTI, ↓DL.r_ninTI, ↓DL.r_inLI, ↓DL.r_ninLI, ↓DL.r_inTS, ↓DL.r_inD_nil, ↓DL.r_inD_cons, ↓DL.r_flat_nil, ↓DL.r_flat_cons, ↓DL.r_flatS, ↓DL.r_flatI, ↓DL.r_eqvSS, ↓DL.r_eqvII, ↓DL.r_addLL, ↓DL.r_atm1, ↓DL.r_atm2, ↓DL.r_at0, ↓DL.r_at1, ↓DL.r_at2, ↓DL.r_at3, ↓DL.r_at4, ↓DL.r_at5, ↓DL.r_at6, ↓DL.r_at7, ↓DL.r_at8, ↓DL.r_beqI, ↓DL.r_ndec, ↓DL.r_gT, ↓DL.k_Gs, ↓DL.r_gsCons, ↓DL.r_gsNil, ↓DL.r_isDNN, ↓DL.r_isDBB, ↓DL.r_isDBN, ↓DL.r_isDNB, ↓DL.r_isDIN, ↓DL.r_isDIB, ↓DL.r_isDSN, ↓DL.r_isDSB, ↓DL.r_isDTN, ↓DL.r_isDTB, ↓DL.r_isDLN, ↓DL.r_isDLB, ↓DL.r_isDRN, ↓DL.r_isDRB, ↓DL.r_beqTT, ↓DL.r_beqTF, ↓DL.r_beqFT, ↓DL.r_beqFF, ↓DL.k_onI, ↓DL.k_Fld2, ↓DL.r_fld, ↓DL.k_FldR, ↓DL.k_FldO, ↓DL.r_look, ↓DL.r_lookN, ↓DL.r_putD, ↓DL.r_putDN, ↓DL.k_SF3, ↓DL.r_setFldR, ↓DL.k_SF2, ↓DL.k_SF1, ↓DL.r_setFld, ↓DL.r_methF, ↓DL.k_Me2, ↓DL.r_meth, ↓DL.k_MeR, ↓DL.k_MeO, ↓DL.r_make, ↓DL.k_MkN, ↓DL.r_makeF, ↓DL.k_CG2, ↓DL.k_CG, ↓DL.r_callG, ↓DL.r_callGF, ↓DL.r_listRg, ↓DL.r_tupRg, ↓DL.k_SlR, ↓DL.r_slR, ↓DL.r_enumL, ↓DL.r_max2, ↓DL.r_min2, ↓DL.r_isi2R, ↓DL.r_isiR, ↓DL.r_lst1, ↓DL.r_lst2, ↓DL.r_lst3, ↓DL.r_lst4, ↓DL.r_lst5, ↓DL.r_lst6, ↓DL.r_lst7, ↓DL.r_lst8, ↓DL.r_lst9, ↓DL.r_lst10, ↓DL.r_lst11, ↓DL.r_lst12, ↓DL.r_seqR, ↓DL.k_ForR, ↓DL.r_minL, ↓DL.r_clr, ↓DL.k_Clr1R, ↓DL.k_LstR, ↓DL.r_listRef, ↓DL.k_Clr2, ↓DL.Kt.seq_nx, ↓DL.Kt.seq_rt, ↓DL.Kt.seq_bk, ↓DL.Kt.seq_ct, ↓DL.Kt.seq_ex, ↓DL.Kt.fin_nx, ↓DL.Kt.fin_rt, ↓DL.Kt.fin_ex, ↓DL.Kt.loop_nx, ↓DL.Kt.loop_rt, ↓DL.Kt.loop_bk, ↓DL.Kt.loop_ct, ↓DL.Kt.loop_ex, ↓DL.C.run_ret, ↓DL.mset_same, ↓DL.mset_mset, startD, ixN, Option.bind_some, Option.map_some, List.map_cons, List.map_nil, List.length_cons, List.length_nil, List.length_set, List.replicate, List.cons_append, List.nil_append, List.append_nil, List.set_cons_zero, List.set_cons_succ, List.getElem?_cons_zero, List.getElem?_cons_succ, Nat.reduceAdd, Nat.reduceSub, Nat.zero_add, if_true, if_false, decide_eq_true_eq, reduceIte, Bool.not_true, Bool.not_false, beq_self_eq_true, Bool.false_eq_true, Int.reduceLT, Int.reduceLE, Int.reduceNeg, Int.reduceToNat, Int.reduceAdd, Int.reduceSub, Nat.reduceLT, Nat.reduceLeDiff, Int.cast_ofNat_Int, Int.reduceEq, Int.reduceBEq, DL.wipeD, decide_true, decide_false, not_true_eq_false, not_false_eq_true, String.reduceEq, Bool.or_true, Bool.or_false, Bool.true_or, Bool.false_or, Bool.and_true, Bool.and_false, Bool.true_and, Bool.false_and, Bool.not_not, Nat.reduceEqDiff, Int.toNat_natCast, Decidable.not_not, List.mem_cons, List.not_mem_nil, or_false, or_true, true_or, false_or, and_true, true_and, and_self, and_false, false_and, reduceCtorEq, Option.isNone_some, Option.isNone_none, Option.isSome_some, Option.isSome_none, ↓c_isint, ↓c_rowL, ↓c_rowT, cs_size, cs_written, cs_ended, cs_writing, cs_reading, cs_low, cs_least])
local macro_rules | `(tactic| walk_at "h") => `(tactic| simp -implicitDefEqProofs only [↓DL.k_F, ↓DL.k_M, ↓DL.k_onV, ↓DL.k_onL, ↓DL.k_onO, ↓DL.k_onN, ↓DL.r_C, ↓DL.r_var, ↓DL.k_Op2, ↓DL.k_Op, ↓DL.r_op, ↓DL.r_un, ↓DL.r_app, ↓DL.r_call, ↓DL.r_callF, ↓DL.k_CK2, ↓DL.k_CK, ↓DL.r_callK, ↓DL.r_callKF, ↓DL.r_nil, ↓DL.k_A2, ↓DL.k_A, ↓DL.r_cons, ↓DL.k_AndT, ↓DL.k_AndF, ↓DL.r_and, ↓DL.k_OrT, ↓DL.k_OrF, ↓DL.r_or, ↓DL.k_Not, ↓DL.r_not, ↓DL.k_EIfT, ↓DL.k_EIfF, ↓DL.r_eIf, ↓DL.k_Ch3T, ↓DL.k_Ch3F, ↓DL.k_Ch2, ↓DL.k_Ch1, ↓DL.r_chain, ↓DL.k_T, ↓DL.r_of, ↓DL.k_TAT, ↓DL.k_TAF, ↓DL.r_tand, ↓DL.k_TOT, ↓DL.k_TOF, ↓DL.r_tor, ↓DL.k_TN, ↓DL.r_tnot, ↓DL.r_tTrue, ↓DL.k_Asg, ↓DL.r_asg, ↓DL.k_Nx, ↓DL.r_expr, ↓DL.k_Rt, ↓DL.r_ret, ↓DL.r_retN, ↓DL.k_IfT, ↓DL.k_IfF, ↓DL.r_if, ↓DL.r_seq, ↓DL.r_next, ↓DL.r_break, ↓DL.r_cont, ↓DL.r_stuck, ↓DL.k_G, ↓DL.r_asgG, ↓DL.k_For, ↓DL.r_for, ↓DL.k_SI3, ↓DL.k_SI2, ↓DL.k_SI, ↓DL.r_setItemS, ↓DL.k_Ap3, ↓DL.k_Ap2, ↓DL.k_Ap1, ↓DL.r_apd, ↓DL.r_gN, ↓DL.r_iSeq, ↓DL.r_iApp, ↓DL.k_Body, ↓DL.k_Sl3, ↓DL.k_Sl2, ↓DL.k_Sl1, ↓DL.r_sl, ↓DL.r_oNone, ↓DL.k_OS, ↓DL.r_oSome, ↓DL.r_slT, ↓DL.r_slL, ↓DL.r_slS, ↓DL.r_retL, ↓DL.r_newL, ↓DL.r_lc, ↓DL.r_lcM, ↓DL.r_add, ↓DL.r_sub, ↓DL.r_mod, ↓DL.r_div, ↓DL.r_pow1018, ↓DL.r_lt, ↓DL.r_le, ↓DL.r_gt, ↓DL.r_ge, ↓DL.r_neg, ↓DL.r_eqII, ↓DL.r_neII, ↓DL.r_eqSS, ↓DL.r_neSS, ↓DL.r_eqBB, ↓DL.r_neBB, ↓DL.r_isN, ↓DL.r_isB, ↓DL.r_notN, ↓DL.r_int1, ↓DL.r_intb, ↓DL.r_abs, ↓DL.k_Get, ↓DL.r_ixT, ↓DL.r_ixL, ↓DL.r_asLR, ↓DL.r_asLL, ↓DL.r_ixRef, ↓DL.r_lenT, ↓DL.r_lenL, ↓DL.k_Len, ↓DL.r_lenRef, ↓DL.r_sumRef, ↓DL.k_SetJ, ↓DL.k_Set, ↓DL.r_setRef, ↓DL.k_App, ↓DL.r_appRef, ↓DL.r_tup0, ↓DL.r_tup1, ↓DL.r_tup2, ↓DL.r_tup3, ↓DL.r_tup4, ↓DL.r_tup5, ↓DL.r_tup6, ↓DL.r_tup7, ↓DL.r_tup8, ↓DL.r_lst0, ↓DL.r_ref0, ↓DL.r_ref1, ↓DL.r_ref2, ↓DL.r_ref3, ↓DL.r_ref4, ↓DL.r_ref5, ↓DL.r_ref6, ↓DL.r_listL, ↓DL.r_listT, ↓DL.r_tupleL, ↓DL.r_seqT, ↓DL.r_seqL, ↓DL.r_range1, ↓DL.r_range2, ↓DL.r_strEq, ↓DL.r_strEq2, ↓DL.r_isT0, ↓DL.r_isT1, ↓DL.r_isT2, ↓DL.r_isT3, ↓DL.r_isT4, ↓DL.r_isT5, ↓DL.r_isT6, ↓DL.r_isT7, ↓DL.r_isT8, ↓DL.r_isT9, ↓DL.r_isT10, ↓DL.r_isT11, ↓DL.r_isT12, ↓DL.r_isT13, ↓DL.r_isT14, ↓DL.r_isT15, ↓DL.r_isT16, ↓DL.r_isT17, ↓DL.r_isT18, ↓DL.r_isT19, ↓DL.r_isT20, ↓DL.r_isT21, ↓DL.r_isT22, ↓DL.r_isT23, ↓DL.r_isT24, ↓DL.r_isT25, ↓DL.r_isT26, ↓DL.r_isT27, ↓DL.r_isT28, ↓DL.r_isT29, ↓DL.r_isT30, ↓DL.r_isT31, ↓DL.r_isT32, ↓DL.r_isT33, ↓DL.r_isT34, ↓DL.r_isT35, ↓DL.r_isiN, ↓DL.r_isi2N, ↓DL.r_isiB, ↓DL.r_isi2B, ↓DL.r_isiI, ↓DL.r_isi2I, ↓DL.r_isiS, ↓DL.r_isi2S, ↓DL.r_isiT, ↓DL.r_isi2T, ↓DL.r_isiL, ↓DL.r_isi2L, ↓DL.r_inTI, ↓DL.r_ninTI, ↓DL.r_inLI, ↓DL.r_ninLI, ↓DL.r_inTS, ↓DL.r_inD_nil, ↓DL.r_inD_cons, ↓DL.r_flat_nil, ↓DL.r_flat_cons, ↓DL.r_flatS, ↓DL.r_flatI, ↓DL.r_eqvSS, ↓DL.r_eqvII, ↓DL.r_addLL, ↓DL.r_atm1, ↓DL.r_atm2, ↓DL.r_at0, ↓DL.r_at1, ↓DL.r_at2, ↓DL.r_at3, ↓DL.r_at4, ↓DL.r_at5, ↓DL.r_at6, ↓DL.r_at7, ↓DL.r_at8, ↓DL.r_beqI, ↓DL.r_ndec, ↓DL.r_gT, ↓DL.k_Gs, ↓DL.r_gsCons, ↓DL.r_gsNil, ↓DL.r_isDNN, ↓DL.r_isDBB, ↓DL.r_isDBN, ↓DL.r_isDNB, ↓DL.r_isDIN, ↓DL.r_isDIB, ↓DL.r_isDSN, ↓DL.r_isDSB, ↓DL.r_isDTN, ↓DL.r_isDTB, ↓DL.r_isDLN, ↓DL.r_isDLB, ↓DL.r_isDRN, ↓DL.r_isDRB, ↓DL.r_beqTT, ↓DL.r_beqTF, ↓DL.r_beqFT, ↓DL.r_beqFF, ↓DL.k_onI, ↓DL.k_Fld2, ↓DL.r_fld, ↓DL.k_FldR, ↓DL.k_FldO, ↓DL.r_look, ↓DL.r_lookN, ↓DL.r_putD, ↓DL.r_putDN, ↓DL.k_SF3, ↓DL.r_setFldR, ↓DL.k_SF2, ↓DL.k_SF1, ↓DL.r_setFld, ↓DL.r_methF, ↓DL.k_Me2, ↓DL.r_meth, ↓DL.k_MeR, ↓DL.k_MeO, ↓DL.r_make, ↓DL.k_MkN, ↓DL.r_makeF, ↓DL.k_CG2, ↓DL.k_CG, ↓DL.r_callG, ↓DL.r_callGF, ↓DL.r_listRg, ↓DL.r_tupRg, ↓DL.k_SlR, ↓DL.r_slR, ↓DL.r_enumL, ↓DL.r_max2, ↓DL.r_min2, ↓DL.r_isi2R, ↓DL.r_isiR, ↓DL.r_lst1, ↓DL.r_lst2, ↓DL.r_lst3, ↓DL.r_lst4, ↓DL.r_lst5, ↓DL.r_lst6, ↓DL.r_lst7, ↓DL.r_lst8, ↓DL.r_lst9, ↓DL.r_lst10, ↓DL.r_lst11, ↓DL.r_lst12, ↓DL.r_seqR, ↓DL.k_ForR, ↓DL.r_minL, ↓DL.r_clr, ↓DL.k_Clr1R, ↓DL.k_LstR, ↓DL.r_listRef, ↓DL.k_Clr2, ↓DL.Kt.seq_nx, ↓DL.Kt.seq_rt, ↓DL.Kt.seq_bk, ↓DL.Kt.seq_ct, ↓DL.Kt.seq_ex, ↓DL.Kt.fin_nx, ↓DL.Kt.fin_rt, ↓DL.Kt.fin_ex, ↓DL.Kt.loop_nx, ↓DL.Kt.loop_rt, ↓DL.Kt.loop_bk, ↓DL.Kt.loop_ct, ↓DL.Kt.loop_ex, ↓DL.C.run_ret, ↓DL.mset_same, ↓DL.mset_mset, startD, ixN, Option.bind_some, Option.map_some, List.map_cons, List.map_nil, List.length_cons, List.length_nil, List.length_set, List.replicate, List.cons_append, List.nil_append, List.append_nil, List.set_cons_zero, List.set_cons_succ, List.getElem?_cons_zero, List.getElem?_cons_succ, Nat.reduceAdd, Nat.reduceSub, Nat.zero_add, if_true, if_false, decide_eq_true_eq, reduceIte, Bool.not_true, Bool.not_false, beq_self_eq_true, Bool.false_eq_true, Int.reduceLT, Int.reduceLE, Int.reduceNeg, Int.reduceToNat, Int.reduceAdd, Int.reduceSub, Nat.reduceLT, Nat.reduceLeDiff, Int.cast_ofNat_Int, Int.reduceEq, Int.reduceBEq, DL.wipeD, decide_true, decide_false, not_true_eq_false, not_false_eq_true, String.reduceEq, Bool.or_true, Bool.or_false, Bool.true_or, Bool.false_or, Bool.and_true, Bool.and_false, Bool.true_and, Bool.false_and, Bool.not_not, Nat.reduceEqDiff, Int.toNat_natCast, Decidable.not_not, List.mem_cons, List.not_mem_nil, or_false, or_true, true_or, false_or, and_true, true_and, and_self, and_false, false_and, reduceCtorEq, Option.isNone_some, Option.isNone_none, Option.isSome_some, Option.isSome_none, ↓c_isint, ↓c_rowL, ↓c_rowT, cs_size, cs_written, cs_ended, cs_writing, cs_reading, cs_low, cs_least, *])
local macro_rules | `(tactic| walk_at "s") => `(tactic| ((try walk_at "h"); repeat' ((first | with_reducible refine if_dec (fun _ => ?_) (fun _ => ?_) | with_reducible refine eif_dec (fun _ => ?_) (fun _ => ?_) | with_reducible refine tor_dec (fun _ => ?_) (fun _ => ?_) | with_reducible refine tand_dec (fun _ => ?_) (fun _ => ?_) | with_reducible refine and_dec (fun _ => ?_) (fun _ => ?_) | with_reducible refine or_dec (fun _ => ?_) (fun _ => ?_) | with_reducible refine ch_dec (fun _ => ?_) (fun _ => ?_)) <;> (try walk_at "h"))))
def badA (t : Td) : Bool := !decide (t.v ∈ t.S.ws.drop t.S.low.toNat)
def leA (t : Td) : Int := (t.S.take (.told t.v)).le
def Chain : Int → List Td → Prop
  | _, [] => True
  | a, t :: r => t.S.le = a ∧ Chain (leA t) r
theorem chain_of : ∀ {evs : List Ev} {S : Sc} {k : Nat}, Chain S.le (tolds S k evs)
  | [], _, _ => trivial
  | .told v :: r, S, k => ⟨rfl, chain_of (evs := r) (S := S.take (.told v)) (k := k + 1)⟩
  | .write v :: r, S, k => chain_of (evs := r) (S := S.take (.write v)) (k := k + 1)
  | .wrote :: r, S, k => chain_of (evs := r) (S := S.take .wrote) (k := k + 1)
  | .read :: r, S, k => chain_of (evs := r) (S := S.take .read) (k := k + 1)
def endLe (a : Int) (l : List Td) : Int := l.foldl (fun _ t => leA t) a
theorem chain_at : ∀ {pre : List Td} {t : Td} {r : List Td} {a : Int}, Chain a (pre ++ t :: r) → t.S.le = endLe a pre
  | [], _, _, _, h => h.1
  | _ :: pre, _, _, _, h => chain_at (pre := pre) h.2
theorem numF_none : ∀ {l : List Int} {i : Nat} {v : Int}, numF l i v = none ↔ v ∉ l
  | [], _, _ => Iff.intro (fun _ h => nomatch h) (fun _ => rfl)
  | x :: r, i, v => by
    unfold numF
    by_cases h : x = v
    · rw [if_pos h]
      refine Iff.intro (fun z => nomatch z) (fun z => absurd ?_ z)
      rw [h]; exact List.Mem.head _
    · rw [if_neg h, numF_none]
      exact Iff.intro (fun z q => (List.mem_cons.mp q).elim (fun e => h e.symm) z) (fun z q => z (List.Mem.tail _ q))
theorem numF_some : ∀ {l : List Int} {i : Nat} {v : Int} {k : Nat}, numF l i v = some k → i ≤ k ∧ l[k - i]? = some v ∧ ∀ j, j < k - i → l[j]? ≠ some v
  | [], _, _, _, h => nomatch h
  | x :: r, i, v, k, h => by
    unfold numF at h
    by_cases q : x = v
    · rw [if_pos q] at h
      cases h
      exact ⟨Nat.le_refl _, by rw [Nat.sub_self]; exact congrArg some q, fun j hj => by omega⟩
    · rw [if_neg q] at h
      obtain ⟨h1, h2, h3⟩ := numF_some h
      refine ⟨by omega, ?_, fun j hj => ?_⟩
      · have e : k - i = (k - (i + 1)) + 1 := by omega
        rw [e, List.getElem?_cons_succ]; exact h2
      · cases j with
        | zero => intro z; exact q (Option.some.inj z)
        | succ j => rw [List.getElem?_cons_succ]; exact h3 j (by omega)
/-- the ivl from lo to hi - 1 -/
def ivl (lo hi : Int) : List Int := (List.range (hi - lo).toNat).map fun (i : Nat) => lo + i
theorem ivl_self {lo : Int} : ivl lo lo = [] := by unfold ivl; rw [Int.sub_self]; rfl
theorem ivl_succ {lo hi : Int} (h : lo ≤ hi) : ivl lo (hi + 1) = ivl lo hi ++ [hi] := by
  unfold ivl
  have e : (hi + 1 - lo).toNat = (hi - lo).toNat + 1 := by omega
  rw [e, List.range_succ, List.map_append]
  congr 1
  show [lo + ((hi - lo).toNat : Int)] = [hi]
  congr 1; omega
theorem mem_ivl {lo hi n : Int} : n ∈ ivl lo hi ↔ lo ≤ n ∧ n < hi := by
  unfold ivl
  rw [List.mem_map]
  constructor
  · rintro ⟨i, hi1, rfl⟩
    have := List.mem_range.mp hi1
    omega
  · rintro ⟨h1, h2⟩
    exact ⟨(n - lo).toNat, List.mem_range.mpr (by omega), by omega⟩
def fitP (W L : List Int) (v n : Int) : Bool := decide (W.getD n.toNat 0 = v) && L.any fun x => decide (x ≤ n)
def fits (W L : List Int) (lo hi v : Int) : List Int := (ivl lo hi).filter (fitP W L v)
theorem drop_mem {ws : List Int} {a : Nat} {v : Int} : v ∈ ws.drop a ↔ ∃ n : Nat, a ≤ n ∧ ws[n]? = some v := by
  constructor
  · intro h
    obtain ⟨i, hi⟩ := List.getElem?_of_mem h
    rw [List.getElem?_drop] at hi
    exact ⟨a + i, by omega, hi⟩
  · rintro ⟨n, h1, h2⟩
    refine List.mem_of_getElem? (i := n - a) ?_
    rw [List.getElem?_drop]
    have : a + (n - a) = n := by omega
    rw [this]; exact h2
theorem getD_some {W : List Int} {n : Nat} (h : n < W.length) : W[n]? = some (W.getD n 0) := by
  rw [List.getD_eq_getElem?_getD, List.getElem?_eq_getElem h]; rfl
/-- what the law finds, if the least of the numbers before is a -/
theorem fits_mem {t : Td} {n0 : Nat} {W L : List Int} {size a n : Int} (ht : t.ok n0 W size) (ha : a ∈ L) (hL : ∀ x ∈ L, a ≤ x) : n ∈ fits W L t.S.lo (t.S.ws.length : Int) t.v ↔ t.S.lo ≤ n ∧ a ≤ n ∧ n < t.S.ws.length ∧ t.S.ws[n.toNat]? = some t.v := by
  obtain ⟨hk, ⟨r, hW⟩, _, _⟩ := ht
  have hl0 := hk.l0
  unfold fits fitP
  rw [List.mem_filter, mem_ivl, Bool.and_eq_true, decide_eq_true_eq, List.any_eq_true]
  have key : ∀ n : Int, 0 ≤ n → n < t.S.ws.length → (W.getD n.toNat 0 = t.v ↔ t.S.ws[n.toNat]? = some t.v) := by
    intro n h0 h1
    have hlt : n.toNat < t.S.ws.length := by omega
    have e : W[n.toNat]? = t.S.ws[n.toNat]? := by rw [hW, List.getElem?_append_left hlt]
    rw [← e, getD_some (by rw [hW, List.length_append]; omega)]
    exact ⟨fun z => congrArg some z, fun z => Option.some.inj z⟩
  constructor
  · rintro ⟨⟨h1, h2⟩, h3, x, hx, h4⟩
    have := hL x hx
    have := of_decide_eq_true h4
    exact ⟨h1, by omega, h2, (key n (by omega) h2).mp h3⟩
  · rintro ⟨h1, h2, h3, h4⟩
    exact ⟨⟨h1, h3⟩, (key n (by omega) h3).mpr h4, a, ha, decide_eq_true h2⟩
theorem bad_iff {t : Td} {n0 : Nat} {W L : List Int} {size : Int} (ht : t.ok n0 W size) (ha : t.S.le ∈ L) (hL : ∀ x ∈ L, t.S.le ≤ x) : badA t = (fits W L t.S.lo (t.S.ws.length : Int) t.v).isEmpty := by
  have hb := low_le ht.ok
  have hlow : ∀ n : Int, (t.S.low ≤ n ↔ t.S.lo ≤ n ∧ t.S.le ≤ n) := by
    intro n; unfold Sc.low; split <;> omega
  unfold badA
  have e : (t.v ∈ t.S.ws.drop t.S.low.toNat) ↔ fits W L t.S.lo (t.S.ws.length : Int) t.v ≠ [] := by
    rw [drop_mem]
    constructor
    · rintro ⟨n, h1, h2⟩ z
      have hlt : n < t.S.ws.length := (List.getElem?_eq_some_iff.mp h2).1
      have h3 := (hlow n).mp (by omega)
      have : (n : Int) ∈ fits W L t.S.lo (t.S.ws.length : Int) t.v := (fits_mem ht ha hL).mpr ⟨h3.1, h3.2, by omega, by rw [Int.toNat_natCast]; exact h2⟩
      rw [z] at this
      cases this
    · intro z
      obtain ⟨n, hn⟩ := List.exists_mem_of_ne_nil _ z
      obtain ⟨h1, h2, h3, h4⟩ := (fits_mem ht ha hL).mp hn
      have := (hlow n).mpr ⟨h1, h2⟩
      exact ⟨n.toNat, by omega, h4⟩
  cases h : fits W L t.S.lo (t.S.ws.length : Int) t.v with
  | nil => rw [decide_eq_false (fun q => (e.mp q) h)]; rfl
  | cons x r => rw [decide_eq_true (e.mpr (by rw [h]; exact fun z => nomatch z))]; rfl
theorem least_fit {t : Td} {n0 : Nat} {W L : List Int} {size : Int} (ht : t.ok n0 W size) (ha : t.S.le ∈ L) (hL : ∀ x ∈ L, t.S.le ≤ x) (hb : badA t = false) : leA t ∈ fits W L t.S.lo (t.S.ws.length : Int) t.v ∧ ∀ x ∈ fits W L t.S.lo (t.S.ws.length : Int) t.v, leA t ≤ x := by
  have hbd := low_le ht.ok
  have hlow : ∀ n : Int, (t.S.low ≤ n ↔ t.S.lo ≤ n ∧ t.S.le ≤ n) := by
    intro n; unfold Sc.low; split <;> omega
  have hm : t.v ∈ t.S.ws.drop t.S.low.toNat := by
    unfold badA at hb
    by_cases q : t.v ∈ t.S.ws.drop t.S.low.toNat
    · exact q
    · rw [decide_eq_false q] at hb; cases hb
  cases hn : t.S.num t.v with
  | none => exact absurd hm (numF_none.mp hn)
  | some i =>
    have e : leA t = i := by unfold leA; simp only [Sc.take, hn]
    obtain ⟨h1, h2, h3⟩ := numF_some hn
    rw [List.getElem?_drop] at h2
    have e2 : t.S.low.toNat + (i - t.S.low.toNat) = i := by omega
    rw [e2] at h2
    have hlt : i < t.S.ws.length := (List.getElem?_eq_some_iff.mp h2).1
    have h5 := (hlow i).mp (by omega)
    rw [e]
    refine ⟨(fits_mem ht ha hL).mpr ⟨h5.1, h5.2, by omega, by rw [Int.toNat_natCast]; exact h2⟩, fun x hx => ?_⟩
    obtain ⟨g1, g2, g3, g4⟩ := (fits_mem ht ha hL).mp hx
    have g5 := (hlow x).mpr ⟨g1, g2⟩
    by_cases q : (i : Int) ≤ x
    · exact q
    · have := h3 (x.toNat - t.S.low.toNat) (by omega)
      rw [List.getElem?_drop] at this
      have e3 : t.S.low.toNat + (x.toNat - t.S.low.toNat) = x.toNat := by omega
      rw [e3] at this
      exact absurd g4 this
theorem ato_bad {t : Td} {size : Int} : (!decide (t.v ∈ t.S.allowed size "atomic")) = badA t := by
  unfold badA Sc.allowed
  rw [if_neg ne_as, if_pos rfl]
  congr 1
  exact decide_eq_decide.mpr mem_sortSet
theorem fits_snoc {W L : List Int} {lo hi v : Int} (h : lo ≤ hi) : fits W L lo (hi + 1) v = fits W L lo hi v ++ (if fitP W L v hi = true then [hi] else []) := by
  unfold fits
  rw [ivl_succ h, List.filter_append]
  congr 1
  rw [List.filter_cons]; rfl
theorem fits_len {W L : List Int} {lo hi v : Int} : (fits W L lo hi v).length ≤ (hi - lo).toNat := by
  unfold fits ivl
  exact Nat.le_trans (List.length_filter_le _ _) (by rw [List.length_map, List.length_range]; exact Nat.le_refl _)
def leD (n : Int) : D → Bool
  | .int x => decide (x ≤ n)
  | _ => false
theorem any_len {L : List Int} {n : Int} : decide ((0 : Int) < (((L.map D.int).filter (leD n)).map id).length) = L.any fun x => decide (x ≤ n) := by
  rw [List.map_id, List.filter_map, List.length_map]
  have : (leD n ∘ D.int) = fun x => decide (x ≤ n) := rfl
  rw [this]
  induction L with
  | nil => rfl
  | cons x r ih =>
    rw [List.filter_cons, List.any_cons]
    by_cases h : x ≤ n
    · rw [decide_eq_true h]; simp only [if_true, Bool.true_or, decide_eq_true_eq, List.length_cons]; omega
    · rw [decide_eq_false h, Bool.false_or, if_neg (by decide)]; exact ih
theorem endLe_snoc {a : Int} {l : List Td} {t : Td} : endLe a (l ++ [t]) = leA t := by unfold endLe; rw [List.foldl_append]; rfl

local macro_rules | `(tactic| walk_at "d") => `(tactic| simp -implicitDefEqProofs only [↓DL.k_F, ↓DL.k_M, ↓DL.k_onV, ↓DL.k_onL, ↓DL.k_onO, ↓DL.k_onN, ↓DL.r_C, ↓DL.r_var, ↓DL.k_Op2, ↓DL.k_Op, ↓DL.r_op, ↓DL.r_un, ↓DL.r_app, ↓DL.r_call, ↓DL.r_callF, ↓DL.k_CK2, ↓DL.k_CK, ↓DL.r_callK, ↓DL.r_callKF, ↓DL.r_nil, ↓DL.k_A2, ↓DL.k_A, ↓DL.r_cons, ↓DL.k_AndT, ↓DL.k_AndF, ↓DL.r_and, ↓DL.k_OrT, ↓DL.k_OrF, ↓DL.r_or, ↓DL.k_Not, ↓DL.r_not, ↓DL.k_EIfT, ↓DL.k_EIfF, ↓DL.r_eIf, ↓DL.k_Ch3T, ↓DL.k_Ch3F, ↓DL.k_Ch2, ↓DL.k_Ch1, ↓DL.r_chain, ↓DL.k_T, ↓DL.r_of, ↓DL.k_TAT, ↓DL.k_TAF, ↓DL.r_tand, ↓DL.k_TOT, ↓DL.k_TOF, ↓DL.r_tor, ↓DL.k_TN, ↓DL.r_tnot, ↓DL.r_tTrue, ↓DL.k_Asg, ↓DL.r_asg, ↓DL.k_Nx, ↓DL.r_expr, ↓DL.k_Rt, ↓DL.r_ret, ↓DL.r_retN, ↓DL.k_IfT, ↓DL.k_IfF, ↓DL.r_if, ↓DL.r_seq, ↓DL.r_next, ↓DL.r_break, ↓DL.r_cont, ↓DL.r_stuck, ↓DL.k_G, ↓DL.r_asgG, ↓DL.k_For, ↓DL.r_for, ↓DL.k_SI3, ↓DL.k_SI2, ↓DL.k_SI, ↓DL.r_setItemS, ↓DL.k_Ap3, ↓DL.k_Ap2, ↓DL.k_Ap1, ↓DL.r_apd, ↓DL.r_gN, ↓DL.r_iSeq, ↓DL.r_iApp, ↓DL.k_Body, ↓DL.k_Sl3, ↓DL.k_Sl2, ↓DL.k_Sl1, ↓DL.r_sl, ↓DL.r_oNone, ↓DL.k_OS, ↓DL.r_oSome, ↓DL.r_slT, ↓DL.r_slL, ↓DL.r_slS, ↓DL.r_retL, ↓DL.r_newL, ↓DL.r_lc, ↓DL.r_lcM, ↓DL.r_add, ↓DL.r_sub, ↓DL.r_mod, ↓DL.r_div, ↓DL.r_pow1018, ↓DL.r_lt, ↓DL.r_le, ↓DL.r_gt, ↓DL.r_ge, ↓DL.r_neg, ↓DL.r_eqII, ↓DL.r_neII, ↓DL.r_eqSS, ↓DL.r_neSS, ↓DL.r_eqBB, ↓DL.r_neBB, ↓DL.r_isN, ↓DL.r_isB, ↓DL.r_notN, ↓DL.r_int1, ↓DL.r_intb, ↓DL.r_abs, ↓DL.k_Get, ↓DL.r_ixT, ↓DL.r_ixL, ↓DL.r_asLR, ↓DL.r_asLL, ↓DL.r_ixRef, ↓DL.r_lenT, ↓DL.r_lenL, ↓DL.k_Len, ↓DL.r_lenRef, ↓DL.r_sumRef, ↓DL.k_SetJ, ↓DL.k_Set, ↓DL.r_setRef, ↓DL.k_App, ↓DL.r_appRef, ↓DL.r_tup0, ↓DL.r_tup1, ↓DL.r_tup2, ↓DL.r_tup3, ↓DL.r_tup4, ↓DL.r_tup5, ↓DL.r_tup6, ↓DL.r_tup7, ↓DL.r_tup8, ↓DL.r_lst0, ↓DL.r_ref0, ↓DL.r_ref1, ↓DL.r_ref2, ↓DL.r_ref3, ↓DL.r_ref4, ↓DL.r_ref5, ↓DL.r_ref6, ↓DL.r_listL, ↓DL.r_listT, ↓DL.r_tupleL, ↓DL.r_seqT, ↓DL.r_seqL, ↓DL.r_range1, ↓DL.r_range2, ↓DL.r_strEq, ↓DL.r_strEq2, ↓DL.r_isT0, ↓DL.r_isT1, ↓DL.r_isT2, ↓DL.r_isT3, ↓DL.r_isT4, ↓DL.r_isT5, ↓DL.r_isT6, ↓DL.r_isT7, ↓DL.r_isT8, ↓DL.r_isT9, ↓DL.r_isT10, ↓DL.r_isT11, ↓DL.r_isT12, ↓DL.r_isT13, ↓DL.r_isT14, ↓DL.r_isT15, ↓DL.r_isT16, ↓DL.r_isT17, ↓DL.r_isT18, ↓DL.r_isT19, ↓DL.r_isT20, ↓DL.r_isT21, ↓DL.r_isT22, ↓DL.r_isT23, ↓DL.r_isT24, ↓DL.r_isT25, ↓DL.r_isT26, ↓DL.r_isT27, ↓DL.r_isT28, ↓DL.r_isT29, ↓DL.r_isT30, ↓DL.r_isT31, ↓DL.r_isT32, ↓DL.r_isT33, ↓DL.r_isT34, ↓DL.r_isT35, ↓DL.r_isiN, ↓DL.r_isi2N, ↓DL.r_isiB, ↓DL.r_isi2B, ↓DL.r_isiI, ↓DL.r_isi2I, ↓DL.r_isiS, ↓DL.r_isi2S, ↓DL.r_isiT, ↓DL.r_isi2T, ↓DL.r_isiL, ↓DL.r_isi2L, ↓DL.r_inTI, ↓DL.r_ninTI, ↓DL.r_inLI, ↓DL.r_ninLI, ↓DL.r_inTS, ↓DL.r_inD_nil, ↓DL.r_inD_cons, ↓DL.r_flat_nil, ↓DL.r_flat_cons, ↓DL.r_flatS, ↓DL.r_flatI, ↓DL.r_eqvSS, ↓DL.r_eqvII, ↓DL.r_addLL, ↓DL.r_atm1, ↓DL.r_atm2, ↓DL.r_at0, ↓DL.r_at1, ↓DL.r_at2, ↓DL.r_at3, ↓DL.r_at4, ↓DL.r_at5, ↓DL.r_at6, ↓DL.r_at7, ↓DL.r_at8, ↓DL.r_beqI, ↓DL.r_ndec, ↓DL.r_gT, ↓DL.k_Gs, ↓DL.r_gsCons, ↓DL.r_gsNil, ↓DL.r_isDNN, ↓DL.r_isDBB, ↓DL.r_isDBN, ↓DL.r_isDNB, ↓DL.r_isDIN, ↓DL.r_isDIB, ↓DL.r_isDSN, ↓DL.r_isDSB, ↓DL.r_isDTN, ↓DL.r_isDTB, ↓DL.r_isDLN, ↓DL.r_isDLB, ↓DL.r_isDRN, ↓DL.r_isDRB, ↓DL.r_beqTT, ↓DL.r_beqTF, ↓DL.r_beqFT, ↓DL.r_beqFF, ↓DL.k_onI, ↓DL.k_Fld2, ↓DL.r_fld, ↓DL.k_FldR, ↓DL.k_FldO, ↓DL.r_look, ↓DL.r_lookN, ↓DL.r_putD, ↓DL.r_putDN, ↓DL.k_SF3, ↓DL.r_setFldR, ↓DL.k_SF2, ↓DL.k_SF1, ↓DL.r_setFld, ↓DL.r_methF, ↓DL.k_Me2, ↓DL.r_meth, ↓DL.k_MeR, ↓DL.k_MeO, ↓DL.r_make, ↓DL.k_MkN, ↓DL.r_makeF, ↓DL.k_CG2, ↓DL.k_CG, ↓DL.r_callG, ↓DL.r_callGF, ↓DL.r_listRg, ↓DL.r_tupRg, ↓DL.k_SlR, ↓DL.r_slR, ↓DL.r_enumL, ↓DL.r_max2, ↓DL.r_min2, ↓DL.r_isi2R, ↓DL.r_isiR, ↓DL.r_lst1, ↓DL.r_lst2, ↓DL.r_lst3, ↓DL.r_lst4, ↓DL.r_lst5, ↓DL.r_lst6, ↓DL.r_lst7, ↓DL.r_lst8, ↓DL.r_lst9, ↓DL.r_lst10, ↓DL.r_lst11, ↓DL.r_lst12, ↓DL.r_seqR, ↓DL.k_ForR, ↓DL.r_minL, ↓DL.r_clr, ↓DL.k_Clr1R, ↓DL.k_LstR, ↓DL.r_listRef, ↓DL.k_Clr2, ↓DL.Kt.seq_nx, ↓DL.Kt.seq_rt, ↓DL.Kt.seq_bk, ↓DL.Kt.seq_ct, ↓DL.Kt.seq_ex, ↓DL.Kt.fin_nx, ↓DL.Kt.fin_rt, ↓DL.Kt.fin_ex, ↓DL.Kt.loop_nx, ↓DL.Kt.loop_rt, ↓DL.Kt.loop_bk, ↓DL.Kt.loop_ct, ↓DL.Kt.loop_ex, ↓DL.C.run_ret, ↓DL.mset_same, ↓DL.mset_mset, startD, ixN, Option.bind_some, Option.map_some, List.map_cons, List.map_nil, List.length_cons, List.length_nil, List.length_set, List.replicate, List.cons_append, List.nil_append, List.append_nil, List.set_cons_zero, List.set_cons_succ, List.getElem?_cons_zero, List.getElem?_cons_succ, Nat.reduceAdd, Nat.reduceSub, Nat.zero_add, if_true, if_false, decide_eq_true_eq, reduceIte, Bool.not_true, Bool.not_false, beq_self_eq_true, Bool.false_eq_true, Int.reduceLT, Int.reduceLE, Int.reduceNeg, Int.reduceToNat, Int.reduceAdd, Int.reduceSub, Nat.reduceLT, Nat.reduceLeDiff, Int.cast_ofNat_Int, Int.reduceEq, Int.reduceBEq, DL.wipeD, decide_true, decide_false, not_true_eq_false, not_false_eq_true, String.reduceEq, Bool.or_true, Bool.or_false, Bool.true_or, Bool.false_or, Bool.and_true, Bool.and_false, Bool.true_and, Bool.false_and, Bool.not_not, Nat.reduceEqDiff, Int.toNat_natCast, Decidable.not_not, List.mem_cons, List.not_mem_nil, or_false, or_true, true_or, false_or, and_true, true_and, and_self, and_false, false_and, reduceCtorEq, Option.isNone_some, Option.isNone_none, Option.isSome_some, Option.isSome_none, ↓c_isint, ↓c_rowL, ↓c_rowT, cs_size, cs_written, cs_ended, cs_writing, cs_reading, cs_low, cs_least])
local macro_rules | `(tactic| walk_at "h") => `(tactic| simp -implicitDefEqProofs only [↓DL.k_F, ↓DL.k_M, ↓DL.k_onV, ↓DL.k_onL, ↓DL.k_onO, ↓DL.k_onN, ↓DL.r_C, ↓DL.r_var, ↓DL.k_Op2, ↓DL.k_Op, ↓DL.r_op, ↓DL.r_un, ↓DL.r_app, ↓DL.r_call, ↓DL.r_callF, ↓DL.k_CK2, ↓DL.k_CK, ↓DL.r_callK, ↓DL.r_callKF, ↓DL.r_nil, ↓DL.k_A2, ↓DL.k_A, ↓DL.r_cons, ↓DL.k_AndT, ↓DL.k_AndF, ↓DL.r_and, ↓DL.k_OrT, ↓DL.k_OrF, ↓DL.r_or, ↓DL.k_Not, ↓DL.r_not, ↓DL.k_EIfT, ↓DL.k_EIfF, ↓DL.r_eIf, ↓DL.k_Ch3T, ↓DL.k_Ch3F, ↓DL.k_Ch2, ↓DL.k_Ch1, ↓DL.r_chain, ↓DL.k_T, ↓DL.r_of, ↓DL.k_TAT, ↓DL.k_TAF, ↓DL.r_tand, ↓DL.k_TOT, ↓DL.k_TOF, ↓DL.r_tor, ↓DL.k_TN, ↓DL.r_tnot, ↓DL.r_tTrue, ↓DL.k_Asg, ↓DL.r_asg, ↓DL.k_Nx, ↓DL.r_expr, ↓DL.k_Rt, ↓DL.r_ret, ↓DL.r_retN, ↓DL.k_IfT, ↓DL.k_IfF, ↓DL.r_if, ↓DL.r_seq, ↓DL.r_next, ↓DL.r_break, ↓DL.r_cont, ↓DL.r_stuck, ↓DL.k_G, ↓DL.r_asgG, ↓DL.k_For, ↓DL.r_for, ↓DL.k_SI3, ↓DL.k_SI2, ↓DL.k_SI, ↓DL.r_setItemS, ↓DL.k_Ap3, ↓DL.k_Ap2, ↓DL.k_Ap1, ↓DL.r_apd, ↓DL.r_gN, ↓DL.r_iSeq, ↓DL.r_iApp, ↓DL.k_Body, ↓DL.k_Sl3, ↓DL.k_Sl2, ↓DL.k_Sl1, ↓DL.r_sl, ↓DL.r_oNone, ↓DL.k_OS, ↓DL.r_oSome, ↓DL.r_slT, ↓DL.r_slL, ↓DL.r_slS, ↓DL.r_retL, ↓DL.r_newL, ↓DL.r_lc, ↓DL.r_lcM, ↓DL.r_add, ↓DL.r_sub, ↓DL.r_mod, ↓DL.r_div, ↓DL.r_pow1018, ↓DL.r_lt, ↓DL.r_le, ↓DL.r_gt, ↓DL.r_ge, ↓DL.r_neg, ↓DL.r_eqII, ↓DL.r_neII, ↓DL.r_eqSS, ↓DL.r_neSS, ↓DL.r_eqBB, ↓DL.r_neBB, ↓DL.r_isN, ↓DL.r_isB, ↓DL.r_notN, ↓DL.r_int1, ↓DL.r_intb, ↓DL.r_abs, ↓DL.k_Get, ↓DL.r_ixT, ↓DL.r_ixL, ↓DL.r_asLR, ↓DL.r_asLL, ↓DL.r_ixRef, ↓DL.r_lenT, ↓DL.r_lenL, ↓DL.k_Len, ↓DL.r_lenRef, ↓DL.r_sumRef, ↓DL.k_SetJ, ↓DL.k_Set, ↓DL.r_setRef, ↓DL.k_App, ↓DL.r_appRef, ↓DL.r_tup0, ↓DL.r_tup1, ↓DL.r_tup2, ↓DL.r_tup3, ↓DL.r_tup4, ↓DL.r_tup5, ↓DL.r_tup6, ↓DL.r_tup7, ↓DL.r_tup8, ↓DL.r_lst0, ↓DL.r_ref0, ↓DL.r_ref1, ↓DL.r_ref2, ↓DL.r_ref3, ↓DL.r_ref4, ↓DL.r_ref5, ↓DL.r_ref6, ↓DL.r_listL, ↓DL.r_listT, ↓DL.r_tupleL, ↓DL.r_seqT, ↓DL.r_seqL, ↓DL.r_range1, ↓DL.r_range2, ↓DL.r_strEq, ↓DL.r_strEq2, ↓DL.r_isT0, ↓DL.r_isT1, ↓DL.r_isT2, ↓DL.r_isT3, ↓DL.r_isT4, ↓DL.r_isT5, ↓DL.r_isT6, ↓DL.r_isT7, ↓DL.r_isT8, ↓DL.r_isT9, ↓DL.r_isT10, ↓DL.r_isT11, ↓DL.r_isT12, ↓DL.r_isT13, ↓DL.r_isT14, ↓DL.r_isT15, ↓DL.r_isT16, ↓DL.r_isT17, ↓DL.r_isT18, ↓DL.r_isT19, ↓DL.r_isT20, ↓DL.r_isT21, ↓DL.r_isT22, ↓DL.r_isT23, ↓DL.r_isT24, ↓DL.r_isT25, ↓DL.r_isT26, ↓DL.r_isT27, ↓DL.r_isT28, ↓DL.r_isT29, ↓DL.r_isT30, ↓DL.r_isT31, ↓DL.r_isT32, ↓DL.r_isT33, ↓DL.r_isT34, ↓DL.r_isT35, ↓DL.r_isiN, ↓DL.r_isi2N, ↓DL.r_isiB, ↓DL.r_isi2B, ↓DL.r_isiI, ↓DL.r_isi2I, ↓DL.r_isiS, ↓DL.r_isi2S, ↓DL.r_isiT, ↓DL.r_isi2T, ↓DL.r_isiL, ↓DL.r_isi2L, ↓DL.r_inTI, ↓DL.r_ninTI, ↓DL.r_inLI, ↓DL.r_ninLI, ↓DL.r_inTS, ↓DL.r_inD_nil, ↓DL.r_inD_cons, ↓DL.r_flat_nil, ↓DL.r_flat_cons, ↓DL.r_flatS, ↓DL.r_flatI, ↓DL.r_eqvSS, ↓DL.r_eqvII, ↓DL.r_addLL, ↓DL.r_atm1, ↓DL.r_atm2, ↓DL.r_at0, ↓DL.r_at1, ↓DL.r_at2, ↓DL.r_at3, ↓DL.r_at4, ↓DL.r_at5, ↓DL.r_at6, ↓DL.r_at7, ↓DL.r_at8, ↓DL.r_beqI, ↓DL.r_ndec, ↓DL.r_gT, ↓DL.k_Gs, ↓DL.r_gsCons, ↓DL.r_gsNil, ↓DL.r_isDNN, ↓DL.r_isDBB, ↓DL.r_isDBN, ↓DL.r_isDNB, ↓DL.r_isDIN, ↓DL.r_isDIB, ↓DL.r_isDSN, ↓DL.r_isDSB, ↓DL.r_isDTN, ↓DL.r_isDTB, ↓DL.r_isDLN, ↓DL.r_isDLB, ↓DL.r_isDRN, ↓DL.r_isDRB, ↓DL.r_beqTT, ↓DL.r_beqTF, ↓DL.r_beqFT, ↓DL.r_beqFF, ↓DL.k_onI, ↓DL.k_Fld2, ↓DL.r_fld, ↓DL.k_FldR, ↓DL.k_FldO, ↓DL.r_look, ↓DL.r_lookN, ↓DL.r_putD, ↓DL.r_putDN, ↓DL.k_SF3, ↓DL.r_setFldR, ↓DL.k_SF2, ↓DL.k_SF1, ↓DL.r_setFld, ↓DL.r_methF, ↓DL.k_Me2, ↓DL.r_meth, ↓DL.k_MeR, ↓DL.k_MeO, ↓DL.r_make, ↓DL.k_MkN, ↓DL.r_makeF, ↓DL.k_CG2, ↓DL.k_CG, ↓DL.r_callG, ↓DL.r_callGF, ↓DL.r_listRg, ↓DL.r_tupRg, ↓DL.k_SlR, ↓DL.r_slR, ↓DL.r_enumL, ↓DL.r_max2, ↓DL.r_min2, ↓DL.r_isi2R, ↓DL.r_isiR, ↓DL.r_lst1, ↓DL.r_lst2, ↓DL.r_lst3, ↓DL.r_lst4, ↓DL.r_lst5, ↓DL.r_lst6, ↓DL.r_lst7, ↓DL.r_lst8, ↓DL.r_lst9, ↓DL.r_lst10, ↓DL.r_lst11, ↓DL.r_lst12, ↓DL.r_seqR, ↓DL.k_ForR, ↓DL.r_minL, ↓DL.r_clr, ↓DL.k_Clr1R, ↓DL.k_LstR, ↓DL.r_listRef, ↓DL.k_Clr2, ↓DL.Kt.seq_nx, ↓DL.Kt.seq_rt, ↓DL.Kt.seq_bk, ↓DL.Kt.seq_ct, ↓DL.Kt.seq_ex, ↓DL.Kt.fin_nx, ↓DL.Kt.fin_rt, ↓DL.Kt.fin_ex, ↓DL.Kt.loop_nx, ↓DL.Kt.loop_rt, ↓DL.Kt.loop_bk, ↓DL.Kt.loop_ct, ↓DL.Kt.loop_ex, ↓DL.C.run_ret, ↓DL.mset_same, ↓DL.mset_mset, startD, ixN, Option.bind_some, Option.map_some, List.map_cons, List.map_nil, List.length_cons, List.length_nil, List.length_set, List.replicate, List.cons_append, List.nil_append, List.append_nil, List.set_cons_zero, List.set_cons_succ, List.getElem?_cons_zero, List.getElem?_cons_succ, Nat.reduceAdd, Nat.reduceSub, Nat.zero_add, if_true, if_false, decide_eq_true_eq, reduceIte, Bool.not_true, Bool.not_false, beq_self_eq_true, Bool.false_eq_true, Int.reduceLT, Int.reduceLE, Int.reduceNeg, Int.reduceToNat, Int.reduceAdd, Int.reduceSub, Nat.reduceLT, Nat.reduceLeDiff, Int.cast_ofNat_Int, Int.reduceEq, Int.reduceBEq, DL.wipeD, decide_true, decide_false, not_true_eq_false, not_false_eq_true, String.reduceEq, Bool.or_true, Bool.or_false, Bool.true_or, Bool.false_or, Bool.and_true, Bool.and_false, Bool.true_and, Bool.false_and, Bool.not_not, Nat.reduceEqDiff, Int.toNat_natCast, Decidable.not_not, List.mem_cons, List.not_mem_nil, or_false, or_true, true_or, false_or, and_true, true_and, and_self, and_false, false_and, reduceCtorEq, Option.isNone_some, Option.isNone_none, Option.isSome_some, Option.isSome_none, ↓c_isint, ↓c_rowL, ↓c_rowT, cs_size, cs_written, cs_ended, cs_writing, cs_reading, cs_low, cs_least, *])
local macro_rules | `(tactic| walk_at "s") => `(tactic| ((try walk_at "h"); repeat' ((first | with_reducible refine if_dec (fun _ => ?_) (fun _ => ?_) | with_reducible refine eif_dec (fun _ => ?_) (fun _ => ?_) | with_reducible refine tor_dec (fun _ => ?_) (fun _ => ?_) | with_reducible refine tand_dec (fun _ => ?_) (fun _ => ?_) | with_reducible refine and_dec (fun _ => ?_) (fun _ => ?_) | with_reducible refine or_dec (fun _ => ?_) (fun _ => ?_) | with_reducible refine ch_dec (fun _ => ?_) (fun _ => ?_)) <;> (try walk_at "h"))))
/-- the numbers from a on whose write has the value -/
def fitN (W : List Int) (a hi v : Int) : List Int := (ivl a hi).filter fun n => decide (W.getD n.toNat 0 = v)
theorem fitN_snoc {W : List Int} {a hi v : Int} (h : a ≤ hi) : fitN W a (hi + 1) v = fitN W a hi v ++ (if W.getD hi.toNat 0 = v then [hi] else []) := by
  unfold fitN
  rw [ivl_succ h, List.filter_append]
  congr 1
  rw [List.filter_cons]
  by_cases z : W.getD hi.toNat 0 = v
  · rw [if_pos z, if_pos (by simpa using z)]; rfl
  · rw [if_neg z, if_neg (by simpa using z)]; rfl
theorem fitN_len {W : List Int} {a hi v : Int} : (fitN W a hi v).length ≤ (hi - a).toNat := by
  unfold fitN ivl
  exact Nat.le_trans (List.length_filter_le _ _) (by rw [List.length_map, List.length_range]; exact Nat.le_refl _)
theorem fitN_none {W : List Int} {a hi v : Int} (h : hi ≤ a) : fitN W a hi v = [] := by
  unfold fitN ivl
  have : (hi - a).toNat = 0 := by omega
  rw [this]; rfl
theorem minI_of {l : List Int} {i : Int} (h : i ∈ l) (h2 : ∀ y ∈ l, i ≤ y) : minI l = some i := by
  cases e : minI l with
  | none =>
    cases l with
    | nil => cases h
    | cons a b =>
      unfold minI at e
      cases q : minI b <;> rw [q] at e <;> cases e
  | some k =>
    obtain ⟨h3, h4⟩ := minI_some e
    have := h4 i h; have := h2 k h3
    congr 1; omega
theorem fitN_mem {t : Td} {n0 : Nat} {W : List Int} {size n : Int} (ht : t.ok n0 W size) : n ∈ fitN W t.S.low (t.S.ws.length : Int) t.v ↔ t.S.low ≤ n ∧ n < t.S.ws.length ∧ t.S.ws[n.toNat]? = some t.v := by
  have hb := low_le ht.ok
  obtain ⟨hk, ⟨r, hW⟩, _, _⟩ := ht
  unfold fitN
  rw [List.mem_filter, mem_ivl, decide_eq_true_eq]
  have key : ∀ n : Int, 0 ≤ n → n < t.S.ws.length → (W.getD n.toNat 0 = t.v ↔ t.S.ws[n.toNat]? = some t.v) := by
    intro n h0 h1
    have hlt : n.toNat < t.S.ws.length := by omega
    have e : W[n.toNat]? = t.S.ws[n.toNat]? := by rw [hW, List.getElem?_append_left hlt]
    rw [← e, getD_some (by rw [hW, List.length_append]; omega)]
    exact ⟨fun z => congrArg some z, fun z => Option.some.inj z⟩
  constructor
  · rintro ⟨⟨h1, h2⟩, h3⟩; exact ⟨h1, h2, (key n (by omega) h2).mp h3⟩
  · rintro ⟨h1, h2, h3⟩; exact ⟨⟨h1, h2⟩, (key n (by omega) h2).mpr h3⟩
theorem fitN_bad {t : Td} {n0 : Nat} {W : List Int} {size : Int} (ht : t.ok n0 W size) (h : t.S.num t.v = none) : fitN W t.S.low (t.S.ws.length : Int) t.v = [] := by
  have hb := low_le ht.ok
  have h1 := numF_none.mp h
  cases e : fitN W t.S.low (t.S.ws.length : Int) t.v with
  | nil => rfl
  | cons x r =>
    obtain ⟨g1, g2, g3⟩ := (fitN_mem ht).mp (show x ∈ fitN W t.S.low (t.S.ws.length : Int) t.v by rw [e]; exact .head _)
    exact absurd (drop_mem.mpr ⟨x.toNat, by omega, g3⟩) h1
theorem fitN_ok {t : Td} {n0 : Nat} {W : List Int} {size : Int} {i : Nat} (ht : t.ok n0 W size) (h : t.S.num t.v = some i) : minI (fitN W t.S.low (t.S.ws.length : Int) t.v) = some (i : Int) ∧ (fitN W t.S.low (t.S.ws.length : Int) t.v).isEmpty = false := by
  have hb := low_le ht.ok
  obtain ⟨h1, h2, h3⟩ := numF_some h
  rw [List.getElem?_drop] at h2
  have e2 : t.S.low.toNat + (i - t.S.low.toNat) = i := by omega
  rw [e2] at h2
  have hlt : i < t.S.ws.length := (List.getElem?_eq_some_iff.mp h2).1
  have hm : (i : Int) ∈ fitN W t.S.low (t.S.ws.length : Int) t.v := (fitN_mem ht).mpr ⟨by omega, by omega, by rw [Int.toNat_natCast]; exact h2⟩
  refine ⟨minI_of hm fun x hx => ?_, ?_⟩
  · obtain ⟨g1, g2, g3⟩ := (fitN_mem ht).mp hx
    by_cases q : (i : Int) ≤ x
    · exact q
    · have := h3 (x.toNat - t.S.low.toNat) (by omega)
      rw [List.getElem?_drop] at this
      have e3 : t.S.low.toNat + (x.toNat - t.S.low.toNat) = x.toNat := by omega
      rw [e3] at this
      exact absurd g3 this
  · cases e : fitN W t.S.low (t.S.ws.length : Int) t.v with
    | nil => rw [e] at hm; cases hm
    | cons _ _ => rfl
theorem low_max {t : Td} {le : Int} (h : t.S.le = le) : (if t.S.lo > le then t.S.lo else le) = t.S.low := by
  unfold Sc.low; rw [h]; split <;> split <;> omega

local macro_rules | `(tactic| walk_at "d") => `(tactic| simp -implicitDefEqProofs only [↓DL.k_F, ↓DL.k_M, ↓DL.k_onV, ↓DL.k_onL, ↓DL.k_onO, ↓DL.k_onN, ↓DL.r_C, ↓DL.r_var, ↓DL.k_Op2, ↓DL.k_Op, ↓DL.r_op, ↓DL.r_un, ↓DL.r_app, ↓DL.r_call, ↓DL.r_callF, ↓DL.k_CK2, ↓DL.k_CK, ↓DL.r_callK, ↓DL.r_callKF, ↓DL.r_nil, ↓DL.k_A2, ↓DL.k_A, ↓DL.r_cons, ↓DL.k_AndT, ↓DL.k_AndF, ↓DL.r_and, ↓DL.k_OrT, ↓DL.k_OrF, ↓DL.r_or, ↓DL.k_Not, ↓DL.r_not, ↓DL.k_EIfT, ↓DL.k_EIfF, ↓DL.r_eIf, ↓DL.k_Ch3T, ↓DL.k_Ch3F, ↓DL.k_Ch2, ↓DL.k_Ch1, ↓DL.r_chain, ↓DL.k_T, ↓DL.r_of, ↓DL.k_TAT, ↓DL.k_TAF, ↓DL.r_tand, ↓DL.k_TOT, ↓DL.k_TOF, ↓DL.r_tor, ↓DL.k_TN, ↓DL.r_tnot, ↓DL.r_tTrue, ↓DL.k_Asg, ↓DL.r_asg, ↓DL.k_Nx, ↓DL.r_expr, ↓DL.k_Rt, ↓DL.r_ret, ↓DL.r_retN, ↓DL.k_IfT, ↓DL.k_IfF, ↓DL.r_if, ↓DL.r_seq, ↓DL.r_next, ↓DL.r_break, ↓DL.r_cont, ↓DL.r_stuck, ↓DL.k_G, ↓DL.r_asgG, ↓DL.k_For, ↓DL.r_for, ↓DL.k_SI3, ↓DL.k_SI2, ↓DL.k_SI, ↓DL.r_setItemS, ↓DL.k_Ap3, ↓DL.k_Ap2, ↓DL.k_Ap1, ↓DL.r_apd, ↓DL.r_gN, ↓DL.r_iSeq, ↓DL.r_iApp, ↓DL.k_Body, ↓DL.k_Sl3, ↓DL.k_Sl2, ↓DL.k_Sl1, ↓DL.r_sl, ↓DL.r_oNone, ↓DL.k_OS, ↓DL.r_oSome, ↓DL.r_slT, ↓DL.r_slL, ↓DL.r_slS, ↓DL.r_retL, ↓DL.r_newL, ↓DL.r_lc, ↓DL.r_lcM, ↓DL.r_add, ↓DL.r_sub, ↓DL.r_mod, ↓DL.r_div, ↓DL.r_pow1018, ↓DL.r_lt, ↓DL.r_le, ↓DL.r_gt, ↓DL.r_ge, ↓DL.r_neg, ↓DL.r_eqII, ↓DL.r_neII, ↓DL.r_eqSS, ↓DL.r_neSS, ↓DL.r_eqBB, ↓DL.r_neBB, ↓DL.r_isN, ↓DL.r_isB, ↓DL.r_notN, ↓DL.r_int1, ↓DL.r_intb, ↓DL.r_abs, ↓DL.k_Get, ↓DL.r_ixT, ↓DL.r_ixL, ↓DL.r_asLR, ↓DL.r_asLL, ↓DL.r_ixRef, ↓DL.r_lenT, ↓DL.r_lenL, ↓DL.k_Len, ↓DL.r_lenRef, ↓DL.r_sumRef, ↓DL.k_SetJ, ↓DL.k_Set, ↓DL.r_setRef, ↓DL.k_App, ↓DL.r_appRef, ↓DL.r_tup0, ↓DL.r_tup1, ↓DL.r_tup2, ↓DL.r_tup3, ↓DL.r_tup4, ↓DL.r_tup5, ↓DL.r_tup6, ↓DL.r_tup7, ↓DL.r_tup8, ↓DL.r_lst0, ↓DL.r_ref0, ↓DL.r_ref1, ↓DL.r_ref2, ↓DL.r_ref3, ↓DL.r_ref4, ↓DL.r_ref5, ↓DL.r_ref6, ↓DL.r_listL, ↓DL.r_listT, ↓DL.r_tupleL, ↓DL.r_seqT, ↓DL.r_seqL, ↓DL.r_range1, ↓DL.r_range2, ↓DL.r_strEq, ↓DL.r_strEq2, ↓DL.r_isT0, ↓DL.r_isT1, ↓DL.r_isT2, ↓DL.r_isT3, ↓DL.r_isT4, ↓DL.r_isT5, ↓DL.r_isT6, ↓DL.r_isT7, ↓DL.r_isT8, ↓DL.r_isT9, ↓DL.r_isT10, ↓DL.r_isT11, ↓DL.r_isT12, ↓DL.r_isT13, ↓DL.r_isT14, ↓DL.r_isT15, ↓DL.r_isT16, ↓DL.r_isT17, ↓DL.r_isT18, ↓DL.r_isT19, ↓DL.r_isT20, ↓DL.r_isT21, ↓DL.r_isT22, ↓DL.r_isT23, ↓DL.r_isT24, ↓DL.r_isT25, ↓DL.r_isT26, ↓DL.r_isT27, ↓DL.r_isT28, ↓DL.r_isT29, ↓DL.r_isT30, ↓DL.r_isT31, ↓DL.r_isT32, ↓DL.r_isT33, ↓DL.r_isT34, ↓DL.r_isT35, ↓DL.r_isiN, ↓DL.r_isi2N, ↓DL.r_isiB, ↓DL.r_isi2B, ↓DL.r_isiI, ↓DL.r_isi2I, ↓DL.r_isiS, ↓DL.r_isi2S, ↓DL.r_isiT, ↓DL.r_isi2T, ↓DL.r_isiL, ↓DL.r_isi2L, ↓DL.r_inTI, ↓DL.r_ninTI, ↓DL.r_inLI, ↓DL.r_ninLI, ↓DL.r_inTS, ↓DL.r_inD_nil, ↓DL.r_inD_cons, ↓DL.r_flat_nil, ↓DL.r_flat_cons, ↓DL.r_flatS, ↓DL.r_flatI, ↓DL.r_eqvSS, ↓DL.r_eqvII, ↓DL.r_addLL, ↓DL.r_atm1, ↓DL.r_atm2, ↓DL.r_at0, ↓DL.r_at1, ↓DL.r_at2, ↓DL.r_at3, ↓DL.r_at4, ↓DL.r_at5, ↓DL.r_at6, ↓DL.r_at7, ↓DL.r_at8, ↓DL.r_beqI, ↓DL.r_ndec, ↓DL.r_gT, ↓DL.k_Gs, ↓DL.r_gsCons, ↓DL.r_gsNil, ↓DL.r_isDNN, ↓DL.r_isDBB, ↓DL.r_isDBN, ↓DL.r_isDNB, ↓DL.r_isDIN, ↓DL.r_isDIB, ↓DL.r_isDSN, ↓DL.r_isDSB, ↓DL.r_isDTN, ↓DL.r_isDTB, ↓DL.r_isDLN, ↓DL.r_isDLB, ↓DL.r_isDRN, ↓DL.r_isDRB, ↓DL.r_beqTT, ↓DL.r_beqTF, ↓DL.r_beqFT, ↓DL.r_beqFF, ↓DL.k_onI, ↓DL.k_Fld2, ↓DL.r_fld, ↓DL.k_FldR, ↓DL.k_FldO, ↓DL.r_look, ↓DL.r_lookN, ↓DL.r_putD, ↓DL.r_putDN, ↓DL.k_SF3, ↓DL.r_setFldR, ↓DL.k_SF2, ↓DL.k_SF1, ↓DL.r_setFld, ↓DL.r_methF, ↓DL.k_Me2, ↓DL.r_meth, ↓DL.k_MeR, ↓DL.k_MeO, ↓DL.r_make, ↓DL.k_MkN, ↓DL.r_makeF, ↓DL.k_CG2, ↓DL.k_CG, ↓DL.r_callG, ↓DL.r_callGF, ↓DL.r_listRg, ↓DL.r_tupRg, ↓DL.k_SlR, ↓DL.r_slR, ↓DL.r_enumL, ↓DL.r_max2, ↓DL.r_min2, ↓DL.r_isi2R, ↓DL.r_isiR, ↓DL.r_lst1, ↓DL.r_lst2, ↓DL.r_lst3, ↓DL.r_lst4, ↓DL.r_lst5, ↓DL.r_lst6, ↓DL.r_lst7, ↓DL.r_lst8, ↓DL.r_lst9, ↓DL.r_lst10, ↓DL.r_lst11, ↓DL.r_lst12, ↓DL.r_seqR, ↓DL.k_ForR, ↓DL.r_minL, ↓DL.r_clr, ↓DL.k_Clr1R, ↓DL.k_LstR, ↓DL.r_listRef, ↓DL.k_Clr2, ↓DL.Kt.seq_nx, ↓DL.Kt.seq_rt, ↓DL.Kt.seq_bk, ↓DL.Kt.seq_ct, ↓DL.Kt.seq_ex, ↓DL.Kt.fin_nx, ↓DL.Kt.fin_rt, ↓DL.Kt.fin_ex, ↓DL.Kt.loop_nx, ↓DL.Kt.loop_rt, ↓DL.Kt.loop_bk, ↓DL.Kt.loop_ct, ↓DL.Kt.loop_ex, ↓DL.C.run_ret, ↓DL.mset_same, ↓DL.mset_mset, startD, ixN, Option.bind_some, Option.map_some, List.map_cons, List.map_nil, List.length_cons, List.length_nil, List.length_set, List.replicate, List.cons_append, List.nil_append, List.append_nil, List.set_cons_zero, List.set_cons_succ, List.getElem?_cons_zero, List.getElem?_cons_succ, Nat.reduceAdd, Nat.reduceSub, Nat.zero_add, if_true, if_false, decide_eq_true_eq, reduceIte, Bool.not_true, Bool.not_false, beq_self_eq_true, Bool.false_eq_true, Int.reduceLT, Int.reduceLE, Int.reduceNeg, Int.reduceToNat, Int.reduceAdd, Int.reduceSub, Nat.reduceLT, Nat.reduceLeDiff, Int.cast_ofNat_Int, Int.reduceEq, Int.reduceBEq, DL.wipeD, decide_true, decide_false, not_true_eq_false, not_false_eq_true, String.reduceEq, Bool.or_true, Bool.or_false, Bool.true_or, Bool.false_or, Bool.and_true, Bool.and_false, Bool.true_and, Bool.false_and, Bool.not_not, Nat.reduceEqDiff, Int.toNat_natCast, Decidable.not_not, List.mem_cons, List.not_mem_nil, or_false, or_true, true_or, false_or, and_true, true_and, and_self, and_false, false_and, reduceCtorEq, Option.isNone_some, Option.isNone_none, Option.isSome_some, Option.isSome_none, ↓c_isint, ↓c_rowL, ↓c_rowT, cs_size, cs_written, cs_ended, cs_writing, cs_reading, cs_low, cs_least])
local macro_rules | `(tactic| walk_at "h") => `(tactic| simp -implicitDefEqProofs only [↓DL.k_F, ↓DL.k_M, ↓DL.k_onV, ↓DL.k_onL, ↓DL.k_onO, ↓DL.k_onN, ↓DL.r_C, ↓DL.r_var, ↓DL.k_Op2, ↓DL.k_Op, ↓DL.r_op, ↓DL.r_un, ↓DL.r_app, ↓DL.r_call, ↓DL.r_callF, ↓DL.k_CK2, ↓DL.k_CK, ↓DL.r_callK, ↓DL.r_callKF, ↓DL.r_nil, ↓DL.k_A2, ↓DL.k_A, ↓DL.r_cons, ↓DL.k_AndT, ↓DL.k_AndF, ↓DL.r_and, ↓DL.k_OrT, ↓DL.k_OrF, ↓DL.r_or, ↓DL.k_Not, ↓DL.r_not, ↓DL.k_EIfT, ↓DL.k_EIfF, ↓DL.r_eIf, ↓DL.k_Ch3T, ↓DL.k_Ch3F, ↓DL.k_Ch2, ↓DL.k_Ch1, ↓DL.r_chain, ↓DL.k_T, ↓DL.r_of, ↓DL.k_TAT, ↓DL.k_TAF, ↓DL.r_tand, ↓DL.k_TOT, ↓DL.k_TOF, ↓DL.r_tor, ↓DL.k_TN, ↓DL.r_tnot, ↓DL.r_tTrue, ↓DL.k_Asg, ↓DL.r_asg, ↓DL.k_Nx, ↓DL.r_expr, ↓DL.k_Rt, ↓DL.r_ret, ↓DL.r_retN, ↓DL.k_IfT, ↓DL.k_IfF, ↓DL.r_if, ↓DL.r_seq, ↓DL.r_next, ↓DL.r_break, ↓DL.r_cont, ↓DL.r_stuck, ↓DL.k_G, ↓DL.r_asgG, ↓DL.k_For, ↓DL.r_for, ↓DL.k_SI3, ↓DL.k_SI2, ↓DL.k_SI, ↓DL.r_setItemS, ↓DL.k_Ap3, ↓DL.k_Ap2, ↓DL.k_Ap1, ↓DL.r_apd, ↓DL.r_gN, ↓DL.r_iSeq, ↓DL.r_iApp, ↓DL.k_Body, ↓DL.k_Sl3, ↓DL.k_Sl2, ↓DL.k_Sl1, ↓DL.r_sl, ↓DL.r_oNone, ↓DL.k_OS, ↓DL.r_oSome, ↓DL.r_slT, ↓DL.r_slL, ↓DL.r_slS, ↓DL.r_retL, ↓DL.r_newL, ↓DL.r_lc, ↓DL.r_lcM, ↓DL.r_add, ↓DL.r_sub, ↓DL.r_mod, ↓DL.r_div, ↓DL.r_pow1018, ↓DL.r_lt, ↓DL.r_le, ↓DL.r_gt, ↓DL.r_ge, ↓DL.r_neg, ↓DL.r_eqII, ↓DL.r_neII, ↓DL.r_eqSS, ↓DL.r_neSS, ↓DL.r_eqBB, ↓DL.r_neBB, ↓DL.r_isN, ↓DL.r_isB, ↓DL.r_notN, ↓DL.r_int1, ↓DL.r_intb, ↓DL.r_abs, ↓DL.k_Get, ↓DL.r_ixT, ↓DL.r_ixL, ↓DL.r_asLR, ↓DL.r_asLL, ↓DL.r_ixRef, ↓DL.r_lenT, ↓DL.r_lenL, ↓DL.k_Len, ↓DL.r_lenRef, ↓DL.r_sumRef, ↓DL.k_SetJ, ↓DL.k_Set, ↓DL.r_setRef, ↓DL.k_App, ↓DL.r_appRef, ↓DL.r_tup0, ↓DL.r_tup1, ↓DL.r_tup2, ↓DL.r_tup3, ↓DL.r_tup4, ↓DL.r_tup5, ↓DL.r_tup6, ↓DL.r_tup7, ↓DL.r_tup8, ↓DL.r_lst0, ↓DL.r_ref0, ↓DL.r_ref1, ↓DL.r_ref2, ↓DL.r_ref3, ↓DL.r_ref4, ↓DL.r_ref5, ↓DL.r_ref6, ↓DL.r_listL, ↓DL.r_listT, ↓DL.r_tupleL, ↓DL.r_seqT, ↓DL.r_seqL, ↓DL.r_range1, ↓DL.r_range2, ↓DL.r_strEq, ↓DL.r_strEq2, ↓DL.r_isT0, ↓DL.r_isT1, ↓DL.r_isT2, ↓DL.r_isT3, ↓DL.r_isT4, ↓DL.r_isT5, ↓DL.r_isT6, ↓DL.r_isT7, ↓DL.r_isT8, ↓DL.r_isT9, ↓DL.r_isT10, ↓DL.r_isT11, ↓DL.r_isT12, ↓DL.r_isT13, ↓DL.r_isT14, ↓DL.r_isT15, ↓DL.r_isT16, ↓DL.r_isT17, ↓DL.r_isT18, ↓DL.r_isT19, ↓DL.r_isT20, ↓DL.r_isT21, ↓DL.r_isT22, ↓DL.r_isT23, ↓DL.r_isT24, ↓DL.r_isT25, ↓DL.r_isT26, ↓DL.r_isT27, ↓DL.r_isT28, ↓DL.r_isT29, ↓DL.r_isT30, ↓DL.r_isT31, ↓DL.r_isT32, ↓DL.r_isT33, ↓DL.r_isT34, ↓DL.r_isT35, ↓DL.r_isiN, ↓DL.r_isi2N, ↓DL.r_isiB, ↓DL.r_isi2B, ↓DL.r_isiI, ↓DL.r_isi2I, ↓DL.r_isiS, ↓DL.r_isi2S, ↓DL.r_isiT, ↓DL.r_isi2T, ↓DL.r_isiL, ↓DL.r_isi2L, ↓DL.r_inTI, ↓DL.r_ninTI, ↓DL.r_inLI, ↓DL.r_ninLI, ↓DL.r_inTS, ↓DL.r_inD_nil, ↓DL.r_inD_cons, ↓DL.r_flat_nil, ↓DL.r_flat_cons, ↓DL.r_flatS, ↓DL.r_flatI, ↓DL.r_eqvSS, ↓DL.r_eqvII, ↓DL.r_addLL, ↓DL.r_atm1, ↓DL.r_atm2, ↓DL.r_at0, ↓DL.r_at1, ↓DL.r_at2, ↓DL.r_at3, ↓DL.r_at4, ↓DL.r_at5, ↓DL.r_at6, ↓DL.r_at7, ↓DL.r_at8, ↓DL.r_beqI, ↓DL.r_ndec, ↓DL.r_gT, ↓DL.k_Gs, ↓DL.r_gsCons, ↓DL.r_gsNil, ↓DL.r_isDNN, ↓DL.r_isDBB, ↓DL.r_isDBN, ↓DL.r_isDNB, ↓DL.r_isDIN, ↓DL.r_isDIB, ↓DL.r_isDSN, ↓DL.r_isDSB, ↓DL.r_isDTN, ↓DL.r_isDTB, ↓DL.r_isDLN, ↓DL.r_isDLB, ↓DL.r_isDRN, ↓DL.r_isDRB, ↓DL.r_beqTT, ↓DL.r_beqTF, ↓DL.r_beqFT, ↓DL.r_beqFF, ↓DL.k_onI, ↓DL.k_Fld2, ↓DL.r_fld, ↓DL.k_FldR, ↓DL.k_FldO, ↓DL.r_look, ↓DL.r_lookN, ↓DL.r_putD, ↓DL.r_putDN, ↓DL.k_SF3, ↓DL.r_setFldR, ↓DL.k_SF2, ↓DL.k_SF1, ↓DL.r_setFld, ↓DL.r_methF, ↓DL.k_Me2, ↓DL.r_meth, ↓DL.k_MeR, ↓DL.k_MeO, ↓DL.r_make, ↓DL.k_MkN, ↓DL.r_makeF, ↓DL.k_CG2, ↓DL.k_CG, ↓DL.r_callG, ↓DL.r_callGF, ↓DL.r_listRg, ↓DL.r_tupRg, ↓DL.k_SlR, ↓DL.r_slR, ↓DL.r_enumL, ↓DL.r_max2, ↓DL.r_min2, ↓DL.r_isi2R, ↓DL.r_isiR, ↓DL.r_lst1, ↓DL.r_lst2, ↓DL.r_lst3, ↓DL.r_lst4, ↓DL.r_lst5, ↓DL.r_lst6, ↓DL.r_lst7, ↓DL.r_lst8, ↓DL.r_lst9, ↓DL.r_lst10, ↓DL.r_lst11, ↓DL.r_lst12, ↓DL.r_seqR, ↓DL.k_ForR, ↓DL.r_minL, ↓DL.r_clr, ↓DL.k_Clr1R, ↓DL.k_LstR, ↓DL.r_listRef, ↓DL.k_Clr2, ↓DL.Kt.seq_nx, ↓DL.Kt.seq_rt, ↓DL.Kt.seq_bk, ↓DL.Kt.seq_ct, ↓DL.Kt.seq_ex, ↓DL.Kt.fin_nx, ↓DL.Kt.fin_rt, ↓DL.Kt.fin_ex, ↓DL.Kt.loop_nx, ↓DL.Kt.loop_rt, ↓DL.Kt.loop_bk, ↓DL.Kt.loop_ct, ↓DL.Kt.loop_ex, ↓DL.C.run_ret, ↓DL.mset_same, ↓DL.mset_mset, startD, ixN, Option.bind_some, Option.map_some, List.map_cons, List.map_nil, List.length_cons, List.length_nil, List.length_set, List.replicate, List.cons_append, List.nil_append, List.append_nil, List.set_cons_zero, List.set_cons_succ, List.getElem?_cons_zero, List.getElem?_cons_succ, Nat.reduceAdd, Nat.reduceSub, Nat.zero_add, if_true, if_false, decide_eq_true_eq, reduceIte, Bool.not_true, Bool.not_false, beq_self_eq_true, Bool.false_eq_true, Int.reduceLT, Int.reduceLE, Int.reduceNeg, Int.reduceToNat, Int.reduceAdd, Int.reduceSub, Nat.reduceLT, Nat.reduceLeDiff, Int.cast_ofNat_Int, Int.reduceEq, Int.reduceBEq, DL.wipeD, decide_true, decide_false, not_true_eq_false, not_false_eq_true, String.reduceEq, Bool.or_true, Bool.or_false, Bool.true_or, Bool.false_or, Bool.and_true, Bool.and_false, Bool.true_and, Bool.false_and, Bool.not_not, Nat.reduceEqDiff, Int.toNat_natCast, Decidable.not_not, List.mem_cons, List.not_mem_nil, or_false, or_true, true_or, false_or, and_true, true_and, and_self, and_false, false_and, reduceCtorEq, Option.isNone_some, Option.isNone_none, Option.isSome_some, Option.isSome_none, ↓c_isint, ↓c_rowL, ↓c_rowT, cs_size, cs_written, cs_ended, cs_writing, cs_reading, cs_low, cs_least, *])
local macro_rules | `(tactic| walk_at "s") => `(tactic| ((try walk_at "h"); repeat' ((first | with_reducible refine if_dec (fun _ => ?_) (fun _ => ?_) | with_reducible refine eif_dec (fun _ => ?_) (fun _ => ?_) | with_reducible refine tor_dec (fun _ => ?_) (fun _ => ?_) | with_reducible refine tand_dec (fun _ => ?_) (fun _ => ?_) | with_reducible refine and_dec (fun _ => ?_) (fun _ => ?_) | with_reducible refine or_dec (fun _ => ?_) (fun _ => ?_) | with_reducible refine ch_dec (fun _ => ?_) (fun _ => ?_)) <;> (try walk_at "h"))))
abbrev dIs_ (l : List Int) : D := .tup (l.map D.int)
def safeW (w : Int × Int × Int) : D := .tup [.int w.1, .int w.2.1, .int w.2.2]
def regW (w : Int × Int × List Int) : D := .tup [.int w.1, .int w.2.1, .tup (w.2.2.map D.int)]
def atoW (w : Int × Int × Int × List Int) : D := .tup [.int w.1, .int w.2.1, .int w.2.2.1, .tup (w.2.2.2.map D.int)]
def optD {α : Type} (f : α → D) : Option α → D
  | none => .non
  | some a => f a
def safeN (l u k : Int) : Ev → Option (Int × Int × Int)
  | .write v => some (l, v, if k = 1 then 2 else k)
  | .wrote => some (u, -1, k)
  | .read => some (l, u, if u = -1 then 1 else 2)
  | .told v => if k = 1 ∧ v ≠ l then none else some (l, u, 0)
def regN (l u : Int) (vs : List Int) : Ev → Option (Int × Int × List Int)
  | .write v => some (l, v, if vs = [] then [] else sortSet (vs ++ [v]))
  | .wrote => some (u, -1, vs)
  | .read => some (l, u, if u = -1 then [l] else sortSet ([l] ++ [u]))
  | .told v => if v ∈ vs then some (l, u, []) else none
def atoN (l u k : Int) (vs : List Int) : Ev → Option (Int × Int × Int × List Int)
  | .write v => some (l, v, k, vs)
  | .wrote => if k = 2 then some (u, -1, 2, sortSet (vs ++ [u])) else some (u, -1, 0, [])
  | .read => some (l, u, 2, if k = 0 then [l] else [])
  | .told v => if v ∈ vs then some (l, u, 0, []) else if v = u then some (l, u, 1, []) else none
theorem c_merged {a b : List Int} {m : Mem} {Q : D → Mem → Prop} {E : Xn → Mem → Prop} (h : a.length + b.length < 64) (q : Q (.tup ((sortSet (a ++ b)).map D.int)) m) : (d_merged [.tup (a.map D.int), .tup (b.map D.int)]).run m Q E := by
  unfold d_merged
  refine fn_run ?_
  unfold p_merged
  walk_at "d"
  rw [r_addLL (by rw [List.length_map, List.length_map]; exact Nat.le_trans (Nat.le_of_lt h) (by decide))]
  walk_at "d"
  rw [← List.map_append]
  refine sset_run (by rw [List.length_append]; exact h) ?_
  walk_at "d"
  exact q
theorem insI_len {x : Int} : ∀ {l : List Int}, (insI x l).length ≤ l.length + 1
  | [] => Nat.le_refl _
  | y :: r => by
    unfold insI
    split
    · simp
    · split
      · simp
      · have := insI_len (x := x) (l := r); simp only [List.length_cons]; omega
theorem sortSet_len : ∀ {l : List Int}, (sortSet l).length ≤ l.length
  | [] => Nat.le_refl _
  | x :: r => by
    have h1 := insI_len (x := x) (l := sortSet r)
    have h2 := sortSet_len (l := r)
    show (insI x (sortSet r)).length ≤ r.length + 1
    omega
theorem safe_specT {l u k : Int} {e : Ev} {m : Mem} {Q : D → Mem → Prop} {E : Xn → Mem → Prop} (q : Q (optD safeW (safeN l u k e)) m) : (d_safe_watch [safeW (l, u, k), e.d]).run m Q E := by
  unfold d_safe_watch
  refine fn_run ?_
  unfold p_safe_watch safeW
  cases e
  all_goals simp only [safeN] at q
  all_goals simp only [Ev.d]
  all_goals walk_at "s"
  all_goals simp_all [optD, safeW]
theorem safe_specL {l u k : Int} {e : Ev} {m : Mem} {Q : D → Mem → Prop} {E : Xn → Mem → Prop} (q : Q (optD safeW (safeN l u k e)) m) : (d_safe_watch [safeW (l, u, k), e.l]).run m Q E := by
  unfold d_safe_watch
  refine fn_run ?_
  unfold p_safe_watch safeW
  cases e
  all_goals simp only [safeN] at q
  all_goals simp only [Ev.l]
  all_goals walk_at "s"
  all_goals simp_all [optD, safeW]
theorem safe_spec {l u k : Int} {e : Ev} (bb : Bool) {m : Mem} {Q : D → Mem → Prop} {E : Xn → Mem → Prop} (q : Q (optD safeW (safeN l u k e)) m) : (d_safe_watch [safeW (l, u, k), shp (e, bb)]).run m Q E := by
  cases bb
  · exact safe_specT q
  · exact safe_specL q
theorem reg_specT {l u : Int} {vs : List Int} {e : Ev} {m : Mem} {Q : D → Mem → Prop} {E : Xn → Mem → Prop} (hv : vs.length < 63) (q : Q (optD regW (regN l u vs e)) m) : (d_regular_watch [regW (l, u, vs), e.d]).run m Q E := by
  unfold d_regular_watch
  refine fn_run ?_
  unfold p_regular_watch regW
  cases e
  all_goals simp only [regN] at q
  all_goals simp only [Ev.d]
  all_goals walk_at "s"
  · rename_i v hz
    refine c_merged (b := [v]) (by simp; omega) ?_
    walk_at "s"
    have : vs ≠ [] := fun z => by simp [z] at hz
    simp_all [optD, regW]
  · rename_i v hz
    have : vs = [] := by cases vs with
      | nil => rfl
      | cons _ _ => exact absurd (by simp) hz
    simp_all [optD, regW]
  · simp_all [optD, regW]
  · simp_all [optD, regW]
  · refine c_merged (a := [l]) (b := [u]) (by simp) ?_
    walk_at "s"
    simp_all [optD, regW]
  all_goals simp_all [optD, regW]
theorem reg_specL {l u : Int} {vs : List Int} {e : Ev} {m : Mem} {Q : D → Mem → Prop} {E : Xn → Mem → Prop} (hv : vs.length < 63) (q : Q (optD regW (regN l u vs e)) m) : (d_regular_watch [regW (l, u, vs), e.l]).run m Q E := by
  unfold d_regular_watch
  refine fn_run ?_
  unfold p_regular_watch regW
  cases e
  all_goals simp only [regN] at q
  all_goals simp only [Ev.l]
  all_goals walk_at "s"
  · rename_i v hz
    refine c_merged (b := [v]) (by simp; omega) ?_
    walk_at "s"
    have : vs ≠ [] := fun z => by simp [z] at hz
    simp_all [optD, regW]
  · rename_i v hz
    have : vs = [] := by cases vs with
      | nil => rfl
      | cons _ _ => exact absurd (by simp) hz
    simp_all [optD, regW]
  · simp_all [optD, regW]
  · simp_all [optD, regW]
  · refine c_merged (a := [l]) (b := [u]) (by simp) ?_
    walk_at "s"
    simp_all [optD, regW]
  all_goals simp_all [optD, regW]
theorem reg_spec {l u : Int} {vs : List Int} {e : Ev} (bb : Bool) {m : Mem} {Q : D → Mem → Prop} {E : Xn → Mem → Prop} (hv : vs.length < 63) (q : Q (optD regW (regN l u vs e)) m) : (d_regular_watch [regW (l, u, vs), shp (e, bb)]).run m Q E := by
  cases bb
  · exact reg_specT hv q
  · exact reg_specL hv q
theorem ato_specT {l u k : Int} {vs : List Int} {e : Ev} {m : Mem} {Q : D → Mem → Prop} {E : Xn → Mem → Prop} (hv : vs.length < 63) (q : Q (optD atoW (atoN l u k vs e)) m) : (d_atomic_watch [atoW (l, u, k, vs), e.d]).run m Q E := by
  unfold d_atomic_watch
  refine fn_run ?_
  unfold p_atomic_watch atoW
  cases e
  all_goals simp only [atoN] at q
  all_goals simp only [Ev.d]
  all_goals walk_at "s"
  · simp_all [optD, atoW]
  · refine c_merged (b := [u]) (by simp; omega) ?_
    walk_at "s"
    simp_all [optD, atoW]
  all_goals simp_all [optD, atoW]
theorem ato_specL {l u k : Int} {vs : List Int} {e : Ev} {m : Mem} {Q : D → Mem → Prop} {E : Xn → Mem → Prop} (hv : vs.length < 63) (q : Q (optD atoW (atoN l u k vs e)) m) : (d_atomic_watch [atoW (l, u, k, vs), e.l]).run m Q E := by
  unfold d_atomic_watch
  refine fn_run ?_
  unfold p_atomic_watch atoW
  cases e
  all_goals simp only [atoN] at q
  all_goals simp only [Ev.l]
  all_goals walk_at "s"
  · simp_all [optD, atoW]
  · refine c_merged (b := [u]) (by simp; omega) ?_
    walk_at "s"
    simp_all [optD, atoW]
  all_goals simp_all [optD, atoW]
theorem ato_spec {l u k : Int} {vs : List Int} {e : Ev} (bb : Bool) {m : Mem} {Q : D → Mem → Prop} {E : Xn → Mem → Prop} (hv : vs.length < 63) (q : Q (optD atoW (atoN l u k vs e)) m) : (d_atomic_watch [atoW (l, u, k, vs), shp (e, bb)]).run m Q E := by
  cases bb
  · exact ato_specT hv q
  · exact ato_specL hv q
theorem next_safe {w e : D} {m : Mem} {Q : D → Mem → Prop} {E : Xn → Mem → Prop} (q : (d_safe_watch [w, e]).run m Q E) : (d_next_watch [.str "safe", w, e]).run m Q E := by
  unfold d_next_watch
  refine fn_run ?_
  unfold p_next_watch
  walk_at "d"
  refine c_promise (.inl rfl) ?_
  walk_at "d"
  exact q
theorem first_safe {s : Int} {m : Mem} {Q : D → Mem → Prop} {E : Xn → Mem → Prop} (q : Q (safeW (s, -1, 0)) m) : (d_first_watch [.str "safe", .int s]).run m Q E := by
  unfold d_first_watch
  refine fn_run ?_
  unfold p_first_watch
  walk_at "d"
  refine c_promise (.inl rfl) ?_
  walk_at "d"
  exact q
theorem next_reg {w e : D} {m : Mem} {Q : D → Mem → Prop} {E : Xn → Mem → Prop} (q : (d_regular_watch [w, e]).run m Q E) : (d_next_watch [.str "regular", w, e]).run m Q E := by
  unfold d_next_watch
  refine fn_run ?_
  unfold p_next_watch
  walk_at "d"
  refine c_promise (.inr (.inl rfl)) ?_
  walk_at "d"
  exact q
theorem first_reg {s : Int} {m : Mem} {Q : D → Mem → Prop} {E : Xn → Mem → Prop} (q : Q (regW (s, -1, [])) m) : (d_first_watch [.str "regular", .int s]).run m Q E := by
  unfold d_first_watch
  refine fn_run ?_
  unfold p_first_watch
  walk_at "d"
  refine c_promise (.inr (.inl rfl)) ?_
  walk_at "d"
  exact q
theorem next_ato {w e : D} {m : Mem} {Q : D → Mem → Prop} {E : Xn → Mem → Prop} (q : (d_atomic_watch [w, e]).run m Q E) : (d_next_watch [.str "atomic", w, e]).run m Q E := by
  unfold d_next_watch
  refine fn_run ?_
  unfold p_next_watch
  walk_at "d"
  refine c_promise (.inr (.inr rfl)) ?_
  walk_at "d"
  exact q
theorem first_ato {s : Int} {m : Mem} {Q : D → Mem → Prop} {E : Xn → Mem → Prop} (q : Q (atoW (s, -1, 0, [])) m) : (d_first_watch [.str "atomic", .int s]).run m Q E := by
  unfold d_first_watch
  refine fn_run ?_
  unfold p_first_watch
  walk_at "d"
  refine c_promise (.inr (.inr rfl)) ?_
  walk_at "d"
  exact q

local macro_rules | `(tactic| walk_at "d") => `(tactic| simp -implicitDefEqProofs only [↓DL.k_F, ↓DL.k_M, ↓DL.k_onV, ↓DL.k_onL, ↓DL.k_onO, ↓DL.k_onN, ↓DL.r_C, ↓DL.r_var, ↓DL.k_Op2, ↓DL.k_Op, ↓DL.r_op, ↓DL.r_un, ↓DL.r_app, ↓DL.r_call, ↓DL.r_callF, ↓DL.k_CK2, ↓DL.k_CK, ↓DL.r_callK, ↓DL.r_callKF, ↓DL.r_nil, ↓DL.k_A2, ↓DL.k_A, ↓DL.r_cons, ↓DL.k_AndT, ↓DL.k_AndF, ↓DL.r_and, ↓DL.k_OrT, ↓DL.k_OrF, ↓DL.r_or, ↓DL.k_Not, ↓DL.r_not, ↓DL.k_EIfT, ↓DL.k_EIfF, ↓DL.r_eIf, ↓DL.k_Ch3T, ↓DL.k_Ch3F, ↓DL.k_Ch2, ↓DL.k_Ch1, ↓DL.r_chain, ↓DL.k_T, ↓DL.r_of, ↓DL.k_TAT, ↓DL.k_TAF, ↓DL.r_tand, ↓DL.k_TOT, ↓DL.k_TOF, ↓DL.r_tor, ↓DL.k_TN, ↓DL.r_tnot, ↓DL.r_tTrue, ↓DL.k_Asg, ↓DL.r_asg, ↓DL.k_Nx, ↓DL.r_expr, ↓DL.k_Rt, ↓DL.r_ret, ↓DL.r_retN, ↓DL.k_IfT, ↓DL.k_IfF, ↓DL.r_if, ↓DL.r_seq, ↓DL.r_next, ↓DL.r_break, ↓DL.r_cont, ↓DL.r_stuck, ↓DL.k_G, ↓DL.r_asgG, ↓DL.k_For, ↓DL.r_for, ↓DL.k_SI3, ↓DL.k_SI2, ↓DL.k_SI, ↓DL.r_setItemS, ↓DL.k_Ap3, ↓DL.k_Ap2, ↓DL.k_Ap1, ↓DL.r_apd, ↓DL.r_gN, ↓DL.r_iSeq, ↓DL.r_iApp, ↓DL.k_Body, ↓DL.k_Sl3, ↓DL.k_Sl2, ↓DL.k_Sl1, ↓DL.r_sl, ↓DL.r_oNone, ↓DL.k_OS, ↓DL.r_oSome, ↓DL.r_slT, ↓DL.r_slL, ↓DL.r_slS, ↓DL.r_retL, ↓DL.r_newL, ↓DL.r_lc, ↓DL.r_lcM, ↓DL.r_add, ↓DL.r_sub, ↓DL.r_mod, ↓DL.r_div, ↓DL.r_pow1018, ↓DL.r_lt, ↓DL.r_le, ↓DL.r_gt, ↓DL.r_ge, ↓DL.r_neg, ↓DL.r_eqII, ↓DL.r_neII, ↓DL.r_eqSS, ↓DL.r_neSS, ↓DL.r_eqBB, ↓DL.r_neBB, ↓DL.r_isN, ↓DL.r_isB, ↓DL.r_notN, ↓DL.r_int1, ↓DL.r_intb, ↓DL.r_abs, ↓DL.k_Get, ↓DL.r_ixT, ↓DL.r_ixL, ↓DL.r_asLR, ↓DL.r_asLL, ↓DL.r_ixRef, ↓DL.r_lenT, ↓DL.r_lenL, ↓DL.k_Len, ↓DL.r_lenRef, ↓DL.r_sumRef, ↓DL.k_SetJ, ↓DL.k_Set, ↓DL.r_setRef, ↓DL.k_App, ↓DL.r_appRef, ↓DL.r_tup0, ↓DL.r_tup1, ↓DL.r_tup2, ↓DL.r_tup3, ↓DL.r_tup4, ↓DL.r_tup5, ↓DL.r_tup6, ↓DL.r_tup7, ↓DL.r_tup8, ↓DL.r_lst0, ↓DL.r_ref0, ↓DL.r_ref1, ↓DL.r_ref2, ↓DL.r_ref3, ↓DL.r_ref4, ↓DL.r_ref5, ↓DL.r_ref6, ↓DL.r_listL, ↓DL.r_listT, ↓DL.r_tupleL, ↓DL.r_seqT, ↓DL.r_seqL, ↓DL.r_range1, ↓DL.r_range2, ↓DL.r_strEq, ↓DL.r_strEq2, ↓DL.r_isT0, ↓DL.r_isT1, ↓DL.r_isT2, ↓DL.r_isT3, ↓DL.r_isT4, ↓DL.r_isT5, ↓DL.r_isT6, ↓DL.r_isT7, ↓DL.r_isT8, ↓DL.r_isT9, ↓DL.r_isT10, ↓DL.r_isT11, ↓DL.r_isT12, ↓DL.r_isT13, ↓DL.r_isT14, ↓DL.r_isT15, ↓DL.r_isT16, ↓DL.r_isT17, ↓DL.r_isT18, ↓DL.r_isT19, ↓DL.r_isT20, ↓DL.r_isT21, ↓DL.r_isT22, ↓DL.r_isT23, ↓DL.r_isT24, ↓DL.r_isT25, ↓DL.r_isT26, ↓DL.r_isT27, ↓DL.r_isT28, ↓DL.r_isT29, ↓DL.r_isT30, ↓DL.r_isT31, ↓DL.r_isT32, ↓DL.r_isT33, ↓DL.r_isT34, ↓DL.r_isT35, ↓DL.r_isiN, ↓DL.r_isi2N, ↓DL.r_isiB, ↓DL.r_isi2B, ↓DL.r_isiI, ↓DL.r_isi2I, ↓DL.r_isiS, ↓DL.r_isi2S, ↓DL.r_isiT, ↓DL.r_isi2T, ↓DL.r_isiL, ↓DL.r_isi2L, ↓DL.r_inTI, ↓DL.r_ninTI, ↓DL.r_inLI, ↓DL.r_ninLI, ↓DL.r_inTS, ↓DL.r_inD_nil, ↓DL.r_inD_cons, ↓DL.r_flat_nil, ↓DL.r_flat_cons, ↓DL.r_flatS, ↓DL.r_flatI, ↓DL.r_eqvSS, ↓DL.r_eqvII, ↓DL.r_addLL, ↓DL.r_atm1, ↓DL.r_atm2, ↓DL.r_at0, ↓DL.r_at1, ↓DL.r_at2, ↓DL.r_at3, ↓DL.r_at4, ↓DL.r_at5, ↓DL.r_at6, ↓DL.r_at7, ↓DL.r_at8, ↓DL.r_beqI, ↓DL.r_ndec, ↓DL.r_gT, ↓DL.k_Gs, ↓DL.r_gsCons, ↓DL.r_gsNil, ↓DL.r_isDNN, ↓DL.r_isDBB, ↓DL.r_isDBN, ↓DL.r_isDNB, ↓DL.r_isDIN, ↓DL.r_isDIB, ↓DL.r_isDSN, ↓DL.r_isDSB, ↓DL.r_isDTN, ↓DL.r_isDTB, ↓DL.r_isDLN, ↓DL.r_isDLB, ↓DL.r_isDRN, ↓DL.r_isDRB, ↓DL.r_beqTT, ↓DL.r_beqTF, ↓DL.r_beqFT, ↓DL.r_beqFF, ↓DL.k_onI, ↓DL.k_Fld2, ↓DL.r_fld, ↓DL.k_FldR, ↓DL.k_FldO, ↓DL.r_look, ↓DL.r_lookN, ↓DL.r_putD, ↓DL.r_putDN, ↓DL.k_SF3, ↓DL.r_setFldR, ↓DL.k_SF2, ↓DL.k_SF1, ↓DL.r_setFld, ↓DL.r_methF, ↓DL.k_Me2, ↓DL.r_meth, ↓DL.k_MeR, ↓DL.k_MeO, ↓DL.r_make, ↓DL.k_MkN, ↓DL.r_makeF, ↓DL.k_CG2, ↓DL.k_CG, ↓DL.r_callG, ↓DL.r_callGF, ↓DL.r_listRg, ↓DL.r_tupRg, ↓DL.k_SlR, ↓DL.r_slR, ↓DL.r_enumL, ↓DL.r_max2, ↓DL.r_min2, ↓DL.r_isi2R, ↓DL.r_isiR, ↓DL.r_lst1, ↓DL.r_lst2, ↓DL.r_lst3, ↓DL.r_lst4, ↓DL.r_lst5, ↓DL.r_lst6, ↓DL.r_lst7, ↓DL.r_lst8, ↓DL.r_lst9, ↓DL.r_lst10, ↓DL.r_lst11, ↓DL.r_lst12, ↓DL.r_seqR, ↓DL.k_ForR, ↓DL.r_minL, ↓DL.r_clr, ↓DL.k_Clr1R, ↓DL.k_LstR, ↓DL.r_listRef, ↓DL.k_Clr2, ↓DL.Kt.seq_nx, ↓DL.Kt.seq_rt, ↓DL.Kt.seq_bk, ↓DL.Kt.seq_ct, ↓DL.Kt.seq_ex, ↓DL.Kt.fin_nx, ↓DL.Kt.fin_rt, ↓DL.Kt.fin_ex, ↓DL.Kt.loop_nx, ↓DL.Kt.loop_rt, ↓DL.Kt.loop_bk, ↓DL.Kt.loop_ct, ↓DL.Kt.loop_ex, ↓DL.C.run_ret, ↓DL.mset_same, ↓DL.mset_mset, startD, ixN, Option.bind_some, Option.map_some, List.map_cons, List.map_nil, List.length_cons, List.length_nil, List.length_set, List.replicate, List.cons_append, List.nil_append, List.append_nil, List.set_cons_zero, List.set_cons_succ, List.getElem?_cons_zero, List.getElem?_cons_succ, Nat.reduceAdd, Nat.reduceSub, Nat.zero_add, if_true, if_false, decide_eq_true_eq, reduceIte, Bool.not_true, Bool.not_false, beq_self_eq_true, Bool.false_eq_true, Int.reduceLT, Int.reduceLE, Int.reduceNeg, Int.reduceToNat, Int.reduceAdd, Int.reduceSub, Nat.reduceLT, Nat.reduceLeDiff, Int.cast_ofNat_Int, Int.reduceEq, Int.reduceBEq, DL.wipeD, decide_true, decide_false, not_true_eq_false, not_false_eq_true, String.reduceEq, Bool.or_true, Bool.or_false, Bool.true_or, Bool.false_or, Bool.and_true, Bool.and_false, Bool.true_and, Bool.false_and, Bool.not_not, Nat.reduceEqDiff, Int.toNat_natCast, Decidable.not_not, List.mem_cons, List.not_mem_nil, or_false, or_true, true_or, false_or, and_true, true_and, and_self, and_false, false_and, reduceCtorEq, Option.isNone_some, Option.isNone_none, Option.isSome_some, Option.isSome_none, ↓c_isint, ↓c_rowL, ↓c_rowT, cs_size, cs_written, cs_ended, cs_writing, cs_reading, cs_low, cs_least])
local macro_rules | `(tactic| walk_at "h") => `(tactic| simp -implicitDefEqProofs only [↓DL.k_F, ↓DL.k_M, ↓DL.k_onV, ↓DL.k_onL, ↓DL.k_onO, ↓DL.k_onN, ↓DL.r_C, ↓DL.r_var, ↓DL.k_Op2, ↓DL.k_Op, ↓DL.r_op, ↓DL.r_un, ↓DL.r_app, ↓DL.r_call, ↓DL.r_callF, ↓DL.k_CK2, ↓DL.k_CK, ↓DL.r_callK, ↓DL.r_callKF, ↓DL.r_nil, ↓DL.k_A2, ↓DL.k_A, ↓DL.r_cons, ↓DL.k_AndT, ↓DL.k_AndF, ↓DL.r_and, ↓DL.k_OrT, ↓DL.k_OrF, ↓DL.r_or, ↓DL.k_Not, ↓DL.r_not, ↓DL.k_EIfT, ↓DL.k_EIfF, ↓DL.r_eIf, ↓DL.k_Ch3T, ↓DL.k_Ch3F, ↓DL.k_Ch2, ↓DL.k_Ch1, ↓DL.r_chain, ↓DL.k_T, ↓DL.r_of, ↓DL.k_TAT, ↓DL.k_TAF, ↓DL.r_tand, ↓DL.k_TOT, ↓DL.k_TOF, ↓DL.r_tor, ↓DL.k_TN, ↓DL.r_tnot, ↓DL.r_tTrue, ↓DL.k_Asg, ↓DL.r_asg, ↓DL.k_Nx, ↓DL.r_expr, ↓DL.k_Rt, ↓DL.r_ret, ↓DL.r_retN, ↓DL.k_IfT, ↓DL.k_IfF, ↓DL.r_if, ↓DL.r_seq, ↓DL.r_next, ↓DL.r_break, ↓DL.r_cont, ↓DL.r_stuck, ↓DL.k_G, ↓DL.r_asgG, ↓DL.k_For, ↓DL.r_for, ↓DL.k_SI3, ↓DL.k_SI2, ↓DL.k_SI, ↓DL.r_setItemS, ↓DL.k_Ap3, ↓DL.k_Ap2, ↓DL.k_Ap1, ↓DL.r_apd, ↓DL.r_gN, ↓DL.r_iSeq, ↓DL.r_iApp, ↓DL.k_Body, ↓DL.k_Sl3, ↓DL.k_Sl2, ↓DL.k_Sl1, ↓DL.r_sl, ↓DL.r_oNone, ↓DL.k_OS, ↓DL.r_oSome, ↓DL.r_slT, ↓DL.r_slL, ↓DL.r_slS, ↓DL.r_retL, ↓DL.r_newL, ↓DL.r_lc, ↓DL.r_lcM, ↓DL.r_add, ↓DL.r_sub, ↓DL.r_mod, ↓DL.r_div, ↓DL.r_pow1018, ↓DL.r_lt, ↓DL.r_le, ↓DL.r_gt, ↓DL.r_ge, ↓DL.r_neg, ↓DL.r_eqII, ↓DL.r_neII, ↓DL.r_eqSS, ↓DL.r_neSS, ↓DL.r_eqBB, ↓DL.r_neBB, ↓DL.r_isN, ↓DL.r_isB, ↓DL.r_notN, ↓DL.r_int1, ↓DL.r_intb, ↓DL.r_abs, ↓DL.k_Get, ↓DL.r_ixT, ↓DL.r_ixL, ↓DL.r_asLR, ↓DL.r_asLL, ↓DL.r_ixRef, ↓DL.r_lenT, ↓DL.r_lenL, ↓DL.k_Len, ↓DL.r_lenRef, ↓DL.r_sumRef, ↓DL.k_SetJ, ↓DL.k_Set, ↓DL.r_setRef, ↓DL.k_App, ↓DL.r_appRef, ↓DL.r_tup0, ↓DL.r_tup1, ↓DL.r_tup2, ↓DL.r_tup3, ↓DL.r_tup4, ↓DL.r_tup5, ↓DL.r_tup6, ↓DL.r_tup7, ↓DL.r_tup8, ↓DL.r_lst0, ↓DL.r_ref0, ↓DL.r_ref1, ↓DL.r_ref2, ↓DL.r_ref3, ↓DL.r_ref4, ↓DL.r_ref5, ↓DL.r_ref6, ↓DL.r_listL, ↓DL.r_listT, ↓DL.r_tupleL, ↓DL.r_seqT, ↓DL.r_seqL, ↓DL.r_range1, ↓DL.r_range2, ↓DL.r_strEq, ↓DL.r_strEq2, ↓DL.r_isT0, ↓DL.r_isT1, ↓DL.r_isT2, ↓DL.r_isT3, ↓DL.r_isT4, ↓DL.r_isT5, ↓DL.r_isT6, ↓DL.r_isT7, ↓DL.r_isT8, ↓DL.r_isT9, ↓DL.r_isT10, ↓DL.r_isT11, ↓DL.r_isT12, ↓DL.r_isT13, ↓DL.r_isT14, ↓DL.r_isT15, ↓DL.r_isT16, ↓DL.r_isT17, ↓DL.r_isT18, ↓DL.r_isT19, ↓DL.r_isT20, ↓DL.r_isT21, ↓DL.r_isT22, ↓DL.r_isT23, ↓DL.r_isT24, ↓DL.r_isT25, ↓DL.r_isT26, ↓DL.r_isT27, ↓DL.r_isT28, ↓DL.r_isT29, ↓DL.r_isT30, ↓DL.r_isT31, ↓DL.r_isT32, ↓DL.r_isT33, ↓DL.r_isT34, ↓DL.r_isT35, ↓DL.r_isiN, ↓DL.r_isi2N, ↓DL.r_isiB, ↓DL.r_isi2B, ↓DL.r_isiI, ↓DL.r_isi2I, ↓DL.r_isiS, ↓DL.r_isi2S, ↓DL.r_isiT, ↓DL.r_isi2T, ↓DL.r_isiL, ↓DL.r_isi2L, ↓DL.r_inTI, ↓DL.r_ninTI, ↓DL.r_inLI, ↓DL.r_ninLI, ↓DL.r_inTS, ↓DL.r_inD_nil, ↓DL.r_inD_cons, ↓DL.r_flat_nil, ↓DL.r_flat_cons, ↓DL.r_flatS, ↓DL.r_flatI, ↓DL.r_eqvSS, ↓DL.r_eqvII, ↓DL.r_addLL, ↓DL.r_atm1, ↓DL.r_atm2, ↓DL.r_at0, ↓DL.r_at1, ↓DL.r_at2, ↓DL.r_at3, ↓DL.r_at4, ↓DL.r_at5, ↓DL.r_at6, ↓DL.r_at7, ↓DL.r_at8, ↓DL.r_beqI, ↓DL.r_ndec, ↓DL.r_gT, ↓DL.k_Gs, ↓DL.r_gsCons, ↓DL.r_gsNil, ↓DL.r_isDNN, ↓DL.r_isDBB, ↓DL.r_isDBN, ↓DL.r_isDNB, ↓DL.r_isDIN, ↓DL.r_isDIB, ↓DL.r_isDSN, ↓DL.r_isDSB, ↓DL.r_isDTN, ↓DL.r_isDTB, ↓DL.r_isDLN, ↓DL.r_isDLB, ↓DL.r_isDRN, ↓DL.r_isDRB, ↓DL.r_beqTT, ↓DL.r_beqTF, ↓DL.r_beqFT, ↓DL.r_beqFF, ↓DL.k_onI, ↓DL.k_Fld2, ↓DL.r_fld, ↓DL.k_FldR, ↓DL.k_FldO, ↓DL.r_look, ↓DL.r_lookN, ↓DL.r_putD, ↓DL.r_putDN, ↓DL.k_SF3, ↓DL.r_setFldR, ↓DL.k_SF2, ↓DL.k_SF1, ↓DL.r_setFld, ↓DL.r_methF, ↓DL.k_Me2, ↓DL.r_meth, ↓DL.k_MeR, ↓DL.k_MeO, ↓DL.r_make, ↓DL.k_MkN, ↓DL.r_makeF, ↓DL.k_CG2, ↓DL.k_CG, ↓DL.r_callG, ↓DL.r_callGF, ↓DL.r_listRg, ↓DL.r_tupRg, ↓DL.k_SlR, ↓DL.r_slR, ↓DL.r_enumL, ↓DL.r_max2, ↓DL.r_min2, ↓DL.r_isi2R, ↓DL.r_isiR, ↓DL.r_lst1, ↓DL.r_lst2, ↓DL.r_lst3, ↓DL.r_lst4, ↓DL.r_lst5, ↓DL.r_lst6, ↓DL.r_lst7, ↓DL.r_lst8, ↓DL.r_lst9, ↓DL.r_lst10, ↓DL.r_lst11, ↓DL.r_lst12, ↓DL.r_seqR, ↓DL.k_ForR, ↓DL.r_minL, ↓DL.r_clr, ↓DL.k_Clr1R, ↓DL.k_LstR, ↓DL.r_listRef, ↓DL.k_Clr2, ↓DL.Kt.seq_nx, ↓DL.Kt.seq_rt, ↓DL.Kt.seq_bk, ↓DL.Kt.seq_ct, ↓DL.Kt.seq_ex, ↓DL.Kt.fin_nx, ↓DL.Kt.fin_rt, ↓DL.Kt.fin_ex, ↓DL.Kt.loop_nx, ↓DL.Kt.loop_rt, ↓DL.Kt.loop_bk, ↓DL.Kt.loop_ct, ↓DL.Kt.loop_ex, ↓DL.C.run_ret, ↓DL.mset_same, ↓DL.mset_mset, startD, ixN, Option.bind_some, Option.map_some, List.map_cons, List.map_nil, List.length_cons, List.length_nil, List.length_set, List.replicate, List.cons_append, List.nil_append, List.append_nil, List.set_cons_zero, List.set_cons_succ, List.getElem?_cons_zero, List.getElem?_cons_succ, Nat.reduceAdd, Nat.reduceSub, Nat.zero_add, if_true, if_false, decide_eq_true_eq, reduceIte, Bool.not_true, Bool.not_false, beq_self_eq_true, Bool.false_eq_true, Int.reduceLT, Int.reduceLE, Int.reduceNeg, Int.reduceToNat, Int.reduceAdd, Int.reduceSub, Nat.reduceLT, Nat.reduceLeDiff, Int.cast_ofNat_Int, Int.reduceEq, Int.reduceBEq, DL.wipeD, decide_true, decide_false, not_true_eq_false, not_false_eq_true, String.reduceEq, Bool.or_true, Bool.or_false, Bool.true_or, Bool.false_or, Bool.and_true, Bool.and_false, Bool.true_and, Bool.false_and, Bool.not_not, Nat.reduceEqDiff, Int.toNat_natCast, Decidable.not_not, List.mem_cons, List.not_mem_nil, or_false, or_true, true_or, false_or, and_true, true_and, and_self, and_false, false_and, reduceCtorEq, Option.isNone_some, Option.isNone_none, Option.isSome_some, Option.isSome_none, ↓c_isint, ↓c_rowL, ↓c_rowT, cs_size, cs_written, cs_ended, cs_writing, cs_reading, cs_low, cs_least, *])
local macro_rules | `(tactic| walk_at "s") => `(tactic| ((try walk_at "h"); repeat' ((first | with_reducible refine if_dec (fun _ => ?_) (fun _ => ?_) | with_reducible refine eif_dec (fun _ => ?_) (fun _ => ?_) | with_reducible refine tor_dec (fun _ => ?_) (fun _ => ?_) | with_reducible refine tand_dec (fun _ => ?_) (fun _ => ?_) | with_reducible refine and_dec (fun _ => ?_) (fun _ => ?_) | with_reducible refine or_dec (fun _ => ?_) (fun _ => ?_) | with_reducible refine ch_dec (fun _ => ?_) (fun _ => ?_)) <;> (try walk_at "h"))))
/-- the ended write's value and the one under way -/
inductive Val : Sc → Bool → Int → Int → Prop
  | rest {S : Sc} {A : List Int} {l : Int} : S.ws = A ++ [l] → S.en = A.length → S.lo ≤ S.en → Val S false l (-1)
  | under {S : Sc} {A : List Int} {l u : Int} : S.ws = A ++ [l, u] → S.en = A.length → S.lo ≤ S.en → 0 ≤ u → Val S true l u
def badE (P : Str) (size : Int) (S : Sc) : Ev → Prop
  | .told v => v ∉ S.allowed size P
  | _ => False
theorem told_same {S : Sc} {v : Int} : (S.take (.told v)).ws = S.ws ∧ (S.take (.told v)).en = S.en ∧ (S.take (.told v)).lo = S.lo := by
  simp only [Sc.take]; split <;> exact ⟨rfl, rfl, rfl⟩
theorem val_told {S : Sc} {w : Bool} {l u v : Int} (h : Val S w l u) : Val (S.take (.told v)) w l u := by
  obtain ⟨h1, h2, h3⟩ := told_same (S := S) (v := v)
  cases h with
  | rest a b c => exact .rest (by rw [h1]; exact a) (by rw [h2]; exact b) (by rw [h2, h3]; exact c)
  | under a b c d => exact .under (by rw [h1]; exact a) (by rw [h2]; exact b) (by rw [h2, h3]; exact c) d
theorem val_read {S : Sc} {w : Bool} {l u : Int} (h : Val S w l u) : Val (S.take .read) w l u := by
  cases h with
  | rest a b c => exact .rest a b (Int.le_refl _)
  | under a b c d => exact .under a b (Int.le_refl _) d
theorem val_write {S : Sc} {l u v : Int} (h : Val S false l u) (hv : 0 ≤ v) : Val (S.take (.write v)) true l v := by
  cases h with
  | rest a b c => exact .under (by show S.ws ++ [v] = _; rw [a]; simp) b c hv
theorem val_wrote {S : Sc} {l u : Int} (h : Val S true l u) : Val (S.take .wrote) false u (-1) := by
  cases h with
  | under a b c d =>
    obtain ⟨A, a, b⟩ : ∃ A, S.ws = A ++ [l, u] ∧ S.en = A.length := ⟨_, a, b⟩
    have e : (S.take .wrote).en = ((A ++ [l]).length : Int) := by
      show (S.ws.length : Int) - 1 = _
      rw [a]; simp only [List.length_append, List.length_cons, List.length_nil]; omega
    refine .rest (A := A ++ [l]) (by show S.ws = _; rw [a]; simp) e ?_
    rw [e]
    show S.lo ≤ _
    rw [List.length_append]; simp only [List.length_cons, List.length_nil]; omega
def kS (S : Sc) (rd : Bool) : Int := if rd = true then (if S.lo = (S.ws.length : Int) - 1 then 1 else 2) else 0
theorem safe_step {size : Int} {S : Sc} {n : Nat} {st st' : Bool × Bool} {l u : Int} {e : Ev} (hk : S.ok n) (hv : Val S st.1 l u) (ho : okStep size st e = some st') :
    (badE "safe" size S e ∧ safeN l u (kS S st.2) e = none) ∨ (¬ badE "safe" size S e ∧ ∃ l' u', Val (S.take e) st'.1 l' u' ∧ safeN l u (kS S st.2) e = some (l', u', kS (S.take e) st'.2)) := by
  obtain ⟨w, r⟩ := st
  have hl0 := hk.l0; have hl1 := hk.l1
  cases e with
  | write v =>
    simp only [okStep] at ho
    split at ho
    · rename_i h
      obtain ⟨rfl, h0, h1⟩ := h
      cases ho
      refine .inr ⟨id, l, v, val_write hv h0, ?_⟩
      have e : (S.take (.write v)).ws.length = S.ws.length + 1 := by show (S.ws ++ [v]).length = _; rw [List.length_append]; rfl
      have e2 : (S.take (.write v)).lo = S.lo := rfl
      simp only [safeN, kS, e, e2]
      congr 3
      cases r with
      | false => simp
      | true =>
        simp only [if_true]
        have : ¬ S.lo = ((S.ws.length + 1 : Nat) : Int) - 1 := by omega
        rw [if_neg this]
        by_cases z : S.lo = (S.ws.length : Int) - 1 <;> simp [z]
    · cases ho
  | wrote =>
    simp only [okStep] at ho
    split at ho
    · rename_i h
      subst h
      cases ho
      exact .inr ⟨id, u, -1, val_wrote hv, rfl⟩
    · cases ho
  | read =>
    simp only [okStep] at ho
    split at ho
    · rename_i h
      subst h
      cases ho
      refine .inr ⟨id, l, u, val_read hv, ?_⟩
      simp only [safeN, kS, if_true]
      congr 3
      have e2 : (S.take .read).lo = S.en := rfl
      have e3 : (S.take .read).ws = S.ws := rfl
      rw [e2, e3]
      simp only at hv
      cases hv with
      | rest a b c => rw [if_pos rfl, if_pos (by rw [a, b, List.length_append]; simp)]
      | under a b c d => rw [if_neg (by omega), if_neg (by rw [a, b, List.length_append]; simp; omega)]
    · cases ho
  | told v =>
    simp only [okStep] at ho
    split at ho
    · rename_i h
      obtain ⟨h2, h0, h1⟩ := h
      subst h2
      cases ho
      have hal : S.allowed size "safe" = (if S.lo = (S.ws.length : Int) - 1 then [S.ws.getD S.lo.toNat 0] else (List.range size.toNat).map fun (i : Nat) => (i : Int)) := by unfold Sc.allowed; rw [if_pos rfl]
      simp only [badE, safeN, kS, if_true, hal]
      by_cases z : S.lo = (S.ws.length : Int) - 1
      · have hl : S.ws.getD S.lo.toNat 0 = l := by
          simp only at hv
          cases hv with
          | rest a b c =>
            obtain ⟨A, a, b⟩ : ∃ A, S.ws = A ++ [l] ∧ S.en = A.length := ⟨_, a, b⟩
            have : S.lo.toNat = A.length := by rw [z, a, List.length_append]; simp
            rw [this, a, List.getD_eq_getElem?_getD, List.getElem?_append_right (Nat.le_refl _), Nat.sub_self]; rfl
          | under a b c d => rw [a, List.length_append] at z; simp only [List.length_cons, List.length_nil] at z; omega
        rw [if_pos z, if_pos z, hl]
        by_cases q : v = l
        · refine .inr ⟨by simp [q], l, u, val_told hv, ?_⟩
          simp [q]
        · exact .inl ⟨by simp [q], by simp [q]⟩
      · rw [if_neg z, if_neg z]
        exact .inr ⟨fun q => q (mem_range_int h0 h1), l, u, val_told hv, by simp⟩
    · cases ho
theorem sortSet_app {a b : List Int} : sortSet (sortSet a ++ b) = sortSet (a ++ b) :=
  asc_unique (sortSet_asc _) (sortSet_asc _) fun k => by rw [mem_sortSet, mem_sortSet, List.mem_append, List.mem_append, mem_sortSet]
theorem sortSet_one {l : Int} : sortSet [l] = [l] :=
  asc_unique (sortSet_asc _) (List.pairwise_singleton _ _) fun k => mem_sortSet
theorem sortSet_ne {l : List Int} (h : l ≠ []) : sortSet l ≠ [] := fun z => by
  obtain ⟨x, hx⟩ := List.exists_mem_of_ne_nil _ h
  have := mem_sortSet.mpr hx
  rw [z] at this; cases this
def vR (S : Sc) (rd : Bool) : List Int := if rd = true then sortSet (S.ws.drop S.lo.toNat) else []
theorem drop_ne {S : Sc} {n : Nat} (hk : S.ok n) : S.ws.drop S.lo.toNat ≠ [] := fun z => by
  have := congrArg List.length z
  have := hk.l0; have := hk.l1
  rw [List.length_drop] at *
  simp only [List.length_nil] at *
  omega
theorem reg_step {size : Int} {S : Sc} {n : Nat} {st st' : Bool × Bool} {l u : Int} {e : Ev} (hk : S.ok n) (hv : Val S st.1 l u) (ho : okStep size st e = some st') :
    (badE "regular" size S e ∧ regN l u (vR S st.2) e = none) ∨ (¬ badE "regular" size S e ∧ ∃ l' u', Val (S.take e) st'.1 l' u' ∧ regN l u (vR S st.2) e = some (l', u', vR (S.take e) st'.2)) := by
  obtain ⟨w, r⟩ := st
  have hl0 := hk.l0; have hl1 := hk.l1
  cases e with
  | write v =>
    simp only [okStep] at ho
    split at ho
    · rename_i h
      obtain ⟨rfl, h0, h1⟩ := h
      cases ho
      refine .inr ⟨id, l, v, val_write hv h0, ?_⟩
      have e : (S.take (.write v)).ws = S.ws ++ [v] := rfl
      have e2 : (S.take (.write v)).lo = S.lo := rfl
      simp only [regN, vR, e, e2]
      congr 3
      cases r with
      | false => simp
      | true =>
        simp only [if_true]
        rw [if_neg (sortSet_ne (drop_ne hk)), sortSet_app, List.drop_append_of_le_length (by omega)]
    · cases ho
  | wrote =>
    simp only [okStep] at ho
    split at ho
    · rename_i h
      subst h
      cases ho
      exact .inr ⟨id, u, -1, val_wrote hv, rfl⟩
    · cases ho
  | read =>
    simp only [okStep] at ho
    split at ho
    · rename_i h
      subst h
      cases ho
      refine .inr ⟨id, l, u, val_read hv, ?_⟩
      simp only [regN, vR, if_true]
      congr 3
      have e2 : (S.take .read).lo = S.en := rfl
      have e3 : (S.take .read).ws = S.ws := rfl
      rw [e2, e3]
      simp only at hv
      cases hv with
      | rest a b c => rw [if_pos rfl, a, b, Int.toNat_natCast, List.drop_left' rfl, sortSet_one]
      | under a b c d => rw [if_neg (by omega), a, b, Int.toNat_natCast, List.drop_left' rfl]; rfl
    · cases ho
  | told v =>
    simp only [okStep] at ho
    split at ho
    · rename_i h
      obtain ⟨h2, h0, h1⟩ := h
      subst h2
      cases ho
      have hal : S.allowed size "regular" = sortSet (S.ws.drop S.lo.toNat) := by unfold Sc.allowed; rw [if_neg ne_rs, if_neg ne_ra]
      simp only [badE, regN, vR, if_true, hal]
      by_cases q : v ∈ sortSet (S.ws.drop S.lo.toNat)
      · rw [if_pos q]
        exact .inr ⟨fun z => z q, l, u, val_told hv, rfl⟩
      · rw [if_neg q]
        exact .inl ⟨q, rfl⟩
    · cases ho
def kA (S : Sc) (rd : Bool) : Int := if rd = true then 2 else if S.le ≤ S.en then 0 else 1
def vA (S : Sc) (st : Bool × Bool) : List Int := if st.2 = true then sortSet ((if st.1 = true then S.ws.dropLast else S.ws).drop S.low.toNat) else []
theorem num_of {S : Sc} {n : Nat} {v : Int} (hk : S.ok n) (h : v ∈ S.ws.drop S.low.toNat) : ∃ i, S.num v = some i := by
  cases q : S.num v with
  | none => exact absurd h (numF_none.mp q)
  | some i => exact ⟨i, rfl⟩
theorem ato_step {size : Int} {S : Sc} {n : Nat} {st st' : Bool × Bool} {l u : Int} {e : Ev} (hk : S.ok n) (hv : Val S st.1 l u) (ho : okStep size st e = some st') :
    (badE "atomic" size S e ∧ atoN l u (kA S st.2) (vA S st) e = none) ∨ (¬ badE "atomic" size S e ∧ ∃ l' u', Val (S.take e) st'.1 l' u' ∧ atoN l u (kA S st.2) (vA S st) e = some (l', u', kA (S.take e) st'.2, vA (S.take e) st')) := by
  obtain ⟨w, r⟩ := st
  have hl0 := hk.l0; have hl1 := hk.l1; have ht0 := hk.t0; have ht1 := hk.t1
  have hlw := low_le hk
  cases e with
  | write v =>
    simp only [okStep] at ho
    split at ho
    · rename_i h
      obtain ⟨rfl, h0, h1⟩ := h
      cases ho
      refine .inr ⟨id, l, v, val_write hv h0, ?_⟩
      have e : (S.take (.write v)).ws = S.ws ++ [v] := rfl
      have e2 : (S.take (.write v)).low = S.low := rfl
      have e3 : (S.take (.write v)).le = S.le := rfl
      have e4 : (S.take (.write v)).en = S.en := rfl
      simp only [atoN, kA, vA, e, e2, e3, e4, if_true, Bool.false_eq_true, if_false, List.dropLast_concat]
    · cases ho
  | wrote =>
    simp only [okStep] at ho
    split at ho
    · rename_i h
      subst h
      cases ho
      refine .inr ⟨id, u, -1, val_wrote hv, ?_⟩
      have e : (S.take .wrote).ws = S.ws := rfl
      have e2 : (S.take .wrote).low = S.low := rfl
      have e3 : (S.take .wrote).le = S.le := rfl
      have e4 : (S.take .wrote).en = (S.ws.length : Int) - 1 := rfl
      simp only [atoN, kA, vA, e, e2, e3, e4, if_true, Bool.false_eq_true, if_false]
      cases r with
      | false =>
        have h1 : ¬ (if S.le ≤ S.en then (0 : Int) else 1) = 2 := by split <;> decide
        have h2 : S.le ≤ (S.ws.length : Int) - 1 := by omega
        simp [h1, h2]
      | true =>
        simp only [if_true]
        simp only at hv
        cases hv with
        | under a b c d =>
          obtain ⟨A, a, b⟩ : ∃ A, S.ws = A ++ [l, u] ∧ S.en = A.length := ⟨_, a, b⟩
          have hd : S.ws.dropLast = A ++ [l] := by rw [a, show A ++ [l, u] = (A ++ [l]) ++ [u] by simp, List.dropLast_concat]
          have hw : S.ws = S.ws.dropLast ++ [u] := by rw [hd, a]; simp
          have hlen : S.low.toNat ≤ S.ws.dropLast.length := by rw [List.length_dropLast]; omega
          have e5 : S.ws.drop S.low.toNat = S.ws.dropLast.drop S.low.toNat ++ [u] := by
            conv => lhs; rw [hw]
            rw [List.drop_append_of_le_length hlen]
          rw [e5, sortSet_app]
    · cases ho
  | read =>
    simp only [okStep] at ho
    split at ho
    · rename_i h
      subst h
      cases ho
      refine .inr ⟨id, l, u, val_read hv, ?_⟩
      have e3 : (S.take .read).ws = S.ws := rfl
      have e4 : (S.take .read).low = if S.le > S.en then S.le else S.en := rfl
      simp only [atoN, kA, vA, e3, e4, if_true, Bool.false_eq_true, if_false]
      congr 4
      simp only at hv
      cases hv with
      | rest a b c =>
        obtain ⟨A, a, b⟩ : ∃ A, S.ws = A ++ [l] ∧ S.en = A.length := ⟨_, a, b⟩
        have h1 : S.le ≤ S.en := by rw [b]; rw [a, List.length_append] at ht1; simp only [List.length_cons, List.length_nil] at ht1; omega
        rw [if_pos h1, if_pos rfl, if_neg (by omega), if_neg (by decide), a, b, Int.toNat_natCast, List.drop_left' rfl, sortSet_one]
      | under a b c d =>
        obtain ⟨A, a, b⟩ : ∃ A, S.ws = A ++ [l, u] ∧ S.en = A.length := ⟨_, a, b⟩
        have hd : S.ws.dropLast = A ++ [l] := by rw [a, show A ++ [l, u] = (A ++ [l]) ++ [u] by simp, List.dropLast_concat]
        rw [if_pos rfl, hd]
        by_cases z : S.le ≤ S.en
        · rw [if_pos z, if_pos rfl, if_neg (by omega), b, Int.toNat_natCast, List.drop_left' rfl, sortSet_one]
        · rw [if_neg z, if_neg (by decide), if_pos (by omega), List.drop_of_length_le (by rw [List.length_append]; simp only [List.length_cons, List.length_nil]; omega)]
          rfl
    · cases ho
  | told v =>
    simp only [okStep] at ho
    split at ho
    · rename_i h
      obtain ⟨h2, h0, h1⟩ := h
      subst h2
      cases ho
      have hal : ∀ x, x ∈ S.allowed size "atomic" ↔ x ∈ S.ws.drop S.low.toNat := by intro x; unfold Sc.allowed; rw [if_neg ne_as, if_pos rfl]; exact mem_sortSet
      have hmem : ∀ x, (x ∈ vA S (w, true) ↔ x ∈ (if w = true then S.ws.dropLast else S.ws).drop S.low.toNat) := by intro x; unfold vA; rw [if_pos rfl]; exact mem_sortSet
      have hvN : ∀ (S' : Sc), vA S' (w, false) = [] := fun _ => rfl
      have hnum : ∀ i, S.num v = some i → S.low ≤ i ∧ i < S.ws.length ∧ S.ws[i]? = some v ∧ ∀ j : Nat, S.low.toNat ≤ j → j < i → S.ws[j]? ≠ some v := by
        intro i q
        obtain ⟨g1, g2, g3⟩ := numF_some q
        rw [List.getElem?_drop] at g2
        have e2 : S.low.toNat + (i - S.low.toNat) = i := by omega
        rw [e2] at g2
        refine ⟨by omega, (List.getElem?_eq_some_iff.mp g2).1, g2, fun j hj1 hj2 => ?_⟩
        have := g3 (j - S.low.toNat) (by omega)
        rw [List.getElem?_drop] at this
        have e3 : S.low.toNat + (j - S.low.toNat) = j := by omega
        rw [e3] at this
        exact this
      have htk : ∀ i, S.num v = some i → (S.take (.told v)).le = i ∧ (S.take (.told v)).en = S.en := by
        intro i q; simp [Sc.take, q]
      simp only [badE, atoN, hal]
      simp only at hv ⊢
      cases hv with
      | rest a b c =>
        obtain ⟨A, a, b⟩ : ∃ A, S.ws = A ++ [l] ∧ S.en = A.length := ⟨_, a, b⟩
        have hm2 := hmem v
        rw [if_neg (by decide)] at hm2
        by_cases q : v ∈ S.ws.drop S.low.toNat
        · rw [if_pos (hm2.mpr q)]
          obtain ⟨i, qi⟩ := num_of hk q
          obtain ⟨n1, n2, n3, n4⟩ := hnum i qi
          obtain ⟨k1, k2⟩ := htk i qi
          refine .inr ⟨fun z => z q, l, -1, val_told (.rest a b c), ?_⟩
          rw [a, List.length_append] at n2
          simp only [List.length_cons, List.length_nil] at n2
          simp only [kA, k1, k2, Bool.false_eq_true, if_false, hvN]
          rw [if_pos (by omega)]
        · rw [if_neg (fun z => q (hm2.mp z)), if_neg (by omega)]
          exact .inl ⟨q, rfl⟩
      | under a b c d =>
        obtain ⟨A, a, b⟩ : ∃ A, S.ws = A ++ [l, u] ∧ S.en = A.length := ⟨_, a, b⟩
        have hd : S.ws.dropLast = A ++ [l] := by rw [a, show A ++ [l, u] = (A ++ [l]) ++ [u] by simp, List.dropLast_concat]
        have hw : S.ws = S.ws.dropLast ++ [u] := by rw [hd, a]; simp
        have hlen : S.low.toNat ≤ S.ws.dropLast.length := by rw [List.length_dropLast]; omega
        have e5 : S.ws.drop S.low.toNat = S.ws.dropLast.drop S.low.toNat ++ [u] := by
          conv => lhs; rw [hw]
          rw [List.drop_append_of_le_length hlen]
        have hdl : S.ws.dropLast.length = A.length + 1 := by rw [hd, List.length_append]; rfl
        have hwl : S.ws.length = A.length + 2 := by rw [a, List.length_append]; rfl
        have hm2 := hmem v
        rw [if_pos rfl] at hm2
        by_cases q1 : v ∈ S.ws.dropLast.drop S.low.toNat
        · have q : v ∈ S.ws.drop S.low.toNat := by rw [e5]; exact List.mem_append_left _ q1
          obtain ⟨i, qi⟩ := num_of hk q
          obtain ⟨n1, n2, n3, n4⟩ := hnum i qi
          obtain ⟨k1, k2⟩ := htk i qi
          rw [if_pos (hm2.mpr q1)]
          refine .inr ⟨fun z => z q, l, u, val_told (.under a b c d), ?_⟩
          have hi : i < S.ws.dropLast.length := by
            obtain ⟨j, hj1, hj2⟩ := drop_mem.mp q1
            have hj3 := (List.getElem?_eq_some_iff.mp hj2).1
            by_cases z : i ≤ j
            · omega
            · have hj4 : S.ws[j]? = some v := by rw [hw, List.getElem?_append_left hj3]; exact hj2
              exact absurd hj4 (n4 j hj1 (by omega))
          simp only [kA, k1, k2, Bool.false_eq_true, if_false, hvN]
          rw [if_pos (by omega)]
        · rw [if_neg (fun z => q1 (hm2.mp z))]
          by_cases q2 : v = u
          · have q : v ∈ S.ws.drop S.low.toNat := by rw [e5, q2]; exact List.mem_append_right _ (.head _)
            obtain ⟨i, qi⟩ := num_of hk q
            obtain ⟨n1, n2, n3, n4⟩ := hnum i qi
            obtain ⟨k1, k2⟩ := htk i qi
            rw [if_pos q2]
            refine .inr ⟨fun z => z q, l, u, val_told (.under a b c d), ?_⟩
            have hi : ¬ i < S.ws.dropLast.length := fun z => by
              rw [hw, List.getElem?_append_left z] at n3
              exact q1 (drop_mem.mpr ⟨i, by omega, n3⟩)
            simp only [kA, k1, k2, Bool.false_eq_true, if_false, hvN]
            rw [if_neg (by omega)]
          · rw [if_neg q2]
            refine .inl ⟨fun z => ?_, rfl⟩
            rw [e5] at z
            rcases List.mem_append.mp z with z | z
            · exact q1 z
            · exact q2 (List.mem_singleton.mp z)
    · cases ho

theorem dats_ints : ∀ {ns : List Int}, dats (ns.map D.int) = true
  | [] => rfl
  | x :: r => by show (dat (.int x) && dats (r.map D.int)) = true; rw [dats_ints]; rfl
theorem deps_ints : ∀ {ns : List Int}, deps (ns.map D.int) = 0
  | [] => rfl
  | x :: r => by show max (dep (.int x)) (deps (r.map D.int)) = 0; rw [deps_ints]; rfl
theorem eq_nil_run {ns : List Int} {m : Mem} {Q : D → Mem → Prop} {E : Xn → Mem → Prop} : (dEq (.lst (ns.map D.int)) (.lst [])).run m Q E = Q (.bl ns.isEmpty) m := by
  have h3 : okEq (.lst (ns.map D.int)) (.lst []) = true := by
    have h1 : dat (.lst (ns.map D.int)) = true := dats_ints
    have h2 : dep (.lst (ns.map D.int)) = 1 := congrArg (· + 1) deps_ints
    unfold okEq; rw [h1, h2]; rfl
  unfold dEq
  rw [if_pos h3]
  cases ns <;> rfl

local macro_rules | `(tactic| walk_at "d") => `(tactic| simp -implicitDefEqProofs only [↓DL.k_F, ↓DL.k_M, ↓DL.k_onV, ↓DL.k_onL, ↓DL.k_onO, ↓DL.k_onN, ↓DL.r_C, ↓DL.r_var, ↓DL.k_Op2, ↓DL.k_Op, ↓DL.r_op, ↓DL.r_un, ↓DL.r_app, ↓DL.r_call, ↓DL.r_callF, ↓DL.k_CK2, ↓DL.k_CK, ↓DL.r_callK, ↓DL.r_callKF, ↓DL.r_nil, ↓DL.k_A2, ↓DL.k_A, ↓DL.r_cons, ↓DL.k_AndT, ↓DL.k_AndF, ↓DL.r_and, ↓DL.k_OrT, ↓DL.k_OrF, ↓DL.r_or, ↓DL.k_Not, ↓DL.r_not, ↓DL.k_EIfT, ↓DL.k_EIfF, ↓DL.r_eIf, ↓DL.k_Ch3T, ↓DL.k_Ch3F, ↓DL.k_Ch2, ↓DL.k_Ch1, ↓DL.r_chain, ↓DL.k_T, ↓DL.r_of, ↓DL.k_TAT, ↓DL.k_TAF, ↓DL.r_tand, ↓DL.k_TOT, ↓DL.k_TOF, ↓DL.r_tor, ↓DL.k_TN, ↓DL.r_tnot, ↓DL.r_tTrue, ↓DL.k_Asg, ↓DL.r_asg, ↓DL.k_Nx, ↓DL.r_expr, ↓DL.k_Rt, ↓DL.r_ret, ↓DL.r_retN, ↓DL.k_IfT, ↓DL.k_IfF, ↓DL.r_if, ↓DL.r_seq, ↓DL.r_next, ↓DL.r_break, ↓DL.r_cont, ↓DL.r_stuck, ↓DL.k_G, ↓DL.r_asgG, ↓DL.k_For, ↓DL.r_for, ↓DL.k_SI3, ↓DL.k_SI2, ↓DL.k_SI, ↓DL.r_setItemS, ↓DL.k_Ap3, ↓DL.k_Ap2, ↓DL.k_Ap1, ↓DL.r_apd, ↓DL.r_gN, ↓DL.r_iSeq, ↓DL.r_iApp, ↓DL.k_Body, ↓DL.k_Sl3, ↓DL.k_Sl2, ↓DL.k_Sl1, ↓DL.r_sl, ↓DL.r_oNone, ↓DL.k_OS, ↓DL.r_oSome, ↓DL.r_slT, ↓DL.r_slL, ↓DL.r_slS, ↓DL.r_retL, ↓DL.r_newL, ↓DL.r_lc, ↓DL.r_lcM, ↓DL.r_add, ↓DL.r_sub, ↓DL.r_mod, ↓DL.r_div, ↓DL.r_pow1018, ↓DL.r_lt, ↓DL.r_le, ↓DL.r_gt, ↓DL.r_ge, ↓DL.r_neg, ↓DL.r_eqII, ↓DL.r_neII, ↓DL.r_eqSS, ↓DL.r_neSS, ↓DL.r_eqBB, ↓DL.r_neBB, ↓DL.r_isN, ↓DL.r_isB, ↓DL.r_notN, ↓DL.r_int1, ↓DL.r_intb, ↓DL.r_abs, ↓DL.k_Get, ↓DL.r_ixT, ↓DL.r_ixL, ↓DL.r_asLR, ↓DL.r_asLL, ↓DL.r_ixRef, ↓DL.r_lenT, ↓DL.r_lenL, ↓DL.k_Len, ↓DL.r_lenRef, ↓DL.r_sumRef, ↓DL.k_SetJ, ↓DL.k_Set, ↓DL.r_setRef, ↓DL.k_App, ↓DL.r_appRef, ↓DL.r_tup0, ↓DL.r_tup1, ↓DL.r_tup2, ↓DL.r_tup3, ↓DL.r_tup4, ↓DL.r_tup5, ↓DL.r_tup6, ↓DL.r_tup7, ↓DL.r_tup8, ↓DL.r_lst0, ↓DL.r_ref0, ↓DL.r_ref1, ↓DL.r_ref2, ↓DL.r_ref3, ↓DL.r_ref4, ↓DL.r_ref5, ↓DL.r_ref6, ↓DL.r_listL, ↓DL.r_listT, ↓DL.r_tupleL, ↓DL.r_seqT, ↓DL.r_seqL, ↓DL.r_range1, ↓DL.r_range2, ↓DL.r_strEq, ↓DL.r_strEq2, ↓DL.r_isT0, ↓DL.r_isT1, ↓DL.r_isT2, ↓DL.r_isT3, ↓DL.r_isT4, ↓DL.r_isT5, ↓DL.r_isT6, ↓DL.r_isT7, ↓DL.r_isT8, ↓DL.r_isT9, ↓DL.r_isT10, ↓DL.r_isT11, ↓DL.r_isT12, ↓DL.r_isT13, ↓DL.r_isT14, ↓DL.r_isT15, ↓DL.r_isT16, ↓DL.r_isT17, ↓DL.r_isT18, ↓DL.r_isT19, ↓DL.r_isT20, ↓DL.r_isT21, ↓DL.r_isT22, ↓DL.r_isT23, ↓DL.r_isT24, ↓DL.r_isT25, ↓DL.r_isT26, ↓DL.r_isT27, ↓DL.r_isT28, ↓DL.r_isT29, ↓DL.r_isT30, ↓DL.r_isT31, ↓DL.r_isT32, ↓DL.r_isT33, ↓DL.r_isT34, ↓DL.r_isT35, ↓DL.r_isiN, ↓DL.r_isi2N, ↓DL.r_isiB, ↓DL.r_isi2B, ↓DL.r_isiI, ↓DL.r_isi2I, ↓DL.r_isiS, ↓DL.r_isi2S, ↓DL.r_isiT, ↓DL.r_isi2T, ↓DL.r_isiL, ↓DL.r_isi2L, ↓DL.r_inTI, ↓DL.r_ninTI, ↓DL.r_inLI, ↓DL.r_ninLI, ↓DL.r_inTS, ↓DL.r_inD_nil, ↓DL.r_inD_cons, ↓DL.r_flat_nil, ↓DL.r_flat_cons, ↓DL.r_flatS, ↓DL.r_flatI, ↓DL.r_eqvSS, ↓DL.r_eqvII, ↓DL.r_addLL, ↓DL.r_atm1, ↓DL.r_atm2, ↓DL.r_at0, ↓DL.r_at1, ↓DL.r_at2, ↓DL.r_at3, ↓DL.r_at4, ↓DL.r_at5, ↓DL.r_at6, ↓DL.r_at7, ↓DL.r_at8, ↓DL.r_beqI, ↓DL.r_ndec, ↓DL.r_gT, ↓DL.k_Gs, ↓DL.r_gsCons, ↓DL.r_gsNil, ↓DL.r_isDNN, ↓DL.r_isDBB, ↓DL.r_isDBN, ↓DL.r_isDNB, ↓DL.r_isDIN, ↓DL.r_isDIB, ↓DL.r_isDSN, ↓DL.r_isDSB, ↓DL.r_isDTN, ↓DL.r_isDTB, ↓DL.r_isDLN, ↓DL.r_isDLB, ↓DL.r_isDRN, ↓DL.r_isDRB, ↓DL.r_beqTT, ↓DL.r_beqTF, ↓DL.r_beqFT, ↓DL.r_beqFF, ↓DL.k_onI, ↓DL.k_Fld2, ↓DL.r_fld, ↓DL.k_FldR, ↓DL.k_FldO, ↓DL.r_look, ↓DL.r_lookN, ↓DL.r_putD, ↓DL.r_putDN, ↓DL.k_SF3, ↓DL.r_setFldR, ↓DL.k_SF2, ↓DL.k_SF1, ↓DL.r_setFld, ↓DL.r_methF, ↓DL.k_Me2, ↓DL.r_meth, ↓DL.k_MeR, ↓DL.k_MeO, ↓DL.r_make, ↓DL.k_MkN, ↓DL.r_makeF, ↓DL.k_CG2, ↓DL.k_CG, ↓DL.r_callG, ↓DL.r_callGF, ↓DL.r_listRg, ↓DL.r_tupRg, ↓DL.k_SlR, ↓DL.r_slR, ↓DL.r_enumL, ↓DL.r_max2, ↓DL.r_min2, ↓DL.r_isi2R, ↓DL.r_isiR, ↓DL.r_lst1, ↓DL.r_lst2, ↓DL.r_lst3, ↓DL.r_lst4, ↓DL.r_lst5, ↓DL.r_lst6, ↓DL.r_lst7, ↓DL.r_lst8, ↓DL.r_lst9, ↓DL.r_lst10, ↓DL.r_lst11, ↓DL.r_lst12, ↓DL.r_seqR, ↓DL.k_ForR, ↓DL.r_minL, ↓DL.r_clr, ↓DL.k_Clr1R, ↓DL.k_LstR, ↓DL.r_listRef, ↓DL.k_Clr2, ↓DL.Kt.seq_nx, ↓DL.Kt.seq_rt, ↓DL.Kt.seq_bk, ↓DL.Kt.seq_ct, ↓DL.Kt.seq_ex, ↓DL.Kt.fin_nx, ↓DL.Kt.fin_rt, ↓DL.Kt.fin_ex, ↓DL.Kt.loop_nx, ↓DL.Kt.loop_rt, ↓DL.Kt.loop_bk, ↓DL.Kt.loop_ct, ↓DL.Kt.loop_ex, ↓DL.C.run_ret, ↓DL.mset_same, ↓DL.mset_mset, startD, ixN, Option.bind_some, Option.map_some, List.map_cons, List.map_nil, List.length_cons, List.length_nil, List.length_set, List.replicate, List.cons_append, List.nil_append, List.append_nil, List.set_cons_zero, List.set_cons_succ, List.getElem?_cons_zero, List.getElem?_cons_succ, Nat.reduceAdd, Nat.reduceSub, Nat.zero_add, if_true, if_false, decide_eq_true_eq, reduceIte, Bool.not_true, Bool.not_false, beq_self_eq_true, Bool.false_eq_true, Int.reduceLT, Int.reduceLE, Int.reduceNeg, Int.reduceToNat, Int.reduceAdd, Int.reduceSub, Nat.reduceLT, Nat.reduceLeDiff, Int.cast_ofNat_Int, Int.reduceEq, Int.reduceBEq, DL.wipeD, decide_true, decide_false, not_true_eq_false, not_false_eq_true, String.reduceEq, Bool.or_true, Bool.or_false, Bool.true_or, Bool.false_or, Bool.and_true, Bool.and_false, Bool.true_and, Bool.false_and, Bool.not_not, Nat.reduceEqDiff, Int.toNat_natCast, Decidable.not_not, List.mem_cons, List.not_mem_nil, or_false, or_true, true_or, false_or, and_true, true_and, and_self, and_false, false_and, reduceCtorEq, Option.isNone_some, Option.isNone_none, Option.isSome_some, Option.isSome_none, ↓c_isint, ↓c_rowL, ↓c_rowT, cs_size, cs_written, cs_ended, cs_writing, cs_reading, cs_low, cs_least])
local macro_rules | `(tactic| walk_at "h") => `(tactic| simp -implicitDefEqProofs only [↓DL.k_F, ↓DL.k_M, ↓DL.k_onV, ↓DL.k_onL, ↓DL.k_onO, ↓DL.k_onN, ↓DL.r_C, ↓DL.r_var, ↓DL.k_Op2, ↓DL.k_Op, ↓DL.r_op, ↓DL.r_un, ↓DL.r_app, ↓DL.r_call, ↓DL.r_callF, ↓DL.k_CK2, ↓DL.k_CK, ↓DL.r_callK, ↓DL.r_callKF, ↓DL.r_nil, ↓DL.k_A2, ↓DL.k_A, ↓DL.r_cons, ↓DL.k_AndT, ↓DL.k_AndF, ↓DL.r_and, ↓DL.k_OrT, ↓DL.k_OrF, ↓DL.r_or, ↓DL.k_Not, ↓DL.r_not, ↓DL.k_EIfT, ↓DL.k_EIfF, ↓DL.r_eIf, ↓DL.k_Ch3T, ↓DL.k_Ch3F, ↓DL.k_Ch2, ↓DL.k_Ch1, ↓DL.r_chain, ↓DL.k_T, ↓DL.r_of, ↓DL.k_TAT, ↓DL.k_TAF, ↓DL.r_tand, ↓DL.k_TOT, ↓DL.k_TOF, ↓DL.r_tor, ↓DL.k_TN, ↓DL.r_tnot, ↓DL.r_tTrue, ↓DL.k_Asg, ↓DL.r_asg, ↓DL.k_Nx, ↓DL.r_expr, ↓DL.k_Rt, ↓DL.r_ret, ↓DL.r_retN, ↓DL.k_IfT, ↓DL.k_IfF, ↓DL.r_if, ↓DL.r_seq, ↓DL.r_next, ↓DL.r_break, ↓DL.r_cont, ↓DL.r_stuck, ↓DL.k_G, ↓DL.r_asgG, ↓DL.k_For, ↓DL.r_for, ↓DL.k_SI3, ↓DL.k_SI2, ↓DL.k_SI, ↓DL.r_setItemS, ↓DL.k_Ap3, ↓DL.k_Ap2, ↓DL.k_Ap1, ↓DL.r_apd, ↓DL.r_gN, ↓DL.r_iSeq, ↓DL.r_iApp, ↓DL.k_Body, ↓DL.k_Sl3, ↓DL.k_Sl2, ↓DL.k_Sl1, ↓DL.r_sl, ↓DL.r_oNone, ↓DL.k_OS, ↓DL.r_oSome, ↓DL.r_slT, ↓DL.r_slL, ↓DL.r_slS, ↓DL.r_retL, ↓DL.r_newL, ↓DL.r_lc, ↓DL.r_lcM, ↓DL.r_add, ↓DL.r_sub, ↓DL.r_mod, ↓DL.r_div, ↓DL.r_pow1018, ↓DL.r_lt, ↓DL.r_le, ↓DL.r_gt, ↓DL.r_ge, ↓DL.r_neg, ↓DL.r_eqII, ↓DL.r_neII, ↓DL.r_eqSS, ↓DL.r_neSS, ↓DL.r_eqBB, ↓DL.r_neBB, ↓DL.r_isN, ↓DL.r_isB, ↓DL.r_notN, ↓DL.r_int1, ↓DL.r_intb, ↓DL.r_abs, ↓DL.k_Get, ↓DL.r_ixT, ↓DL.r_ixL, ↓DL.r_asLR, ↓DL.r_asLL, ↓DL.r_ixRef, ↓DL.r_lenT, ↓DL.r_lenL, ↓DL.k_Len, ↓DL.r_lenRef, ↓DL.r_sumRef, ↓DL.k_SetJ, ↓DL.k_Set, ↓DL.r_setRef, ↓DL.k_App, ↓DL.r_appRef, ↓DL.r_tup0, ↓DL.r_tup1, ↓DL.r_tup2, ↓DL.r_tup3, ↓DL.r_tup4, ↓DL.r_tup5, ↓DL.r_tup6, ↓DL.r_tup7, ↓DL.r_tup8, ↓DL.r_lst0, ↓DL.r_ref0, ↓DL.r_ref1, ↓DL.r_ref2, ↓DL.r_ref3, ↓DL.r_ref4, ↓DL.r_ref5, ↓DL.r_ref6, ↓DL.r_listL, ↓DL.r_listT, ↓DL.r_tupleL, ↓DL.r_seqT, ↓DL.r_seqL, ↓DL.r_range1, ↓DL.r_range2, ↓DL.r_strEq, ↓DL.r_strEq2, ↓DL.r_isT0, ↓DL.r_isT1, ↓DL.r_isT2, ↓DL.r_isT3, ↓DL.r_isT4, ↓DL.r_isT5, ↓DL.r_isT6, ↓DL.r_isT7, ↓DL.r_isT8, ↓DL.r_isT9, ↓DL.r_isT10, ↓DL.r_isT11, ↓DL.r_isT12, ↓DL.r_isT13, ↓DL.r_isT14, ↓DL.r_isT15, ↓DL.r_isT16, ↓DL.r_isT17, ↓DL.r_isT18, ↓DL.r_isT19, ↓DL.r_isT20, ↓DL.r_isT21, ↓DL.r_isT22, ↓DL.r_isT23, ↓DL.r_isT24, ↓DL.r_isT25, ↓DL.r_isT26, ↓DL.r_isT27, ↓DL.r_isT28, ↓DL.r_isT29, ↓DL.r_isT30, ↓DL.r_isT31, ↓DL.r_isT32, ↓DL.r_isT33, ↓DL.r_isT34, ↓DL.r_isT35, ↓DL.r_isiN, ↓DL.r_isi2N, ↓DL.r_isiB, ↓DL.r_isi2B, ↓DL.r_isiI, ↓DL.r_isi2I, ↓DL.r_isiS, ↓DL.r_isi2S, ↓DL.r_isiT, ↓DL.r_isi2T, ↓DL.r_isiL, ↓DL.r_isi2L, ↓DL.r_inTI, ↓DL.r_ninTI, ↓DL.r_inLI, ↓DL.r_ninLI, ↓DL.r_inTS, ↓DL.r_inD_nil, ↓DL.r_inD_cons, ↓DL.r_flat_nil, ↓DL.r_flat_cons, ↓DL.r_flatS, ↓DL.r_flatI, ↓DL.r_eqvSS, ↓DL.r_eqvII, ↓DL.r_addLL, ↓DL.r_atm1, ↓DL.r_atm2, ↓DL.r_at0, ↓DL.r_at1, ↓DL.r_at2, ↓DL.r_at3, ↓DL.r_at4, ↓DL.r_at5, ↓DL.r_at6, ↓DL.r_at7, ↓DL.r_at8, ↓DL.r_beqI, ↓DL.r_ndec, ↓DL.r_gT, ↓DL.k_Gs, ↓DL.r_gsCons, ↓DL.r_gsNil, ↓DL.r_isDNN, ↓DL.r_isDBB, ↓DL.r_isDBN, ↓DL.r_isDNB, ↓DL.r_isDIN, ↓DL.r_isDIB, ↓DL.r_isDSN, ↓DL.r_isDSB, ↓DL.r_isDTN, ↓DL.r_isDTB, ↓DL.r_isDLN, ↓DL.r_isDLB, ↓DL.r_isDRN, ↓DL.r_isDRB, ↓DL.r_beqTT, ↓DL.r_beqTF, ↓DL.r_beqFT, ↓DL.r_beqFF, ↓DL.k_onI, ↓DL.k_Fld2, ↓DL.r_fld, ↓DL.k_FldR, ↓DL.k_FldO, ↓DL.r_look, ↓DL.r_lookN, ↓DL.r_putD, ↓DL.r_putDN, ↓DL.k_SF3, ↓DL.r_setFldR, ↓DL.k_SF2, ↓DL.k_SF1, ↓DL.r_setFld, ↓DL.r_methF, ↓DL.k_Me2, ↓DL.r_meth, ↓DL.k_MeR, ↓DL.k_MeO, ↓DL.r_make, ↓DL.k_MkN, ↓DL.r_makeF, ↓DL.k_CG2, ↓DL.k_CG, ↓DL.r_callG, ↓DL.r_callGF, ↓DL.r_listRg, ↓DL.r_tupRg, ↓DL.k_SlR, ↓DL.r_slR, ↓DL.r_enumL, ↓DL.r_max2, ↓DL.r_min2, ↓DL.r_isi2R, ↓DL.r_isiR, ↓DL.r_lst1, ↓DL.r_lst2, ↓DL.r_lst3, ↓DL.r_lst4, ↓DL.r_lst5, ↓DL.r_lst6, ↓DL.r_lst7, ↓DL.r_lst8, ↓DL.r_lst9, ↓DL.r_lst10, ↓DL.r_lst11, ↓DL.r_lst12, ↓DL.r_seqR, ↓DL.k_ForR, ↓DL.r_minL, ↓DL.r_clr, ↓DL.k_Clr1R, ↓DL.k_LstR, ↓DL.r_listRef, ↓DL.k_Clr2, ↓DL.Kt.seq_nx, ↓DL.Kt.seq_rt, ↓DL.Kt.seq_bk, ↓DL.Kt.seq_ct, ↓DL.Kt.seq_ex, ↓DL.Kt.fin_nx, ↓DL.Kt.fin_rt, ↓DL.Kt.fin_ex, ↓DL.Kt.loop_nx, ↓DL.Kt.loop_rt, ↓DL.Kt.loop_bk, ↓DL.Kt.loop_ct, ↓DL.Kt.loop_ex, ↓DL.C.run_ret, ↓DL.mset_same, ↓DL.mset_mset, startD, ixN, Option.bind_some, Option.map_some, List.map_cons, List.map_nil, List.length_cons, List.length_nil, List.length_set, List.replicate, List.cons_append, List.nil_append, List.append_nil, List.set_cons_zero, List.set_cons_succ, List.getElem?_cons_zero, List.getElem?_cons_succ, Nat.reduceAdd, Nat.reduceSub, Nat.zero_add, if_true, if_false, decide_eq_true_eq, reduceIte, Bool.not_true, Bool.not_false, beq_self_eq_true, Bool.false_eq_true, Int.reduceLT, Int.reduceLE, Int.reduceNeg, Int.reduceToNat, Int.reduceAdd, Int.reduceSub, Nat.reduceLT, Nat.reduceLeDiff, Int.cast_ofNat_Int, Int.reduceEq, Int.reduceBEq, DL.wipeD, decide_true, decide_false, not_true_eq_false, not_false_eq_true, String.reduceEq, Bool.or_true, Bool.or_false, Bool.true_or, Bool.false_or, Bool.and_true, Bool.and_false, Bool.true_and, Bool.false_and, Bool.not_not, Nat.reduceEqDiff, Int.toNat_natCast, Decidable.not_not, List.mem_cons, List.not_mem_nil, or_false, or_true, true_or, false_or, and_true, true_and, and_self, and_false, false_and, reduceCtorEq, Option.isNone_some, Option.isNone_none, Option.isSome_some, Option.isSome_none, ↓c_isint, ↓c_rowL, ↓c_rowT, cs_size, cs_written, cs_ended, cs_writing, cs_reading, cs_low, cs_least, *])
local macro_rules | `(tactic| walk_at "s") => `(tactic| ((try walk_at "h"); repeat' ((first | with_reducible refine if_dec (fun _ => ?_) (fun _ => ?_) | with_reducible refine eif_dec (fun _ => ?_) (fun _ => ?_) | with_reducible refine tor_dec (fun _ => ?_) (fun _ => ?_) | with_reducible refine tand_dec (fun _ => ?_) (fun _ => ?_) | with_reducible refine and_dec (fun _ => ?_) (fun _ => ?_) | with_reducible refine or_dec (fun _ => ?_) (fun _ => ?_) | with_reducible refine ch_dec (fun _ => ?_) (fun _ => ?_)) <;> (try walk_at "h"))))
/-- the numbers that fit; a: each one must not be less than one of L -/
def fitQ (a : Bool) (W L : List Int) (lo hi v : Int) : List Int := (ivl lo hi).filter fun n => decide (W.getD n.toNat 0 = v) && (!a || L.any fun x => decide (x ≤ n))
theorem fitQ_snoc {a : Bool} {W L : List Int} {lo hi v : Int} (h : lo ≤ hi) : fitQ a W L lo (hi + 1) v = fitQ a W L lo hi v ++ (if (decide (W.getD hi.toNat 0 = v) && (!a || L.any fun x => decide (x ≤ hi))) = true then [hi] else []) := by
  unfold fitQ
  rw [ivl_succ h, List.filter_append]
  congr 1
  rw [List.filter_cons]; rfl
theorem fitQ_len {a : Bool} {W L : List Int} {lo hi v : Int} : (fitQ a W L lo hi v).length ≤ (hi - lo).toNat := by
  unfold fitQ ivl
  exact Nat.le_trans (List.length_filter_le _ _) (by rw [List.length_map, List.length_range]; exact Nat.le_refl _)
theorem fitQ_true {W L : List Int} {lo hi v : Int} : fitQ true W L lo hi v = fits W L lo hi v := by
  unfold fitQ fits fitP
  congr 1
theorem fitQ_false {W L : List Int} {lo hi v : Int} : fitQ false W L lo hi v = fitN W lo hi v := by
  unfold fitQ fitN
  congr 1
  funext n
  simp
theorem badR_fit {t : Td} {n0 : Nat} {W : List Int} {size : Int} (ht : t.ok n0 W size) : badR t = (fitN W t.S.lo (t.S.ws.length : Int) t.v).isEmpty := by
  obtain ⟨hk, ⟨r, hW⟩, _, _⟩ := ht
  have hl0 := hk.l0
  have key : ∀ n : Int, n ∈ fitN W t.S.lo (t.S.ws.length : Int) t.v ↔ t.S.lo ≤ n ∧ n < t.S.ws.length ∧ t.S.ws[n.toNat]? = some t.v := by
    intro n
    unfold fitN
    rw [List.mem_filter, mem_ivl, decide_eq_true_eq]
    have key : 0 ≤ n → n < t.S.ws.length → (W.getD n.toNat 0 = t.v ↔ t.S.ws[n.toNat]? = some t.v) := by
      intro h0 h1
      have hlt : n.toNat < t.S.ws.length := by omega
      have e : W[n.toNat]? = t.S.ws[n.toNat]? := by rw [hW, List.getElem?_append_left hlt]
      rw [← e, getD_some (by rw [hW, List.length_append]; omega)]
      exact ⟨fun z => congrArg some z, fun z => Option.some.inj z⟩
    constructor
    · rintro ⟨⟨h1, h2⟩, h3⟩; exact ⟨h1, h2, (key (by omega) h2).mp h3⟩
    · rintro ⟨h1, h2, h3⟩; exact ⟨⟨h1, h2⟩, (key (by omega) h2).mpr h3⟩
  unfold badR
  cases h : fitN W t.S.lo (t.S.ws.length : Int) t.v with
  | nil =>
    rw [decide_eq_false]
    · rfl
    · intro z
      obtain ⟨n, h1, h2⟩ := drop_mem.mp z
      have hlt := (List.getElem?_eq_some_iff.mp h2).1
      have : (n : Int) ∈ fitN W t.S.lo (t.S.ws.length : Int) t.v := (key n).mpr ⟨by omega, by omega, by rw [Int.toNat_natCast]; exact h2⟩
      rw [h] at this; cases this
  | cons x r =>
    obtain ⟨h1, h2, h3⟩ := (key x).mp (by rw [h]; exact .head _)
    rw [decide_eq_true (drop_mem.mpr ⟨x.toNat, by omega, h3⟩)]; rfl
theorem brk_inner {n0 : Nat} {size : Int} {P : Str} (hP : P = "safe" ∨ P = "regular" ∨ P = "atomic") {W L : List Int} {t : Td} (ht : t.ok n0 W size) (hn : n0 ≤ 100) (hL : L.length ≤ 1000) (z0 z1 z8 : Option D) (T X6 : D) (f : Addr) (m : Mem) (K : Kt) (yy : Option D) (w : List D)
    (hK : ∀ y7, K.nx [z0, z1, some (.str P), some (.tup [T, .lst (W.map D.int), X6]), some (.lst (L.map D.int)), some (quad t), some (.ref f), y7, z8] (mset m f (.lst ((fitQ (decide (P = "atomic")) W L t.S.lo (t.S.ws.length : Int) t.v).map D.int)))) :
    forD w none (gN 7) p__law_breaks_b0 K (rng t.S.lo ((t.S.ws.length : Int) - 1 + 1)) [z0, z1, some (.str P), some (.tup [T, .lst (W.map D.int), X6]), some (.lst (L.map D.int)), some (quad t), some (.ref f), yy, z8] (mset m f (.lst [])) := by
  obtain ⟨hk, ⟨r, hW⟩, hv0, hv1⟩ := ht
  have e0 : (t.S.ws.length : Int) - 1 + 1 = t.S.ws.length := by omega
  rw [e0]
  have hl0 := hk.l0; have hl1 := hk.l1; have hn0 := hk.n0
  have hWl : t.S.ws.length ≤ W.length := by rw [hW, List.length_append]; omega
  refine for_range2 (by omega) (fun i δ m' => m' = mset m f (.lst ((fitQ (decide (P = "atomic")) W L t.S.lo i t.v).map D.int)) ∧ ∃ y7, δ = [z0, z1, some (.str P), some (.tup [T, .lst (W.map D.int), X6]), some (.lst (L.map D.int)), some (quad t), some (.ref f), y7, z8]) ⟨?_, yy, rfl⟩ ?_ ?_
  · unfold fitQ; rw [ivl_self]; rfl
  · rintro i δ m1 hi0 hi1 ⟨rfl, y7, rfl⟩
    have eg := getD_at (ns := W) (i := i) (by omega) (by omega)
    have hz : ((fitQ (decide (P = "atomic")) W L t.S.lo i t.v).map D.int).length < sizeLine := by
      rw [List.length_map]; exact Nat.lt_of_le_of_lt fitQ_len (Nat.lt_of_lt_of_le (show _ < 1001 by omega) (by decide))
    rw [fitQ_snoc hi0]
    clear hW
    generalize W.getD i.toNat 0 = u at *
    generalize hG : (if (decide (u = t.v) && (!decide (P = "atomic") || L.any fun x => decide (x ≤ i))) = true then [i] else []) = G
    generalize fitQ (decide (P = "atomic")) W L t.S.lo i t.v = F at *
    simp only [quad]
    walk_at "d"
    unfold p__law_breaks_b0
    walk_at "d"
    rw [eg]
    walk_at "d"
    clear hK eg
    refine if_dec (fun z => ?_) (fun z => ?_)
    · rw [decide_eq_true z, Bool.true_and] at hG
      by_cases hA : P = "atomic"
      · subst hA
        rw [decide_eq_true rfl] at hG
        simp only [Bool.not_true, Bool.false_or] at hG
        walk_at "d"
        refine lc_map (f := id) (pf := leD i) (by rw [List.length_map]; exact Nat.le_trans hL (by decide)) (fun x hx Y N y1 y2 => ?_) ?_
        · obtain ⟨k, _, rfl⟩ := List.mem_map.mp hx
          walk_at "d"
          by_cases hq : k ≤ i
          · rw [if_pos hq]; exact y1 (decide_eq_true hq)
          · rw [if_neg hq]; exact y2 (decide_eq_false hq)
        · walk_at "d"
          rw [any_len]
          refine if_bool (fun z2 => ?_) (fun z2 => ?_)
          · rw [z2, if_pos rfl] at hG
            subst hG
            walk_at "d"
            simp only [k_App hz]
            walk_at "d"
            rw [ints_snoc]
            exact ⟨rfl, _, rfl⟩
          · rw [z2, if_neg (by decide)] at hG
            subst hG
            rw [List.append_nil]
            walk_at "d"
            exact ⟨_, rfl⟩
      · rw [decide_eq_false hA] at hG
        simp only [Bool.not_false, Bool.true_or, if_true] at hG
        subst hG
        rcases hP with rfl | rfl | rfl
        · walk_at "d"
          simp only [k_App hz]
          walk_at "d"
          rw [ints_snoc]
          exact ⟨rfl, _, rfl⟩
        · walk_at "d"
          simp only [k_App hz]
          walk_at "d"
          rw [ints_snoc]
          exact ⟨rfl, _, rfl⟩
        · exact absurd rfl hA
    · rw [decide_eq_false z, Bool.false_and, if_neg (by decide)] at hG
      subst hG
      rw [List.append_nil]
      walk_at "d"
      exact ⟨_, rfl⟩
  · rintro δ m1 ⟨rfl, y7, rfl⟩
    exact hK y7
def badP (P : Str) : Td → Bool := if P = "safe" then badS else if P = "regular" then badR else badA
structure BI (P : Str) (z0 z1 : Option D) (T X6 : D) (W : List Int) (m0 : Mem) (pre : List Td) (δ : DSt) (m : Mem) : Prop where
  ex : m = m0 ∧ ∃ (L : List Int) (y5 y6 y7 y8 : Option D), δ = [z0, z1, some (.str P), some (.tup [T, .lst (W.map D.int), X6]), some (.lst (L.map D.int)), y5, y6, y7, y8] ∧ L.length ≤ 1000 ∧ pre.find? (badP P) = none ∧ (P = "atomic" → endLe 0 pre ∈ L ∧ ∀ x ∈ L, endLe 0 pre ≤ x)
theorem brk_loop {P : Str} (hP : P = "safe" ∨ P = "regular" ∨ P = "atomic") {T : List Td} {W : List Int} {n : Nat} {size : Int} (hT : ∀ t ∈ T, t.ok n W size) (hn : n ≤ 100) (hc : Chain 0 T) (z0 z1 : Option D) (X6 : D) (m : Mem) (K : Kt) (w : List D)
    (hR : ∀ t, T.find? (badP P) = some t → K.rt (.int t.k) m)
    (hK : T.find? (badP P) = none → ∀ δ, K.nx δ m) :
    forD w none (gN 5) p__law_breaks_b1 K (T.map quad) [z0, z1, some (.str P), some (.tup [.lst (T.map quad), .lst (W.map D.int), X6]), some (.lst [.int 0]), none, none, none, none] m := by
  refine for_map (enc := quad) (BI P z0 z1 (.lst (T.map quad)) X6 W m) ⟨rfl, [0], _, _, _, _, rfl, by simp, rfl, fun _ => ⟨by simp [endLe], by simp [endLe]⟩⟩ ?_ ?_
  · rintro pre t r δ m1 hsp ⟨rfl, L, y5, y6, y7, y8, rfl, hL, hpre, hinv⟩
    have ht := hT t (by rw [hsp]; simp)
    have hle : t.S.le = endLe 0 pre := chain_at (hsp ▸ hc)
    have hfl := Nat.le_trans (fitQ_len (a := decide (P = "atomic")) (W := W) (L := L) (lo := t.S.lo) (hi := t.S.ws.length) (v := t.v)) (show ((t.S.ws.length : Int) - t.S.lo).toNat ≤ 1000 by have := ht.ok.n0; have := ht.ok.l0; omega)
    have hb62 : small62 t.S.lo = true ∧ small62 ((t.S.ws.length : Int) - 1 + 1) = true := by
      have := ht.ok.n0; have := ht.ok.l0; have := ht.ok.l1
      exact ⟨by rw [small62_iff]; omega, by rw [small62_iff]; omega⟩
    rw [← hle] at hinv
    have hfind : badP P t = true → T.find? (badP P) = some t := fun hb => by rw [hsp, List.find?_append, hpre, List.find?_cons, hb]; rfl
    have hbad : badP P t = ((fitQ (decide (P = "atomic")) W L t.S.lo (t.S.ws.length : Int) t.v).isEmpty && (!decide (P = "safe") || decide (t.S.lo = (t.S.ws.length : Int) - 1))) := by
      rcases hP with rfl | rfl | rfl
      · rw [decide_eq_true rfl, decide_eq_false (fun z => ne_as z.symm), fitQ_false, ← badR_fit ht]
        unfold badP; rw [if_pos rfl]; unfold badS; simp
      · rw [decide_eq_false ne_rs, decide_eq_false ne_ra, fitQ_false, ← badR_fit ht]
        unfold badP; rw [if_neg ne_rs, if_pos rfl]; simp
      · rw [decide_eq_false ne_as, decide_eq_true rfl, fitQ_true, ← bad_iff ht (hinv rfl).1 (hinv rfl).2]
        unfold badP; rw [if_neg ne_as, if_neg (fun z => ne_ra z.symm)]; simp
    have hnx : badP P t = false → ∀ y5 y6 y7 y8, BI P z0 z1 (.lst (T.map quad)) X6 W m1 (pre ++ [t]) [z0, z1, some (.str P), some (.tup [.lst (T.map quad), .lst (W.map D.int), X6]), some (.lst ((fitQ (decide (P = "atomic")) W L t.S.lo (t.S.ws.length : Int) t.v).map D.int)), y5, y6, y7, y8] m1 := by
      intro hb y5 y6 y7 y8
      refine ⟨rfl, _, y5, y6, y7, y8, rfl, hfl, by rw [List.find?_append, hpre, List.find?_cons, hb]; rfl, fun hA => ?_⟩
      subst hA
      have hb2 : badA t = false := by unfold badP at hb; rw [if_neg ne_as, if_neg (fun z => ne_ra z.symm)] at hb; exact hb
      rw [endLe_snoc, decide_eq_true rfl, fitQ_true]
      exact least_fit ht (hinv rfl).1 (hinv rfl).2 hb2
    clear hT hc hsp hle
    walk_at "d"
    unfold p__law_breaks_b1
    walk_at "d"
    intro f hf
    have e1 : quad t = .tup [.int t.k, .int t.S.lo, .int ((t.S.ws.length : Int) - 1), .int t.v] := rfl
    rw [e1]
    walk_at "d"
    rw [r_range2 hb62.1 hb62.2]
    walk_at "d"
    rw [← e1]
    refine brk_inner hP ht hn hL _ _ _ _ _ f m1 _ _ _ fun y7' => ?_
    walk_at "d"
    rw [run_sFrz (a := f) rfl mset_same]
    walk_at "d"
    rw [mdel_back hf, eq_nil_run]
    generalize fitQ (decide (P = "atomic")) W L t.S.lo (t.S.ws.length : Int) t.v = F at *
    refine tand_bool (fun zb => ?_) (fun zb => ?_)
    · rw [zb, Bool.true_and] at hbad
      by_cases hS : P = "safe"
      · subst hS
        rw [decide_eq_true rfl] at hbad
        simp only [Bool.not_true, Bool.false_or] at hbad
        rw [e1]
        walk_at "d"
        refine if_dec (fun z => ?_) (fun z => ?_)
        · rw [decide_eq_true z] at hbad
          walk_at "d"
          exact hR t (hfind hbad)
        · rw [decide_eq_false z] at hbad
          walk_at "d"
          exact hnx hbad _ _ _ _
      · rw [decide_eq_false hS] at hbad
        simp only [Bool.not_false, Bool.true_or] at hbad
        rw [e1]
        have hR2 := hR t (hfind hbad)
        rcases hP with rfl | rfl | rfl
        · exact absurd rfl hS
        · walk_at "d"
          exact hR2
        · walk_at "d"
          exact hR2
    · rw [zb, Bool.false_and] at hbad
      walk_at "d"
      exact hnx hbad _ _ _ _
  · rintro δ m1 ⟨rfl, L, y5, y6, y7, y8, rfl, hL, hpre, hinv⟩
    exact hK hpre _
theorem breaks_spec {P : Str} (hP : P = "safe" ∨ P = "regular" ∨ P = "atomic") {evs : List Ev} {z s : Int} {st : Bool × Bool} (hH : hist z evs = some st) (hl : evs.length ≤ 60) {m : Mem} {Q : D → Mem → Prop} {E : Xn → Mem → Prop} (q : Q (fnd (badP P) (tolds (S0 s) 0 evs)) m) : (d__law_breaks [.lst (evs.map Ev.d), .int s, .str P]).run m Q E := by
  unfold d__law_breaks
  refine fn_run ?_
  unfold p__law_breaks
  walk_at "d"
  refine reads_spec (by omega) ?_
  have hT := tolds_ok (k := 0) (N := 62) (size := z) (S0_ok (start := s)) (by omega) hH
  have hC : Chain 0 (tolds (S0 s) 0 evs) := chain_of (S := S0 s)
  walk_at "d"
  refine brk_loop hP hT (by omega) hC _ _ _ _ _ _ (fun t ht => ?_) (fun ht δ => ?_)
  · walk_at "d"
    unfold fnd at q
    rw [ht] at q
    exact q
  · walk_at "d"
    unfold fnd at q
    rw [ht] at q
    exact q
theorem faultP_bad {P : Str} (hP : P = "safe" ∨ P = "regular" ∨ P = "atomic") {evs : List Ev} {z s : Int} {st : Bool × Bool} (hH : hist z evs = some st) (hl : evs.length ≤ 60) : optI (faultP P z (S0 s) 0 evs) = fnd (badP P) (tolds (S0 s) 0 evs) := by
  have hT := tolds_ok (k := 0) (N := 62) (size := z) (S0_ok (start := s)) (by omega) hH
  unfold fnd
  rw [faultP_find]
  congr 2
  refine find_congr fun t ht => ?_
  rcases hP with rfl | rfl | rfl
  · rw [safe_bad (hT t ht)]; unfold badP; rw [if_pos rfl]
  · rw [reg_bad]; unfold badP; rw [if_neg ne_rs, if_pos rfl]
  · rw [ato_bad]; unfold badP; rw [if_neg ne_as, if_neg (fun z => ne_ra z.symm)]

local macro_rules | `(tactic| walk_at "d") => `(tactic| simp -implicitDefEqProofs only [↓DL.k_F, ↓DL.k_M, ↓DL.k_onV, ↓DL.k_onL, ↓DL.k_onO, ↓DL.k_onN, ↓DL.r_C, ↓DL.r_var, ↓DL.k_Op2, ↓DL.k_Op, ↓DL.r_op, ↓DL.r_un, ↓DL.r_app, ↓DL.r_call, ↓DL.r_callF, ↓DL.k_CK2, ↓DL.k_CK, ↓DL.r_callK, ↓DL.r_callKF, ↓DL.r_nil, ↓DL.k_A2, ↓DL.k_A, ↓DL.r_cons, ↓DL.k_AndT, ↓DL.k_AndF, ↓DL.r_and, ↓DL.k_OrT, ↓DL.k_OrF, ↓DL.r_or, ↓DL.k_Not, ↓DL.r_not, ↓DL.k_EIfT, ↓DL.k_EIfF, ↓DL.r_eIf, ↓DL.k_Ch3T, ↓DL.k_Ch3F, ↓DL.k_Ch2, ↓DL.k_Ch1, ↓DL.r_chain, ↓DL.k_T, ↓DL.r_of, ↓DL.k_TAT, ↓DL.k_TAF, ↓DL.r_tand, ↓DL.k_TOT, ↓DL.k_TOF, ↓DL.r_tor, ↓DL.k_TN, ↓DL.r_tnot, ↓DL.r_tTrue, ↓DL.k_Asg, ↓DL.r_asg, ↓DL.k_Nx, ↓DL.r_expr, ↓DL.k_Rt, ↓DL.r_ret, ↓DL.r_retN, ↓DL.k_IfT, ↓DL.k_IfF, ↓DL.r_if, ↓DL.r_seq, ↓DL.r_next, ↓DL.r_break, ↓DL.r_cont, ↓DL.r_stuck, ↓DL.k_G, ↓DL.r_asgG, ↓DL.k_For, ↓DL.r_for, ↓DL.k_SI3, ↓DL.k_SI2, ↓DL.k_SI, ↓DL.r_setItemS, ↓DL.k_Ap3, ↓DL.k_Ap2, ↓DL.k_Ap1, ↓DL.r_apd, ↓DL.r_gN, ↓DL.r_iSeq, ↓DL.r_iApp, ↓DL.k_Body, ↓DL.k_Sl3, ↓DL.k_Sl2, ↓DL.k_Sl1, ↓DL.r_sl, ↓DL.r_oNone, ↓DL.k_OS, ↓DL.r_oSome, ↓DL.r_slT, ↓DL.r_slL, ↓DL.r_slS, ↓DL.r_retL, ↓DL.r_newL, ↓DL.r_lc, ↓DL.r_lcM, ↓DL.r_add, ↓DL.r_sub, ↓DL.r_mod, ↓DL.r_div, ↓DL.r_pow1018, ↓DL.r_lt, ↓DL.r_le, ↓DL.r_gt, ↓DL.r_ge, ↓DL.r_neg, ↓DL.r_eqII, ↓DL.r_neII, ↓DL.r_eqSS, ↓DL.r_neSS, ↓DL.r_eqBB, ↓DL.r_neBB, ↓DL.r_isN, ↓DL.r_isB, ↓DL.r_notN, ↓DL.r_int1, ↓DL.r_intb, ↓DL.r_abs, ↓DL.k_Get, ↓DL.r_ixT, ↓DL.r_ixL, ↓DL.r_asLR, ↓DL.r_asLL, ↓DL.r_ixRef, ↓DL.r_lenT, ↓DL.r_lenL, ↓DL.k_Len, ↓DL.r_lenRef, ↓DL.r_sumRef, ↓DL.k_SetJ, ↓DL.k_Set, ↓DL.r_setRef, ↓DL.k_App, ↓DL.r_appRef, ↓DL.r_tup0, ↓DL.r_tup1, ↓DL.r_tup2, ↓DL.r_tup3, ↓DL.r_tup4, ↓DL.r_tup5, ↓DL.r_tup6, ↓DL.r_tup7, ↓DL.r_tup8, ↓DL.r_lst0, ↓DL.r_ref0, ↓DL.r_ref1, ↓DL.r_ref2, ↓DL.r_ref3, ↓DL.r_ref4, ↓DL.r_ref5, ↓DL.r_ref6, ↓DL.r_listL, ↓DL.r_listT, ↓DL.r_tupleL, ↓DL.r_seqT, ↓DL.r_seqL, ↓DL.r_range1, ↓DL.r_range2, ↓DL.r_strEq, ↓DL.r_strEq2, ↓DL.r_isT0, ↓DL.r_isT1, ↓DL.r_isT2, ↓DL.r_isT3, ↓DL.r_isT4, ↓DL.r_isT5, ↓DL.r_isT6, ↓DL.r_isT7, ↓DL.r_isT8, ↓DL.r_isT9, ↓DL.r_isT10, ↓DL.r_isT11, ↓DL.r_isT12, ↓DL.r_isT13, ↓DL.r_isT14, ↓DL.r_isT15, ↓DL.r_isT16, ↓DL.r_isT17, ↓DL.r_isT18, ↓DL.r_isT19, ↓DL.r_isT20, ↓DL.r_isT21, ↓DL.r_isT22, ↓DL.r_isT23, ↓DL.r_isT24, ↓DL.r_isT25, ↓DL.r_isT26, ↓DL.r_isT27, ↓DL.r_isT28, ↓DL.r_isT29, ↓DL.r_isT30, ↓DL.r_isT31, ↓DL.r_isT32, ↓DL.r_isT33, ↓DL.r_isT34, ↓DL.r_isT35, ↓DL.r_isiN, ↓DL.r_isi2N, ↓DL.r_isiB, ↓DL.r_isi2B, ↓DL.r_isiI, ↓DL.r_isi2I, ↓DL.r_isiS, ↓DL.r_isi2S, ↓DL.r_isiT, ↓DL.r_isi2T, ↓DL.r_isiL, ↓DL.r_isi2L, ↓DL.r_inTI, ↓DL.r_ninTI, ↓DL.r_inLI, ↓DL.r_ninLI, ↓DL.r_inTS, ↓DL.r_inD_nil, ↓DL.r_inD_cons, ↓DL.r_flat_nil, ↓DL.r_flat_cons, ↓DL.r_flatS, ↓DL.r_flatI, ↓DL.r_eqvSS, ↓DL.r_eqvII, ↓DL.r_addLL, ↓DL.r_atm1, ↓DL.r_atm2, ↓DL.r_at0, ↓DL.r_at1, ↓DL.r_at2, ↓DL.r_at3, ↓DL.r_at4, ↓DL.r_at5, ↓DL.r_at6, ↓DL.r_at7, ↓DL.r_at8, ↓DL.r_beqI, ↓DL.r_ndec, ↓DL.r_gT, ↓DL.k_Gs, ↓DL.r_gsCons, ↓DL.r_gsNil, ↓DL.r_isDNN, ↓DL.r_isDBB, ↓DL.r_isDBN, ↓DL.r_isDNB, ↓DL.r_isDIN, ↓DL.r_isDIB, ↓DL.r_isDSN, ↓DL.r_isDSB, ↓DL.r_isDTN, ↓DL.r_isDTB, ↓DL.r_isDLN, ↓DL.r_isDLB, ↓DL.r_isDRN, ↓DL.r_isDRB, ↓DL.r_beqTT, ↓DL.r_beqTF, ↓DL.r_beqFT, ↓DL.r_beqFF, ↓DL.k_onI, ↓DL.k_Fld2, ↓DL.r_fld, ↓DL.k_FldR, ↓DL.k_FldO, ↓DL.r_look, ↓DL.r_lookN, ↓DL.r_putD, ↓DL.r_putDN, ↓DL.k_SF3, ↓DL.r_setFldR, ↓DL.k_SF2, ↓DL.k_SF1, ↓DL.r_setFld, ↓DL.r_methF, ↓DL.k_Me2, ↓DL.r_meth, ↓DL.k_MeR, ↓DL.k_MeO, ↓DL.r_make, ↓DL.k_MkN, ↓DL.r_makeF, ↓DL.k_CG2, ↓DL.k_CG, ↓DL.r_callG, ↓DL.r_callGF, ↓DL.r_listRg, ↓DL.r_tupRg, ↓DL.k_SlR, ↓DL.r_slR, ↓DL.r_enumL, ↓DL.r_max2, ↓DL.r_min2, ↓DL.r_isi2R, ↓DL.r_isiR, ↓DL.r_lst1, ↓DL.r_lst2, ↓DL.r_lst3, ↓DL.r_lst4, ↓DL.r_lst5, ↓DL.r_lst6, ↓DL.r_lst7, ↓DL.r_lst8, ↓DL.r_lst9, ↓DL.r_lst10, ↓DL.r_lst11, ↓DL.r_lst12, ↓DL.r_seqR, ↓DL.k_ForR, ↓DL.r_minL, ↓DL.r_clr, ↓DL.k_Clr1R, ↓DL.k_LstR, ↓DL.r_listRef, ↓DL.k_Clr2, ↓DL.Kt.seq_nx, ↓DL.Kt.seq_rt, ↓DL.Kt.seq_bk, ↓DL.Kt.seq_ct, ↓DL.Kt.seq_ex, ↓DL.Kt.fin_nx, ↓DL.Kt.fin_rt, ↓DL.Kt.fin_ex, ↓DL.Kt.loop_nx, ↓DL.Kt.loop_rt, ↓DL.Kt.loop_bk, ↓DL.Kt.loop_ct, ↓DL.Kt.loop_ex, ↓DL.C.run_ret, ↓DL.mset_same, ↓DL.mset_mset, startD, ixN, Option.bind_some, Option.map_some, List.map_cons, List.map_nil, List.length_cons, List.length_nil, List.length_set, List.replicate, List.cons_append, List.nil_append, List.append_nil, List.set_cons_zero, List.set_cons_succ, List.getElem?_cons_zero, List.getElem?_cons_succ, Nat.reduceAdd, Nat.reduceSub, Nat.zero_add, if_true, if_false, decide_eq_true_eq, reduceIte, Bool.not_true, Bool.not_false, beq_self_eq_true, Bool.false_eq_true, Int.reduceLT, Int.reduceLE, Int.reduceNeg, Int.reduceToNat, Int.reduceAdd, Int.reduceSub, Nat.reduceLT, Nat.reduceLeDiff, Int.cast_ofNat_Int, Int.reduceEq, Int.reduceBEq, DL.wipeD, decide_true, decide_false, not_true_eq_false, not_false_eq_true, String.reduceEq, Bool.or_true, Bool.or_false, Bool.true_or, Bool.false_or, Bool.and_true, Bool.and_false, Bool.true_and, Bool.false_and, Bool.not_not, Nat.reduceEqDiff, Int.toNat_natCast, Decidable.not_not, List.mem_cons, List.not_mem_nil, or_false, or_true, true_or, false_or, and_true, true_and, and_self, and_false, false_and, reduceCtorEq, Option.isNone_some, Option.isNone_none, Option.isSome_some, Option.isSome_none, ↓c_isint, ↓c_rowL, ↓c_rowT, cs_size, cs_written, cs_ended, cs_writing, cs_reading, cs_low, cs_least])
local macro_rules | `(tactic| walk_at "h") => `(tactic| simp -implicitDefEqProofs only [↓DL.k_F, ↓DL.k_M, ↓DL.k_onV, ↓DL.k_onL, ↓DL.k_onO, ↓DL.k_onN, ↓DL.r_C, ↓DL.r_var, ↓DL.k_Op2, ↓DL.k_Op, ↓DL.r_op, ↓DL.r_un, ↓DL.r_app, ↓DL.r_call, ↓DL.r_callF, ↓DL.k_CK2, ↓DL.k_CK, ↓DL.r_callK, ↓DL.r_callKF, ↓DL.r_nil, ↓DL.k_A2, ↓DL.k_A, ↓DL.r_cons, ↓DL.k_AndT, ↓DL.k_AndF, ↓DL.r_and, ↓DL.k_OrT, ↓DL.k_OrF, ↓DL.r_or, ↓DL.k_Not, ↓DL.r_not, ↓DL.k_EIfT, ↓DL.k_EIfF, ↓DL.r_eIf, ↓DL.k_Ch3T, ↓DL.k_Ch3F, ↓DL.k_Ch2, ↓DL.k_Ch1, ↓DL.r_chain, ↓DL.k_T, ↓DL.r_of, ↓DL.k_TAT, ↓DL.k_TAF, ↓DL.r_tand, ↓DL.k_TOT, ↓DL.k_TOF, ↓DL.r_tor, ↓DL.k_TN, ↓DL.r_tnot, ↓DL.r_tTrue, ↓DL.k_Asg, ↓DL.r_asg, ↓DL.k_Nx, ↓DL.r_expr, ↓DL.k_Rt, ↓DL.r_ret, ↓DL.r_retN, ↓DL.k_IfT, ↓DL.k_IfF, ↓DL.r_if, ↓DL.r_seq, ↓DL.r_next, ↓DL.r_break, ↓DL.r_cont, ↓DL.r_stuck, ↓DL.k_G, ↓DL.r_asgG, ↓DL.k_For, ↓DL.r_for, ↓DL.k_SI3, ↓DL.k_SI2, ↓DL.k_SI, ↓DL.r_setItemS, ↓DL.k_Ap3, ↓DL.k_Ap2, ↓DL.k_Ap1, ↓DL.r_apd, ↓DL.r_gN, ↓DL.r_iSeq, ↓DL.r_iApp, ↓DL.k_Body, ↓DL.k_Sl3, ↓DL.k_Sl2, ↓DL.k_Sl1, ↓DL.r_sl, ↓DL.r_oNone, ↓DL.k_OS, ↓DL.r_oSome, ↓DL.r_slT, ↓DL.r_slL, ↓DL.r_slS, ↓DL.r_retL, ↓DL.r_newL, ↓DL.r_lc, ↓DL.r_lcM, ↓DL.r_add, ↓DL.r_sub, ↓DL.r_mod, ↓DL.r_div, ↓DL.r_pow1018, ↓DL.r_lt, ↓DL.r_le, ↓DL.r_gt, ↓DL.r_ge, ↓DL.r_neg, ↓DL.r_eqII, ↓DL.r_neII, ↓DL.r_eqSS, ↓DL.r_neSS, ↓DL.r_eqBB, ↓DL.r_neBB, ↓DL.r_isN, ↓DL.r_isB, ↓DL.r_notN, ↓DL.r_int1, ↓DL.r_intb, ↓DL.r_abs, ↓DL.k_Get, ↓DL.r_ixT, ↓DL.r_ixL, ↓DL.r_asLR, ↓DL.r_asLL, ↓DL.r_ixRef, ↓DL.r_lenT, ↓DL.r_lenL, ↓DL.k_Len, ↓DL.r_lenRef, ↓DL.r_sumRef, ↓DL.k_SetJ, ↓DL.k_Set, ↓DL.r_setRef, ↓DL.k_App, ↓DL.r_appRef, ↓DL.r_tup0, ↓DL.r_tup1, ↓DL.r_tup2, ↓DL.r_tup3, ↓DL.r_tup4, ↓DL.r_tup5, ↓DL.r_tup6, ↓DL.r_tup7, ↓DL.r_tup8, ↓DL.r_lst0, ↓DL.r_ref0, ↓DL.r_ref1, ↓DL.r_ref2, ↓DL.r_ref3, ↓DL.r_ref4, ↓DL.r_ref5, ↓DL.r_ref6, ↓DL.r_listL, ↓DL.r_listT, ↓DL.r_tupleL, ↓DL.r_seqT, ↓DL.r_seqL, ↓DL.r_range1, ↓DL.r_range2, ↓DL.r_strEq, ↓DL.r_strEq2, ↓DL.r_isT0, ↓DL.r_isT1, ↓DL.r_isT2, ↓DL.r_isT3, ↓DL.r_isT4, ↓DL.r_isT5, ↓DL.r_isT6, ↓DL.r_isT7, ↓DL.r_isT8, ↓DL.r_isT9, ↓DL.r_isT10, ↓DL.r_isT11, ↓DL.r_isT12, ↓DL.r_isT13, ↓DL.r_isT14, ↓DL.r_isT15, ↓DL.r_isT16, ↓DL.r_isT17, ↓DL.r_isT18, ↓DL.r_isT19, ↓DL.r_isT20, ↓DL.r_isT21, ↓DL.r_isT22, ↓DL.r_isT23, ↓DL.r_isT24, ↓DL.r_isT25, ↓DL.r_isT26, ↓DL.r_isT27, ↓DL.r_isT28, ↓DL.r_isT29, ↓DL.r_isT30, ↓DL.r_isT31, ↓DL.r_isT32, ↓DL.r_isT33, ↓DL.r_isT34, ↓DL.r_isT35, ↓DL.r_isiN, ↓DL.r_isi2N, ↓DL.r_isiB, ↓DL.r_isi2B, ↓DL.r_isiI, ↓DL.r_isi2I, ↓DL.r_isiS, ↓DL.r_isi2S, ↓DL.r_isiT, ↓DL.r_isi2T, ↓DL.r_isiL, ↓DL.r_isi2L, ↓DL.r_inTI, ↓DL.r_ninTI, ↓DL.r_inLI, ↓DL.r_ninLI, ↓DL.r_inTS, ↓DL.r_inD_nil, ↓DL.r_inD_cons, ↓DL.r_flat_nil, ↓DL.r_flat_cons, ↓DL.r_flatS, ↓DL.r_flatI, ↓DL.r_eqvSS, ↓DL.r_eqvII, ↓DL.r_addLL, ↓DL.r_atm1, ↓DL.r_atm2, ↓DL.r_at0, ↓DL.r_at1, ↓DL.r_at2, ↓DL.r_at3, ↓DL.r_at4, ↓DL.r_at5, ↓DL.r_at6, ↓DL.r_at7, ↓DL.r_at8, ↓DL.r_beqI, ↓DL.r_ndec, ↓DL.r_gT, ↓DL.k_Gs, ↓DL.r_gsCons, ↓DL.r_gsNil, ↓DL.r_isDNN, ↓DL.r_isDBB, ↓DL.r_isDBN, ↓DL.r_isDNB, ↓DL.r_isDIN, ↓DL.r_isDIB, ↓DL.r_isDSN, ↓DL.r_isDSB, ↓DL.r_isDTN, ↓DL.r_isDTB, ↓DL.r_isDLN, ↓DL.r_isDLB, ↓DL.r_isDRN, ↓DL.r_isDRB, ↓DL.r_beqTT, ↓DL.r_beqTF, ↓DL.r_beqFT, ↓DL.r_beqFF, ↓DL.k_onI, ↓DL.k_Fld2, ↓DL.r_fld, ↓DL.k_FldR, ↓DL.k_FldO, ↓DL.r_look, ↓DL.r_lookN, ↓DL.r_putD, ↓DL.r_putDN, ↓DL.k_SF3, ↓DL.r_setFldR, ↓DL.k_SF2, ↓DL.k_SF1, ↓DL.r_setFld, ↓DL.r_methF, ↓DL.k_Me2, ↓DL.r_meth, ↓DL.k_MeR, ↓DL.k_MeO, ↓DL.r_make, ↓DL.k_MkN, ↓DL.r_makeF, ↓DL.k_CG2, ↓DL.k_CG, ↓DL.r_callG, ↓DL.r_callGF, ↓DL.r_listRg, ↓DL.r_tupRg, ↓DL.k_SlR, ↓DL.r_slR, ↓DL.r_enumL, ↓DL.r_max2, ↓DL.r_min2, ↓DL.r_isi2R, ↓DL.r_isiR, ↓DL.r_lst1, ↓DL.r_lst2, ↓DL.r_lst3, ↓DL.r_lst4, ↓DL.r_lst5, ↓DL.r_lst6, ↓DL.r_lst7, ↓DL.r_lst8, ↓DL.r_lst9, ↓DL.r_lst10, ↓DL.r_lst11, ↓DL.r_lst12, ↓DL.r_seqR, ↓DL.k_ForR, ↓DL.r_minL, ↓DL.r_clr, ↓DL.k_Clr1R, ↓DL.k_LstR, ↓DL.r_listRef, ↓DL.k_Clr2, ↓DL.Kt.seq_nx, ↓DL.Kt.seq_rt, ↓DL.Kt.seq_bk, ↓DL.Kt.seq_ct, ↓DL.Kt.seq_ex, ↓DL.Kt.fin_nx, ↓DL.Kt.fin_rt, ↓DL.Kt.fin_ex, ↓DL.Kt.loop_nx, ↓DL.Kt.loop_rt, ↓DL.Kt.loop_bk, ↓DL.Kt.loop_ct, ↓DL.Kt.loop_ex, ↓DL.C.run_ret, ↓DL.mset_same, ↓DL.mset_mset, startD, ixN, Option.bind_some, Option.map_some, List.map_cons, List.map_nil, List.length_cons, List.length_nil, List.length_set, List.replicate, List.cons_append, List.nil_append, List.append_nil, List.set_cons_zero, List.set_cons_succ, List.getElem?_cons_zero, List.getElem?_cons_succ, Nat.reduceAdd, Nat.reduceSub, Nat.zero_add, if_true, if_false, decide_eq_true_eq, reduceIte, Bool.not_true, Bool.not_false, beq_self_eq_true, Bool.false_eq_true, Int.reduceLT, Int.reduceLE, Int.reduceNeg, Int.reduceToNat, Int.reduceAdd, Int.reduceSub, Nat.reduceLT, Nat.reduceLeDiff, Int.cast_ofNat_Int, Int.reduceEq, Int.reduceBEq, DL.wipeD, decide_true, decide_false, not_true_eq_false, not_false_eq_true, String.reduceEq, Bool.or_true, Bool.or_false, Bool.true_or, Bool.false_or, Bool.and_true, Bool.and_false, Bool.true_and, Bool.false_and, Bool.not_not, Nat.reduceEqDiff, Int.toNat_natCast, Decidable.not_not, List.mem_cons, List.not_mem_nil, or_false, or_true, true_or, false_or, and_true, true_and, and_self, and_false, false_and, reduceCtorEq, Option.isNone_some, Option.isNone_none, Option.isSome_some, Option.isSome_none, ↓c_isint, ↓c_rowL, ↓c_rowT, cs_size, cs_written, cs_ended, cs_writing, cs_reading, cs_low, cs_least, *])
local macro_rules | `(tactic| walk_at "s") => `(tactic| ((try walk_at "h"); repeat' ((first | with_reducible refine if_dec (fun _ => ?_) (fun _ => ?_) | with_reducible refine eif_dec (fun _ => ?_) (fun _ => ?_) | with_reducible refine tor_dec (fun _ => ?_) (fun _ => ?_) | with_reducible refine tand_dec (fun _ => ?_) (fun _ => ?_) | with_reducible refine and_dec (fun _ => ?_) (fun _ => ?_) | with_reducible refine or_dec (fun _ => ?_) (fun _ => ?_) | with_reducible refine ch_dec (fun _ => ?_) (fun _ => ?_)) <;> (try walk_at "h"))))
def WatStep (P : Str) (size : Int) (R : Sc → Bool × Bool → D → Prop) : Prop :=
  ∀ {S : Sc} {st st' : Bool × Bool} {d : D} {e : Ev} {n : Nat} (b : Bool), R S st d → S.ok n → n ≤ 60 → okStep size st e = some st' →
    ∃ d', (∀ (m : Mem) (Q : D → Mem → Prop) (E : Xn → Mem → Prop), Q d' m → (d_next_watch [.str P, d, shp (e, b)]).run m Q E) ∧ ((badE P size S e ∧ d' = .non) ∨ (¬ badE P size S e ∧ isD d' .non = false ∧ R (S.take e) st' d'))
def RelS (S : Sc) (st : Bool × Bool) (d : D) : Prop := ∃ l u, Val S st.1 l u ∧ d = safeW (l, u, kS S st.2)
def RelR (S : Sc) (st : Bool × Bool) (d : D) : Prop := ∃ l u, Val S st.1 l u ∧ d = regW (l, u, vR S st.2)
def RelA (S : Sc) (st : Bool × Bool) (d : D) : Prop := ∃ l u, Val S st.1 l u ∧ d = atoW (l, u, kA S st.2, vA S st)
theorem wat_safe {size : Int} : WatStep "safe" size RelS := by
  rintro S st st' d e n b ⟨l, u, hv, rfl⟩ hk hn ho
  refine ⟨optD safeW (safeN l u (kS S st.2) e), fun m Q E q => next_safe (safe_spec b q), ?_⟩
  rcases safe_step hk hv ho with ⟨h1, h2⟩ | ⟨h1, l', u', h2, h3⟩
  · rw [h2]; exact .inl ⟨h1, rfl⟩
  · rw [h3]; exact .inr ⟨h1, rfl, l', u', h2, rfl⟩
theorem wat_reg {size : Int} : WatStep "regular" size RelR := by
  rintro S st st' d e n b ⟨l, u, hv, rfl⟩ hk hn ho
  have hlen : (vR S st.2).length < 63 := by
    have := hk.n0
    unfold vR
    split
    · have h1 := sortSet_len (l := S.ws.drop S.lo.toNat); rw [List.length_drop] at h1; omega
    · simp
  refine ⟨optD regW (regN l u (vR S st.2) e), fun m Q E q => next_reg (reg_spec b hlen q), ?_⟩
  rcases reg_step hk hv ho with ⟨h1, h2⟩ | ⟨h1, l', u', h2, h3⟩
  · rw [h2]; exact .inl ⟨h1, rfl⟩
  · rw [h3]; exact .inr ⟨h1, rfl, l', u', h2, rfl⟩
theorem wat_ato {size : Int} : WatStep "atomic" size RelA := by
  rintro S st st' d e n b ⟨l, u, hv, rfl⟩ hk hn ho
  have hlen : (vA S st).length < 63 := by
    have := hk.n0
    unfold vA
    split
    · have h1 := sortSet_len (l := (if st.1 = true then S.ws.dropLast else S.ws).drop S.low.toNat)
      rw [List.length_drop] at h1
      have h2 : (if st.1 = true then S.ws.dropLast else S.ws).length ≤ S.ws.length := by split; (rw [List.length_dropLast]; omega); exact Nat.le_refl _
      omega
    · simp
  refine ⟨optD atoW (atoN l u (kA S st.2) (vA S st) e), fun m Q E q => next_ato (ato_spec b hlen q), ?_⟩
  rcases ato_step hk hv ho with ⟨h1, h2⟩ | ⟨h1, l', u', h2, h3⟩
  · rw [h2]; exact .inl ⟨h1, rfl⟩
  · rw [h3]; exact .inr ⟨h1, rfl, l', u', h2, rfl⟩
theorem val_S0 {s : Int} : Val (S0 s) false s (-1) := .rest (A := []) rfl rfl (Int.le_refl _)
theorem faultP_bad1 {P : Str} {size : Int} {S : Sc} {e : Ev} {r : List Ev} {k : Nat} (h : badE P size S e) : faultP P size S k (e :: r) = some k := by
  cases e with
  | told v => simp only [faultP]; rw [if_neg h]
  | write v => exact h.elim
  | wrote => exact h.elim
  | read => exact h.elim
theorem faultP_ok1 {P : Str} {size : Int} {S : Sc} {e : Ev} {r : List Ev} {k : Nat} (h : ¬ badE P size S e) : faultP P size S k (e :: r) = faultP P size (S.take e) (k + 1) r := by
  cases e with
  | told v => simp only [faultP]; rw [if_pos (Classical.not_not.mp h)]
  | write v => rfl
  | wrote => rfl
  | read => rfl
theorem list_ev {e : Ev} {m : Mem} {Q : D → Mem → Prop} {E : Xn → Mem → Prop} : (dList [e.d]).run m Q E = Q (shp (e, true)) m := by cases e <;> rfl
theorem shp_d {e : Ev} : shp (e, false) = e.d := rfl
structure W9 (P : Str) (R : Sc → Bool × Bool → D → Prop) (size s : Int) (evs : List Ev) (z0 z1 z2 z3 z6 : Option D) (m0 : Mem) (i : Nat) (δ : DSt) (m : Mem) : Prop where
  ex : m = m0 ∧ ∃ (act wat : D) (y9 y10 : Option D), δ = [z0, z1, z2, z3, some (.lst (evs.map Ev.d)), some (.str P), z6, some act, some wat, y9, y10] ∧
    ((act = .non ∧ ∃ st, hist size (evs.take i) = some st ∧ R (scan (S0 s) (evs.take i)) st wat ∧ faultP P size (S0 s) 0 evs = faultP P size (scan (S0 s) (evs.take i)) i (evs.drop i)) ∨ ∃ k : Nat, act = .int k ∧ faultP P size (S0 s) 0 evs = some k)
theorem k29_loop {P : Str} {R : Sc → Bool × Bool → D → Prop} {size s : Int} {evs : List Ev} {st0 : Bool × Bool} (hW : WatStep P size R) (hH : hist size evs = some st0) (hl : evs.length ≤ 50) (z0 z1 z2 z3 z6 : Option D) (wat0 : D) (h0 : R (S0 s) (false, false) wat0) (m : Mem) (K : Kt) (w : List D) (y9 y10 : Option D)
    (hK : ∀ y8 y9 y10, K.nx [z0, z1, z2, z3, some (.lst (evs.map Ev.d)), some (.str P), z6, some (optI (faultP P size (S0 s) 0 evs)), y8, y9, y10] m) :
    forD w none (gN 9) p_law_b0 K (rng 0 (evs.length : Int)) [z0, z1, z2, z3, some (.lst (evs.map Ev.d)), some (.str P), z6, some .non, some wat0, y9, y10] m := by
  refine for_nat (W9 P R size s evs z0 z1 z2 z3 z6 m) ⟨rfl, .non, wat0, _, _, rfl, .inl ⟨rfl, (false, false), rfl, h0, rfl⟩⟩ ?_ ?_
  · rintro i δ m1 hi ⟨rfl, act, wat, y9, y10, rfl, hcase⟩
    have hx : evs[i]? = some evs[i] := List.getElem?_eq_getElem hi
    have e : atI (evs.map Ev.d) (i : Int) = some (evs[i]).d := atI_of (by omega) (by rw [Int.toNat_natCast, List.getElem?_map, hx]; rfl)
    have ht : evs.take (i + 1) = evs.take i ++ [evs[i]] := by rw [List.take_succ, hx]; rfl
    have hd : evs.drop i = evs[i] :: evs.drop (i + 1) := List.drop_eq_getElem_cons hi
    have hlen : (evs.take i).length = i := by rw [List.length_take]; omega
    have hok := scan_ok (evs := evs.take i) (S0_ok (start := s))
    rw [hlen] at hok
    rcases hcase with ⟨rfl, st, h1, h2, h3⟩ | ⟨k, rfl, h3⟩
    · have hsp : evs = evs.take i ++ evs[i] :: evs.drop (i + 1) := by rw [← hd, List.take_append_drop]
      obtain ⟨s1, st', g1, g2⟩ := hist_split (hsp ▸ hH)
      obtain rfl : s1 = st := Option.some.inj (g1.symm.trans h1)
      have hsn := hist_snoc h1 g2
      have hst := fun b => hW (e := evs[i]) b h2 hok (by omega) g2
      rw [hd] at h3
      have fin : ∀ (b : Bool) y10, ∃ d', (∀ (m : Mem) (Q : D → Mem → Prop) (E : Xn → Mem → Prop), Q d' m → (d_next_watch [.str P, wat, shp (evs[i], b)]).run m Q E) ∧ ((d' = .non ∧ W9 P R size s evs z0 z1 z2 z3 z6 m1 (i + 1) [z0, z1, z2, z3, some (.lst (evs.map Ev.d)), some (.str P), z6, some (.int i), some d', some (.int i), y10] m1) ∨ (isD d' .non = false ∧ W9 P R size s evs z0 z1 z2 z3 z6 m1 (i + 1) [z0, z1, z2, z3, some (.lst (evs.map Ev.d)), some (.str P), z6, some .non, some d', some (.int i), y10] m1)) := by
        intro b y10
        obtain ⟨d', hrun, hc⟩ := hst b
        refine ⟨d', hrun, ?_⟩
        rcases hc with ⟨c1, c2⟩ | ⟨c1, c2, c3⟩
        · rw [faultP_bad1 c1] at h3
          exact .inl ⟨c2, rfl, _, _, _, _, rfl, .inr ⟨i, rfl, h3⟩⟩
        · rw [faultP_ok1 c1] at h3
          refine .inr ⟨c2, rfl, _, _, _, _, rfl, .inl ⟨rfl, st', by rw [ht]; exact hsn, by rw [ht, scan_snoc]; exact c3, by rw [ht, scan_snoc]; exact h3⟩⟩
      clear hst h2 h3 hok hsn g1 g2 h1 hsp hd hlen ht hK
      generalize evs[i] = x at *
      generalize hEV : evs.map Ev.d = EV at *
      walk_at "d"
      unfold p_law_b0
      walk_at "d"
      rw [e]
      walk_at "d"
      refine if_dec (fun z => ?_) (fun z => ?_)
      · obtain ⟨d', hrun, hc⟩ := fin true (some (shp (x, true)))
        walk_at "d"
        rw [e]
        walk_at "d"
        rw [list_ev]
        walk_at "d"
        refine hrun _ _ _ ?_
        rcases hc with ⟨rfl, c1⟩ | ⟨c0, c1⟩
        · walk_at "d"
          exact c1
        · walk_at "d"
          rw [c0]
          walk_at "d"
          exact c1
      · obtain ⟨d', hrun, hc⟩ := fin false (some (shp (x, false)))
        rw [shp_d] at hrun hc
        walk_at "d"
        refine hrun _ _ _ ?_
        rcases hc with ⟨rfl, c1⟩ | ⟨c0, c1⟩
        · walk_at "d"
          exact c1
        · walk_at "d"
          rw [c0]
          walk_at "d"
          exact c1
    · clear hK hd ht hx e
      walk_at "d"
      unfold p_law_b0
      walk_at "d"
      exact ⟨rfl, _, _, _, _, rfl, .inr ⟨k, rfl, h3⟩⟩
  · rintro δ m1 ⟨rfl, act, wat, y9, y10, rfl, hcase⟩
    rcases hcase with ⟨rfl, st, h1, h2, h3⟩ | ⟨k, rfl, h3⟩
    · rw [List.drop_length] at h3
      have := hK (some wat) y9 y10
      rw [h3] at this
      exact this
    · have := hK (some wat) y9 y10
      rw [h3] at this
      exact this
theorem k29_round {P : Str} {R : Sc → Bool × Bool → D → Prop} {z s : Int} {evs : List Ev} {st0 : Bool × Bool} (hP : P = "safe" ∨ P = "regular" ∨ P = "atomic") (hW : WatStep P z R) (hH : hist z evs = some st0) (hl : evs.length ≤ 50) (hz1 : 2 ≤ z) (hz2 : z ≤ 5) (hs0 : 0 ≤ s) (hs1 : s < z) (wat0 : D) (h0 : R (S0 s) (false, false) wat0) (hF : ∀ (m : Mem) (Q : D → Mem → Prop) (E : Xn → Mem → Prop), Q wat0 m → (d_first_watch [.str P, .int s]).run m Q E)
    (z0 z1 y6 y7 y8 y9 y10 : Option D) (m : Mem) (K : Kt) (hK : ∀ y6 y7 y8 y9 y10 m', K.nx [z0, z1, some (.int z), some (.int s), some (.lst (evs.map Ev.d)), some (.str P), y6, y7, y8, y9, y10] m') :
    p_law_b1.run [z0, z1, some (.int z), some (.int s), some (.lst (evs.map Ev.d)), some (.str P), y6, y7, y8, y9, y10] m K := by
  have hfb := faultP_bad hP (s := s) hH (by omega)
  unfold p_law_b1
  walk_at "d"
  refine breaks_spec hP (z := z) hH (by omega) ?_
  rw [← hfb]
  have hok : okS 4 (optI (faultP P z (S0 s) 0 evs)) = true := okS_opt
  have hL := fun (K : Kt) (m : Mem) (y9 y10 : Option D) (w : List D) => k29_loop (P := P) (R := R) (size := z) (s := s) (evs := evs) (st0 := st0) hW hH hl z0 z1 (some (.int z)) (some (.int s)) (some (optI (faultP P z (S0 s) 0 evs))) wat0 h0 m K w y9 y10
  have hFs := fun {m : Mem} {Q : D → Mem → Prop} {E : Xn → Mem → Prop} => fault_spec (m := m) (Q := Q) (E := E) (evs := evs) hP hz1 hz2 hs0 hs1 hH (by omega)
  generalize optI (faultP P z (S0 s) 0 evs) = F at *
  walk_at "d"
  refine hF _ _ _ ?_
  walk_at "d"
  rw [List.length_map, r_range1 (by rw [small62_iff]; omega)]
  walk_at "d"
  refine hL _ _ _ _ _ fun y8 y9 y10 => ?_
  walk_at "d"
  refine same_refl 4 _ hok _ _ _ ?_
  walk_at "d"
  refine hFs fun m2 _ => ?_
  walk_at "d"
  refine same_refl 4 _ hok _ _ _ ?_
  walk_at "d"
  exact hK _ _ _ _ _ _
theorem law_true : ∀ ns : List Int, ns.length ≤ 63 → (d_law [.scr ns]).run (fun _ => none) (fun d _ => d = .bl true) (fun _ _ => False) := by
  intro ns hns
  unfold d_law
  refine fn_run ?_
  unfold p_law
  walk_at "d"
  refine pool_spec hns fun p c m1 _ _ hP1 _ => ?_
  walk_at "d"
  refine draw_spec hP1 (by omega) (by omega) (by omega) fun r m2 hr0 hr1 hP2 _ => ?_
  have hz1 : 2 ≤ 2 + r := by omega
  have hz2 : 2 + r ≤ 5 := by omega
  walk_at "d"
  generalize 2 + r = z at *
  refine draw_spec hP2 (by omega) (by omega) (by omega) fun s m3 hs0 hs1 hP3 _ => ?_
  walk_at "d"
  refine history_spec hP3 (by omega) hz1 hz2 hs0 hs1 (by omega) (by omega) fun evs wr rd m4 hH hlen _ _ => ?_
  have hl : evs.length ≤ 50 := by omega
  clear hns hP1 hP2 hP3 hlen
  walk_at "d"
  rw [forD_cons]
  walk_at "d"
  refine k29_round (.inl rfl) wat_safe hH hl hz1 hz2 hs0 hs1 (safeW (s, -1, 0)) ⟨s, -1, val_S0, rfl⟩ (fun m Q E q => first_safe q) _ _ _ _ _ _ _ _ _ fun y6 y7 y8 y9 y10 m5 => ?_
  walk_at "d"
  rw [forD_cons]
  walk_at "d"
  refine k29_round (.inr (.inl rfl)) wat_reg hH hl hz1 hz2 hs0 hs1 (regW (s, -1, [])) ⟨s, -1, val_S0, rfl⟩ (fun m Q E q => first_reg q) _ _ _ _ _ _ _ _ _ fun y6 y7 y8 y9 y10 m6 => ?_
  walk_at "d"
  rw [forD_cons]
  walk_at "d"
  refine k29_round (.inr (.inr rfl)) wat_ato hH hl hz1 hz2 hs0 hs1 (atoW (s, -1, 0, [])) ⟨s, -1, val_S0, rfl⟩ (fun m Q E q => first_ato q) _ _ _ _ _ _ _ _ _ fun y6 y7 y8 y9 y10 m7 => ?_
  walk_at "d"
  rw [forD_nil]
  walk_at "d"

end My

namespace My
open PySem PySem.Spec PyProof.Rows L2 DL
def top (i : Nat) : Stmt := PySem.Challenge.pw_cellsatonce_k29_whole_watches_and_histor.main.body.getD i (.Pass ⟨0, 0, 0, 0⟩)
abbrev s__law_reads : Stmt := top 31
abbrev N__law_reads : List Str := ["_law_events", "_law_start", "_law_written", "_law_ended", "_law_low", "_law_reads_here", "_law_k", "_law_event"]
theorem sc__law_reads : FnScope N__law_reads ["_law_events", "_law_start"] (defScope s__law_reads) := ⟨rfl, rfl, rfl, by decide +kernel, rfl, by decide +kernel, by decide +kernel⟩
abbrev s__law_breaks : Stmt := top 34
abbrev N__law_breaks : List Str := ["_law_events", "_law_start", "_law_promise", "_law_found", "_law_lasts", "_law_read", "_law_fits", "_law_number", "_law_last"]
theorem sc__law_breaks : FnScope N__law_breaks ["_law_events", "_law_start", "_law_promise"] (defScope s__law_breaks) := ⟨rfl, rfl, rfl, by decide +kernel, rfl, by decide +kernel, by decide +kernel⟩
abbrev s__law_mixed : Stmt := top 28
abbrev N__law_mixed : List Str := ["_law_cell", "_law_k", "_law_number"]
theorem sc__law_mixed : FnScope N__law_mixed ["_law_cell", "_law_k"] (defScope s__law_mixed) := ⟨rfl, rfl, rfl, by decide +kernel, rfl, by decide +kernel, by decide +kernel⟩
abbrev s__law_draw : Stmt := top 29
abbrev N__law_draw : List Str := ["_law_pool_here", "_law_size", "_law_cells", "_law_at", "_law_cell", "_law_number"]
theorem sc__law_draw : FnScope N__law_draw ["_law_pool_here", "_law_size"] (defScope s__law_draw) := ⟨rfl, rfl, rfl, by decide +kernel, rfl, by decide +kernel, by decide +kernel⟩
abbrev s__law_history : Stmt := top 30
abbrev N__law_history : List Str := ["_law_pool_here", "_law_size", "_law_start", "_law_most", "_law_events", "_law_written", "_law_ended", "_law_low", "_law_writing", "_law_reading", "_law_turn", "_law_told"]
theorem sc__law_history : FnScope N__law_history ["_law_pool_here", "_law_size", "_law_start", "_law_most"] (defScope s__law_history) := ⟨rfl, rfl, rfl, by decide +kernel, rfl, by decide +kernel, by decide +kernel⟩
abbrev s__law_pool : Stmt := top 27
abbrev N__law_pool : List Str := ["_law_script", "_law_cells", "_law_cell"]
theorem sc__law_pool : FnScope N__law_pool ["_law_script"] (defScope s__law_pool) := ⟨rfl, rfl, rfl, by decide +kernel, rfl, by decide +kernel, by decide +kernel⟩
abbrev s__law_int : Stmt := top 32
abbrev N__law_int : List Str := ["_law_thing"]
theorem sc__law_int : FnScope N__law_int ["_law_thing"] (defScope s__law_int) := ⟨rfl, rfl, rfl, by decide +kernel, rfl, by decide +kernel, by decide +kernel⟩
abbrev s__law_same : Stmt := top 33
abbrev N__law_same : List Str := ["_law_thing", "_law_due", "_law_k"]
theorem sc__law_same : FnScope N__law_same ["_law_thing", "_law_due"] (defScope s__law_same) := ⟨rfl, rfl, rfl, by decide +kernel, rfl, by decide +kernel, by decide +kernel⟩
abbrev s_Scan___init__ : Stmt := inClass (top 21) 0
abbrev N_Scan___init__ : List Str := ["self", "size", "start"]
theorem sc_Scan___init__ : FnScope N_Scan___init__ ["self", "size", "start"] (defScope s_Scan___init__) := ⟨rfl, rfl, rfl, by decide +kernel, rfl, by decide +kernel, by decide +kernel⟩
abbrev s_Scan_allowed : Stmt := inClass (top 21) 2
abbrev N_Scan_allowed : List Str := ["self", "promise", "high", "low"]
theorem sc_Scan_allowed : FnScope N_Scan_allowed ["self", "promise"] (defScope s_Scan_allowed) := ⟨rfl, rfl, rfl, by decide +kernel, rfl, by decide +kernel, by decide +kernel⟩
abbrev s_Scan_take : Stmt := inClass (top 21) 1
abbrev N_Scan_take : List Str := ["self", "event"]
theorem sc_Scan_take : FnScope N_Scan_take ["self", "event"] (defScope s_Scan_take) := ⟨rfl, rfl, rfl, by decide +kernel, rfl, by decide +kernel, by decide +kernel⟩
abbrev s_Scan_number : Stmt := inClass (top 21) 3
abbrev N_Scan_number : List Str := ["self", "worth", "at"]
theorem sc_Scan_number : FnScope N_Scan_number ["self", "worth"] (defScope s_Scan_number) := ⟨rfl, rfl, rfl, by decide +kernel, rfl, by decide +kernel, by decide +kernel⟩
abbrev s_Scan_told : Stmt := inClass (top 21) 4
abbrev N_Scan_told : List Str := ["self", "worth", "at"]
theorem sc_Scan_told : FnScope N_Scan_told ["self", "worth"] (defScope s_Scan_told) := ⟨rfl, rfl, rfl, by decide +kernel, rfl, by decide +kernel, by decide +kernel⟩
abbrev s_is_kind : Stmt := top 10
abbrev N_is_kind : List Str := ["thing"]
theorem sc_is_kind : FnScope N_is_kind ["thing"] (defScope s_is_kind) := ⟨rfl, rfl, rfl, by decide +kernel, rfl, by decide +kernel, by decide +kernel⟩
abbrev s_check_promise : Stmt := top 11
abbrev N_check_promise : List Str := ["promise"]
theorem sc_check_promise : FnScope N_check_promise ["promise"] (defScope s_check_promise) := ⟨rfl, rfl, rfl, by decide +kernel, rfl, by decide +kernel, by decide +kernel⟩
abbrev s_is_integer : Stmt := top 7
abbrev N_is_integer : List Str := ["thing"]
theorem sc_is_integer : FnScope N_is_integer ["thing"] (defScope s_is_integer) := ⟨rfl, rfl, rfl, by decide +kernel, rfl, by decide +kernel, by decide +kernel⟩
abbrev s_is_between : Stmt := top 8
abbrev N_is_between : List Str := ["thing", "low", "high"]
theorem sc_is_between : FnScope N_is_between ["thing", "low", "high"] (defScope s_is_between) := ⟨rfl, rfl, rfl, by decide +kernel, rfl, by decide +kernel, by decide +kernel⟩
abbrev s_check_setting : Stmt := top 22
abbrev N_check_setting : List Str := ["size", "start"]
theorem sc_check_setting : FnScope N_check_setting ["size", "start"] (defScope s_check_setting) := ⟨rfl, rfl, rfl, by decide +kernel, rfl, by decide +kernel, by decide +kernel⟩
abbrev s_is_row : Stmt := top 9
abbrev N_is_row : List Str := ["thing"]
theorem sc_is_row : FnScope N_is_row ["thing"] (defScope s_is_row) := ⟨rfl, rfl, rfl, by decide +kernel, rfl, by decide +kernel, by decide +kernel⟩
abbrev s_is_word_row : Stmt := top 12
abbrev N_is_word_row : List Str := ["thing", "word", "length"]
theorem sc_is_word_row : FnScope N_is_word_row ["thing", "word", "length"] (defScope s_is_word_row) := ⟨rfl, rfl, rfl, by decide +kernel, rfl, by decide +kernel, by decide +kernel⟩
abbrev s_event_form : Stmt := top 23
abbrev N_event_form : List Str := ["event", "size"]
theorem sc_event_form : FnScope N_event_form ["event", "size"] (defScope s_event_form) := ⟨rfl, rfl, rfl, by decide +kernel, rfl, by decide +kernel, by decide +kernel⟩
abbrev s_events_of : Stmt := top 24
abbrev N_events_of : List Str := ["history", "size", "events", "writing", "reading", "index", "event", "form"]
theorem sc_events_of : FnScope N_events_of ["history", "size"] (defScope s_events_of) := ⟨rfl, rfl, rfl, by decide +kernel, rfl, by decide +kernel, by decide +kernel⟩
abbrev s_fault : Stmt := top 25
abbrev N_fault : List Str := ["history", "promise", "size", "start", "events", "scan", "index", "event"]
theorem sc_fault : FnScope N_fault ["history", "promise", "size", "start"] (defScope s_fault) := ⟨rfl, rfl, rfl, by decide +kernel, rfl, by decide +kernel, by decide +kernel⟩
abbrev s_first_watch : Stmt := top 15
abbrev N_first_watch : List Str := ["promise", "start"]
theorem sc_first_watch : FnScope N_first_watch ["promise", "start"] (defScope s_first_watch) := ⟨rfl, rfl, rfl, by decide +kernel, rfl, by decide +kernel, by decide +kernel⟩
abbrev s_merged : Stmt := top 13
abbrev N_merged : List Str := ["values", "more"]
theorem sc_merged : FnScope N_merged ["values", "more"] (defScope s_merged) := ⟨rfl, rfl, rfl, by decide +kernel, rfl, by decide +kernel, by decide +kernel⟩
abbrev s_atomic_watch : Stmt := top 18
abbrev N_atomic_watch : List Str := ["watch", "event", "last", "under", "mode", "ended"]
theorem sc_atomic_watch : FnScope N_atomic_watch ["watch", "event"] (defScope s_atomic_watch) := ⟨rfl, rfl, rfl, by decide +kernel, rfl, by decide +kernel, by decide +kernel⟩
abbrev s_regular_watch : Stmt := top 17
abbrev N_regular_watch : List Str := ["watch", "event", "last", "under", "values"]
theorem sc_regular_watch : FnScope N_regular_watch ["watch", "event"] (defScope s_regular_watch) := ⟨rfl, rfl, rfl, by decide +kernel, rfl, by decide +kernel, by decide +kernel⟩
abbrev s_safe_watch : Stmt := top 16
abbrev N_safe_watch : List Str := ["watch", "event", "last", "under", "mode"]
theorem sc_safe_watch : FnScope N_safe_watch ["watch", "event"] (defScope s_safe_watch) := ⟨rfl, rfl, rfl, by decide +kernel, rfl, by decide +kernel, by decide +kernel⟩
abbrev s_next_watch : Stmt := top 19
abbrev N_next_watch : List Str := ["promise", "watch", "event"]
theorem sc_next_watch : FnScope N_next_watch ["promise", "watch", "event"] (defScope s_next_watch) := ⟨rfl, rfl, rfl, by decide +kernel, rfl, by decide +kernel, by decide +kernel⟩
abbrev s_law : Stmt := top 35
abbrev N_law : List Str := ["_law_script", "_law_pool_here", "_law_size", "_law_start", "_law_events", "_law_promise", "_law_due", "_law_actual", "_law_watch", "_law_k", "_law_event"]
theorem sc_law : FnScope N_law ["_law_script"] (defScope s_law) := ⟨rfl, rfl, rfl, by decide +kernel, rfl, by decide +kernel, by decide +kernel⟩
structure Txt (K : PySem.W.Frag) (mg : Str → Option Value) : Prop where
  free_abs : mg "abs" = none
  free_bool : mg "bool" = none
  free_enumerate : mg "enumerate" = none
  free_int : mg "int" = none
  free_isinstance : mg "isinstance" = none
  free_len : mg "len" = none
  free_list : mg "list" = none
  free_max : mg "max" = none
  free_range : mg "range" = none
  free_set : mg "set" = none
  free_sorted : mg "sorted" = none
  free_str : mg "str" = none
  free_sum : mg "sum" = none
  free_tuple : mg "tuple" = none
  c_PROMISES : KConst K mg "PROMISES" k_PROMISES
  fl_ended : FldOk K cs_ended "ended"
  fl_least : FldOk K cs_least "least"
  fl_low : FldOk K cs_low "low"
  fl_reading : FldOk K cs_reading "reading"
  fl_size : FldOk K cs_size "size"
  fl_writing : FldOk K cs_writing "writing"
  fl_written : FldOk K cs_written "written"
  fn__law_reads : mg "_law_reads" = some (.ref (He.ga K "_law_reads")) ∧ ∃ fd, FunD K "_law_reads" "_law_reads" (defArgs s__law_reads) (defBody s__law_reads) (defScope s__law_reads) [] [] (He.ga K "_law_reads") fd
  fn__law_breaks : mg "_law_breaks" = some (.ref (He.ga K "_law_breaks")) ∧ ∃ fd, FunD K "_law_breaks" "_law_breaks" (defArgs s__law_breaks) (defBody s__law_breaks) (defScope s__law_breaks) [] [] (He.ga K "_law_breaks") fd
  fn__law_mixed : mg "_law_mixed" = some (.ref (He.ga K "_law_mixed")) ∧ ∃ fd, FunD K "_law_mixed" "_law_mixed" (defArgs s__law_mixed) (defBody s__law_mixed) (defScope s__law_mixed) [] [] (He.ga K "_law_mixed") fd
  fn__law_draw : mg "_law_draw" = some (.ref (He.ga K "_law_draw")) ∧ ∃ fd, FunD K "_law_draw" "_law_draw" (defArgs s__law_draw) (defBody s__law_draw) (defScope s__law_draw) [] [] (He.ga K "_law_draw") fd
  fn__law_history : mg "_law_history" = some (.ref (He.ga K "_law_history")) ∧ ∃ fd, FunD K "_law_history" "_law_history" (defArgs s__law_history) (defBody s__law_history) (defScope s__law_history) [] [] (He.ga K "_law_history") fd
  fn__law_pool : mg "_law_pool" = some (.ref (He.ga K "_law_pool")) ∧ ∃ fd, FunD K "_law_pool" "_law_pool" (defArgs s__law_pool) (defBody s__law_pool) (defScope s__law_pool) [] [] (He.ga K "_law_pool") fd
  fn__law_int : mg "_law_int" = some (.ref (He.ga K "_law_int")) ∧ ∃ fd, FunD K "_law_int" "_law_int" (defArgs s__law_int) (defBody s__law_int) (defScope s__law_int) [] [] (He.ga K "_law_int") fd
  fn__law_same : mg "_law_same" = some (.ref (He.ga K "_law_same")) ∧ ∃ fd, FunD K "_law_same" "_law_same" (defArgs s__law_same) (defBody s__law_same) (defScope s__law_same) [] [] (He.ga K "_law_same") fd
  fn_Scan___init__ : (mg "Scan" = some (.ref (He.ga K "Scan")) ∧ Mk K (He.ga K "Scan") (He.ma K (He.ga K "Scan") "__init__")) ∧ ∃ fd, FunD K "__init__" "Scan.__init__" (defArgs s_Scan___init__) (defBody s_Scan___init__) (defScope s_Scan___init__) [] [] (He.ma K (He.ga K "Scan") "__init__") fd
  fn_Scan_allowed : (Cls K (He.ga K "Scan") ∧ Meth K (He.ga K "Scan") "allowed" (He.ma K (He.ga K "Scan") "allowed")) ∧ ∃ fd, FunD K "allowed" "Scan.allowed" (defArgs s_Scan_allowed) (defBody s_Scan_allowed) (defScope s_Scan_allowed) [] [] (He.ma K (He.ga K "Scan") "allowed") fd
  fn_Scan_take : (Cls K (He.ga K "Scan") ∧ Meth K (He.ga K "Scan") "take" (He.ma K (He.ga K "Scan") "take")) ∧ ∃ fd, FunD K "take" "Scan.take" (defArgs s_Scan_take) (defBody s_Scan_take) (defScope s_Scan_take) [] [] (He.ma K (He.ga K "Scan") "take") fd
  fn_Scan_number : (Cls K (He.ga K "Scan") ∧ Meth K (He.ga K "Scan") "number" (He.ma K (He.ga K "Scan") "number")) ∧ ∃ fd, FunD K "number" "Scan.number" (defArgs s_Scan_number) (defBody s_Scan_number) (defScope s_Scan_number) [] [] (He.ma K (He.ga K "Scan") "number") fd
  fn_Scan_told : (Cls K (He.ga K "Scan") ∧ Meth K (He.ga K "Scan") "told" (He.ma K (He.ga K "Scan") "told")) ∧ ∃ fd, FunD K "told" "Scan.told" (defArgs s_Scan_told) (defBody s_Scan_told) (defScope s_Scan_told) [] [] (He.ma K (He.ga K "Scan") "told") fd
  fn_is_kind : mg "is_kind" = some (.ref (He.ga K "is_kind")) ∧ ∃ fd, FunD K "is_kind" "is_kind" (defArgs s_is_kind) (defBody s_is_kind) (defScope s_is_kind) [] [] (He.ga K "is_kind") fd
  fn_check_promise : mg "check_promise" = some (.ref (He.ga K "check_promise")) ∧ ∃ fd, FunD K "check_promise" "check_promise" (defArgs s_check_promise) (defBody s_check_promise) (defScope s_check_promise) [] [] (He.ga K "check_promise") fd
  fn_is_integer : mg "is_integer" = some (.ref (He.ga K "is_integer")) ∧ ∃ fd, FunD K "is_integer" "is_integer" (defArgs s_is_integer) (defBody s_is_integer) (defScope s_is_integer) [] [] (He.ga K "is_integer") fd
  fn_is_between : mg "is_between" = some (.ref (He.ga K "is_between")) ∧ ∃ fd, FunD K "is_between" "is_between" (defArgs s_is_between) (defBody s_is_between) (defScope s_is_between) [] [] (He.ga K "is_between") fd
  fn_check_setting : mg "check_setting" = some (.ref (He.ga K "check_setting")) ∧ ∃ fd, FunD K "check_setting" "check_setting" (defArgs s_check_setting) (defBody s_check_setting) (defScope s_check_setting) [] [] (He.ga K "check_setting") fd
  fn_is_row : mg "is_row" = some (.ref (He.ga K "is_row")) ∧ ∃ fd, FunD K "is_row" "is_row" (defArgs s_is_row) (defBody s_is_row) (defScope s_is_row) [] [] (He.ga K "is_row") fd
  fn_is_word_row : mg "is_word_row" = some (.ref (He.ga K "is_word_row")) ∧ ∃ fd, FunD K "is_word_row" "is_word_row" (defArgs s_is_word_row) (defBody s_is_word_row) (defScope s_is_word_row) [] [] (He.ga K "is_word_row") fd
  fn_event_form : mg "event_form" = some (.ref (He.ga K "event_form")) ∧ ∃ fd, FunD K "event_form" "event_form" (defArgs s_event_form) (defBody s_event_form) (defScope s_event_form) [] [] (He.ga K "event_form") fd
  fn_events_of : mg "events_of" = some (.ref (He.ga K "events_of")) ∧ ∃ fd, FunD K "events_of" "events_of" (defArgs s_events_of) (defBody s_events_of) (defScope s_events_of) [] [] (He.ga K "events_of") fd
  fn_fault : mg "fault" = some (.ref (He.ga K "fault")) ∧ ∃ fd, FunD K "fault" "fault" (defArgs s_fault) (defBody s_fault) (defScope s_fault) [] [("size", .int 2), ("start", .int 0)] (He.ga K "fault") fd
  fn_first_watch : mg "first_watch" = some (.ref (He.ga K "first_watch")) ∧ ∃ fd, FunD K "first_watch" "first_watch" (defArgs s_first_watch) (defBody s_first_watch) (defScope s_first_watch) [] [] (He.ga K "first_watch") fd
  fn_merged : mg "merged" = some (.ref (He.ga K "merged")) ∧ ∃ fd, FunD K "merged" "merged" (defArgs s_merged) (defBody s_merged) (defScope s_merged) [] [] (He.ga K "merged") fd
  fn_atomic_watch : mg "atomic_watch" = some (.ref (He.ga K "atomic_watch")) ∧ ∃ fd, FunD K "atomic_watch" "atomic_watch" (defArgs s_atomic_watch) (defBody s_atomic_watch) (defScope s_atomic_watch) [] [] (He.ga K "atomic_watch") fd
  fn_regular_watch : mg "regular_watch" = some (.ref (He.ga K "regular_watch")) ∧ ∃ fd, FunD K "regular_watch" "regular_watch" (defArgs s_regular_watch) (defBody s_regular_watch) (defScope s_regular_watch) [] [] (He.ga K "regular_watch") fd
  fn_safe_watch : mg "safe_watch" = some (.ref (He.ga K "safe_watch")) ∧ ∃ fd, FunD K "safe_watch" "safe_watch" (defArgs s_safe_watch) (defBody s_safe_watch) (defScope s_safe_watch) [] [] (He.ga K "safe_watch") fd
  fn_next_watch : mg "next_watch" = some (.ref (He.ga K "next_watch")) ∧ ∃ fd, FunD K "next_watch" "next_watch" (defArgs s_next_watch) (defBody s_next_watch) (defScope s_next_watch) [] [] (He.ga K "next_watch") fd
  fn_law : mg "law" = some (.ref (He.ga K "law")) ∧ ∃ fd, FunD K "law" "law" (defArgs s_law) (defBody s_law) (defScope s_law) [] [] (He.ga K "law") fd
section
variable {P : Program} {w : World} {K : PySem.W.Frag} {mg : Str → Option Value} {base : Heap}
theorem ok__law_reads (T : Txt K mg) {f : Addr} {fd : FuncData} (Fd : FunD K "_law_reads" "_law_reads" (defArgs s__law_reads) (defBody s__law_reads) (defScope s__law_reads) [] [] f fd) : FnOk P w K mg base (L2.CX P w) 1 f fd ["_law_events", "_law_start"] (spD K 2 d__law_reads) := by
  unfold d__law_reads
  exact fn_okX (k := 0) Fd sc__law_reads (fun cdv A outer s H E hr tk po hW => by
    have nd := sc__law_reads.nd
    unfold p__law_reads
    exact jb_cons (js_asg (i := 2) nd rfl (Or.inl rfl) (je_lstM (ja_cons (je_var (i := 1) rfl (.inl rfl)) (ja_nil))))
      (jb_cons (js_asg (i := 3) nd rfl (Or.inl rfl) (je_int))
      (jb_cons (js_asg (i := 4) nd rfl (Or.inl rfl) (je_int))
      (jb_cons (js_asg (i := 5) nd rfl (Or.inl rfl) (je_lstM (ja_nil)))
      (jb_cons (js_for po rfl (ji_range1 (by rfl) T.free_range (ja_cons (je_callB cr_len cd_len (by rfl) T.free_len (by decide +kernel) (ja_cons (je_var (i := 0) rfl (.inl rfl)) (ja_nil))) (ja_nil))) (jg_name (i := 6) nd rfl (Or.inl rfl)) (by unfold p__law_reads_b0; exact jb_cons (js_asg (i := 7) nd rfl (Or.inl rfl) (je_ix (je_var (i := 0) rfl (.inl rfl)) (je_var (i := 6) rfl (.inl rfl))))       (jb_one (js_if (jt_cmp (op_eqD hr.units) od_eq (je_ix (je_var (i := 7) rfl (.inl rfl)) (je_int)) (je_str (by decide +kernel)) (nomark _)) (jb_one (js_expr (je_append (je_var (i := 2) rfl (.inl rfl)) (je_ix (je_var (i := 7) rfl (.inl rfl)) (je_int))))) (jb_one (js_if (jt_cmp (op_eqD hr.units) od_eq (je_ix (je_var (i := 7) rfl (.inl rfl)) (je_int)) (je_str (by decide +kernel)) (nomark _)) (jb_one (js_asg (i := 3) nd rfl (Or.inl rfl) (je_op op_sub od_sub (je_callB cr_len cd_len (by rfl) T.free_len (by decide +kernel) (ja_cons (je_var (i := 2) rfl (.inl rfl)) (ja_nil))) (je_int)))) (jb_one (js_if (jt_cmp (op_eqD hr.units) od_eq (je_ix (je_var (i := 7) rfl (.inl rfl)) (je_int)) (je_str (by decide +kernel)) (nomark _)) (jb_one (js_asg (i := 4) nd rfl (Or.inl rfl) (je_var (i := 3) rfl (.inl rfl)))) (jb_one (js_expr (je_append (je_var (i := 5) rfl (.inl rfl)) (je_tup (ja_cons (je_var (i := 6) rfl (.inl rfl)) (ja_cons (je_var (i := 4) rfl (.inl rfl)) (ja_cons (je_op op_sub od_sub (je_callB cr_len cd_len (by rfl) T.free_len (by decide +kernel) (ja_cons (je_var (i := 2) rfl (.inl rfl)) (ja_nil))) (je_int)) (ja_cons (je_ix (je_var (i := 7) rfl (.inl rfl)) (je_int)) (ja_nil)))))))))))))))))
      (jb_frz (i := 2) (jb_frz (i := 5) (jb_one (js_ret (je_tup (ja_cons (je_var (i := 5) rfl (.inl rfl)) (ja_cons (je_var (i := 2) rfl (.inl rfl)) (ja_cons (je_var (i := 4) rfl (.inl rfl)) (ja_nil))))))))))))))
theorem has__law_reads (T : Txt K mg) : Has P w K mg base "_law_reads" 2 1 [] d__law_reads := by
  obtain ⟨hm, fd, Fd⟩ := T.fn__law_reads
  exact has_of hm Fd (ok__law_reads T Fd) rfl (fun _ _ _ _ _ _ us hl => match us, hl with | [_, _], _ => rfl)
theorem ok__law_breaks (T : Txt K mg) {f : Addr} {fd : FuncData} (Fd : FunD K "_law_breaks" "_law_breaks" (defArgs s__law_breaks) (defBody s__law_breaks) (defScope s__law_breaks) [] [] f fd) : FnOk P w K mg base (L2.CX P w) 2 f fd ["_law_events", "_law_start", "_law_promise"] (spD K 3 d__law_breaks) := by
  unfold d__law_breaks
  exact fn_okX (k := 1) Fd sc__law_breaks (fun cdv A outer s H E hr tk po hW => by
    have nd := sc__law_breaks.nd
    unfold p__law_breaks
    exact jb_cons (js_asg (i := 3) nd rfl (Or.inl rfl) (je_callH (has__law_reads T) hr tk (by rfl) (ja_cons (je_var (i := 0) rfl (.inl rfl)) (ja_cons (je_var (i := 1) rfl (.inl rfl)) (ja_nil)))))
      (jb_cons (js_asg (i := 4) nd rfl (Or.inl rfl) (je_lstV (ja_cons (je_int) (ja_nil))))
      (jb_cons (js_for po rfl (ji_seq (je_ix (je_var (i := 3) rfl (.inl rfl)) (je_int))) (jg_name (i := 5) nd rfl (Or.inl rfl)) (by unfold p__law_breaks_b1; exact jb_cons (js_asg (i := 6) nd rfl (Or.inl rfl) (je_lstM (ja_nil)))       (jb_cons (js_for po rfl (ji_range2 (by rfl) T.free_range (ja_cons (je_ix (je_var (i := 5) rfl (.inl rfl)) (je_int)) (ja_cons (je_op or_addD od_add (je_ix (je_var (i := 5) rfl (.inl rfl)) (je_int)) (je_int)) (ja_nil)))) (jg_name (i := 7) nd rfl (Or.inr rfl)) (by unfold p__law_breaks_b0; exact jb_one (js_if (jt_cmp (op_eqD hr.units) od_eq (je_ix (je_ix (je_var (i := 3) rfl (.inl rfl)) (je_int)) (je_var (i := 7) rfl (.inr (.inl rfl)))) (je_ix (je_var (i := 5) rfl (.inl rfl)) (je_int)) (nomark _)) (jb_one (js_if ((jw_or (jt_cmp (op_neD hr.units) od_ne (je_var (i := 2) rfl (.inl rfl)) (je_str (by decide +kernel)) (nomark _)) (jw_or1 (jt_cmp op_gt od_gt (je_callB cr_len cd_len (by rfl) T.free_len (by decide +kernel) (ja_cons (je_lc rfl nd (ji_seq (je_var (i := 4) rfl (.inl rfl))) (blkOk_by (own := [("_law_last", 8)]) (N := N__law_breaks) (sc := defScope s__law_breaks) (by decide +kernel)) (own := [("_law_last", 8)]) (gv := gName 8) (glc_name (by decide)) (fun s H C cl fp => pg_name (i := 8) nd rfl (Or.inl rfl)) (fun s H C cl fp => jts_one (jt_cmp op_le od_le (je_var (i := 8) rfl (.inl rfl)) (je_var (i := 7) rfl (.inr (.inl rfl))) (nomark _))) (fun s H C cl fp => je_var (i := 8) rfl (.inl rfl))) (ja_nil))) (je_int) (nomark _)))).t) (jb_one (js_expr (je_append (je_var (i := 6) rfl (.inl rfl)) (je_var (i := 7) rfl (.inr (.inl rfl)))))) (jb_nil))) (jb_nil))))       (jb_frz (i := 6) (jb_cons (js_if ((jw_and (jt_cmp (op_eqD hr.units) od_eq (je_var (i := 6) rfl (.inl rfl)) (je_lstV (ja_nil)) (nomark _)) (jw_and1 ((jw_or (jt_cmp (op_neD hr.units) od_ne (je_var (i := 2) rfl (.inl rfl)) (je_str (by decide +kernel)) (nomark _)) (jw_or1 (jt_cmp (op_eqD hr.units) od_eq (je_ix (je_var (i := 5) rfl (.inl rfl)) (je_int)) (je_ix (je_var (i := 5) rfl (.inl rfl)) (je_int)) (nomark _)))).t))).t) (jb_one (js_ret (je_ix (je_var (i := 5) rfl (.inl rfl)) (je_int)))) (jb_nil))       (jb_one (js_asg (i := 4) nd rfl (Or.inl rfl) (je_var (i := 6) rfl (.inl rfl)))))))))
      (jb_one (js_ret (je_non))))))
theorem has__law_breaks (T : Txt K mg) : Has P w K mg base "_law_breaks" 3 2 [] d__law_breaks := by
  obtain ⟨hm, fd, Fd⟩ := T.fn__law_breaks
  exact has_of hm Fd (ok__law_breaks T Fd) rfl (fun _ _ _ _ _ _ us hl => match us, hl with | [_, _, _], _ => rfl)
theorem ok__law_mixed (T : Txt K mg) {f : Addr} {fd : FuncData} (Fd : FunD K "_law_mixed" "_law_mixed" (defArgs s__law_mixed) (defBody s__law_mixed) (defScope s__law_mixed) [] [] f fd) : FnOk P w K mg base (L2.CX P w) 1 f fd ["_law_cell", "_law_k"] (spD K 2 d__law_mixed) := by
  unfold d__law_mixed
  exact fn_okX (k := 0) Fd sc__law_mixed (fun cdv A outer s H E hr tk po hW => by
    have nd := sc__law_mixed.nd
    unfold p__law_mixed
    exact jb_cons (js_asg (i := 2) nd rfl (Or.inl rfl) (je_op or_addD od_add (je_op op_mod od_mod (je_op op_mul od_mul (je_op op_mul od_mul (je_op or_addD od_add (je_op op_mod od_mod (je_callTy call_int1 cd_int (by rfl) T.free_int (by decide +kernel) (ja_cons (je_var (i := 0) rfl (.inl rfl)) (ja_nil))) (je_op op_pow od_pow (je_int) (je_int))) (je_int)) (je_op or_addD od_add (je_var (i := 1) rfl (.inl rfl)) (je_int))) (je_int)) (je_int)) (je_op op_mul od_mul (je_int) (je_var (i := 1) rfl (.inl rfl)))))
      (jb_cons (js_asg (i := 2) nd rfl (Or.inl rfl) (je_op op_mod od_mod (je_op op_mul od_mul (je_var (i := 2) rfl (.inl rfl)) (je_op or_addD od_add (je_op op_fdiv od_div (je_var (i := 2) rfl (.inl rfl)) (je_int)) (je_int))) (je_int)))
      (jb_cons (js_asg (i := 2) nd rfl (Or.inl rfl) (je_op op_mod od_mod (je_op op_mul od_mul (je_var (i := 2) rfl (.inl rfl)) (je_op or_addD od_add (je_op op_fdiv od_div (je_var (i := 2) rfl (.inl rfl)) (je_int)) (je_int))) (je_int)))
      (jb_one (js_ret (je_op op_fdiv od_div (je_var (i := 2) rfl (.inl rfl)) (je_int)))))))
theorem has__law_mixed (T : Txt K mg) : Has P w K mg base "_law_mixed" 2 1 [] d__law_mixed := by
  obtain ⟨hm, fd, Fd⟩ := T.fn__law_mixed
  exact has_of hm Fd (ok__law_mixed T Fd) rfl (fun _ _ _ _ _ _ us hl => match us, hl with | [_, _], _ => rfl)
theorem ok__law_draw (T : Txt K mg) {f : Addr} {fd : FuncData} (Fd : FunD K "_law_draw" "_law_draw" (defArgs s__law_draw) (defBody s__law_draw) (defScope s__law_draw) [] [] f fd) : FnOk P w K mg base (L2.CX P w) 2 f fd ["_law_pool_here", "_law_size"] (spD K 2 d__law_draw) := by
  unfold d__law_draw
  exact fn_okX (k := 1) Fd sc__law_draw (fun cdv A outer s H E hr tk po hW => by
    have nd := sc__law_draw.nd
    unfold p__law_draw
    exact jb_cons (js_asg (i := 2) nd rfl (Or.inl rfl) (je_ix (je_var (i := 0) rfl (.inl rfl)) (je_int)))
      (jb_cons (js_asg (i := 3) nd rfl (Or.inl rfl) (je_ix (je_var (i := 0) rfl (.inl rfl)) (je_int)))
      (jb_cons (js_setItem (je_op or_addD od_add (je_ix (je_var (i := 0) rfl (.inl rfl)) (je_int)) (je_int)) (pg_sub (je_var (i := 0) rfl (.inl rfl)) (je_int) set_list))
      (jb_cons (js_if (jt_cmp op_ge od_ge (je_var (i := 3) rfl (.inl rfl)) (je_callB cr_len cd_len (by rfl) T.free_len (by decide +kernel) (ja_cons (je_var (i := 2) rfl (.inl rfl)) (ja_nil))) (nomark _)) (jb_one (js_ret (je_op op_mod od_mod (je_callTy call_int1 cd_int (by rfl) T.free_int (by decide +kernel) (ja_cons (je_callH (has__law_mixed T) hr tk (by rfl) (ja_cons (je_op or_addD od_add (je_ix (je_var (i := 0) rfl (.inl rfl)) (je_int)) (je_int)) (ja_cons (je_ix (je_var (i := 0) rfl (.inl rfl)) (je_int)) (ja_nil)))) (ja_nil))) (je_var (i := 1) rfl (.inl rfl))))) (jb_nil))
      (jb_cons (js_asg (i := 4) nd rfl (Or.inl rfl) (je_ix (je_var (i := 2) rfl (.inl rfl)) (je_var (i := 3) rfl (.inl rfl))))
      (jb_cons (js_if ((jw_or (jt_cmp op_ge od_ge (je_var (i := 4) rfl (.inl rfl)) (je_op op_pow od_pow (je_int) (je_int)) (nomark _)) (jw_or1 (jt_cmp op_lt od_lt (je_ix (je_var (i := 0) rfl (.inl rfl)) (je_int)) (je_int) (nomark _)))).t) (jb_cons (js_setItem (je_op op_fdiv od_div (je_var (i := 4) rfl (.inl rfl)) (je_var (i := 1) rfl (.inl rfl))) (pg_sub (je_var (i := 2) rfl (.inl rfl)) (je_var (i := 3) rfl (.inl rfl)) set_list))
      (jb_cons (js_setItem (je_un un_neg ud_neg (je_int)) (pg_sub (je_var (i := 0) rfl (.inl rfl)) (je_int) set_list))
      (jb_cons (js_if (jt_cmp (op_eqD hr.units) od_eq (je_ix (je_var (i := 2) rfl (.inl rfl)) (je_var (i := 3) rfl (.inl rfl))) (je_int) (nomark _)) (jb_cons (js_setItem (je_op or_addD od_add (je_var (i := 3) rfl (.inl rfl)) (je_int)) (pg_sub (je_var (i := 0) rfl (.inl rfl)) (je_int) set_list))
      (jb_one (js_setItem (je_int) (pg_sub (je_var (i := 0) rfl (.inl rfl)) (je_int) set_list)))) (jb_nil))
      (jb_one (js_ret (je_op op_mod od_mod (je_callTy call_int1 cd_int (by rfl) T.free_int (by decide +kernel) (ja_cons (je_var (i := 4) rfl (.inl rfl)) (ja_nil))) (je_var (i := 1) rfl (.inl rfl)))))))) (jb_nil))
      (jb_cons (js_setItem (je_op or_addD od_add (je_ix (je_var (i := 0) rfl (.inl rfl)) (je_int)) (je_int)) (pg_sub (je_var (i := 0) rfl (.inl rfl)) (je_int) set_list))
      (jb_cons (js_asg (i := 5) nd rfl (Or.inl rfl) (je_callH (has__law_mixed T) hr tk (by rfl) (ja_cons (je_var (i := 4) rfl (.inl rfl)) (ja_cons (je_ix (je_var (i := 0) rfl (.inl rfl)) (je_int)) (ja_nil)))))
      (jb_cons (js_if (jt_cmp (op_eqD hr.units) od_eq (je_ix (je_var (i := 0) rfl (.inl rfl)) (je_int)) (je_int) (nomark _)) (jb_cons (js_setItem (je_op or_addD od_add (je_var (i := 3) rfl (.inl rfl)) (je_int)) (pg_sub (je_var (i := 0) rfl (.inl rfl)) (je_int) set_list))
      (jb_one (js_setItem (je_int) (pg_sub (je_var (i := 0) rfl (.inl rfl)) (je_int) set_list)))) (jb_nil))
      (jb_one (js_ret (je_op op_mod od_mod (je_callTy call_int1 cd_int (by rfl) T.free_int (by decide +kernel) (ja_cons (je_var (i := 5) rfl (.inl rfl)) (ja_nil))) (je_var (i := 1) rfl (.inl rfl))))))))))))))
theorem has__law_draw (T : Txt K mg) : Has P w K mg base "_law_draw" 2 2 [] d__law_draw := by
  obtain ⟨hm, fd, Fd⟩ := T.fn__law_draw
  exact has_of hm Fd (ok__law_draw T Fd) rfl (fun _ _ _ _ _ _ us hl => match us, hl with | [_, _], _ => rfl)
theorem ok__law_history (T : Txt K mg) {f : Addr} {fd : FuncData} (Fd : FunD K "_law_history" "_law_history" (defArgs s__law_history) (defBody s__law_history) (defScope s__law_history) [] [] f fd) : FnOk P w K mg base (L2.CX P w) 3 f fd ["_law_pool_here", "_law_size", "_law_start", "_law_most"] (spD K 4 d__law_history) := by
  unfold d__law_history
  exact fn_okX (k := 2) Fd sc__law_history (fun cdv A outer s H E hr tk po hW => by
    have nd := sc__law_history.nd
    unfold p__law_history
    exact jb_cons (js_asg (i := 4) nd rfl (Or.inl rfl) (je_lstM (ja_nil)))
      (jb_cons (js_asg (i := 5) nd rfl (Or.inl rfl) (je_lstM (ja_cons (je_var (i := 2) rfl (.inl rfl)) (ja_nil))))
      (jb_cons (js_asg (i := 6) nd rfl (Or.inl rfl) (je_int))
      (jb_cons (js_asg (i := 7) nd rfl (Or.inl rfl) (je_int))
      (jb_cons (js_asg (i := 8) nd rfl (Or.inl rfl) (je_bl))
      (jb_cons (js_asg (i := 9) nd rfl (Or.inl rfl) (je_bl))
      (jb_cons (js_for po rfl (ji_range1 (by rfl) T.free_range (ja_cons (je_callH (has__law_draw T) hr tk (by rfl) (ja_cons (je_var (i := 0) rfl (.inl rfl)) (ja_cons (je_op or_addD od_add (je_var (i := 3) rfl (.inl rfl)) (je_int)) (ja_nil)))) (ja_nil))) (jg_name (i := 10) nd rfl (Or.inl rfl)) (by unfold p__law_history_b0; exact jb_one (js_if (jt_cmp (op_eqD hr.units) od_eq (je_callH (has__law_draw T) hr tk (by rfl) (ja_cons (je_var (i := 0) rfl (.inl rfl)) (ja_cons (je_int) (ja_nil)))) (je_int) (nomark _)) (jb_cons (js_if (jt_val (je_var (i := 8) rfl (.inl rfl))) (jb_cons (js_expr (je_append (je_var (i := 4) rfl (.inl rfl)) (je_tup (ja_cons (je_str (by decide +kernel)) (ja_nil)))))       (jb_one (js_asg (i := 6) nd rfl (Or.inl rfl) (je_op op_sub od_sub (je_callB cr_len cd_len (by rfl) T.free_len (by decide +kernel) (ja_cons (je_var (i := 5) rfl (.inl rfl)) (ja_nil))) (je_int))))) (jb_cons (js_expr (je_append (je_var (i := 5) rfl (.inl rfl)) (je_callH (has__law_draw T) hr tk (by rfl) (ja_cons (je_var (i := 0) rfl (.inl rfl)) (ja_cons (je_var (i := 1) rfl (.inl rfl)) (ja_nil))))))       (jb_one (js_expr (je_append (je_var (i := 4) rfl (.inl rfl)) (je_tup (ja_cons (je_str (by decide +kernel)) (ja_cons (je_ix (je_var (i := 5) rfl (.inl rfl)) (je_un un_neg ud_neg (je_int))) (ja_nil)))))))))       (jb_one (js_asg (i := 8) nd rfl (Or.inl rfl) (je_not (je_var (i := 8) rfl (.inl rfl)))))) (jb_cons (js_if (jt_val (je_var (i := 9) rfl (.inl rfl))) (jb_cons (js_asg (i := 11) nd rfl (Or.inl rfl) (je_ix (je_var (i := 5) rfl (.inl rfl)) (je_op or_addD od_add (je_var (i := 7) rfl (.inl rfl)) (je_callH (has__law_draw T) hr tk (by rfl) (ja_cons (je_var (i := 0) rfl (.inl rfl)) (ja_cons (je_op op_sub od_sub (je_callB cr_len cd_len (by rfl) T.free_len (by decide +kernel) (ja_cons (je_var (i := 5) rfl (.inl rfl)) (ja_nil))) (je_var (i := 7) rfl (.inl rfl))) (ja_nil)))))))       (jb_cons (js_if (jt_cmp (op_eqD hr.units) od_eq (je_callH (has__law_draw T) hr tk (by rfl) (ja_cons (je_var (i := 0) rfl (.inl rfl)) (ja_cons (je_int) (ja_nil)))) (je_int) (nomark _)) (jb_one (js_asg (i := 11) nd rfl (Or.inl rfl) (je_callH (has__law_draw T) hr tk (by rfl) (ja_cons (je_var (i := 0) rfl (.inl rfl)) (ja_cons (je_var (i := 1) rfl (.inl rfl)) (ja_nil)))))) (jb_nil))       (jb_one (js_expr (je_append (je_var (i := 4) rfl (.inl rfl)) (je_tup (ja_cons (je_str (by decide +kernel)) (ja_cons (je_var (i := 11) rfl (.inl rfl)) (ja_nil))))))))) (jb_cons (js_expr (je_append (je_var (i := 4) rfl (.inl rfl)) (je_tup (ja_cons (je_str (by decide +kernel)) (ja_nil)))))       (jb_one (js_asg (i := 7) nd rfl (Or.inl rfl) (je_var (i := 6) rfl (.inl rfl))))))       (jb_one (js_asg (i := 9) nd rfl (Or.inl rfl) (je_not (je_var (i := 9) rfl (.inl rfl)))))))))
      (jb_frz (i := 4) (jb_frz (i := 5) (jb_one (js_ret (je_var (i := 4) rfl (.inl rfl)))))))))))))
theorem has__law_history (T : Txt K mg) : Has P w K mg base "_law_history" 4 3 [] d__law_history := by
  obtain ⟨hm, fd, Fd⟩ := T.fn__law_history
  exact has_of hm Fd (ok__law_history T Fd) rfl (fun _ _ _ _ _ _ us hl => match us, hl with | [_, _, _, _], _ => rfl)
theorem ok__law_pool (T : Txt K mg) {f : Addr} {fd : FuncData} (Fd : FunD K "_law_pool" "_law_pool" (defArgs s__law_pool) (defBody s__law_pool) (defScope s__law_pool) [] [] f fd) : FnOk P w K mg base (L2.CX P w) 1 f fd ["_law_script"] (spD K 1 d__law_pool) := by
  unfold d__law_pool
  exact fn_okX (k := 0) Fd sc__law_pool (fun cdv A outer s H E hr tk po hW => by
    have nd := sc__law_pool.nd
    unfold p__law_pool
    exact jb_cons (js_setLcM (i := 1) rfl nd rfl rfl (sw_true rfl rfl rfl (by decide +kernel)) (ji_seq (je_sl (je_var (i := 0) rfl (.inl rfl)) (jo_none) (jo_some (je_int)))) (blkOk_by (own := [("_law_cell", 2)]) (N := N__law_pool) (sc := defScope s__law_pool) (by decide +kernel)) (own := [("_law_cell", 2)]) (gv := gName 2) (glc_name (by decide)) (fun s H C cl fp => pg_name (i := 2) nd rfl (Or.inl rfl)) (fun s H C cl fp => jts_nil) (fun s H C cl fp => je_callB call_abs cd_abs (by rfl) T.free_abs (by decide +kernel) (ja_cons (je_callTy call_int1 cd_int (by rfl) T.free_int (by decide +kernel) (ja_cons (je_var (i := 2) rfl (.inl rfl)) (ja_nil))) (ja_nil))))
      (jb_one (js_ret (je_lstM (ja_cons (je_var (i := 1) rfl (.inl rfl)) (ja_cons (je_int) (ja_cons (je_int) (ja_cons (je_int) (ja_cons (je_op op_mod od_mod (je_callB (cr_sum rfl) cd_sum (by rfl) T.free_sum (by decide +kernel) (ja_cons (je_var (i := 1) rfl (.inl rfl)) (ja_nil))) (je_int)) (ja_nil))))))))))
theorem has__law_pool (T : Txt K mg) : Has P w K mg base "_law_pool" 1 1 [] d__law_pool := by
  obtain ⟨hm, fd, Fd⟩ := T.fn__law_pool
  exact has_of hm Fd (ok__law_pool T Fd) rfl (fun _ _ _ _ _ _ us hl => match us, hl with | [_], _ => rfl)
theorem ok__law_int (T : Txt K mg) {f : Addr} {fd : FuncData} (Fd : FunD K "_law_int" "_law_int" (defArgs s__law_int) (defBody s__law_int) (defScope s__law_int) [] [] f fd) : FnOk P w K mg base (L2.CX P w) 1 f fd ["_law_thing"] (spD K 1 d__law_int) := by
  unfold d__law_int
  exact fn_okX (k := 0) Fd sc__law_int (fun cdv A outer s H E hr tk po hW => by
    have nd := sc__law_int.nd
    unfold p__law_int
    exact jb_one (js_ret (je_and (je_isi (je_var (i := 0) rfl (.inl rfl)) (by rfl) T.free_isinstance (by rfl) T.free_int (by decide +kernel) (by decide +kernel)) (je_one (je_not (je_isi (je_var (i := 0) rfl (.inl rfl)) (by rfl) T.free_isinstance (by rfl) T.free_bool (by decide +kernel) (by decide +kernel)))))))
theorem has__law_int (T : Txt K mg) : Has P w K mg base "_law_int" 1 1 [] d__law_int := by
  obtain ⟨hm, fd, Fd⟩ := T.fn__law_int
  exact has_of hm Fd (ok__law_int T Fd) rfl (fun _ _ _ _ _ _ us hl => match us, hl with | [_], _ => rfl)
theorem ok__law_same (T : Txt K mg) {f : Addr} {fd : FuncData} (Fd : FunD K "_law_same" "_law_same" (defArgs s__law_same) (defBody s__law_same) (defScope s__law_same) [] [] f fd) (hm : mg "_law_same" = some (.ref f)) : ∀ n : Nat, FnOk P w K mg base (L2.CX P w) (1 + n) f fd ["_law_thing", "_law_due"] (spD K 2 (d__law_same n))
  | 0 => fn_stuck rfl
  | n + 1 => by
    have H__law_same : Has P w K mg base "_law_same" 2 (1 + n) [] (d__law_same n) := has_of hm Fd (ok__law_same T Fd hm n) rfl (fun _ _ _ _ _ _ us hl => match us, hl with | [_, _], _ => rfl)
    unfold d__law_same
    exact fn_okX (k := 1 + n) Fd sc__law_same (fun cdv A outer s H E hr tk po hW => by
    have nd := sc__law_same.nd
    unfold p__law_same
    exact jb_cons (js_if ((jw_or (jt_val (je_isi (je_var (i := 1) rfl (.inl rfl)) (by rfl) T.free_isinstance (by rfl) T.free_tuple (by decide +kernel) (by decide +kernel))) (jw_or1 (jt_val (je_isi (je_var (i := 1) rfl (.inl rfl)) (by rfl) T.free_isinstance (by rfl) T.free_list (by decide +kernel) (by decide +kernel))))).t) (jb_cons (js_if ((jw_or (jt_cmp (op_neD hr.units) od_ne (je_isi (je_var (i := 1) rfl (.inl rfl)) (by rfl) T.free_isinstance (by rfl) T.free_tuple (by decide +kernel) (by decide +kernel)) (je_isi (je_var (i := 0) rfl (.inl rfl)) (by rfl) T.free_isinstance (by rfl) T.free_tuple (by decide +kernel) (by decide +kernel)) (nomark _)) (jw_or1 (jt_cmp (op_neD hr.units) od_ne (je_isi (je_var (i := 1) rfl (.inl rfl)) (by rfl) T.free_isinstance (by rfl) T.free_list (by decide +kernel) (by decide +kernel)) (je_isi (je_var (i := 0) rfl (.inl rfl)) (by rfl) T.free_isinstance (by rfl) T.free_list (by decide +kernel) (by decide +kernel)) (nomark _)))).t) (jb_one (js_ret (je_bl))) (jb_nil))
      (jb_cons (js_if (jt_cmp (op_neD hr.units) od_ne (je_callB cr_len cd_len (by rfl) T.free_len (by decide +kernel) (ja_cons (je_var (i := 0) rfl (.inl rfl)) (ja_nil))) (je_callB cr_len cd_len (by rfl) T.free_len (by decide +kernel) (ja_cons (je_var (i := 1) rfl (.inl rfl)) (ja_nil))) (nomark _)) (jb_one (js_ret (je_bl))) (jb_nil))
      (jb_cons (js_for po rfl (ji_range1 (by rfl) T.free_range (ja_cons (je_callB cr_len cd_len (by rfl) T.free_len (by decide +kernel) (ja_cons (je_var (i := 1) rfl (.inl rfl)) (ja_nil))) (ja_nil))) (jg_name (i := 2) nd rfl (Or.inl rfl)) (by unfold p__law_same_b0; exact jb_one (js_if (jt_not (jt_val (je_callH (H__law_same) (hr.mono (by omega)) tk (by rfl) (ja_cons (je_ix (je_var (i := 0) rfl (.inl rfl)) (je_var (i := 2) rfl (.inl rfl))) (ja_cons (je_ix (je_var (i := 1) rfl (.inl rfl)) (je_var (i := 2) rfl (.inl rfl))) (ja_nil)))))) (jb_one (js_ret (je_bl))) (jb_nil))))
      (jb_one (js_ret (je_bl)))))) (jb_nil))
      (jb_cons (js_if (jt_cmp or_is od_is (je_var (i := 1) rfl (.inl rfl)) (je_non) (nomark _)) (jb_one (js_ret (je_cmp or_is od_is (je_var (i := 0) rfl (.inl rfl)) (je_non) (nomark _)))) (jb_nil))
      (jb_cons (js_if (jt_cmp or_is od_is (je_var (i := 1) rfl (.inl rfl)) (je_bl) (nomark _)) (jb_one (js_ret (je_cmp or_is od_is (je_var (i := 0) rfl (.inl rfl)) (je_bl) (nomark _)))) (jb_nil))
      (jb_cons (js_if (jt_cmp or_is od_is (je_var (i := 1) rfl (.inl rfl)) (je_bl) (nomark _)) (jb_one (js_ret (je_cmp or_is od_is (je_var (i := 0) rfl (.inl rfl)) (je_bl) (nomark _)))) (jb_nil))
      (jb_cons (js_if (jt_val (je_isi (je_var (i := 1) rfl (.inl rfl)) (by rfl) T.free_isinstance (by rfl) T.free_str (by decide +kernel) (by decide +kernel))) (jb_one (js_ret (je_and (je_isi (je_var (i := 0) rfl (.inl rfl)) (by rfl) T.free_isinstance (by rfl) T.free_str (by decide +kernel) (by decide +kernel)) (je_one (je_cmp (op_eqD hr.units) od_eq (je_var (i := 0) rfl (.inl rfl)) (je_var (i := 1) rfl (.inl rfl)) (nomark _)))))) (jb_nil))
      (jb_one (js_ret (je_and (je_callH (has__law_int T) (hr.mono (by omega)) tk (by rfl) (ja_cons (je_var (i := 0) rfl (.inl rfl)) (ja_nil))) (je_one (je_cmp (op_eqD hr.units) od_eq (je_var (i := 0) rfl (.inl rfl)) (je_var (i := 1) rfl (.inl rfl)) (nomark _)))))))))))
theorem has__law_same (T : Txt K mg) : Has P w K mg base "_law_same" 2 5 [] (d__law_same 4) := by
  obtain ⟨hm, fd, Fd⟩ := T.fn__law_same
  exact has_of hm Fd (ok__law_same T Fd hm 4) rfl (fun _ _ _ _ _ _ us hl => match us, hl with | [_, _], _ => rfl)
theorem ok_Scan___init__ (T : Txt K mg) {f : Addr} {fd : FuncData} (Fd : FunD K "__init__" "Scan.__init__" (defArgs s_Scan___init__) (defBody s_Scan___init__) (defScope s_Scan___init__) [] [] f fd) : FnOk P w K mg base (L2.CX P w) 1 f fd ["self", "size", "start"] (spD K 3 d_Scan___init__) := by
  unfold d_Scan___init__
  exact fn_okX (k := 0) Fd sc_Scan___init__ (fun cdv A outer s H E hr tk po hW => by
    have nd := sc_Scan___init__.nd
    unfold p_Scan___init__
    exact jb_cons (js_fld T.fl_size (je_var (i := 1) rfl (.inl rfl)) (je_var (i := 0) rfl (.inl rfl)))
      (jb_cons (js_fld T.fl_written (je_lstM (ja_cons (je_var (i := 2) rfl (.inl rfl)) (ja_nil))) (je_var (i := 0) rfl (.inl rfl)))
      (jb_cons (js_fld T.fl_ended (je_int) (je_var (i := 0) rfl (.inl rfl)))
      (jb_cons (js_fld T.fl_writing (je_bl) (je_var (i := 0) rfl (.inl rfl)))
      (jb_cons (js_fld T.fl_reading (je_bl) (je_var (i := 0) rfl (.inl rfl)))
      (jb_cons (js_fld T.fl_low (je_int) (je_var (i := 0) rfl (.inl rfl)))
      (jb_one (js_fld T.fl_least (je_int) (je_var (i := 0) rfl (.inl rfl))))))))))
theorem has_Scan___init__ (T : Txt K mg) : HasC P w K mg base "Scan" 2 1 [] d_Scan___init__ := by
  obtain ⟨⟨hm, M⟩, fd, Fd⟩ := T.fn_Scan___init__
  exact ⟨_, fd, ["self", "size", "start"], [], [], hm, M, ok_Scan___init__ T Fd, FunD.bindsN Fd (fun _ _ _ _ _ _ us hl => match us, hl with | [_, _, _], _ => rfl), .nil, fun _ => .nil, rfl⟩
theorem ok_Scan_allowed (T : Txt K mg) {f : Addr} {fd : FuncData} (Fd : FunD K "allowed" "Scan.allowed" (defArgs s_Scan_allowed) (defBody s_Scan_allowed) (defScope s_Scan_allowed) [] [] f fd) : FnOk P w K mg base (L2.CX P w) 1 f fd ["self", "promise"] (spD K 2 d_Scan_allowed) := by
  unfold d_Scan_allowed
  exact fn_okX (k := 0) Fd sc_Scan_allowed (fun cdv A outer s H E hr tk po hW => by
    have nd := sc_Scan_allowed.nd
    unfold p_Scan_allowed
    exact jb_cons (js_asg (i := 2) nd rfl (Or.inl rfl) (je_op op_sub od_sub (je_callB cr_len cd_len (by rfl) T.free_len (by decide +kernel) (ja_cons (je_fld T.fl_written (je_var (i := 0) rfl (.inl rfl))) (ja_nil))) (je_int)))
      (jb_cons (js_if (jt_cmp (op_eqD hr.units) od_eq (je_var (i := 1) rfl (.inl rfl)) (je_str (by decide +kernel)) (nomark _)) (jb_cons (js_if (jt_cmp (op_eqD hr.units) od_eq (je_fld T.fl_low (je_var (i := 0) rfl (.inl rfl))) (je_var (i := 2) rfl (.inl rfl)) (nomark _)) (jb_one (js_ret (je_lstV (ja_cons (je_ix (je_fld T.fl_written (je_var (i := 0) rfl (.inl rfl))) (je_var (i := 2) rfl (.inl rfl))) (ja_nil))))) (jb_nil))
      (jb_one (js_ret (je_listRg rfl (by rfl) T.free_list (by rfl) T.free_range (je_fld T.fl_size (je_var (i := 0) rfl (.inl rfl))))))) (jb_nil))
      (jb_cons (js_asg (i := 3) nd rfl (Or.inl rfl) (je_fld T.fl_low (je_var (i := 0) rfl (.inl rfl))))
      (jb_cons (js_if (jt_cmp (op_eqD hr.units) od_eq (je_var (i := 1) rfl (.inl rfl)) (je_str (by decide +kernel)) (nomark _)) (jb_one (js_asg (i := 3) nd rfl (Or.inl rfl) (je_callB (call_max2 rfl) cd_max2 (by rfl) T.free_max (by decide +kernel) (ja_cons (je_var (i := 3) rfl (.inl rfl)) (ja_cons (je_fld T.fl_least (je_var (i := 0) rfl (.inl rfl))) (ja_nil)))))) (jb_nil))
      (jb_one (js_ret (je_sortedSet rfl (je_sl (je_fld T.fl_written (je_var (i := 0) rfl (.inl rfl))) (jo_some (je_var (i := 3) rfl (.inl rfl))) (jo_none)) (by rfl) T.free_sorted (by rfl) T.free_set)))))))
theorem has_Scan_allowed (T : Txt K mg) : HasM P w K mg base "Scan" "allowed" 1 1 [] d_Scan_allowed := by
  obtain ⟨⟨hm, M⟩, fd, Fd⟩ := T.fn_Scan_allowed
  exact ⟨_, fd, ["self", "promise"], [], [], hm, M, ok_Scan_allowed T Fd, FunD.bindsN Fd (fun _ _ _ _ _ _ us hl => match us, hl with | [_, _], _ => rfl), .nil, fun _ => .nil, rfl⟩
theorem ok_Scan_take (T : Txt K mg) {f : Addr} {fd : FuncData} (Fd : FunD K "take" "Scan.take" (defArgs s_Scan_take) (defBody s_Scan_take) (defScope s_Scan_take) [] [] f fd) : FnOk P w K mg base (L2.CX P w) 1 f fd ["self", "event"] (spD K 2 d_Scan_take) := by
  unfold d_Scan_take
  exact fn_okX (k := 0) Fd sc_Scan_take (fun cdv A outer s H E hr tk po hW => by
    have nd := sc_Scan_take.nd
    unfold p_Scan_take
    exact jb_one (js_if (jt_cmp (op_eqD hr.units) od_eq (je_ix (je_var (i := 1) rfl (.inl rfl)) (je_int)) (je_str (by decide +kernel)) (nomark _)) (jb_cons (js_expr (je_append (je_fld T.fl_written (je_var (i := 0) rfl (.inl rfl))) (je_ix (je_var (i := 1) rfl (.inl rfl)) (je_int))))
      (jb_one (js_fld T.fl_writing (je_bl) (je_var (i := 0) rfl (.inl rfl))))) (jb_one (js_if (jt_cmp (op_eqD hr.units) od_eq (je_ix (je_var (i := 1) rfl (.inl rfl)) (je_int)) (je_str (by decide +kernel)) (nomark _)) (jb_cons (js_fld T.fl_ended (je_op op_sub od_sub (je_callB cr_len cd_len (by rfl) T.free_len (by decide +kernel) (ja_cons (je_fld T.fl_written (je_var (i := 0) rfl (.inl rfl))) (ja_nil))) (je_int)) (je_var (i := 0) rfl (.inl rfl)))
      (jb_one (js_fld T.fl_writing (je_bl) (je_var (i := 0) rfl (.inl rfl))))) (jb_cons (js_fld T.fl_reading (je_bl) (je_var (i := 0) rfl (.inl rfl)))
      (jb_one (js_fld T.fl_low (je_fld T.fl_ended (je_var (i := 0) rfl (.inl rfl))) (je_var (i := 0) rfl (.inl rfl)))))))))
theorem has_Scan_take (T : Txt K mg) : HasM P w K mg base "Scan" "take" 1 1 [] d_Scan_take := by
  obtain ⟨⟨hm, M⟩, fd, Fd⟩ := T.fn_Scan_take
  exact ⟨_, fd, ["self", "event"], [], [], hm, M, ok_Scan_take T Fd, FunD.bindsN Fd (fun _ _ _ _ _ _ us hl => match us, hl with | [_, _], _ => rfl), .nil, fun _ => .nil, rfl⟩
theorem ok_Scan_number (T : Txt K mg) {f : Addr} {fd : FuncData} (Fd : FunD K "number" "Scan.number" (defArgs s_Scan_number) (defBody s_Scan_number) (defScope s_Scan_number) [] [] f fd) : FnOk P w K mg base (L2.CX P w) 1 f fd ["self", "worth"] (spD K 2 d_Scan_number) := by
  unfold d_Scan_number
  exact fn_okX (k := 0) Fd sc_Scan_number (fun cdv A outer s H E hr tk po hW => by
    have nd := sc_Scan_number.nd
    unfold p_Scan_number
    exact jb_cons (js_for po rfl (ji_range2 (by rfl) T.free_range (ja_cons (je_callB (call_max2 rfl) cd_max2 (by rfl) T.free_max (by decide +kernel) (ja_cons (je_fld T.fl_low (je_var (i := 0) rfl (.inl rfl))) (ja_cons (je_fld T.fl_least (je_var (i := 0) rfl (.inl rfl))) (ja_nil)))) (ja_cons (je_callB cr_len cd_len (by rfl) T.free_len (by decide +kernel) (ja_cons (je_fld T.fl_written (je_var (i := 0) rfl (.inl rfl))) (ja_nil))) (ja_nil)))) (jg_name (i := 2) nd rfl (Or.inl rfl)) (by unfold p_Scan_number_b0; exact jb_one (js_if (jt_cmp (op_eqD hr.units) od_eq (je_ix (je_fld T.fl_written (je_var (i := 0) rfl (.inl rfl))) (je_var (i := 2) rfl (.inl rfl))) (je_var (i := 1) rfl (.inl rfl)) (nomark _)) (jb_one (js_ret (je_var (i := 2) rfl (.inl rfl)))) (jb_nil))))
      (jb_one (js_ret (je_non))))
theorem has_Scan_number (T : Txt K mg) : HasM P w K mg base "Scan" "number" 1 1 [] d_Scan_number := by
  obtain ⟨⟨hm, M⟩, fd, Fd⟩ := T.fn_Scan_number
  exact ⟨_, fd, ["self", "worth"], [], [], hm, M, ok_Scan_number T Fd, FunD.bindsN Fd (fun _ _ _ _ _ _ us hl => match us, hl with | [_, _], _ => rfl), .nil, fun _ => .nil, rfl⟩
theorem ok_Scan_told (T : Txt K mg) {f : Addr} {fd : FuncData} (Fd : FunD K "told" "Scan.told" (defArgs s_Scan_told) (defBody s_Scan_told) (defScope s_Scan_told) [] [] f fd) : FnOk P w K mg base (L2.CX P w) 2 f fd ["self", "worth"] (spD K 2 d_Scan_told) := by
  unfold d_Scan_told
  exact fn_okX (k := 1) Fd sc_Scan_told (fun cdv A outer s H E hr tk po hW => by
    have nd := sc_Scan_told.nd
    unfold p_Scan_told
    exact jb_cons (js_asg (i := 2) nd rfl (Or.inl rfl) (je_methH (has_Scan_number T) hr tk (je_var (i := 0) rfl (.inl rfl)) (ja_cons (je_var (i := 1) rfl (.inl rfl)) (ja_nil))))
      (jb_cons (js_if (jt_cmp or_isnot od_isnot (je_var (i := 2) rfl (.inl rfl)) (je_non) (nomark _)) (jb_one (js_fld T.fl_least (je_var (i := 2) rfl (.inl rfl)) (je_var (i := 0) rfl (.inl rfl)))) (jb_nil))
      (jb_cons (js_fld T.fl_reading (je_bl) (je_var (i := 0) rfl (.inl rfl)))
      (jb_one (js_ret (je_var (i := 2) rfl (.inl rfl)))))))
theorem has_Scan_told (T : Txt K mg) : HasM P w K mg base "Scan" "told" 1 2 [] d_Scan_told := by
  obtain ⟨⟨hm, M⟩, fd, Fd⟩ := T.fn_Scan_told
  exact ⟨_, fd, ["self", "worth"], [], [], hm, M, ok_Scan_told T Fd, FunD.bindsN Fd (fun _ _ _ _ _ _ us hl => match us, hl with | [_, _], _ => rfl), .nil, fun _ => .nil, rfl⟩
theorem ok_is_kind (T : Txt K mg) {f : Addr} {fd : FuncData} (Fd : FunD K "is_kind" "is_kind" (defArgs s_is_kind) (defBody s_is_kind) (defScope s_is_kind) [] [] f fd) : FnOk P w K mg base (L2.CX P w) 1 f fd ["thing"] (spD K 1 d_is_kind) := by
  unfold d_is_kind
  exact fn_okX (k := 0) Fd sc_is_kind (fun cdv A outer s H E hr tk po hW => by
    have nd := sc_is_kind.nd
    unfold p_is_kind
    exact jb_one (js_ret (je_and (je_isi (je_var (i := 0) rfl (.inl rfl)) (by rfl) T.free_isinstance (by rfl) T.free_str (by decide +kernel) (by decide +kernel)) (je_one (je_cmp or_in od_in (je_var (i := 0) rfl (.inl rfl)) (je_const T.c_PROMISES (by rfl)) (by rfl))))))
theorem has_is_kind (T : Txt K mg) : Has P w K mg base "is_kind" 1 1 [] d_is_kind := by
  obtain ⟨hm, fd, Fd⟩ := T.fn_is_kind
  exact has_of hm Fd (ok_is_kind T Fd) rfl (fun _ _ _ _ _ _ us hl => match us, hl with | [_], _ => rfl)
theorem ok_check_promise (T : Txt K mg) {f : Addr} {fd : FuncData} (Fd : FunD K "check_promise" "check_promise" (defArgs s_check_promise) (defBody s_check_promise) (defScope s_check_promise) [] [] f fd) : FnOk P w K mg base (L2.CX P w) 2 f fd ["promise"] (spD K 1 d_check_promise) := by
  unfold d_check_promise
  exact fn_okX (k := 1) Fd sc_check_promise (fun cdv A outer s H E hr tk po hW => by
    have nd := sc_check_promise.nd
    unfold p_check_promise
    exact jb_one (js_if (jt_not (jt_val (je_callH (has_is_kind T) hr tk (by rfl) (ja_cons (je_var (i := 0) rfl (.inl rfl)) (ja_nil))))) (jb_one (js_never)) (jb_nil)))
theorem has_check_promise (T : Txt K mg) : Has P w K mg base "check_promise" 1 2 [] d_check_promise := by
  obtain ⟨hm, fd, Fd⟩ := T.fn_check_promise
  exact has_of hm Fd (ok_check_promise T Fd) rfl (fun _ _ _ _ _ _ us hl => match us, hl with | [_], _ => rfl)
theorem ok_is_integer (T : Txt K mg) {f : Addr} {fd : FuncData} (Fd : FunD K "is_integer" "is_integer" (defArgs s_is_integer) (defBody s_is_integer) (defScope s_is_integer) [] [] f fd) : FnOk P w K mg base (L2.CX P w) 1 f fd ["thing"] (spD K 1 d_is_integer) := by
  unfold d_is_integer
  exact fn_okX (k := 0) Fd sc_is_integer (fun cdv A outer s H E hr tk po hW => by
    have nd := sc_is_integer.nd
    unfold p_is_integer
    exact jb_one (js_ret (je_and (je_isi (je_var (i := 0) rfl (.inl rfl)) (by rfl) T.free_isinstance (by rfl) T.free_int (by decide +kernel) (by decide +kernel)) (je_one (je_not (je_isi (je_var (i := 0) rfl (.inl rfl)) (by rfl) T.free_isinstance (by rfl) T.free_bool (by decide +kernel) (by decide +kernel)))))))
theorem has_is_integer (T : Txt K mg) : Has P w K mg base "is_integer" 1 1 [] d_is_integer := by
  obtain ⟨hm, fd, Fd⟩ := T.fn_is_integer
  exact has_of hm Fd (ok_is_integer T Fd) rfl (fun _ _ _ _ _ _ us hl => match us, hl with | [_], _ => rfl)
theorem ok_is_between (T : Txt K mg) {f : Addr} {fd : FuncData} (Fd : FunD K "is_between" "is_between" (defArgs s_is_between) (defBody s_is_between) (defScope s_is_between) [] [] f fd) : FnOk P w K mg base (L2.CX P w) 2 f fd ["thing", "low", "high"] (spD K 3 d_is_between) := by
  unfold d_is_between
  exact fn_okX (k := 1) Fd sc_is_between (fun cdv A outer s H E hr tk po hW => by
    have nd := sc_is_between.nd
    unfold p_is_between
    exact jb_one (js_ret (je_and (je_callH (has_is_integer T) hr tk (by rfl) (ja_cons (je_var (i := 0) rfl (.inl rfl)) (ja_nil))) (je_one (je_chain op_le od_le op_le od_le (je_var (i := 1) rfl (.inl rfl)) (je_var (i := 0) rfl (.inl rfl)) (je_var (i := 2) rfl (.inl rfl)))))))
theorem has_is_between (T : Txt K mg) : Has P w K mg base "is_between" 3 2 [] d_is_between := by
  obtain ⟨hm, fd, Fd⟩ := T.fn_is_between
  exact has_of hm Fd (ok_is_between T Fd) rfl (fun _ _ _ _ _ _ us hl => match us, hl with | [_, _, _], _ => rfl)
theorem ok_check_setting (T : Txt K mg) {f : Addr} {fd : FuncData} (Fd : FunD K "check_setting" "check_setting" (defArgs s_check_setting) (defBody s_check_setting) (defScope s_check_setting) [] [] f fd) : FnOk P w K mg base (L2.CX P w) 3 f fd ["size", "start"] (spD K 2 d_check_setting) := by
  unfold d_check_setting
  exact fn_okX (k := 2) Fd sc_check_setting (fun cdv A outer s H E hr tk po hW => by
    have nd := sc_check_setting.nd
    unfold p_check_setting
    exact jb_cons (js_if (jt_not (jt_val (je_callH (has_is_between T) hr tk (by rfl) (ja_cons (je_var (i := 0) rfl (.inl rfl)) (ja_cons (je_int) (ja_cons (je_int) (ja_nil))))))) (jb_one (js_never)) (jb_nil))
      (jb_one (js_if (jt_not (jt_val (je_callH (has_is_between T) hr tk (by rfl) (ja_cons (je_var (i := 1) rfl (.inl rfl)) (ja_cons (je_int) (ja_cons (je_op op_sub od_sub (je_var (i := 0) rfl (.inl rfl)) (je_int)) (ja_nil))))))) (jb_one (js_never)) (jb_nil))))
theorem has_check_setting (T : Txt K mg) : Has P w K mg base "check_setting" 2 3 [] d_check_setting := by
  obtain ⟨hm, fd, Fd⟩ := T.fn_check_setting
  exact has_of hm Fd (ok_check_setting T Fd) rfl (fun _ _ _ _ _ _ us hl => match us, hl with | [_, _], _ => rfl)
theorem ok_is_row (T : Txt K mg) {f : Addr} {fd : FuncData} (Fd : FunD K "is_row" "is_row" (defArgs s_is_row) (defBody s_is_row) (defScope s_is_row) [] [] f fd) : FnOk P w K mg base (L2.CX P w) 1 f fd ["thing"] (spD K 1 d_is_row) := by
  unfold d_is_row
  exact fn_okX (k := 0) Fd sc_is_row (fun cdv A outer s H E hr tk po hW => by
    have nd := sc_is_row.nd
    unfold p_is_row
    exact jb_one (js_ret (je_isi2 (je_var (i := 0) rfl (.inl rfl)) (by rfl) T.free_isinstance (by rfl) T.free_list (by decide +kernel) (by decide +kernel) (by rfl) T.free_tuple (by decide +kernel) (by decide +kernel))))
theorem has_is_row (T : Txt K mg) : Has P w K mg base "is_row" 1 1 [] d_is_row := by
  obtain ⟨hm, fd, Fd⟩ := T.fn_is_row
  exact has_of hm Fd (ok_is_row T Fd) rfl (fun _ _ _ _ _ _ us hl => match us, hl with | [_], _ => rfl)
theorem ok_is_word_row (T : Txt K mg) {f : Addr} {fd : FuncData} (Fd : FunD K "is_word_row" "is_word_row" (defArgs s_is_word_row) (defBody s_is_word_row) (defScope s_is_word_row) [] [] f fd) : FnOk P w K mg base (L2.CX P w) 2 f fd ["thing", "word", "length"] (spD K 3 d_is_word_row) := by
  unfold d_is_word_row
  exact fn_okX (k := 1) Fd sc_is_word_row (fun cdv A outer s H E hr tk po hW => by
    have nd := sc_is_word_row.nd
    unfold p_is_word_row
    exact jb_cons (js_if ((jw_or (jt_not (jt_val (je_callH (has_is_row T) hr tk (by rfl) (ja_cons (je_var (i := 0) rfl (.inl rfl)) (ja_nil))))) (jw_or1 (jt_cmp (op_neD hr.units) od_ne (je_callB cr_len cd_len (by rfl) T.free_len (by decide +kernel) (ja_cons (je_var (i := 0) rfl (.inl rfl)) (ja_nil))) (je_var (i := 2) rfl (.inl rfl)) (nomark _)))).t) (jb_one (js_ret (je_bl))) (jb_nil))
      (jb_one (js_ret (je_and (je_isi (je_ix (je_var (i := 0) rfl (.inl rfl)) (je_int)) (by rfl) T.free_isinstance (by rfl) T.free_str (by decide +kernel) (by decide +kernel)) (je_one (je_cmp (op_eqD hr.units) od_eq (je_ix (je_var (i := 0) rfl (.inl rfl)) (je_int)) (je_var (i := 1) rfl (.inl rfl)) (nomark _)))))))
theorem has_is_word_row (T : Txt K mg) : Has P w K mg base "is_word_row" 3 2 [] d_is_word_row := by
  obtain ⟨hm, fd, Fd⟩ := T.fn_is_word_row
  exact has_of hm Fd (ok_is_word_row T Fd) rfl (fun _ _ _ _ _ _ us hl => match us, hl with | [_, _, _], _ => rfl)
theorem ok_event_form (T : Txt K mg) {f : Addr} {fd : FuncData} (Fd : FunD K "event_form" "event_form" (defArgs s_event_form) (defBody s_event_form) (defScope s_event_form) [] [] f fd) : FnOk P w K mg base (L2.CX P w) 3 f fd ["event", "size"] (spD K 2 d_event_form) := by
  unfold d_event_form
  exact fn_okX (k := 2) Fd sc_event_form (fun cdv A outer s H E hr tk po hW => by
    have nd := sc_event_form.nd
    unfold p_event_form
    exact jb_cons (js_if ((jw_or (jt_val (je_callH (has_is_word_row T) hr tk (by rfl) (ja_cons (je_var (i := 0) rfl (.inl rfl)) (ja_cons (je_str (by decide +kernel)) (ja_cons (je_int) (ja_nil)))))) (jw_or1 (jt_val (je_callH (has_is_word_row T) hr tk (by rfl) (ja_cons (je_var (i := 0) rfl (.inl rfl)) (ja_cons (je_str (by decide +kernel)) (ja_cons (je_int) (ja_nil)))))))).t) (jb_one (js_ret (je_tup (ja_cons (je_ix (je_var (i := 0) rfl (.inl rfl)) (je_int)) (ja_nil))))) (jb_nil))
      (jb_cons (js_if ((jw_or (jt_val (je_callH (has_is_word_row T) hr tk (by rfl) (ja_cons (je_var (i := 0) rfl (.inl rfl)) (ja_cons (je_str (by decide +kernel)) (ja_cons (je_int) (ja_nil)))))) (jw_or1 (jt_val (je_callH (has_is_word_row T) hr tk (by rfl) (ja_cons (je_var (i := 0) rfl (.inl rfl)) (ja_cons (je_str (by decide +kernel)) (ja_cons (je_int) (ja_nil)))))))).t) (jb_one (js_if (jt_val (je_callH (has_is_between T) hr tk (by rfl) (ja_cons (je_ix (je_var (i := 0) rfl (.inl rfl)) (je_int)) (ja_cons (je_int) (ja_cons (je_op op_sub od_sub (je_var (i := 1) rfl (.inl rfl)) (je_int)) (ja_nil)))))) (jb_one (js_ret (je_tup (ja_cons (je_ix (je_var (i := 0) rfl (.inl rfl)) (je_int)) (ja_cons (je_ix (je_var (i := 0) rfl (.inl rfl)) (je_int)) (ja_nil)))))) (jb_nil))) (jb_nil))
      (jb_one (js_ret (je_non)))))
theorem has_event_form (T : Txt K mg) : Has P w K mg base "event_form" 2 3 [] d_event_form := by
  obtain ⟨hm, fd, Fd⟩ := T.fn_event_form
  exact has_of hm Fd (ok_event_form T Fd) rfl (fun _ _ _ _ _ _ us hl => match us, hl with | [_, _], _ => rfl)
theorem ok_events_of (T : Txt K mg) {f : Addr} {fd : FuncData} (Fd : FunD K "events_of" "events_of" (defArgs s_events_of) (defBody s_events_of) (defScope s_events_of) [] [] f fd) : FnOk P w K mg base (L2.CX P w) 4 f fd ["history", "size"] (spD K 2 d_events_of) := by
  unfold d_events_of
  exact fn_okX (k := 3) Fd sc_events_of (fun cdv A outer s H E hr tk po hW => by
    have nd := sc_events_of.nd
    unfold p_events_of
    exact jb_cons (js_if (jt_not (jt_val (je_callH (has_is_row T) (hr.mono (by decide)) tk (by rfl) (ja_cons (je_var (i := 0) rfl (.inl rfl)) (ja_nil))))) (jb_one (js_never)) (jb_nil))
      (jb_cons (js_asg (i := 2) nd rfl (Or.inl rfl) (je_lstM (ja_nil)))
      (jb_cons (js_asg (i := 3) nd rfl (Or.inl rfl) (je_bl))
      (jb_cons (js_asg (i := 4) nd rfl (Or.inl rfl) (je_bl))
      (jb_cons (js_for po rfl (ji_enum (by rfl) T.free_enumerate (ja_cons (je_var (i := 0) rfl (.inl rfl)) (ja_nil))) (jg_tup (n := 2) rfl (jgs_cons (jg_name (i := 5) nd rfl (Or.inl rfl)) (jgs_cons (jg_name (i := 6) nd rfl (Or.inl rfl)) (jgs_nil) (hW := hW)) (hW := hW)) (gs_len2)) (by unfold p_events_of_b0; exact jb_cons (js_asg (i := 7) nd rfl (Or.inl rfl) (je_callH (has_event_form T) hr tk (by rfl) (ja_cons (je_var (i := 6) rfl (.inl rfl)) (ja_cons (je_var (i := 1) rfl (.inl rfl)) (ja_nil)))))       (jb_cons (js_if (jt_cmp or_is od_is (je_var (i := 7) rfl (.inl rfl)) (je_non) (nomark _)) (jb_one (js_never)) (jb_nil))       (jb_cons (js_if (jt_cmp or_in od_in (je_ix (je_var (i := 7) rfl (.inl rfl)) (je_int)) (je_tup (ja_cons (je_str (by decide +kernel)) (ja_cons (je_str (by decide +kernel)) (ja_nil)))) (by rfl)) (jb_cons (js_if (jt_cmp (op_neD hr.units) od_ne (je_var (i := 3) rfl (.inl rfl)) (je_cmp (op_eqD hr.units) od_eq (je_ix (je_var (i := 7) rfl (.inl rfl)) (je_int)) (je_str (by decide +kernel)) (nomark _)) (nomark _)) (jb_one (js_never)) (jb_nil))       (jb_one (js_asg (i := 3) nd rfl (Or.inl rfl) (je_not (je_var (i := 3) rfl (.inl rfl)))))) (jb_cons (js_if (jt_cmp (op_neD hr.units) od_ne (je_var (i := 4) rfl (.inl rfl)) (je_cmp (op_eqD hr.units) od_eq (je_ix (je_var (i := 7) rfl (.inl rfl)) (je_int)) (je_str (by decide +kernel)) (nomark _)) (nomark _)) (jb_one (js_never)) (jb_nil))       (jb_one (js_asg (i := 4) nd rfl (Or.inl rfl) (je_not (je_var (i := 4) rfl (.inl rfl)))))))       (jb_one (js_expr (je_append (je_var (i := 2) rfl (.inl rfl)) (je_var (i := 7) rfl (.inl rfl)))))))))
      (jb_frz (i := 2) (jb_one (js_ret (je_var (i := 2) rfl (.inl rfl))))))))))
theorem has_events_of (T : Txt K mg) : Has P w K mg base "events_of" 2 4 [] d_events_of := by
  obtain ⟨hm, fd, Fd⟩ := T.fn_events_of
  exact has_of hm Fd (ok_events_of T Fd) rfl (fun _ _ _ _ _ _ us hl => match us, hl with | [_, _], _ => rfl)
theorem ok_fault (T : Txt K mg) {f : Addr} {fd : FuncData} (Fd : FunD K "fault" "fault" (defArgs s_fault) (defBody s_fault) (defScope s_fault) [] [("size", .int 2), ("start", .int 0)] f fd) : FnOk P w K mg base (L2.CX P w) 5 f fd ["history", "promise", "size", "start"] (spD K 4 d_fault) := by
  unfold d_fault
  exact fn_okX (k := 4) Fd sc_fault (fun cdv A outer s H E hr tk po hW => by
    have nd := sc_fault.nd
    unfold p_fault
    exact jb_cons (js_expr (je_callH (has_check_setting T) (hr.mono (by decide)) tk (by rfl) (ja_cons (je_var (i := 2) rfl (.inl rfl)) (ja_cons (je_var (i := 3) rfl (.inl rfl)) (ja_nil)))))
      (jb_cons (js_expr (je_callH (has_check_promise T) (hr.mono (by decide)) tk (by rfl) (ja_cons (je_var (i := 1) rfl (.inl rfl)) (ja_nil))))
      (jb_cons (js_asg (i := 4) nd rfl (Or.inl rfl) (je_callH (has_events_of T) hr tk (by rfl) (ja_cons (je_var (i := 0) rfl (.inl rfl)) (ja_cons (je_var (i := 2) rfl (.inl rfl)) (ja_nil)))))
      (jb_cons (js_asg (i := 5) nd rfl (Or.inl rfl) (je_makeH (has_Scan___init__ T) (hr.mono (by decide)) tk (by rfl) (ja_cons (je_var (i := 2) rfl (.inl rfl)) (ja_cons (je_var (i := 3) rfl (.inl rfl)) (ja_nil)))))
      (jb_cons (js_for po rfl (ji_enum (by rfl) T.free_enumerate (ja_cons (je_var (i := 4) rfl (.inl rfl)) (ja_nil))) (jg_tup (n := 2) rfl (jgs_cons (jg_name (i := 6) nd rfl (Or.inl rfl)) (jgs_cons (jg_name (i := 7) nd rfl (Or.inl rfl)) (jgs_nil) (hW := hW)) (hW := hW)) (gs_len2)) (by unfold p_fault_b0; exact jb_cons (js_if (jt_cmp (op_neD hr.units) od_ne (je_ix (je_var (i := 7) rfl (.inl rfl)) (je_int)) (je_str (by decide +kernel)) (nomark _)) (jb_cons (js_expr (je_methH (has_Scan_take T) (hr.mono (by decide)) tk (je_var (i := 5) rfl (.inl rfl)) (ja_cons (je_var (i := 7) rfl (.inl rfl)) (ja_nil))))       (jb_one (js_cont))) (jb_nil))       (jb_cons (js_if (jt_cmp or_notin od_notin (je_ix (je_var (i := 7) rfl (.inl rfl)) (je_int)) (je_methH (has_Scan_allowed T) (hr.mono (by decide)) tk (je_var (i := 5) rfl (.inl rfl)) (ja_cons (je_var (i := 1) rfl (.inl rfl)) (ja_nil))) (by rfl)) (jb_one (js_ret (je_var (i := 6) rfl (.inl rfl)))) (jb_nil))       (jb_one (js_expr (je_methH (has_Scan_told T) (hr.mono (by decide)) tk (je_var (i := 5) rfl (.inl rfl)) (ja_cons (je_ix (je_var (i := 7) rfl (.inl rfl)) (je_int)) (ja_nil))))))))
      (jb_one (js_ret (je_non))))))))
theorem hasK_fault (T : Txt K mg) : HasK P w K mg base "fault" 2 ["size", "start"] 5 d_fault := by
  obtain ⟨hm, fd, Fd⟩ := T.fn_fault
  have ok := ok_fault (P := P) (w := w) (base := base) T Fd
  obtain ⟨oc, od, dV, kV, doc, pm, an, cdv, ct, osl, rfl, lk, hcd, hD, hK⟩ := id Fd.ex
  rcases hD with ⟨_, rfl⟩ | ⟨e, _⟩
  · exact ⟨_, _, ["history", "promise", "size", "start"], hm, ok, Fd.kp, rfl, fun s us ws _ h1 h2 => match us, ws, h1, h2 with | [_, _], [_, _], _, _ => .of_eq rfl⟩
  · exact absurd rfl e
theorem ok_first_watch (T : Txt K mg) {f : Addr} {fd : FuncData} (Fd : FunD K "first_watch" "first_watch" (defArgs s_first_watch) (defBody s_first_watch) (defScope s_first_watch) [] [] f fd) : FnOk P w K mg base (L2.CX P w) 3 f fd ["promise", "start"] (spD K 2 d_first_watch) := by
  unfold d_first_watch
  exact fn_okX (k := 2) Fd sc_first_watch (fun cdv A outer s H E hr tk po hW => by
    have nd := sc_first_watch.nd
    unfold p_first_watch
    exact jb_cons (js_expr (je_callH (has_check_promise T) hr tk (by rfl) (ja_cons (je_var (i := 0) rfl (.inl rfl)) (ja_nil))))
      (jb_cons (js_if (jt_cmp (op_eqD hr.units) od_eq (je_var (i := 0) rfl (.inl rfl)) (je_str (by decide +kernel)) (nomark _)) (jb_one (js_ret (je_tup (ja_cons (je_var (i := 1) rfl (.inl rfl)) (ja_cons (je_un un_neg ud_neg (je_int)) (ja_cons (je_int) (ja_nil))))))) (jb_nil))
      (jb_cons (js_if (jt_cmp (op_eqD hr.units) od_eq (je_var (i := 0) rfl (.inl rfl)) (je_str (by decide +kernel)) (nomark _)) (jb_one (js_ret (je_tup (ja_cons (je_var (i := 1) rfl (.inl rfl)) (ja_cons (je_un un_neg ud_neg (je_int)) (ja_cons (je_tup (ja_nil)) (ja_nil))))))) (jb_nil))
      (jb_one (js_ret (je_tup (ja_cons (je_var (i := 1) rfl (.inl rfl)) (ja_cons (je_un un_neg ud_neg (je_int)) (ja_cons (je_int) (ja_cons (je_tup (ja_nil)) (ja_nil)))))))))))
theorem has_first_watch (T : Txt K mg) : Has P w K mg base "first_watch" 2 3 [] d_first_watch := by
  obtain ⟨hm, fd, Fd⟩ := T.fn_first_watch
  exact has_of hm Fd (ok_first_watch T Fd) rfl (fun _ _ _ _ _ _ us hl => match us, hl with | [_, _], _ => rfl)
theorem ok_merged (T : Txt K mg) {f : Addr} {fd : FuncData} (Fd : FunD K "merged" "merged" (defArgs s_merged) (defBody s_merged) (defScope s_merged) [] [] f fd) : FnOk P w K mg base (L2.CX P w) 1 f fd ["values", "more"] (spD K 2 d_merged) := by
  unfold d_merged
  exact fn_okX (k := 0) Fd sc_merged (fun cdv A outer s H E hr tk po hW => by
    have nd := sc_merged.nd
    unfold p_merged
    exact jb_one (js_ret (je_callTy call_tuple_of cd_tuple (by rfl) T.free_tuple (by decide +kernel) (ja_cons (je_sortedSet rfl (je_op or_addD od_add (je_callTy call_list_of cd_list (by rfl) T.free_list (by decide +kernel) (ja_cons (je_var (i := 0) rfl (.inl rfl)) (ja_nil))) (je_callTy call_list_of cd_list (by rfl) T.free_list (by decide +kernel) (ja_cons (je_var (i := 1) rfl (.inl rfl)) (ja_nil)))) (by rfl) T.free_sorted (by rfl) T.free_set) (ja_nil)))))
theorem has_merged (T : Txt K mg) : Has P w K mg base "merged" 2 1 [] d_merged := by
  obtain ⟨hm, fd, Fd⟩ := T.fn_merged
  exact has_of hm Fd (ok_merged T Fd) rfl (fun _ _ _ _ _ _ us hl => match us, hl with | [_, _], _ => rfl)
theorem ok_atomic_watch (T : Txt K mg) {f : Addr} {fd : FuncData} (Fd : FunD K "atomic_watch" "atomic_watch" (defArgs s_atomic_watch) (defBody s_atomic_watch) (defScope s_atomic_watch) [] [] f fd) : FnOk P w K mg base (L2.CX P w) 2 f fd ["watch", "event"] (spD K 2 d_atomic_watch) := by
  unfold d_atomic_watch
  exact fn_okX (k := 1) Fd sc_atomic_watch (fun cdv A outer s H E hr tk po hW => by
    have nd := sc_atomic_watch.nd
    unfold p_atomic_watch
    exact jb_cons (js_asgG (je_var (i := 0) rfl (.inl rfl)) (jg_tup (n := 4) rfl (jgs_cons (jg_name (i := 2) nd rfl (Or.inl rfl)) (jgs_cons (jg_name (i := 3) nd rfl (Or.inl rfl)) (jgs_cons (jg_name (i := 4) nd rfl (Or.inl rfl)) (jgs_cons (jg_name (i := 5) nd rfl (Or.inl rfl)) (jgs_nil) (hW := hW)) (hW := hW)) (hW := hW)) (hW := hW)) (gs_len4)))
      (jb_cons (js_if (jt_cmp (op_eqD hr.units) od_eq (je_ix (je_var (i := 1) rfl (.inl rfl)) (je_int)) (je_str (by decide +kernel)) (nomark _)) (jb_one (js_ret (je_tup (ja_cons (je_var (i := 2) rfl (.inl rfl)) (ja_cons (je_ix (je_var (i := 1) rfl (.inl rfl)) (je_int)) (ja_cons (je_var (i := 4) rfl (.inl rfl)) (ja_cons (je_var (i := 5) rfl (.inl rfl)) (ja_nil)))))))) (jb_nil))
      (jb_cons (js_if (jt_cmp (op_eqD hr.units) od_eq (je_ix (je_var (i := 1) rfl (.inl rfl)) (je_int)) (je_str (by decide +kernel)) (nomark _)) (jb_cons (js_if (jt_cmp (op_eqD hr.units) od_eq (je_var (i := 4) rfl (.inl rfl)) (je_int) (nomark _)) (jb_one (js_ret (je_tup (ja_cons (je_var (i := 3) rfl (.inl rfl)) (ja_cons (je_un un_neg ud_neg (je_int)) (ja_cons (je_int) (ja_cons (je_callH (has_merged T) hr tk (by rfl) (ja_cons (je_var (i := 5) rfl (.inl rfl)) (ja_cons (je_tup (ja_cons (je_var (i := 3) rfl (.inl rfl)) (ja_nil))) (ja_nil)))) (ja_nil)))))))) (jb_nil))
      (jb_one (js_ret (je_tup (ja_cons (je_var (i := 3) rfl (.inl rfl)) (ja_cons (je_un un_neg ud_neg (je_int)) (ja_cons (je_int) (ja_cons (je_tup (ja_nil)) (ja_nil))))))))) (jb_nil))
      (jb_cons (js_if (jt_cmp (op_eqD hr.units) od_eq (je_ix (je_var (i := 1) rfl (.inl rfl)) (je_int)) (je_str (by decide +kernel)) (nomark _)) (jb_one (js_ret (je_tup (ja_cons (je_var (i := 2) rfl (.inl rfl)) (ja_cons (je_var (i := 3) rfl (.inl rfl)) (ja_cons (je_int) (ja_cons (je_if (jt_cmp (op_eqD hr.units) od_eq (je_var (i := 4) rfl (.inl rfl)) (je_int) (nomark _)) (je_tup (ja_cons (je_var (i := 2) rfl (.inl rfl)) (ja_nil))) (je_tup (ja_nil))) (ja_nil)))))))) (jb_nil))
      (jb_cons (js_if (jt_cmp or_in od_in (je_ix (je_var (i := 1) rfl (.inl rfl)) (je_int)) (je_var (i := 5) rfl (.inl rfl)) (by rfl)) (jb_one (js_ret (je_tup (ja_cons (je_var (i := 2) rfl (.inl rfl)) (ja_cons (je_var (i := 3) rfl (.inl rfl)) (ja_cons (je_int) (ja_cons (je_tup (ja_nil)) (ja_nil)))))))) (jb_nil))
      (jb_cons (js_if (jt_cmp (op_eqD hr.units) od_eq (je_ix (je_var (i := 1) rfl (.inl rfl)) (je_int)) (je_var (i := 3) rfl (.inl rfl)) (nomark _)) (jb_one (js_ret (je_tup (ja_cons (je_var (i := 2) rfl (.inl rfl)) (ja_cons (je_var (i := 3) rfl (.inl rfl)) (ja_cons (je_int) (ja_cons (je_tup (ja_nil)) (ja_nil)))))))) (jb_nil))
      (jb_one (js_ret (je_non)))))))))
theorem has_atomic_watch (T : Txt K mg) : Has P w K mg base "atomic_watch" 2 2 [] d_atomic_watch := by
  obtain ⟨hm, fd, Fd⟩ := T.fn_atomic_watch
  exact has_of hm Fd (ok_atomic_watch T Fd) rfl (fun _ _ _ _ _ _ us hl => match us, hl with | [_, _], _ => rfl)
theorem ok_regular_watch (T : Txt K mg) {f : Addr} {fd : FuncData} (Fd : FunD K "regular_watch" "regular_watch" (defArgs s_regular_watch) (defBody s_regular_watch) (defScope s_regular_watch) [] [] f fd) : FnOk P w K mg base (L2.CX P w) 2 f fd ["watch", "event"] (spD K 2 d_regular_watch) := by
  unfold d_regular_watch
  exact fn_okX (k := 1) Fd sc_regular_watch (fun cdv A outer s H E hr tk po hW => by
    have nd := sc_regular_watch.nd
    unfold p_regular_watch
    exact jb_cons (js_asgG (je_var (i := 0) rfl (.inl rfl)) (jg_tup (n := 3) rfl (jgs_cons (jg_name (i := 2) nd rfl (Or.inl rfl)) (jgs_cons (jg_name (i := 3) nd rfl (Or.inl rfl)) (jgs_cons (jg_name (i := 4) nd rfl (Or.inl rfl)) (jgs_nil) (hW := hW)) (hW := hW)) (hW := hW)) (gs_len3)))
      (jb_cons (js_if (jt_cmp (op_eqD hr.units) od_eq (je_ix (je_var (i := 1) rfl (.inl rfl)) (je_int)) (je_str (by decide +kernel)) (nomark _)) (jb_cons (js_if (jt_cmp op_gt od_gt (je_callB cr_len cd_len (by rfl) T.free_len (by decide +kernel) (ja_cons (je_var (i := 4) rfl (.inl rfl)) (ja_nil))) (je_int) (nomark _)) (jb_one (js_asg (i := 4) nd rfl (Or.inl rfl) (je_callH (has_merged T) hr tk (by rfl) (ja_cons (je_var (i := 4) rfl (.inl rfl)) (ja_cons (je_tup (ja_cons (je_ix (je_var (i := 1) rfl (.inl rfl)) (je_int)) (ja_nil))) (ja_nil)))))) (jb_nil))
      (jb_one (js_ret (je_tup (ja_cons (je_var (i := 2) rfl (.inl rfl)) (ja_cons (je_ix (je_var (i := 1) rfl (.inl rfl)) (je_int)) (ja_cons (je_var (i := 4) rfl (.inl rfl)) (ja_nil)))))))) (jb_nil))
      (jb_cons (js_if (jt_cmp (op_eqD hr.units) od_eq (je_ix (je_var (i := 1) rfl (.inl rfl)) (je_int)) (je_str (by decide +kernel)) (nomark _)) (jb_one (js_ret (je_tup (ja_cons (je_var (i := 3) rfl (.inl rfl)) (ja_cons (je_un un_neg ud_neg (je_int)) (ja_cons (je_var (i := 4) rfl (.inl rfl)) (ja_nil))))))) (jb_nil))
      (jb_cons (js_if (jt_cmp (op_eqD hr.units) od_eq (je_ix (je_var (i := 1) rfl (.inl rfl)) (je_int)) (je_str (by decide +kernel)) (nomark _)) (jb_cons (js_if (jt_cmp (op_eqD hr.units) od_eq (je_var (i := 3) rfl (.inl rfl)) (je_un un_neg ud_neg (je_int)) (nomark _)) (jb_one (js_ret (je_tup (ja_cons (je_var (i := 2) rfl (.inl rfl)) (ja_cons (je_var (i := 3) rfl (.inl rfl)) (ja_cons (je_tup (ja_cons (je_var (i := 2) rfl (.inl rfl)) (ja_nil))) (ja_nil))))))) (jb_nil))
      (jb_one (js_ret (je_tup (ja_cons (je_var (i := 2) rfl (.inl rfl)) (ja_cons (je_var (i := 3) rfl (.inl rfl)) (ja_cons (je_callH (has_merged T) hr tk (by rfl) (ja_cons (je_tup (ja_cons (je_var (i := 2) rfl (.inl rfl)) (ja_nil))) (ja_cons (je_tup (ja_cons (je_var (i := 3) rfl (.inl rfl)) (ja_nil))) (ja_nil)))) (ja_nil)))))))) (jb_nil))
      (jb_cons (js_if (jt_cmp or_notin od_notin (je_ix (je_var (i := 1) rfl (.inl rfl)) (je_int)) (je_var (i := 4) rfl (.inl rfl)) (by rfl)) (jb_one (js_ret (je_non))) (jb_nil))
      (jb_one (js_ret (je_tup (ja_cons (je_var (i := 2) rfl (.inl rfl)) (ja_cons (je_var (i := 3) rfl (.inl rfl)) (ja_cons (je_tup (ja_nil)) (ja_nil))))))))))))
theorem has_regular_watch (T : Txt K mg) : Has P w K mg base "regular_watch" 2 2 [] d_regular_watch := by
  obtain ⟨hm, fd, Fd⟩ := T.fn_regular_watch
  exact has_of hm Fd (ok_regular_watch T Fd) rfl (fun _ _ _ _ _ _ us hl => match us, hl with | [_, _], _ => rfl)
theorem ok_safe_watch (T : Txt K mg) {f : Addr} {fd : FuncData} (Fd : FunD K "safe_watch" "safe_watch" (defArgs s_safe_watch) (defBody s_safe_watch) (defScope s_safe_watch) [] [] f fd) : FnOk P w K mg base (L2.CX P w) 1 f fd ["watch", "event"] (spD K 2 d_safe_watch) := by
  unfold d_safe_watch
  exact fn_okX (k := 0) Fd sc_safe_watch (fun cdv A outer s H E hr tk po hW => by
    have nd := sc_safe_watch.nd
    unfold p_safe_watch
    exact jb_cons (js_asgG (je_var (i := 0) rfl (.inl rfl)) (jg_tup (n := 3) rfl (jgs_cons (jg_name (i := 2) nd rfl (Or.inl rfl)) (jgs_cons (jg_name (i := 3) nd rfl (Or.inl rfl)) (jgs_cons (jg_name (i := 4) nd rfl (Or.inl rfl)) (jgs_nil) (hW := hW)) (hW := hW)) (hW := hW)) (gs_len3)))
      (jb_cons (js_if (jt_cmp (op_eqD hr.units) od_eq (je_ix (je_var (i := 1) rfl (.inl rfl)) (je_int)) (je_str (by decide +kernel)) (nomark _)) (jb_one (js_ret (je_tup (ja_cons (je_var (i := 2) rfl (.inl rfl)) (ja_cons (je_ix (je_var (i := 1) rfl (.inl rfl)) (je_int)) (ja_cons (je_if (jt_cmp (op_eqD hr.units) od_eq (je_var (i := 4) rfl (.inl rfl)) (je_int) (nomark _)) (je_int) (je_var (i := 4) rfl (.inl rfl))) (ja_nil))))))) (jb_nil))
      (jb_cons (js_if (jt_cmp (op_eqD hr.units) od_eq (je_ix (je_var (i := 1) rfl (.inl rfl)) (je_int)) (je_str (by decide +kernel)) (nomark _)) (jb_one (js_ret (je_tup (ja_cons (je_var (i := 3) rfl (.inl rfl)) (ja_cons (je_un un_neg ud_neg (je_int)) (ja_cons (je_var (i := 4) rfl (.inl rfl)) (ja_nil))))))) (jb_nil))
      (jb_cons (js_if (jt_cmp (op_eqD hr.units) od_eq (je_ix (je_var (i := 1) rfl (.inl rfl)) (je_int)) (je_str (by decide +kernel)) (nomark _)) (jb_one (js_ret (je_tup (ja_cons (je_var (i := 2) rfl (.inl rfl)) (ja_cons (je_var (i := 3) rfl (.inl rfl)) (ja_cons (je_if (jt_cmp (op_eqD hr.units) od_eq (je_var (i := 3) rfl (.inl rfl)) (je_un un_neg ud_neg (je_int)) (nomark _)) (je_int) (je_int)) (ja_nil))))))) (jb_nil))
      (jb_cons (js_if ((jw_and (jt_cmp (op_eqD hr.units) od_eq (je_var (i := 4) rfl (.inl rfl)) (je_int) (nomark _)) (jw_and1 (jt_cmp (op_neD hr.units) od_ne (je_ix (je_var (i := 1) rfl (.inl rfl)) (je_int)) (je_var (i := 2) rfl (.inl rfl)) (nomark _)))).t) (jb_one (js_ret (je_non))) (jb_nil))
      (jb_one (js_ret (je_tup (ja_cons (je_var (i := 2) rfl (.inl rfl)) (ja_cons (je_var (i := 3) rfl (.inl rfl)) (ja_cons (je_int) (ja_nil))))))))))))
theorem has_safe_watch (T : Txt K mg) : Has P w K mg base "safe_watch" 2 1 [] d_safe_watch := by
  obtain ⟨hm, fd, Fd⟩ := T.fn_safe_watch
  exact has_of hm Fd (ok_safe_watch T Fd) rfl (fun _ _ _ _ _ _ us hl => match us, hl with | [_, _], _ => rfl)
theorem ok_next_watch (T : Txt K mg) {f : Addr} {fd : FuncData} (Fd : FunD K "next_watch" "next_watch" (defArgs s_next_watch) (defBody s_next_watch) (defScope s_next_watch) [] [] f fd) : FnOk P w K mg base (L2.CX P w) 3 f fd ["promise", "watch", "event"] (spD K 3 d_next_watch) := by
  unfold d_next_watch
  exact fn_okX (k := 2) Fd sc_next_watch (fun cdv A outer s H E hr tk po hW => by
    have nd := sc_next_watch.nd
    unfold p_next_watch
    exact jb_cons (js_expr (je_callH (has_check_promise T) hr tk (by rfl) (ja_cons (je_var (i := 0) rfl (.inl rfl)) (ja_nil))))
      (jb_cons (js_if (jt_cmp (op_eqD hr.units) od_eq (je_var (i := 0) rfl (.inl rfl)) (je_str (by decide +kernel)) (nomark _)) (jb_one (js_ret (je_callH (has_safe_watch T) (hr.mono (by decide)) tk (by rfl) (ja_cons (je_var (i := 1) rfl (.inl rfl)) (ja_cons (je_var (i := 2) rfl (.inl rfl)) (ja_nil)))))) (jb_nil))
      (jb_cons (js_if (jt_cmp (op_eqD hr.units) od_eq (je_var (i := 0) rfl (.inl rfl)) (je_str (by decide +kernel)) (nomark _)) (jb_one (js_ret (je_callH (has_regular_watch T) hr tk (by rfl) (ja_cons (je_var (i := 1) rfl (.inl rfl)) (ja_cons (je_var (i := 2) rfl (.inl rfl)) (ja_nil)))))) (jb_nil))
      (jb_one (js_ret (je_callH (has_atomic_watch T) hr tk (by rfl) (ja_cons (je_var (i := 1) rfl (.inl rfl)) (ja_cons (je_var (i := 2) rfl (.inl rfl)) (ja_nil)))))))))
theorem has_next_watch (T : Txt K mg) : Has P w K mg base "next_watch" 3 3 [] d_next_watch := by
  obtain ⟨hm, fd, Fd⟩ := T.fn_next_watch
  exact has_of hm Fd (ok_next_watch T Fd) rfl (fun _ _ _ _ _ _ us hl => match us, hl with | [_, _, _], _ => rfl)
theorem ok_law (T : Txt K mg) {f : Addr} {fd : FuncData} (Fd : FunD K "law" "law" (defArgs s_law) (defBody s_law) (defScope s_law) [] [] f fd) : FnOk P w K mg base (L2.CX P w) 6 f fd ["_law_script"] (spD K 1 d_law) := by
  unfold d_law
  exact fn_okX (k := 5) Fd sc_law (fun cdv A outer s H E hr tk po hW => by
    have nd := sc_law.nd
    unfold p_law
    exact jb_cons (js_asg (i := 1) nd rfl (Or.inl rfl) (je_callH (has__law_pool T) (hr.mono (by decide)) tk (by rfl) (ja_cons (je_var (i := 0) rfl (.inl rfl)) (ja_nil))))
      (jb_cons (js_asg (i := 2) nd rfl (Or.inl rfl) (je_op or_addD od_add (je_int) (je_callH (has__law_draw T) (hr.mono (by decide)) tk (by rfl) (ja_cons (je_var (i := 1) rfl (.inl rfl)) (ja_cons (je_int) (ja_nil))))))
      (jb_cons (js_asg (i := 3) nd rfl (Or.inl rfl) (je_callH (has__law_draw T) (hr.mono (by decide)) tk (by rfl) (ja_cons (je_var (i := 1) rfl (.inl rfl)) (ja_cons (je_var (i := 2) rfl (.inl rfl)) (ja_nil)))))
      (jb_cons (js_asg (i := 4) nd rfl (Or.inl rfl) (je_callH (has__law_history T) (hr.mono (by decide)) tk (by rfl) (ja_cons (je_var (i := 1) rfl (.inl rfl)) (ja_cons (je_var (i := 2) rfl (.inl rfl)) (ja_cons (je_var (i := 3) rfl (.inl rfl)) (ja_cons (je_int) (ja_nil)))))))
      (jb_cons (js_for po rfl (ji_seq (je_tup (ja_cons (je_str (by decide +kernel)) (ja_cons (je_str (by decide +kernel)) (ja_cons (je_str (by decide +kernel)) (ja_nil)))))) (jg_name (i := 5) nd rfl (Or.inl rfl)) (by unfold p_law_b1; exact jb_cons (js_asg (i := 6) nd rfl (Or.inl rfl) (je_callH (has__law_breaks T) (hr.mono (by decide)) tk (by rfl) (ja_cons (je_var (i := 4) rfl (.inl rfl)) (ja_cons (je_var (i := 3) rfl (.inl rfl)) (ja_cons (je_var (i := 5) rfl (.inl rfl)) (ja_nil))))))       (jb_cons (js_asg (i := 7) nd rfl (Or.inl rfl) (je_non))       (jb_cons (js_asg (i := 8) nd rfl (Or.inl rfl) (je_callH (has_first_watch T) (hr.mono (by decide)) tk (by rfl) (ja_cons (je_var (i := 5) rfl (.inl rfl)) (ja_cons (je_var (i := 3) rfl (.inl rfl)) (ja_nil)))))       (jb_cons (js_for po rfl (ji_range1 (by rfl) T.free_range (ja_cons (je_callB cr_len cd_len (by rfl) T.free_len (by decide +kernel) (ja_cons (je_var (i := 4) rfl (.inl rfl)) (ja_nil))) (ja_nil))) (jg_name (i := 9) nd rfl (Or.inl rfl)) (by unfold p_law_b0; exact jb_one (js_if (jt_cmp or_is od_is (je_var (i := 7) rfl (.inl rfl)) (je_non) (nomark _)) (jb_cons (js_asg (i := 10) nd rfl (Or.inl rfl) (je_ix (je_var (i := 4) rfl (.inl rfl)) (je_var (i := 9) rfl (.inl rfl))))       (jb_cons (js_if (jt_cmp (op_eqD hr.units) od_eq (je_op op_mod od_mod (je_var (i := 9) rfl (.inl rfl)) (je_int)) (je_int) (nomark _)) (jb_one (js_asg (i := 10) nd rfl (Or.inl rfl) (je_callTy call_list_of cd_list (by rfl) T.free_list (by decide +kernel) (ja_cons (je_ix (je_var (i := 4) rfl (.inl rfl)) (je_var (i := 9) rfl (.inl rfl))) (ja_nil))))) (jb_nil))       (jb_cons (js_asg (i := 8) nd rfl (Or.inl rfl) (je_callH (has_next_watch T) (hr.mono (by decide)) tk (by rfl) (ja_cons (je_var (i := 5) rfl (.inl rfl)) (ja_cons (je_var (i := 8) rfl (.inl rfl)) (ja_cons (je_var (i := 10) rfl (.inl rfl)) (ja_nil))))))       (jb_one (js_if (jt_cmp or_is od_is (je_var (i := 8) rfl (.inl rfl)) (je_non) (nomark _)) (jb_one (js_asg (i := 7) nd rfl (Or.inl rfl) (je_var (i := 9) rfl (.inl rfl)))) (jb_nil)))))) (jb_nil))))       (jb_cons (js_if (jt_not (jt_val (je_callH (has__law_same T) hr tk (by rfl) (ja_cons (je_var (i := 7) rfl (.inl rfl)) (ja_cons (je_var (i := 6) rfl (.inl rfl)) (ja_nil)))))) (jb_one (js_ret (je_bl))) (jb_nil))       (jb_one (js_if (jt_not (jt_val (je_callH (has__law_same T) hr tk (by rfl) (ja_cons (je_callKw (hasK_fault T) hr tk (by rfl) (ja_cons (je_var (i := 4) rfl (.inl rfl)) (ja_cons (je_var (i := 5) rfl (.inl rfl)) (ja_nil))) (jk_cons (je_var (i := 2) rfl (.inl rfl)) (jk_cons (je_var (i := 3) rfl (.inl rfl)) (jk_nil)))) (ja_cons (je_var (i := 6) rfl (.inl rfl)) (ja_nil)))))) (jb_one (js_ret (je_bl))) (jb_nil)))))))))
      (jb_one (js_ret (je_bl))))))))
theorem has_law (T : Txt K mg) : Has P w K mg base "law" 1 6 [] d_law := by
  obtain ⟨hm, fd, Fd⟩ := T.fn_law
  exact has_of hm Fd (ok_law T Fd) rfl (fun _ _ _ _ _ _ us hl => match us, hl with | [_], _ => rfl)
end
end My

namespace My
open PySem PySem.Spec PyProof.Rows L2 DL
def nms0 : List PySem.Str := ["CellError", "BadHistory", "BadSetting", "BadPromise", "PROMISES", "is_integer", "is_between", "is_row", "is_kind", "check_promise", "is_word_row", "merged", "first_watch", "safe_watch", "regular_watch"]
def nms1 : List PySem.Str := ["atomic_watch", "next_watch", "Scan", "check_setting", "event_form", "events_of", "fault", "_law_pool", "_law_mixed", "_law_draw", "_law_history", "_law_reads", "_law_int", "_law_same", "_law_breaks"]
def nms : List PySem.Str := nms0 ++ nms1
def df__law_reads : He.DefD := ⟨("_law_reads", none), "_law_reads", "_law_reads", defArgs s__law_reads, defBody s__law_reads, defScope s__law_reads, [], []⟩
def df__law_breaks : He.DefD := ⟨("_law_breaks", none), "_law_breaks", "_law_breaks", defArgs s__law_breaks, defBody s__law_breaks, defScope s__law_breaks, [], []⟩
def df__law_mixed : He.DefD := ⟨("_law_mixed", none), "_law_mixed", "_law_mixed", defArgs s__law_mixed, defBody s__law_mixed, defScope s__law_mixed, [], []⟩
def df__law_draw : He.DefD := ⟨("_law_draw", none), "_law_draw", "_law_draw", defArgs s__law_draw, defBody s__law_draw, defScope s__law_draw, [], []⟩
def df__law_history : He.DefD := ⟨("_law_history", none), "_law_history", "_law_history", defArgs s__law_history, defBody s__law_history, defScope s__law_history, [], []⟩
def df__law_pool : He.DefD := ⟨("_law_pool", none), "_law_pool", "_law_pool", defArgs s__law_pool, defBody s__law_pool, defScope s__law_pool, [], []⟩
def df__law_int : He.DefD := ⟨("_law_int", none), "_law_int", "_law_int", defArgs s__law_int, defBody s__law_int, defScope s__law_int, [], []⟩
def df__law_same : He.DefD := ⟨("_law_same", none), "_law_same", "_law_same", defArgs s__law_same, defBody s__law_same, defScope s__law_same, [], []⟩
def df_Scan___init__ : He.DefD := ⟨("Scan", some "__init__"), "__init__", "Scan.__init__", defArgs s_Scan___init__, defBody s_Scan___init__, defScope s_Scan___init__, [], []⟩
def df_Scan_allowed : He.DefD := ⟨("Scan", some "allowed"), "allowed", "Scan.allowed", defArgs s_Scan_allowed, defBody s_Scan_allowed, defScope s_Scan_allowed, [], []⟩
def df_Scan_take : He.DefD := ⟨("Scan", some "take"), "take", "Scan.take", defArgs s_Scan_take, defBody s_Scan_take, defScope s_Scan_take, [], []⟩
def df_Scan_number : He.DefD := ⟨("Scan", some "number"), "number", "Scan.number", defArgs s_Scan_number, defBody s_Scan_number, defScope s_Scan_number, [], []⟩
def df_Scan_told : He.DefD := ⟨("Scan", some "told"), "told", "Scan.told", defArgs s_Scan_told, defBody s_Scan_told, defScope s_Scan_told, [], []⟩
def df_is_kind : He.DefD := ⟨("is_kind", none), "is_kind", "is_kind", defArgs s_is_kind, defBody s_is_kind, defScope s_is_kind, [], []⟩
def df_check_promise : He.DefD := ⟨("check_promise", none), "check_promise", "check_promise", defArgs s_check_promise, defBody s_check_promise, defScope s_check_promise, [], []⟩
def df_is_integer : He.DefD := ⟨("is_integer", none), "is_integer", "is_integer", defArgs s_is_integer, defBody s_is_integer, defScope s_is_integer, [], []⟩
def df_is_between : He.DefD := ⟨("is_between", none), "is_between", "is_between", defArgs s_is_between, defBody s_is_between, defScope s_is_between, [], []⟩
def df_check_setting : He.DefD := ⟨("check_setting", none), "check_setting", "check_setting", defArgs s_check_setting, defBody s_check_setting, defScope s_check_setting, [], []⟩
def df_is_row : He.DefD := ⟨("is_row", none), "is_row", "is_row", defArgs s_is_row, defBody s_is_row, defScope s_is_row, [], []⟩
def df_is_word_row : He.DefD := ⟨("is_word_row", none), "is_word_row", "is_word_row", defArgs s_is_word_row, defBody s_is_word_row, defScope s_is_word_row, [], []⟩
def df_event_form : He.DefD := ⟨("event_form", none), "event_form", "event_form", defArgs s_event_form, defBody s_event_form, defScope s_event_form, [], []⟩
def df_events_of : He.DefD := ⟨("events_of", none), "events_of", "events_of", defArgs s_events_of, defBody s_events_of, defScope s_events_of, [], []⟩
def df_fault : He.DefD := ⟨("fault", none), "fault", "fault", defArgs s_fault, defBody s_fault, defScope s_fault, [], [("size", .int 2), ("start", .int 0)]⟩
def df_first_watch : He.DefD := ⟨("first_watch", none), "first_watch", "first_watch", defArgs s_first_watch, defBody s_first_watch, defScope s_first_watch, [], []⟩
def df_merged : He.DefD := ⟨("merged", none), "merged", "merged", defArgs s_merged, defBody s_merged, defScope s_merged, [], []⟩
def df_atomic_watch : He.DefD := ⟨("atomic_watch", none), "atomic_watch", "atomic_watch", defArgs s_atomic_watch, defBody s_atomic_watch, defScope s_atomic_watch, [], []⟩
def df_regular_watch : He.DefD := ⟨("regular_watch", none), "regular_watch", "regular_watch", defArgs s_regular_watch, defBody s_regular_watch, defScope s_regular_watch, [], []⟩
def df_safe_watch : He.DefD := ⟨("safe_watch", none), "safe_watch", "safe_watch", defArgs s_safe_watch, defBody s_safe_watch, defScope s_safe_watch, [], []⟩
def df_next_watch : He.DefD := ⟨("next_watch", none), "next_watch", "next_watch", defArgs s_next_watch, defBody s_next_watch, defScope s_next_watch, [], []⟩
def df_law : He.DefD := ⟨("law", none), "law", "law", defArgs s_law, defBody s_law, defScope s_law, [], []⟩
def fn0 : List He.DefD := [df__law_reads, df__law_breaks, df__law_mixed, df__law_draw, df__law_history, df__law_pool, df__law_int, df__law_same, df_Scan___init__, df_Scan_allowed, df_Scan_take, df_Scan_number, df_Scan_told, df_is_kind, df_check_promise]
def fn1 : List He.DefD := [df_is_integer, df_is_between, df_check_setting, df_is_row, df_is_word_row, df_event_form, df_events_of, df_fault, df_first_watch, df_merged, df_atomic_watch, df_regular_watch, df_safe_watch, df_next_watch, df_law]
def fn : List He.DefD := fn0 ++ fn1
def zs_PROMISES : List Str := ["safe", "regular", "atomic"]
def fa0 : List He.Fa := [.glo "_law_reads", .glo "_law_breaks", .glo "_law_mixed", .glo "_law_draw", .glo "_law_history", .glo "_law_pool", .glo "_law_int", .glo "_law_same", .glo "Scan", .mkr "Scan", .cls "Scan", .meth "Scan" "allowed", .meth "Scan" "take", .meth "Scan" "number", .meth "Scan" "told"]
def fa1 : List He.Fa := [.glo "is_kind", .glo "check_promise", .glo "is_integer", .glo "is_between", .glo "check_setting", .glo "is_row", .glo "is_word_row", .glo "event_form", .glo "events_of", .glo "fault", .glo "first_watch", .glo "merged", .glo "atomic_watch", .glo "regular_watch", .glo "safe_watch"]
def fa2 : List He.Fa := [.glo "next_watch", .glo "law", .noat "Scan" "ended", .noat "Scan" "least", .noat "Scan" "low", .noat "Scan" "reading", .noat "Scan" "size", .noat "Scan" "writing", .noat "Scan" "written", .free "abs", .free "bool", .free "enumerate", .free "int", .free "isinstance", .free "len"]
def fa3 : List He.Fa := [.free "list", .free "max", .free "range", .free "set", .free "sorted", .free "str", .free "sum", .free "tuple", .glo "PROMISES"]
def fa : List He.Fa := fa0 ++ fa1 ++ fa2 ++ fa3
def exB (K : PySem.W.Frag) : Bool := He.tupB K "PROMISES" ((zs_PROMISES).map He.Dv.str) && (true)
abbrev R : PySem.W.OpenRow := PySem.W.OpenLaw.row PySem.Challenge.rw_cellsatonce_k29_whole_watches_and_histor
abbrev hk : PySem.W.Hook := He.hookX 5 fa fn [] [] exB
def ob (s : PySem.W.SharedT) : He.AlX := He.obsX 5 fa fn [] [] exB (HandSHeadRun.getT s)
theorem ob_eq (s : PySem.W.SharedT) : ob s = hk.obs s.abs := He.obsX_eq (HandSHeadRun.getT_eq s)
theorem run (w : World) : HandSHeadRun.RunEq R (PySem.W.view R.prog [35]) hk ob 20000 nms w := by
  intro os
  kernel_rfl
theorem facts {K : PySem.W.Frag} {h : Heap} {mg : Str → Option Value} (X : K.In h) (G : h.Ns mainGlobals mg) (c : He.SaysD fa fn K) (hx : exB K = true) : Txt K mg where
  free_abs := He.free_ok X G (c.fact 39 rfl)
  free_bool := He.free_ok X G (c.fact 40 rfl)
  free_enumerate := He.free_ok X G (c.fact 41 rfl)
  free_int := He.free_ok X G (c.fact 42 rfl)
  free_isinstance := He.free_ok X G (c.fact 43 rfl)
  free_len := He.free_ok X G (c.fact 44 rfl)
  free_list := He.free_ok X G (c.fact 45 rfl)
  free_max := He.free_ok X G (c.fact 46 rfl)
  free_range := He.free_ok X G (c.fact 47 rfl)
  free_set := He.free_ok X G (c.fact 48 rfl)
  free_sorted := He.free_ok X G (c.fact 49 rfl)
  free_str := He.free_ok X G (c.fact 50 rfl)
  free_sum := He.free_ok X G (c.fact 51 rfl)
  free_tuple := He.free_ok X G (c.fact 52 rfl)
  c_PROMISES := const_strs (zs := zs_PROMISES) X G (c.fact 53 rfl) (Bool.and_eq_true_iff.mp hx).1 (by decide +kernel)
  fl_ended := FldOk.cons (He.cls_ok (c.fact 10 rfl)) (He.noat_ok (c.fact 32 rfl)) (FldOk.nil)
  fl_least := FldOk.cons (He.cls_ok (c.fact 10 rfl)) (He.noat_ok (c.fact 33 rfl)) (FldOk.nil)
  fl_low := FldOk.cons (He.cls_ok (c.fact 10 rfl)) (He.noat_ok (c.fact 34 rfl)) (FldOk.nil)
  fl_reading := FldOk.cons (He.cls_ok (c.fact 10 rfl)) (He.noat_ok (c.fact 35 rfl)) (FldOk.nil)
  fl_size := FldOk.cons (He.cls_ok (c.fact 10 rfl)) (He.noat_ok (c.fact 36 rfl)) (FldOk.nil)
  fl_writing := FldOk.cons (He.cls_ok (c.fact 10 rfl)) (He.noat_ok (c.fact 37 rfl)) (FldOk.nil)
  fl_written := FldOk.cons (He.cls_ok (c.fact 10 rfl)) (He.noat_ok (c.fact 38 rfl)) (FldOk.nil)
  fn__law_reads := ⟨He.glo_ok X G (c.fact 0 rfl), c.def_ 0 (d := df__law_reads) rfl⟩
  fn__law_breaks := ⟨He.glo_ok X G (c.fact 1 rfl), c.def_ 1 (d := df__law_breaks) rfl⟩
  fn__law_mixed := ⟨He.glo_ok X G (c.fact 2 rfl), c.def_ 2 (d := df__law_mixed) rfl⟩
  fn__law_draw := ⟨He.glo_ok X G (c.fact 3 rfl), c.def_ 3 (d := df__law_draw) rfl⟩
  fn__law_history := ⟨He.glo_ok X G (c.fact 4 rfl), c.def_ 4 (d := df__law_history) rfl⟩
  fn__law_pool := ⟨He.glo_ok X G (c.fact 5 rfl), c.def_ 5 (d := df__law_pool) rfl⟩
  fn__law_int := ⟨He.glo_ok X G (c.fact 6 rfl), c.def_ 6 (d := df__law_int) rfl⟩
  fn__law_same := ⟨He.glo_ok X G (c.fact 7 rfl), c.def_ 7 (d := df__law_same) rfl⟩
  fn_Scan___init__ := ⟨⟨He.glo_ok X G (c.fact 8 rfl), He.mkr_ok (c.fact 9 rfl)⟩, c.def_ 8 (d := df_Scan___init__) rfl⟩
  fn_Scan_allowed := ⟨⟨He.cls_ok (c.fact 10 rfl), He.meth_ok (c.fact 11 rfl)⟩, c.def_ 9 (d := df_Scan_allowed) rfl⟩
  fn_Scan_take := ⟨⟨He.cls_ok (c.fact 10 rfl), He.meth_ok (c.fact 12 rfl)⟩, c.def_ 10 (d := df_Scan_take) rfl⟩
  fn_Scan_number := ⟨⟨He.cls_ok (c.fact 10 rfl), He.meth_ok (c.fact 13 rfl)⟩, c.def_ 11 (d := df_Scan_number) rfl⟩
  fn_Scan_told := ⟨⟨He.cls_ok (c.fact 10 rfl), He.meth_ok (c.fact 14 rfl)⟩, c.def_ 12 (d := df_Scan_told) rfl⟩
  fn_is_kind := ⟨He.glo_ok X G (c.fact 15 rfl), c.def_ 13 (d := df_is_kind) rfl⟩
  fn_check_promise := ⟨He.glo_ok X G (c.fact 16 rfl), c.def_ 14 (d := df_check_promise) rfl⟩
  fn_is_integer := ⟨He.glo_ok X G (c.fact 17 rfl), c.def_ 15 (d := df_is_integer) rfl⟩
  fn_is_between := ⟨He.glo_ok X G (c.fact 18 rfl), c.def_ 16 (d := df_is_between) rfl⟩
  fn_check_setting := ⟨He.glo_ok X G (c.fact 19 rfl), c.def_ 17 (d := df_check_setting) rfl⟩
  fn_is_row := ⟨He.glo_ok X G (c.fact 20 rfl), c.def_ 18 (d := df_is_row) rfl⟩
  fn_is_word_row := ⟨He.glo_ok X G (c.fact 21 rfl), c.def_ 19 (d := df_is_word_row) rfl⟩
  fn_event_form := ⟨He.glo_ok X G (c.fact 22 rfl), c.def_ 20 (d := df_event_form) rfl⟩
  fn_events_of := ⟨He.glo_ok X G (c.fact 23 rfl), c.def_ 21 (d := df_events_of) rfl⟩
  fn_fault := ⟨He.glo_ok X G (c.fact 24 rfl), c.def_ 22 (d := df_fault) rfl⟩
  fn_first_watch := ⟨He.glo_ok X G (c.fact 25 rfl), c.def_ 23 (d := df_first_watch) rfl⟩
  fn_merged := ⟨He.glo_ok X G (c.fact 26 rfl), c.def_ 24 (d := df_merged) rfl⟩
  fn_atomic_watch := ⟨He.glo_ok X G (c.fact 27 rfl), c.def_ 25 (d := df_atomic_watch) rfl⟩
  fn_regular_watch := ⟨He.glo_ok X G (c.fact 28 rfl), c.def_ 26 (d := df_regular_watch) rfl⟩
  fn_safe_watch := ⟨He.glo_ok X G (c.fact 29 rfl), c.def_ 27 (d := df_safe_watch) rfl⟩
  fn_next_watch := ⟨He.glo_ok X G (c.fact 30 rfl), c.def_ 28 (d := df_next_watch) rfl⟩
  fn_law := ⟨He.glo_ok X G (c.fact 31 rfl), c.def_ 29 (d := df_law) rfl⟩
end My
open PySem PySem.W PySem.Calls PyProof.Rows
set_option maxRecDepth 100000 in
set_option maxHeartbeats 0 in
theorem PySem.Challenge.cw_cellsatonce_k29_whole_watches_and_histor_holds : PySem.Challenge.rw_cellsatonce_k29_whole_watches_and_histor.Holds := by
  w_on; o_law
  refine HandSHeadRun.head_any (r := OpenLaw.row PySem.Challenge.rw_cellsatonce_k29_whole_watches_and_histor) (q := view (OpenLaw.row PySem.Challenge.rw_cellsatonce_k29_whole_watches_and_histor).prog [35]) (H := My.hk) (ob := My.ob) (M := 20000) (loose := My.nms) (d := HandSHeadRun.topDef (OpenLaw.row PySem.Challenge.rw_cellsatonce_k29_whole_watches_and_histor).prog 35) (kwd := []) My.ob_eq
    (by kernel_rfl) (fun s => by kernel_rfl) My.run (by kernel_rfl) (by kernel_rfl) (by kernel_rfl) (by rfl) (by first | assumption | decide +kernel) (by decide +kernel) ⟨rfl, rfl, rfl, rfl, rfl, by decide +kernel⟩ ?hw ?hc
  case hw => w_witness2
  case hc =>
    refine L2.walk_ofE (l := PySem.Challenge.rw_cellsatonce_k29_whole_watches_and_histor) (n := 63) (k := 6) (x := "_law_script") (CX := L2.CX0) rfl (by decide) (by kernel_rfl) ⟨rfl, by decide, by decide⟩ ?F (fun _ _ _ _ z => z)
    intro w mg fa h Y G hmg0
    obtain ⟨K, KX, c⟩ := Y
    have hmg : mg ("law" : PySem.Str) = some (.ref fa) := by
      have e : (HandSHeadRun.topDef (OpenLaw.row PySem.Challenge.rw_cellsatonce_k29_whole_watches_and_histor).prog 35).name = ("law" : PySem.Str) := by kernel_rfl
      rw [← e]
      exact hmg0
    have T := My.facts KX G c.t.d c.more
    obtain ⟨hm, fd, Fd⟩ := T.fn_law
    obtain rfl : He.ga K "law" = fa := by
      exact PySem.Value.ref.inj (Option.some.inj (hm.symm.trans hmg))
    refine ⟨K, fd, (fun vs H Q _ => DL.spD K 1 My.d_law vs H Q fun _ _ _ => False), KX, fun s v => L2.FunD.bindsA (ps := ["_law_script"]) Fd (fun _ _ _ _ _ _ us hl => match us, hl with | [_], _ => rfl) s [v] rfl, fun H a ns hl _ hS => DL.law_sp My.law_true H a ns hl hS, fun base _ _ => DL.fn_cx0 (My.ok_law T Fd)⟩

