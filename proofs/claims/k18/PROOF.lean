import PyProof.Rows.All
import Wide.All
import OpenK.AllK
import Wide.FinOn
import HandS.ForMost
import HandS.Exc
import HandS.ExcOwn
import HandS.TryOnly
import HandS.TryMany
import HandS.CallSlots
import HandS.Defaults
import HandS.IsInst
import HandS.Flow
import HandS.More
import HandS.Conv
import HandS.HeadHook2
import HandS.TupAny
import HandS.TupLe
import HandS.HeadEnd
import HandS.HeadHook4
import HandS.Head2
import KE.GoesEnum
import HandS.Set
import HandS.Strs
import HandS.SetFor
import HandS.Property
import HandS.MakeKwOnly
import HandS.OwnEq
import HandS.Text
import HandS.Replace
import HandS.ExcInit
import HandS.ExcField
import HandS.ExcIs
import KE.KExcSuper
import KE.KSuper
import KE.KExcIs
import HandS.WordsDict
import HandS.HeadHook3
import HandS.Evl
import PySem.Challenge.RW_cellsatonce_k18_dead_and_idle
set_option Elab.async false
set_option linter.all false
set_option maxRecDepth 100000
set_option autoImplicit false
set_option maxHeartbeats 4000000
namespace DL
open PySem PySem.Spec PyProof.Rows L2

inductive D where
  | non
  | bl (b : Bool)
  | int (i : Int)
  | str (x : Str)
  | tup (l : List D)
  | lst (l : List D)
  | obj (c : Str) (fs : List (Str × D))
  | ref (a : Addr)
  | scr (l : List Int)
  | dic (l : List (Key × D))
  | ldc (l : List (Key × D))
  | xc (a : Addr) (d : Option Addr) (c : Str) (fs : List (Str × D))

abbrev Ex : Hp → Hp → Prop := Evl.Ex
theorem Ex.refl (H : Hp) : Ex H H := Evl.Ex.refl H
theorem Ex.trans {H H1 H2 : Hp} (a : Ex H H1) (b : Ex H1 H2) : Ex H H2 := Evl.Ex.trans a b
theorem Ex.new {H : Hp} {p : Addr} {o : HO} (h : H p = none) : Ex H (upd H p o) := Evl.Ex.new h
theorem Ex.rd {H H' : Hp} {a : Addr} {u : HO} (e : Ex H H') (h : Rd H a u) : Rd H' a u := by
  rcases h with h | ⟨o, h⟩
  · exact Or.inl (e a _ h)
  · exact Or.inr ⟨o, e a _ h⟩
theorem Ex.l {K : PySem.W.Frag} {H H' : Hp} {a : Addr} {xs : List V} (e : Ex H H') (h : SqL K H a xs) : SqL K H' a xs := by
  rcases h with h | h
  · exact Or.inl (e.rd h)
  · exact Or.inr h
theorem Ex.t {K : PySem.W.Frag} {H H' : Hp} {a : Addr} {xs : List V} (e : Ex H H') (h : SqT K H a xs) : SqT K H' a xs := by
  rcases h with h | h
  · exact Or.inl (e.rd h)
  · exact Or.inr h

mutual
/-- a value stands for a datum; F: the part of the heap that never changes -/
inductive Rep (K : PySem.W.Frag) (F : Hp) : V → D → Prop
  | non : Rep K F .non .non
  | bl (b : Bool) : Rep K F (.bl b) (.bl b)
  | int (i : Int) : Rep K F (.int i) (.int i)
  | str (x : Str) : PyData.strOk x = true → Rep K F (.str x) (.str x)
  | tup {a : Addr} {vs : List V} {ds : List D} : SqT K F a vs → Reps K F vs ds → Rep K F (.ref a) (.tup ds)
  | lst {a : Addr} {vs : List V} {ds : List D} : F a = some (.lst vs) → Reps K F vs ds → Rep K F (.ref a) (.lst ds)
  | obj {a dx : Addr} {c : Str} {vs : List (Str × V)} {ds : List (Str × D)} : F a = some (.ins (He.ga K c) dx vs) → RepF K F vs ds → Rep K F (.ref a) (.obj c ds)
  | ref (a : Addr) : Rep K F (.ref a) (.ref a)
  | scr {a : Addr} {l : List Int} : SqL K F a (l.map V.int) → Rep K F (.ref a) (.scr l)
  | dic {a : Addr} {vs : List (Key × V)} {ds : List (Key × D)} : F a = some (.dK vs) → RepK K F vs ds → Rep K F (.ref a) (.dic ds)
  | ldc {a : Addr} {ob : Obj} {vs : List (Key × V)} {ds : List (Key × D)} : F a = some (.frz ob (.dK vs)) → RepK K F vs ds → Rep K F (.ref a) (.ldc ds)
  | xc0 (a : Addr) (c : Str) : Rep K F (.ref a) (.xc a none c [])
  | xc1 {a dd : Addr} {c : Str} {vs : List (Str × V)} {fs : List (Str × D)} : F dd = some (.xd vs) → RepF K F vs fs → Rep K F (.ref a) (.xc a (some dd) c fs)
inductive Reps (K : PySem.W.Frag) (F : Hp) : List V → List D → Prop
  | nil : Reps K F [] []
  | cons {v : V} {vs : List V} {d : D} {ds : List D} : Rep K F v d → Reps K F vs ds → Reps K F (v :: vs) (d :: ds)
inductive RepF (K : PySem.W.Frag) (F : Hp) : List (Str × V) → List (Str × D) → Prop
  | nil : RepF K F [] []
  | cons {n : Str} {v : V} {vs : List (Str × V)} {d : D} {ds : List (Str × D)} : Rep K F v d → RepF K F vs ds → RepF K F ((n, v) :: vs) ((n, d) :: ds)
inductive RepK (K : PySem.W.Frag) (F : Hp) : List (Key × V) → List (Key × D) → Prop
  | nil : RepK K F [] []
  | cons {n : Key} {v : V} {vs : List (Key × V)} {d : D} {ds : List (Key × D)} : Rep K F v d → RepK K F vs ds → RepK K F ((n, v) :: vs) ((n, d) :: ds)
end

section
variable {K : PySem.W.Frag} {F F' : Hp}
mutual
theorem Rep.mono (e : Ex F F') : ∀ {v : V} {d : D}, Rep K F v d → Rep K F' v d
  | _, _, .non => .non
  | _, _, .bl b => .bl b
  | _, _, .int i => .int i
  | _, _, .str x h => .str x h
  | _, _, .tup h r => .tup (e.t h) (Reps.mono e r)
  | _, _, .lst h r => .lst (e _ _ h) (Reps.mono e r)
  | _, _, .scr h => .scr (e.l h)
  | _, _, .dic h r => .dic (e _ _ h) (RepK.mono e r)
  | _, _, .ldc h r => .ldc (e _ _ h) (RepK.mono e r)
  | _, _, .obj h r => .obj (e _ _ h) (RepF.mono e r)
  | _, _, .ref a => .ref a
  | _, _, .xc0 a c => .xc0 a c
  | _, _, .xc1 h r => .xc1 (e _ _ h) (RepF.mono e r)
theorem Reps.mono (e : Ex F F') : ∀ {vs : List V} {ds : List D}, Reps K F vs ds → Reps K F' vs ds
  | _, _, .nil => .nil
  | _, _, .cons r t => .cons (Rep.mono e r) (Reps.mono e t)
theorem RepF.mono (e : Ex F F') : ∀ {vs : List (Str × V)} {ds : List (Str × D)}, RepF K F vs ds → RepF K F' vs ds
  | _, _, .nil => .nil
  | _, _, .cons r t => .cons (Rep.mono e r) (RepF.mono e t)
theorem RepK.mono (e : Ex F F') : ∀ {vs : List (Key × V)} {ds : List (Key × D)}, RepK K F vs ds → RepK K F' vs ds
  | _, _, .nil => .nil
  | _, _, .cons r t => .cons (Rep.mono e r) (RepK.mono e t)
end
theorem Reps.length : ∀ {vs : List V} {ds : List D}, Reps K F vs ds → vs.length = ds.length
  | _, _, .nil => rfl
  | _, _, .cons _ t => by rw [List.length_cons, List.length_cons, Reps.length t]
theorem Reps.get : ∀ {vs : List V} {ds : List D} {i : Nat} {d : D}, Reps K F vs ds → ds[i]? = some d → ∃ v, vs[i]? = some v ∧ Rep K F v d
  | _, _, _, _, .nil, e => by simp at e
  | _, _, 0, _, .cons r _, e => by simp at e; subst e; exact ⟨_, rfl, r⟩
  | _, _, i + 1, d, .cons _ t, e => by
    obtain ⟨v, h1, h2⟩ := Reps.get (i := i) (d := d) t (by simpa using e)
    exact ⟨v, by simpa using h1, h2⟩
theorem Reps.getV : ∀ {vs : List V} {ds : List D} {i : Nat} {v : V}, Reps K F vs ds → vs[i]? = some v → ∃ d, ds[i]? = some d ∧ Rep K F v d
  | _, _, _, _, .nil, e => by simp at e
  | _, _, 0, _, .cons r _, e => by simp at e; subst e; exact ⟨_, rfl, r⟩
  | _, _, i + 1, v, .cons _ t, e => by
    obtain ⟨d, h1, h2⟩ := Reps.getV (i := i) (v := v) t (by simpa using e)
    exact ⟨d, by simpa using h1, h2⟩
theorem Reps.append : ∀ {vs ws : List V} {ds es : List D}, Reps K F vs ds → Reps K F ws es → Reps K F (vs ++ ws) (ds ++ es)
  | _, _, _, _, .nil, s => s
  | _, _, _, _, .cons r t, s => .cons r (Reps.append t s)
theorem Reps.set {v : V} {d : D} (r : Rep K F v d) : ∀ {vs : List V} {ds : List D} (i : Nat), Reps K F vs ds → Reps K F (vs.set i v) (ds.set i d)
  | _, _, _, .nil => .nil
  | _, _, 0, .cons _ t => .cons r t
  | _, _, i + 1, .cons q t => .cons q (Reps.set r i t)
theorem Reps.take : ∀ {vs : List V} {ds : List D} (n : Nat), Reps K F vs ds → Reps K F (vs.take n) (ds.take n)
  | _, _, 0, _ => .nil
  | _, _, _ + 1, .nil => .nil
  | _, _, n + 1, .cons r t => .cons r (Reps.take n t)
theorem Reps.drop : ∀ {vs : List V} {ds : List D} (n : Nat), Reps K F vs ds → Reps K F (vs.drop n) (ds.drop n)
  | _, _, 0, r => r
  | _, _, _ + 1, .nil => .nil
  | _, _, n + 1, .cons _ t => Reps.drop n t
theorem Reps.reverse {vs : List V} {ds : List D} (h : Reps K F vs ds) : Reps K F vs.reverse ds.reverse := by
  have key : ∀ {vs : List V} {ds : List D}, Reps K F vs ds → Reps K F vs.reverse ds.reverse := by
    intro vs
    induction vs with
    | nil => intro ds h; cases h; exact .nil
    | cons v vs ih =>
      intro ds h
      cases h with
      | cons r t =>
        rw [List.reverse_cons, List.reverse_cons]
        exact (ih t).append (.cons r .nil)
  exact key h
theorem RepF.lookup : ∀ {vs : List (Str × V)} {ds : List (Str × D)} {n : Str} {d : D}, RepF K F vs ds → ds.lookup n = some d → ∃ v, vs.lookup n = some v ∧ Rep K F v d
  | _, _, _, _, .nil, e => by simp at e
  | _, _, n, d, .cons (n := k) r t, e => by
    rw [List.lookup_cons] at e ⊢
    cases q : (n == k) with
    | true =>
      rw [q] at e
      simp at e
      subst e
      exact ⟨_, rfl, r⟩
    | false =>
      rw [q] at e
      exact RepF.lookup t e
theorem RepF.lookupN : ∀ {vs : List (Str × V)} {ds : List (Str × D)} {n : Str}, RepF K F vs ds → ds.lookup n = none → vs.lookup n = none
  | _, _, _, .nil, _ => rfl
  | _, _, n, .cons (n := k) r t, e => by
    rw [List.lookup_cons] at e ⊢
    cases q : (n == k) with
    | true => rw [q] at e; cases e
    | false =>
      rw [q] at e
      exact RepF.lookupN t e
theorem RepF.length : ∀ {vs : List (Str × V)} {ds : List (Str × D)}, RepF K F vs ds → vs.length = ds.length
  | _, _, .nil => rfl
  | _, _, .cons _ t => by rw [List.length_cons, List.length_cons, RepF.length t]
def putD (f : Str) (v : D) : List (Str × D) → List (Str × D)
  | [] => [(f, v)]
  | (g, x) :: r => if g = f then (g, v) :: r else (g, x) :: putD f v r
end

inductive MO where
  | lst (l : List D)
  | ins (c : Str) (fs : List (Str × D))
  | dic (l : List (Key × D))
abbrev Mem := Addr → Option MO
def mset (m : Mem) (a : Addr) (o : MO) : Mem := fun b => if b = a then some o else m b
def mdel (m : Mem) (a : Addr) : Mem := fun b => if b = a then none else m b
@[simp] theorem mset_same {m : Mem} {a : Addr} {o : MO} : mset m a o a = some o := if_pos rfl
theorem mset_ne {m : Mem} {a b : Addr} {o : MO} (h : b ≠ a) : mset m a o b = m b := if_neg h
@[simp] theorem mdel_same {m : Mem} {a : Addr} : mdel m a a = none := if_pos rfl
theorem mdel_ne {m : Mem} {a b : Addr} (h : b ≠ a) : mdel m a b = m b := if_neg h
@[simp] theorem mset_mset {m : Mem} {a : Addr} {o u : MO} : mset (mset m a o) a u = mset m a u := by
  funext b; unfold mset; split <;> rfl
theorem mdel_mset {m : Mem} {a : Addr} {o : MO} : mdel (mset m a o) a = mdel m a := by
  funext b; unfold mset mdel
  by_cases h : b = a
  · rw [if_pos h, if_pos h]
  · rw [if_neg h, if_neg h]; exact if_neg h
theorem mdel_new {m : Mem} {a : Addr} (h : m a = none) : mdel m a = m := by
  funext b; unfold mdel; split
  · rename_i e; rw [e, h]
  · rfl
theorem mdel_back {m : Mem} {a : Addr} {o : MO} (h : m a = none) : mdel (mset m a o) a = m := by rw [mdel_mset, mdel_new h]
theorem mset_comm {m : Mem} {a b : Addr} {o u : MO} (h : a ≠ b) : mset (mset m a o) b u = mset (mset m b u) a o := by
  funext c; unfold mset
  by_cases h1 : c = a
  · by_cases h2 : c = b
    · exact absurd (h1.symm.trans h2) h
    · rw [if_neg h2, if_pos h1, if_pos h1]
  · by_cases h2 : c = b
    · rw [if_pos h2, if_neg h1, if_pos h2]
    · rw [if_neg h2, if_neg h1, if_neg h1, if_neg h2]
theorem mem_ne {m : Mem} {a b : Addr} {o : MO} (h : m a = some o) (h' : m b = none) : a ≠ b := by
  intro e; subst e; rw [h] at h'; cases h'

def MRep (K : PySem.W.Frag) (F H : Hp) (a : Addr) : MO → Prop
  | .lst ds => ∃ vs, H a = some (.lst vs) ∧ Reps K F vs ds
  | .ins c ds => ∃ dx vs, H a = some (.ins (He.ga K c) dx vs) ∧ RepF K F vs ds
  | .dic ds => ∃ vs, H a = some (.dK vs) ∧ RepK K F vs ds
theorem MRep.there {K : PySem.W.Frag} {F H : Hp} {a : Addr} {o : MO} (h : MRep K F H a o) : ∃ u, H a = some u := by
  cases o with
  | lst ds => obtain ⟨vs, h, _⟩ := h; exact ⟨_, h⟩
  | ins c ds => obtain ⟨dx, vs, h, _⟩ := h; exact ⟨_, h⟩
  | dic ds => obtain ⟨vs, h, _⟩ := h; exact ⟨_, h⟩
theorem MRep.mono {K : PySem.W.Frag} {F F' H H' : Hp} {a : Addr} {o : MO} (h : MRep K F H a o) (e : Ex F F') (k : ∀ u, H a = some u → H' a = some u) : MRep K F' H' a o := by
  cases o with
  | lst ds => obtain ⟨vs, h, r⟩ := h; exact ⟨vs, k _ h, r.mono e⟩
  | ins c ds => obtain ⟨dx, vs, h, r⟩ := h; exact ⟨dx, vs, k _ h, r.mono e⟩
  | dic ds => obtain ⟨vs, h, r⟩ := h; exact ⟨vs, k _ h, r.mono e⟩
/-- F: what never changes; m: what the program may change; G: what stands aside -/
structure Rel (K : PySem.W.Frag) (F : Hp) (m : Mem) (G H : Hp) : Prop where
  ex : Ex F H
  mm : ∀ a o, m a = some o → MRep K F H a o ∧ F a = none
  gg : ∀ a o, G a = some o → H a = some o ∧ F a = none ∧ m a = none
section
variable {K : PySem.W.Frag} {F F' G H H' : Hp} {m : Mem} {a : Addr}
theorem Rel.fresh (r : Rel K F m G H) (h : H a = none) : m a = none ∧ F a = none := by
  constructor
  · cases q : m a with
    | none => rfl
    | some o =>
      obtain ⟨u, e⟩ := (r.mm a o q).1.there
      rw [h] at e; cases e
  · cases q : F a with
    | none => rfl
    | some o => rw [r.ex a o q] at h; cases h
theorem Rel.freshG (r : Rel K F m G H) (h : H a = none) : G a = none := by
  cases q : G a with
  | none => rfl
  | some o => rw [(r.gg a o q).1] at h; cases h
theorem Rel.gm (r : Rel K F m G H) {o : MO} (h : m a = some o) : G a = none := by
  cases q : G a with
  | none => rfl
  | some u => rw [(r.gg a u q).2.2] at h; cases h
/-- something new that never changes -/
theorem Rel.newF (r : Rel K F m G H) (h : H a = none) (o : HO) : Rel K (upd F a o) m G (upd H a o) := by
  refine ⟨fun b u e => ?_, fun b u e => ?_, fun b u e => ?_⟩
  · by_cases hb : b = a
    · subst hb; rw [upd_same] at e ⊢; exact e
    · rw [upd_ne hb] at e ⊢; exact r.ex b u e
  · have hb : b ≠ a := mem_ne e (r.fresh h).1
    obtain ⟨h1, h2⟩ := r.mm b u e
    exact ⟨h1.mono (Ex.new (r.fresh h).2) fun u q => by rw [upd_ne hb]; exact q, by rw [upd_ne hb]; exact h2⟩
  · have hb : b ≠ a := ne_of_none e (r.freshG h)
    obtain ⟨h1, h2, h3⟩ := r.gg b u e
    exact ⟨by rw [upd_ne hb]; exact h1, by rw [upd_ne hb]; exact h2, h3⟩
/-- something that nobody looks at -/
theorem Rel.side (r : Rel K F m G H) (hF : F a = none) (hm : m a = none) (hG : G a = none) (o : HO) : Rel K F m G (upd H a o) := by
  refine ⟨fun b u e => ?_, fun b u e => ?_, fun b u e => ?_⟩
  · rw [upd_ne (ne_of_none e hF)]; exact r.ex b u e
  · have hb : b ≠ a := mem_ne e hm
    obtain ⟨h1, h2⟩ := r.mm b u e
    exact ⟨h1.mono (Ex.refl F) fun u q => by rw [upd_ne hb]; exact q, h2⟩
  · have hb : b ≠ a := ne_of_none e hG
    obtain ⟨h1, h2, h3⟩ := r.gg b u e
    exact ⟨by rw [upd_ne hb]; exact h1, h2, h3⟩
theorem Rel.newH (r : Rel K F m G H) (h : H a = none) (o : HO) : Rel K F m G (upd H a o) := r.side (r.fresh h).2 (r.fresh h).1 (r.freshG h) o
/-- it stands aside -/
theorem Rel.aside (r : Rel K F m G H) (hF : F a = none) (hm : m a = none) {o : HO} (h : H a = some o) : Rel K F m (upd G a o) H := by
  refine ⟨r.ex, r.mm, fun b u e => ?_⟩
  by_cases hb : b = a
  · subst hb; rw [upd_same] at e; cases e; exact ⟨h, hF, hm⟩
  · rw [upd_ne hb] at e; exact r.gg b u e
theorem Rel.less {o : HO} (r : Rel K F m (upd G a o) H) (hG : G a = none) : Rel K F m G H := ⟨r.ex, r.mm, fun b u e => r.gg b u (by rw [upd_ne (ne_of_none e hG)]; exact e)⟩
/-- something changeable is laid or changed: F does not know it -/
theorem Rel.put (r : Rel K F m G H) (hF : F a = none) (hG : G a = none) {u : HO} {o : MO} (h : MRep K F (upd H a u) a o) : Rel K F (mset m a o) G (upd H a u) := by
  refine ⟨fun b v e => ?_, fun b v e => ?_, fun b v e => ?_⟩
  · rw [upd_ne (ne_of_none e hF)]; exact r.ex b v e
  · by_cases hb : b = a
    · subst hb; rw [mset_same] at e; cases e; exact ⟨h, hF⟩
    · rw [mset_ne hb] at e
      obtain ⟨h1, h2⟩ := r.mm b v e
      exact ⟨h1.mono (Ex.refl F) fun u q => by rw [upd_ne hb]; exact q, h2⟩
  · have hb : b ≠ a := ne_of_none e hG
    obtain ⟨h1, h2, h3⟩ := r.gg b v e
    exact ⟨by rw [upd_ne hb]; exact h1, h2, by rw [mset_ne hb]; exact h3⟩
theorem Rel.putL (r : Rel K F m G H) (hF : F a = none) (hG : G a = none) {vs : List V} {ds : List D} (h : Reps K F vs ds) : Rel K F (mset m a (.lst ds)) G (upd H a (.lst vs)) :=
  r.put hF hG ⟨vs, upd_same, h⟩
/-- a changeable thing is frozen -/
theorem Rel.freeze (r : Rel K F m G H) {u : HO} (h : H a = some u) (hF : F a = none) (hG : G a = none) : Rel K (upd F a u) (mdel m a) G H := by
  refine ⟨fun b v e => ?_, fun b v e => ?_, fun b v e => ?_⟩
  · by_cases hb : b = a
    · subst hb; rw [upd_same] at e; rw [h]; exact e
    · rw [upd_ne hb] at e; exact r.ex b v e
  · by_cases hb : b = a
    · subst hb; rw [mdel_same] at e; cases e
    · rw [mdel_ne hb] at e
      obtain ⟨h1, h2⟩ := r.mm b v e
      exact ⟨h1.mono (Ex.new hF) fun _ q => q, by rw [upd_ne hb]; exact h2⟩
  · have hb : b ≠ a := ne_of_none e hG
    obtain ⟨h1, h2, h3⟩ := r.gg b v e
    exact ⟨h1, by rw [upd_ne hb]; exact h2, by rw [mdel_ne hb]; exact h3⟩
end

abbrev DSt := List (Option D)
def ORel (K : PySem.W.Frag) (F : Hp) (o : Option V) : Option D → Prop
  | none => True
  | some d => ∃ v, o = some v ∧ Rep K F v d
def SRel (K : PySem.W.Frag) (F : Hp) : L2.St → DSt → Prop
  | [], [] => True
  | o :: σ, q :: δ => ORel K F o q ∧ SRel K F σ δ
  | _, _ => False
section
variable {K : PySem.W.Frag} {F F' : Hp}
theorem ORel.mono (e : Ex F F') {o : Option V} {q : Option D} (h : ORel K F o q) : ORel K F' o q := by
  cases q with
  | none => trivial
  | some d => obtain ⟨v, h1, h2⟩ := h; exact ⟨v, h1, h2.mono e⟩
theorem SRel.mono (e : Ex F F') : ∀ {σ : L2.St} {δ : DSt}, SRel K F σ δ → SRel K F' σ δ
  | [], [], _ => trivial
  | _ :: _, _ :: _, h => ⟨h.1.mono e, SRel.mono e h.2⟩
  | [], _ :: _, h => h.elim
  | _ :: _, [], h => h.elim
theorem SRel.get : ∀ {σ : L2.St} {δ : DSt} {i : Nat} {d : D}, SRel K F σ δ → δ[i]? = some (some d) → ∃ v, σ[i]? = some (some v) ∧ Rep K F v d
  | [], [], _, _, _, e => by simp at e
  | o :: σ, q :: δ, 0, d, h, e => by
    simp at e; subst e
    obtain ⟨v, h1, h2⟩ := h.1
    exact ⟨v, by rw [h1]; rfl, h2⟩
  | o :: σ, q :: δ, i + 1, d, h, e => by
    obtain ⟨v, h1, h2⟩ := SRel.get (i := i) (d := d) h.2 (by simpa using e)
    exact ⟨v, by simpa using h1, h2⟩
  | [], _ :: _, _, _, h, _ => h.elim
  | _ :: _, [], _, _, h, _ => h.elim
theorem SRel.set {v : V} {d : D} (r : Rep K F v d) : ∀ {σ : L2.St} {δ : DSt} (i : Nat), SRel K F σ δ → SRel K F (σ.set i (some v)) (δ.set i (some d))
  | [], [], _, _ => trivial
  | _ :: _, _ :: _, 0, h => ⟨⟨v, rfl, r⟩, h.2⟩
  | _ :: _, _ :: _, i + 1, h => ⟨h.1, SRel.set r i h.2⟩
  | [], _ :: _, _, h => h.elim
  | _ :: _, [], _, h => h.elim
theorem SRel.blank : ∀ {σ : L2.St} {δ : DSt} (i : Nat) (o : Option V), SRel K F σ δ → SRel K F (σ.set i o) (δ.set i none)
  | [], [], _, _, _ => trivial
  | _ :: _, _ :: _, 0, _, h => ⟨trivial, h.2⟩
  | _ :: _, _ :: _, i + 1, o, h => ⟨h.1, SRel.blank i o h.2⟩
  | [], _ :: _, _, _, h => h.elim
  | _ :: _, [], _, _, h => h.elim
theorem SRel.length : ∀ {σ : L2.St} {δ : DSt}, SRel K F σ δ → σ.length = δ.length
  | [], [], _ => rfl
  | _ :: _, _ :: _, h => by rw [List.length_cons, List.length_cons, SRel.length h.2]
  | [], _ :: _, h => h.elim
  | _ :: _, [], h => h.elim
def startD (n : Nat) (ds : List D) : DSt := ds.map some ++ List.replicate (n - ds.length) none
theorem SRel.nones : ∀ n : Nat, SRel K F (List.replicate n none) (List.replicate n none)
  | 0 => trivial
  | n + 1 => ⟨trivial, SRel.nones n⟩
theorem SRel.start {N : List Str} : ∀ {vs : List V} {ds : List D}, Reps K F vs ds → SRel K F (start N vs) (startD N.length ds) := by
  intro vs ds h
  unfold L2.start startD
  have hl := h.length
  rw [hl]
  generalize N.length - ds.length = n
  clear hl
  induction h using Reps.rec (motive_1 := fun _ _ _ => True) (motive_3 := fun _ _ _ => True) (motive_4 := fun _ _ _ => True) with
  | nil => exact SRel.nones n
  | cons r t _ ih => exact ⟨⟨_, rfl, r⟩, ih⟩
  | _ => trivial
end
end DL

namespace DL
open PySem PySem.Spec PyProof.Rows L2

structure Xn where
  cls : Str
  fs : Option (List (Str × D))
structure C (α : Type) where
  run : Mem → (α → Mem → Prop) → (Xn → Mem → Prop) → Prop
  mono : ∀ {m : Mem} {Q Q' : α → Mem → Prop} {E E' : Xn → Mem → Prop}, (∀ a m', Q a m' → Q' a m') → (∀ x m', E x m' → E' x m') → run m Q E → run m Q' E'
section
variable {α β γ : Type}
def C.ret (a : α) : C α := ⟨fun m Q _ => Q a m, fun hQ _ h => hQ _ _ h⟩
def C.bind (c : C α) (k : α → C β) : C β := ⟨fun m Q E => c.run m (fun a m' => (k a).run m' Q E) E, fun hQ hE h => c.mono (fun a _ h' => (k a).mono hQ hE h') hE h⟩
def C.stuck : C α := ⟨fun _ _ _ => False, fun _ _ h => h⟩
def C.raise (x : Xn) : C α := ⟨fun m _ E => E x m, fun _ hE h => hE _ _ h⟩
@[simp] theorem C.run_ret {a : α} {m : Mem} {Q : α → Mem → Prop} {E : Xn → Mem → Prop} : (C.ret a).run m Q E = Q a m := rfl
@[simp] theorem C.run_bind {c : C α} {k : α → C β} {m : Mem} {Q : β → Mem → Prop} {E : Xn → Mem → Prop} : (c.bind k).run m Q E = c.run m (fun a m' => (k a).run m' Q E) E := rfl
@[simp] theorem C.run_stuck {m : Mem} {Q : α → Mem → Prop} {E : Xn → Mem → Prop} : (C.stuck : C α).run m Q E = False := rfl
@[simp] theorem C.run_raise {x : Xn} {m : Mem} {Q : α → Mem → Prop} {E : Xn → Mem → Prop} : (C.raise x : C α).run m Q E = E x m := rfl
end
abbrev DE := DSt → C D
abbrev DT := DSt → C Bool
abbrev DA := DSt → C (List D)
/-- what follows a statement -/
structure Kt where
  nx : DSt → Mem → Prop
  rt : D → Mem → Prop
  bk : DSt → Mem → Prop
  ct : DSt → Mem → Prop
  ex : Xn → DSt → Mem → Prop
structure Kt.Le (A B : Kt) : Prop where
  nx : ∀ δ m, A.nx δ m → B.nx δ m
  rt : ∀ d m, A.rt d m → B.rt d m
  bk : ∀ δ m, A.bk δ m → B.bk δ m
  ct : ∀ δ m, A.ct δ m → B.ct δ m
  ex : ∀ x δ m, A.ex x δ m → B.ex x δ m
structure CS where
  run : DSt → Mem → Kt → Prop
  mono : ∀ {δ : DSt} {m : Mem} {A B : Kt}, A.Le B → run δ m A → run δ m B

section
variable (K : PySem.W.Frag)
def XRep (F H : Hp) (x : Xn) (c : Value) (d : Option Addr) : Prop :=
  c = .ref (He.ga K x.cls) ∧ match x.fs with
    | none => d = none
    | some fs => ∃ a vs, d = some a ∧ F a = some (.xd vs) ∧ RepF K F vs fs
def liftX (F G : Hp) (W : WX) (σ : L2.St) : Xn → Mem → Prop := fun x m' => ∀ F' H' c d, Ex F F' → Rel K F' m' G H' → XRep K F' H' x c d → W c d σ H'
def LR {α : Type} (F G : Hp) (c : C α) (m : Mem) (P : Hp → Hp → α → Prop) (W : WX) (σ : L2.St) : Prop :=
  c.run m (fun a m' => ∀ F' H', Ex F F' → Rel K F' m' G H' → P F' H' a) (liftX K F G W σ)
def tE (W : WX) (e : DE) : TE := fun σ H Q => ∃ F m G δ, Rel K F m G H ∧ SRel K F σ δ ∧ LR K F G (e δ) m (fun F' H' d => ∀ v, Rep K F' v d → Q v H') W σ
def tT (W : WX) (e : DT) : TT := fun σ H Q => ∃ F m G δ, Rel K F m G H ∧ SRel K F σ δ ∧ LR K F G (e δ) m (fun _ H' b => Q b H') W σ
def tA (W : WX) (e : DA) : TA := fun σ H Q => ∃ F m G δ, Rel K F m G H ∧ SRel K F σ δ ∧ LR K F G (e δ) m (fun F' H' ds => ∀ vs, Reps K F' vs ds → Q vs H') W σ
def liftK (F G : Hp) (W : WX) (E : Ends) : Kt where
  nx := fun δ' m' => ∀ F' H' σ', Ex F F' → Rel K F' m' G H' → SRel K F' σ' δ' → E.nx σ' H'
  rt := fun d m' => ∀ F' H' v, Ex F F' → Rel K F' m' G H' → Rep K F' v d → E.rt v H'
  bk := fun δ' m' => ∀ F' H' σ', Ex F F' → Rel K F' m' G H' → SRel K F' σ' δ' → E.bk σ' H'
  ct := fun δ' m' => ∀ F' H' σ', Ex F F' → Rel K F' m' G H' → SRel K F' σ' δ' → E.ct σ' H'
  ex := fun x δ' m' => ∀ F' H' σ' c d, Ex F F' → Rel K F' m' G H' → SRel K F' σ' δ' → XRep K F' H' x c d → W c d σ' H'
def tS (W : WX) (s : CS) : TS := fun E σ H => ∃ F m G δ, Rel K F m G H ∧ SRel K F σ δ ∧ s.run δ m (liftK K F G W E)
end
section
variable {K : PySem.W.Frag} {α β : Type} {F F' G H : Hp} {m : Mem} {W : WX} {σ : L2.St}
theorem liftX.mono (e : Ex F F') {x : Xn} {m' : Mem} (h : liftX K F G W σ x m') : liftX K F' G W σ x m' := fun F1 H1 c d e1 r q => h F1 H1 c d (e.trans e1) r q
theorem LR.imp {c : C α} {P P' : Hp → Hp → α → Prop} (h : LR K F G c m P W σ) (k : ∀ F' H' m' a, Ex F F' → Rel K F' m' G H' → P F' H' a → P' F' H' a) : LR K F G c m P' W σ :=
  c.mono (fun a m' q F1 H1 e r => k F1 H1 m' a e r (q F1 H1 e r)) (fun _ _ q => q) h
theorem LR.bind {c : C α} {k : α → C β} {P : Hp → Hp → β → Prop} (h : LR K F G (c.bind k) m P W σ) : LR K F G c m (fun F1 H1 a => ∃ m1, Rel K F1 m1 G H1 ∧ LR K F1 G (k a) m1 P W σ) W σ :=
  c.mono (fun a m' q F1 H1 e r => ⟨m', r, (k a).mono (fun b m'' q2 F2 H2 e2 r2 => q2 F2 H2 (e.trans e2) r2) (fun _ _ q2 => liftX.mono e q2) q⟩) (fun _ _ q => q) h
theorem LR.ret {a : α} {P : Hp → Hp → α → Prop} (h : LR K F G (C.ret a) m P W σ) (r : Rel K F m G H) : P F H a := h F H (Ex.refl F) r
theorem LR.retE {a : α} {P : Hp → Hp → α → Prop} (h : LR K F G (C.ret a) m P W σ) {F' H' : Hp} (e : Ex F F') (r : Rel K F' m G H') : P F' H' a := h F' H' e r
theorem liftK.mono {E : Ends} (e : Ex F F') : (liftK K F G W E).Le (liftK K F' G W E) :=
  ⟨fun _ _ h F1 H1 s1 e1 => h F1 H1 s1 (e.trans e1), fun _ _ h F1 H1 v e1 => h F1 H1 v (e.trans e1), fun _ _ h F1 H1 s1 e1 => h F1 H1 s1 (e.trans e1), fun _ _ h F1 H1 s1 e1 => h F1 H1 s1 (e.trans e1),
    fun _ _ _ h F1 H1 s1 c d e1 => h F1 H1 s1 c d (e.trans e1)⟩
end

/-- e has the program c (W: what is wished of an exception) -/
def JE (X : Cx) (W : WX) (e : Expr) (c : DE) : Prop := PE X e (tE X.K W c)
def JT (X : Cx) (W : WX) (e : Expr) (c : DT) : Prop := PT X e (tT X.K W c)
def JW (X : Cx) (W : WX) (e : Expr) (c : DT) : Prop := PW X e (tT X.K W c)
def JA (X : Cx) (W : WX) (es : List Expr) (c : DA) : Prop := PA X es (tA X.K W c)
def JS (X : Cx) (W : WX) (s : Stmt) (c : CS) : Prop := PS X s (tS X.K W c)
def JB (X : Cx) (W : WX) (s : List Stmt) (c : CS) : Prop := PSs X s (tS X.K W c)
section
variable {X : Cx}
theorem _root_.L2.PE.dimp {e : Expr} {t t' : TE} (h : PE X e t) (k : ∀ σ H Q, t' σ H Q → t σ H Q) : PE X e t' := ⟨fun pins s σ H Q I q => h.run pins s σ H Q I (k σ H Q q)⟩
theorem _root_.L2.PT.dimp {e : Expr} {t t' : TT} (h : PT X e t) (k : ∀ σ H Q, t' σ H Q → t σ H Q) : PT X e t' := ⟨fun pins s σ H Q I q => h.run pins s σ H Q I (k σ H Q q)⟩
theorem _root_.L2.PW.dimp {e : Expr} {t t' : TT} (h : PW X e t) (k : ∀ σ H Q, t' σ H Q → t σ H Q) : PW X e t' := ⟨fun fin pins s σ H Q I q => h.run fin pins s σ H Q I (k σ H Q q)⟩
theorem _root_.L2.PA.dimp {es : List Expr} {t t' : TA} (h : PA X es t) (k : ∀ σ H Q, t' σ H Q → t σ H Q) : PA X es t' := ⟨fun pos pins s σ H Q I q => h.run pos pins s σ H Q I (k σ H Q q)⟩
theorem _root_.L2.PS.dimp {s : Stmt} {t t' : TS} (h : PS X s t) (k : ∀ E σ H, t' E σ H → t E σ H) : PS X s t' := ⟨fun pins st σ H E I q => h.run pins st σ H E I (k E σ H q)⟩
theorem _root_.L2.PSs.dimp {s : List Stmt} {t t' : TS} (h : PSs X s t) (k : ∀ E σ H, t' E σ H → t E σ H) : PSs X s t' := ⟨fun pins st σ H E I q => h.run pins st σ H E I (k E σ H q)⟩
theorem JW.t {W : WX} {e : Expr} {c : DT} (h : JW X W e c) : JT X W e c := PW.pt h
end

def eVar (i : Nat) : DE := fun δ => match δ[i]? with
  | some (some d) => C.ret d
  | _ => C.stuck
def eC (d : D) : DE := fun _ => C.ret d
def eOp (f : D → D → C D) (a b : DE) : DE := fun δ => (a δ).bind fun x => (b δ).bind fun y => f x y
def eUn (f : D → C D) (a : DE) : DE := fun δ => (a δ).bind f
def aNil : DA := fun _ => C.ret []
def aCons (a : DE) (r : DA) : DA := fun δ => (a δ).bind fun x => (r δ).bind fun xs => C.ret (x :: xs)
def eApp (f : List D → C D) (a : DA) : DE := fun δ => (a δ).bind f
/-- truth of a value -/
def truth : D → C Bool
  | .bl b => C.ret b
  | _ => C.stuck
def tOf (a : DE) : DT := fun δ => (a δ).bind truth
def tAndD (a b : DT) : DT := fun δ => (a δ).bind fun c => if c = true then b δ else C.ret false
def tOrD (a b : DT) : DT := fun δ => (a δ).bind fun c => if c = true then C.ret true else b δ
def tNotD (a : DT) : DT := fun δ => (a δ).bind fun c => C.ret (!c)
def eAnd (a b : DE) : DE := fun δ => (a δ).bind fun x => (truth x).bind fun c => if c = true then b δ else C.ret (.bl false)
def eOr (a b : DE) : DE := fun δ => (a δ).bind fun x => (truth x).bind fun c => if c = true then C.ret (.bl true) else b δ
def eNot (a : DE) : DE := fun δ => (a δ).bind fun x => (truth x).bind fun c => C.ret (.bl (!c))
def eIf (t : DT) (a b : DE) : DE := fun δ => (t δ).bind fun c => if c = true then a δ else b δ

section
variable {X : Cx} {W : WX} {a b e : Expr} {ca cb ce : DE} {es : List Expr} {pos : Pos}
/-- a value's operator is sound: f over data tells what r asks -/
def OpD (X : Cx) (W : WX) (f : D → D → C D) (r : R2) : Prop := ∀ (F : Hp) (m : Mem) (G H : Hp) (σ : L2.St) (x y : D) (v w : V) (Q : VK), Rel X.K F m G H → Rep X.K F v x → Rep X.K F w y →
  LR X.K F G (f x y) m (fun F' H' d => ∀ v, Rep X.K F' v d → Q v H') W σ → r v w H Q
def UnD (X : Cx) (W : WX) (f : D → C D) (r : V → Hp → VK → Prop) : Prop := ∀ (F : Hp) (m : Mem) (G H : Hp) (σ : L2.St) (x : D) (v : V) (Q : VK), Rel X.K F m G H → Rep X.K F v x →
  LR X.K F G (f x) m (fun F' H' d => ∀ v, Rep X.K F' v d → Q v H') W σ → r v H Q
def CallD (X : Cx) (W : WX) (f : List D → C D) (r : List V → Hp → VK → Prop) : Prop := ∀ (F : Hp) (m : Mem) (G H : Hp) (σ : L2.St) (xs : List D) (vs : List V) (Q : VK), Rel X.K F m G H → Reps X.K F vs xs →
  LR X.K F G (f xs) m (fun F' H' d => ∀ v, Rep X.K F' v d → Q v H') W σ → r vs H Q
theorem je_var {i : Nat} {x : Str} (hN : X.N[i]? = some x) (hv : Vis X.env.scope x) (hd : (x == ("__debug__" : Str)) = false := by decide) (hcd : (x == ("__classdict__" : Str)) = false := by decide) : JE X W (.Name x pos) (eVar i) := by
  refine (pe_var hN hv hd hcd).dimp fun σ H Q ⟨F, m, G, δ, r, s, h⟩ => ?_
  unfold eVar at h
  split at h
  · rename_i d e
    obtain ⟨v, h1, h2⟩ := s.get e
    exact ⟨v, h1, h.ret r v h2⟩
  · exact h.elim
theorem je_int {i : Int} {j : Nat} : JE X W (.Constant (.int i) j pos) (eC (.int i)) := pe_int.dimp fun _ _ _ ⟨_, _, _, _, r, _, h⟩ => h.ret r _ (.int i)
theorem je_bl {i : Bool} {j : Nat} : JE X W (.Constant (.bool i) j pos) (eC (.bl i)) := pe_bl.dimp fun _ _ _ ⟨_, _, _, _, r, _, h⟩ => h.ret r _ (.bl i)
theorem je_non {j : Nat} : JE X W (.Constant .none j pos) (eC .non) := pe_non.dimp fun _ _ _ ⟨_, _, _, _, r, _, h⟩ => h.ret r _ .non
theorem je_str {x : Str} {j : Nat} (hx : PyData.strOk x = true) : JE X W (.Constant (.str x) j pos) (eC (.str x)) := pe_str.dimp fun _ _ _ ⟨_, _, _, _, r, _, h⟩ => h.ret r _ (.str x hx)
/-- a module's constant -/
theorem je_glob {x : Str} {v : V} {u : Value} {d : D} (hg : Gl X x) (hm : X.mg x = some u) (rv : RelV v u) (hr : ∀ F : Hp, Rep X.K F v d) (hd : (x == ("__debug__" : Str)) = false := by decide) : JE X W (.Name x pos) (eC d) :=
  (pe_glob hg hm rv hd).dimp fun _ _ _ ⟨F, _, _, _, r, _, h⟩ => h.ret r _ (hr F)
theorem je_op {op : Operator} {r : R2} {f : D → D → C D} (ho : OpR X (binaryOp op) r) (hf : OpD X W f r) (ha : JE X W a ca) (hb : JE X W b cb) : JE X W (.BinOp a op b pos) (eOp f ca cb) :=
  (pe_op ho ha hb).dimp fun σ H Q ⟨F, m, G, δ, rl, s, h⟩ => ⟨F, m, G, δ, rl, s, (LR.bind h).imp fun F1 H1 _ x e1 _ ⟨m1, r1, h1⟩ v rv => ⟨F1, m1, G, δ, r1, s.mono e1, (LR.bind h1).imp fun F2 H2 _ y e2 _ ⟨m2, r2, h2⟩ w rw =>
    hf F2 m2 G H2 σ x y v w Q r2 (rv.mono e2) rw h2⟩⟩
theorem je_cmp {op : CmpOp} {r : R2} {f : D → D → C D} (ho : OpR X (compareOp op) r) (hf : OpD X W f r) (ha : JE X W a ca) (hb : JE X W b cb) (hm : behindInMarks op b = false) : JE X W (.Compare a [op] [b] pos) (eOp f ca cb) :=
  (pe_cmpR ho ha hb hm).dimp fun σ H Q ⟨F, m, G, δ, rl, s, h⟩ => ⟨F, m, G, δ, rl, s, (LR.bind h).imp fun F1 H1 _ x e1 _ ⟨m1, r1, h1⟩ v rv => ⟨F1, m1, G, δ, r1, s.mono e1, (LR.bind h1).imp fun F2 H2 _ y e2 _ ⟨m2, r2, h2⟩ w rw =>
    hf F2 m2 G H2 σ x y v w Q r2 (rv.mono e2) rw h2⟩⟩
/-- a < b < c -/
def eChain (f g : D → D → C D) (a b c : DE) : DE := fun δ => (a δ).bind fun x => (b δ).bind fun y => (f x y).bind fun z => (truth z).bind fun k => if k = true then (c δ).bind fun w => g y w else C.ret (.bl false)
theorem truth_bl {F G : Hp} {m : Mem} {β : Type} {P : Hp → Hp → β → Prop} {K : PySem.W.Frag} {σ : L2.St} {d : D} {k : Bool → C β} (h : LR K F G ((truth d).bind k) m P W σ) : ∃ b, d = .bl b ∧ LR K F G (k b) m P W σ := by
  cases d with
  | bl b => exact ⟨b, rfl, h⟩
  | _ => exact h.elim
theorem je_un {op : UnaryOp} {r : V → Hp → VK → Prop} {f : D → C D} (ho : UnR X (unaryOp op) r) (hf : UnD X W f r) (ha : JE X W a ca) : JE X W (.UnaryOp op a pos) (eUn f ca) :=
  (pe_un ho ha).dimp fun σ H Q ⟨F, m, G, δ, rl, s, h⟩ => ⟨F, m, G, δ, rl, s, (LR.bind h).imp fun F1 H1 _ x e1 _ ⟨m1, r1, h1⟩ v rv => hf F1 m1 G H1 σ x v Q r1 rv h1⟩
theorem ja_nil : JA X W [] aNil := pa_nil.dimp fun _ _ _ ⟨_, _, _, _, r, _, h⟩ => h.ret r _ .nil
theorem ja_cons {r : DA} (ha : JE X W e ce) (hr : JA X W es r) (hs : starEach (e :: es) X.env = (false, eval e X.env) :: starEach es X.env := by rfl) : JA X W (e :: es) (aCons ce r) :=
  (pa_cons ha hr hs).dimp fun σ H Q ⟨F, m, G, δ, rl, s, h⟩ => ⟨F, m, G, δ, rl, s, (LR.bind h).imp fun F1 H1 _ x e1 _ ⟨m1, r1, h1⟩ v rv => ⟨F1, m1, G, δ, r1, s.mono e1, (LR.bind h1).imp fun F2 H2 _ xs e2 _ ⟨m2, r2, h2⟩ vs rvs =>
    h2.ret r2 _ (.cons (rv.mono e2) rvs)⟩⟩
theorem tCB_imp {r : List V → Hp → VK → Prop} {f : List D → C D} {c : DA} (hf : CallD X W f r) {σ : L2.St} {H : Hp} {Q : VK} (h : tE X.K W (eApp f c) σ H Q) : tCB r (tA X.K W c) σ H Q := by
  obtain ⟨F, m, G, δ, rl, s, h⟩ := h
  exact ⟨F, m, G, δ, rl, s, (LR.bind h).imp fun F1 H1 _ xs e1 _ ⟨m1, r1, h1⟩ vs rvs => hf F1 m1 G H1 σ xs vs Q r1 rvs h1⟩
theorem je_callB {x : Str} {p : Pos} {id : String} {r : List V → Hp → VK → Prop} {f : List D → C D} {c : DA} (hc : CallR X (.builtin id) r) (hf : CallD X W f r) (hg : Gl X x) (hm : X.mg x = none) (hv : bootBuiltins x = some (.builtin id)) (ha : JA X W (e :: es) c)
    (hn : x ≠ "__name__" := by decide) (hdb : (x == ("__debug__" : Str)) = false := by decide) (he : starEach (e :: es) X.env = (false, eval e X.env) :: starEach es X.env := by rfl) (hpl : (backTo pos (starEach es X.env)).any (·.1) = false := by rfl) :
    JE X W (.Call (.Name x p) (e :: es) [] pos) (eApp f c) := (pe_callB hc hg hm hv ha hn hdb he hpl).dimp fun _ _ _ h => tCB_imp hf h
theorem je_callTy {x : Str} {p : Pos} {T : String} {r : List V → Hp → VK → Prop} {f : List D → C D} {c : DA} (hc : CallR X (.type T) r) (hf : CallD X W f r) (hg : Gl X x) (hm : X.mg x = none) (hv : bootBuiltins x = some (.type T)) (ha : JA X W (e :: es) c)
    (hn : x ≠ "__name__" := by decide) (hdb : (x == ("__debug__" : Str)) = false := by decide) (he : starEach (e :: es) X.env = (false, eval e X.env) :: starEach es X.env := by rfl) (hpl : (backTo pos (starEach es X.env)).any (·.1) = false := by rfl) :
    JE X W (.Call (.Name x p) (e :: es) [] pos) (eApp f c) := (pe_callTy hc hg hm hv ha hn hdb he hpl).dimp fun _ _ _ h => tCB_imp hf h
theorem jt_val (h : JE X W e ce) (he : ∀ whole, isTrue e X.env whole = (do let v ← whole; standAt e.pos; holding [v] (truthy v)) := by intro _; rfl) : JT X W e (tOf ce) :=
  (pt_val h he).dimp fun σ H Q ⟨F, m, G, δ, rl, s, h⟩ => ⟨F, m, G, δ, rl, s, (LR.bind h).imp fun F1 H1 _ x e1 _ ⟨m1, r1, h1⟩ v rv => by
    obtain ⟨b, rfl, h2⟩ := truth_bl (k := C.ret) h1
    cases rv
    exact ⟨b, rfl, h2.ret r1⟩⟩
variable {ta tb : DT} {rest : List Expr}
theorem jt_not (h : JT X W a ta) : JT X W (.UnaryOp .Not a pos) (tNotD ta) :=
  (pt_not h).dimp fun σ H Q ⟨F, m, G, δ, rl, s, h⟩ => ⟨F, m, G, δ, rl, s, (LR.bind h).imp fun F1 H1 _ x e1 _ ⟨m1, r1, h1⟩ => h1.ret r1⟩
theorem jw_and1 (h : JT X W a ta) : JW X W (.BoolOp .And [a] pos) ta := pw_and1 h
theorem jw_or1 (h : JT X W a ta) : JW X W (.BoolOp .Or [a] pos) ta := pw_or1 h
theorem jw_and (ha : JT X W a ta) (hb : JW X W (.BoolOp .And (b :: rest) pos) tb) : JW X W (.BoolOp .And (a :: b :: rest) pos) (tAndD ta tb) :=
  (pw_and ha hb).dimp fun σ H Q ⟨F, m, G, δ, rl, s, h⟩ => ⟨F, m, G, δ, rl, s, (LR.bind h).imp fun F1 H1 _ c e1 _ ⟨m1, r1, h1⟩ => by
    cases c with
    | true => exact ⟨F1, m1, G, δ, r1, s.mono e1, h1⟩
    | false => exact h1.ret r1⟩
theorem jw_or (ha : JT X W a ta) (hb : JW X W (.BoolOp .Or (b :: rest) pos) tb) : JW X W (.BoolOp .Or (a :: b :: rest) pos) (tOrD ta tb) :=
  (pw_or ha hb).dimp fun σ H Q ⟨F, m, G, δ, rl, s, h⟩ => ⟨F, m, G, δ, rl, s, (LR.bind h).imp fun F1 H1 _ c e1 _ ⟨m1, r1, h1⟩ => by
    cases c with
    | true => exact h1.ret r1
    | false => exact ⟨F1, m1, G, δ, r1, s.mono e1, h1⟩⟩
theorem je_one {op : BoolOp} (h : JE X W a ca) : JE X W (.BoolOp op [a] pos) ca := pe_one h
theorem je_and (ha : JE X W a ca) (hb : JE X W (.BoolOp .And (b :: rest) pos) cb) : JE X W (.BoolOp .And (a :: b :: rest) pos) (eAnd ca cb) :=
  (pe_and ha hb).dimp fun σ H Q ⟨F, m, G, δ, rl, s, h⟩ => ⟨F, m, G, δ, rl, s, (LR.bind h).imp fun F1 H1 _ x e1 _ ⟨m1, r1, h1⟩ v rv => by
    obtain ⟨c, rfl, h2⟩ := truth_bl h1
    cases rv
    refine ⟨c, rfl, ?_⟩
    cases c with
    | true => exact ⟨F1, m1, G, δ, r1, s.mono e1, h2⟩
    | false => exact h2.ret r1 _ (.bl false)⟩
theorem je_or (ha : JE X W a ca) (hb : JE X W (.BoolOp .Or (b :: rest) pos) cb) : JE X W (.BoolOp .Or (a :: b :: rest) pos) (eOr ca cb) :=
  (pe_or ha hb).dimp fun σ H Q ⟨F, m, G, δ, rl, s, h⟩ => ⟨F, m, G, δ, rl, s, (LR.bind h).imp fun F1 H1 _ x e1 _ ⟨m1, r1, h1⟩ v rv => by
    obtain ⟨c, rfl, h2⟩ := truth_bl h1
    cases rv
    refine ⟨c, rfl, ?_⟩
    cases c with
    | true => exact h2.ret r1 _ (.bl true)
    | false => exact ⟨F1, m1, G, δ, r1, s.mono e1, h2⟩⟩
theorem je_not (ha : JE X W a ca) : JE X W (.UnaryOp .Not a pos) (eNot ca) :=
  (pe_not ha).dimp fun σ H Q ⟨F, m, G, δ, rl, s, h⟩ => ⟨F, m, G, δ, rl, s, (LR.bind h).imp fun F1 H1 _ x e1 _ ⟨m1, r1, h1⟩ v rv => by
    obtain ⟨c, rfl, h2⟩ := truth_bl h1
    cases rv
    exact ⟨c, rfl, h2.ret r1 _ (.bl _)⟩⟩
theorem je_if {c : Expr} (hc : JT X W c ta) (ha : JE X W a ca) (hb : JE X W b cb) : JE X W (.IfExp c a b pos) (eIf ta ca cb) :=
  (pe_ifExp hc ha hb).dimp fun σ H Q ⟨F, m, G, δ, rl, s, h⟩ => ⟨F, m, G, δ, rl, s, (LR.bind h).imp fun F1 H1 _ c e1 _ ⟨m1, r1, h1⟩ => by
    cases c with
    | true => exact ⟨F1, m1, G, δ, r1, s.mono e1, h1⟩
    | false => exact ⟨F1, m1, G, δ, r1, s.mono e1, h1⟩⟩
end

def sNext : CS := ⟨fun δ m K => K.nx δ m, fun l h => l.nx _ _ h⟩
def Kt.seq (K : Kt) (b : CS) : Kt := { K with nx := fun δ m => b.run δ m K }
@[simp] theorem Kt.seq_nx {K : Kt} {b : CS} {δ : DSt} {m : Mem} : (K.seq b).nx δ m = b.run δ m K := rfl
@[simp] theorem Kt.seq_rt {K : Kt} {b : CS} : (K.seq b).rt = K.rt := rfl
@[simp] theorem Kt.seq_bk {K : Kt} {b : CS} : (K.seq b).bk = K.bk := rfl
@[simp] theorem Kt.seq_ct {K : Kt} {b : CS} : (K.seq b).ct = K.ct := rfl
@[simp] theorem Kt.seq_ex {K : Kt} {b : CS} : (K.seq b).ex = K.ex := rfl
theorem Kt.Le.seq {A B : Kt} (l : A.Le B) (b : CS) : (A.seq b).Le (B.seq b) := ⟨fun _ _ h => b.mono l h, l.rt, l.bk, l.ct, l.ex⟩
theorem Kt.Le.refl (A : Kt) : A.Le A := ⟨fun _ _ h => h, fun _ _ h => h, fun _ _ h => h, fun _ _ h => h, fun _ _ _ h => h⟩
def sSeq (a b : CS) : CS := ⟨fun δ m K => a.run δ m (K.seq b), fun l h => a.mono (l.seq b) h⟩
def sAsg (i : Nat) (e : DE) : CS := ⟨fun δ m K => (e δ).run m (fun d m' => K.nx (δ.set i (some d)) m') (fun x m' => K.ex x δ m'), fun l h => C.mono _ (fun _ _ q => l.nx _ _ q) (fun _ _ q => l.ex _ _ _ q) h⟩
def sExpr (e : DE) : CS := ⟨fun δ m K => (e δ).run m (fun _ m' => K.nx δ m') (fun x m' => K.ex x δ m'), fun l h => C.mono _ (fun _ _ q => l.nx _ _ q) (fun _ _ q => l.ex _ _ _ q) h⟩
def sRet (e : DE) : CS := ⟨fun δ m K => (e δ).run m (fun d m' => K.rt d m') (fun x m' => K.ex x δ m'), fun l h => C.mono _ (fun _ _ q => l.rt _ _ q) (fun _ _ q => l.ex _ _ _ q) h⟩
def sRetN : CS := ⟨fun δ m K => K.rt .non m, fun l h => l.rt _ _ h⟩
def sIf (t : DT) (a b : CS) : CS := ⟨fun δ m K => (t δ).run m (fun c m' => if c = true then a.run δ m' K else b.run δ m' K) (fun x m' => K.ex x δ m'), fun {δ m A B} l h => C.mono _ (fun c m' q => by
    cases c with
    | true => exact a.mono l q
    | false => exact b.mono l q) (fun _ _ q => l.ex _ _ _ q) h⟩
def sBreak : CS := ⟨fun δ m K => K.bk δ m, fun l h => l.bk _ _ h⟩
def sCont : CS := ⟨fun δ m K => K.ct δ m, fun l h => l.ct _ _ h⟩
def sStuck : CS := ⟨fun _ _ _ => False, fun _ h => h⟩
section
variable {s1 s2 : CS} {δ : DSt} {m : Mem} {K : Kt} {e : DE} {i : Nat} {t : DT}
@[simp] theorem run_next : sNext.run δ m K = K.nx δ m := rfl
@[simp] theorem run_seq : (sSeq s1 s2).run δ m K = s1.run δ m (K.seq s2) := rfl
@[simp] theorem run_asg : (sAsg i e).run δ m K = (e δ).run m (fun d m' => K.nx (δ.set i (some d)) m') (fun x m' => K.ex x δ m') := rfl
@[simp] theorem run_expr : (sExpr e).run δ m K = (e δ).run m (fun _ m' => K.nx δ m') (fun x m' => K.ex x δ m') := rfl
@[simp] theorem run_retS : (sRet e).run δ m K = (e δ).run m (fun d m' => K.rt d m') (fun x m' => K.ex x δ m') := rfl
@[simp] theorem run_retN : sRetN.run δ m K = K.rt .non m := rfl
@[simp] theorem run_ifS : (sIf t s1 s2).run δ m K = (t δ).run m (fun c m' => if c = true then s1.run δ m' K else s2.run δ m' K) (fun x m' => K.ex x δ m') := rfl
@[simp] theorem run_break : sBreak.run δ m K = K.bk δ m := rfl
@[simp] theorem run_cont : sCont.run δ m K = K.ct δ m := rfl
@[simp] theorem run_stuckS : sStuck.run δ m K = False := rfl
end
section
variable {X : Cx} {W : WX} {e : Expr} {ce : DE} {st : Stmt} {rest : List Stmt} {a b : CS} {pos : Pos}
theorem liftX_of {F G : Hp} {K : PySem.W.Frag} {σ : L2.St} {δ : DSt} {E : Ends} {x : Xn} {m : Mem} (s : SRel K F σ δ) (h : (liftK K F G W E).ex x δ m) : liftX K F G W σ x m := fun F' H' c d e r q => h F' H' σ c d e r (s.mono e) q
theorem jb_nil : JB X W [] sNext := pss_nil.dimp fun E σ H ⟨F, m, G, δ, r, s, h⟩ => h F H σ (Ex.refl F) r s
theorem tSeq_imp {E : Ends} {σ : L2.St} {H : Hp} {K : PySem.W.Frag} (h : tS K W (sSeq a b) E σ H) : tSeq (tS K W a) (tS K W b) E σ H := by
  obtain ⟨F, m, G, δ, r, s, h⟩ := h
  exact ⟨F, m, G, δ, r, s, a.mono (A := (liftK K F G W E).seq b) ⟨fun δ' m' q F1 H1 σ1 e1 r1 s1 => ⟨F1, m', G, δ', r1, s1, b.mono (liftK.mono e1) q⟩, fun _ _ q => q, fun _ _ q => q, fun _ _ q => q, fun _ _ _ q => q⟩ h⟩
theorem jb_cons (h1 : JS X W st a) (h2 : JB X W rest b) : JB X W (st :: rest) (sSeq a b) := (pss_cons h1 h2).dimp fun _ _ _ h => tSeq_imp h
theorem jb_one (h1 : JS X W st a) : JB X W [st] a := pss_one h1
theorem js_pass : JS X W (.Pass pos) sNext := ps_pass.dimp fun E σ H ⟨F, m, G, δ, r, s, h⟩ => h F H σ (Ex.refl F) r s
theorem js_break : JS X W (.Break pos) sBreak := ps_break.dimp fun E σ H ⟨F, m, G, δ, r, s, h⟩ => h F H σ (Ex.refl F) r s
theorem js_cont : JS X W (.Continue pos) sCont := ps_continue.dimp fun E σ H ⟨F, m, G, δ, r, s, h⟩ => h F H σ (Ex.refl F) r s
theorem js_expr (he : JE X W e ce) (hs : swapsWith e none pos.line X.env = pure false := by rfl) : JS X W (.Expr e pos) (sExpr ce) :=
  (ps_expr he hs).dimp fun E σ H ⟨F, m, G, δ, r, s, h⟩ => ⟨F, m, G, δ, r, s, C.mono _ (fun d m' q F' H' e' r' v _ => q F' H' σ e' r' (s.mono e')) (fun x m' q => liftX_of s q) h⟩
theorem js_ret (he : JE X W e ce) : JS X W (.Return (some e) pos) (sRet ce) :=
  (ps_ret he).dimp fun E σ H ⟨F, m, G, δ, r, s, h⟩ => ⟨F, m, G, δ, r, s, C.mono _ (fun d m' q F' H' e' r' v rv => q F' H' v e' r' rv) (fun x m' q => liftX_of s q) h⟩
theorem js_retN : JS X W (.Return none pos) sRetN := ps_retN.dimp fun E σ H ⟨F, m, G, δ, r, s, h⟩ => h F H .non (Ex.refl F) r .non
theorem js_if {c : Expr} {xs ys : List Stmt} {t : DT} (hc : JT X W c t) (ha : JB X W xs a) (hb : JB X W ys b) : JS X W (.If c xs ys pos) (sIf t a b) :=
  (ps_if hc ha hb).dimp fun E σ H ⟨F, m, G, δ, r, s, h⟩ => ⟨F, m, G, δ, r, s, C.mono _ (fun c m' q F' H' e' r' => by
    cases c with
    | true => exact ⟨F', m', G, δ, r', s.mono e', a.mono (liftK.mono e') q⟩
    | false => exact ⟨F', m', G, δ, r', s.mono e', b.mono (liftK.mono e') q⟩) (fun x m' q => liftX_of s q) h⟩
theorem js_asg {i : Nat} {x : Str} {pos' : Pos} (hN : X.N.Nodup) (hi : X.N[i]? = some x) (hx : Loc X.env.scope x) (he : JE X W e ce) (hs : swapsWith e (some (.Name x pos')) pos.line X.env = pure false := by rfl)
    (hf : X.fn x = true ∨ X.env.scope.names.lookup x = some .local := by first | exact .inl rfl | exact .inr rfl | assumption) : JS X W (.Assign [.Name x pos'] e pos) (sAsg i ce) :=
  (ps_set hN hi hx he hs hf).dimp fun E σ H ⟨F, m, G, δ, r, s, h⟩ => ⟨F, m, G, δ, r, s, C.mono _ (fun d m' q F' H' e' r' v rv => q F' H' _ e' r' ((s.mono e').set rv i)) (fun x m' q => liftX_of s q) h⟩
theorem js_never : JS X W st sStuck := ps_never.dimp fun E σ H ⟨F, m, G, δ, r, s, h⟩ => h.elim
theorem jb_never {sts : List Stmt} : JB X W sts sStuck := pss_never.dimp fun E σ H ⟨F, m, G, δ, r, s, h⟩ => h.elim
end
end DL

namespace DL
open PySem PySem.Spec PyProof.Rows L2

def C.look {α : Type} (a : Addr) (k : MO → C α) : C α := ⟨fun m Q E => match m a with
  | some o => (k o).run m Q E
  | none => False, fun {m Q Q' E E'} hQ hE h => by
    cases e : m a with
    | none => simp only [e] at h
    | some o => simp only [e] at h ⊢; exact (k o).mono hQ hE h⟩
theorem C.run_look {α : Type} {a : Addr} {k : MO → C α} {m : Mem} {Q : α → Mem → Prop} {E : Xn → Mem → Prop} {o : MO} (h : m a = some o) : (C.look a k).run m Q E = (k o).run m Q E := by
  show (match m a with | some o => (k o).run m Q E | none => False) = _
  rw [h]
theorem LR.look {K : PySem.W.Frag} {α : Type} {F G : Hp} {m : Mem} {W : WX} {σ : L2.St} {a : Addr} {k : MO → C α} {P : Hp → Hp → α → Prop} (h : LR K F G (C.look a k) m P W σ) : ∃ o, m a = some o ∧ LR K F G (k o) m P W σ := by
  unfold LR at h
  cases e : m a with
  | none =>
    have h2 : (match m a with
      | some o => (k o).run m (fun a m' => ∀ F' H', Ex F F' → Rel K F' m' G H' → P F' H' a) (liftX K F G W σ)
      | none => False) := h
    rw [e] at h2
    exact h2.elim
  | some o =>
    have h2 : (match m a with
      | some o => (k o).run m (fun a m' => ∀ F' H', Ex F F' → Rel K F' m' G H' → P F' H' a) (liftX K F G W σ)
      | none => False) := h
    rw [e] at h2
    exact ⟨o, rfl, h2⟩
/-- the items of a list -/
def asL : D → C (List D)
  | .lst l => C.ret l
  | .ref a => C.look a fun o => match o with
    | .lst l => C.ret l
    | _ => C.stuck
  | _ => C.stuck
@[simp] theorem asL_lst {l : List D} : asL (.lst l) = C.ret l := rfl
theorem run_asL_ref {a : Addr} {l : List D} {m : Mem} {Q : List D → Mem → Prop} {E : Xn → Mem → Prop} (h : m a = some (.lst l)) : (asL (.ref a)).run m Q E = Q l m := by
  show (C.look a _).run m Q E = _
  rw [C.run_look h]
  rfl
section
variable {K : PySem.W.Frag} {β : Type} {F G H : Hp} {m : Mem} {W : WX} {σ : L2.St}
theorem asL_of {v : V} {d : D} {k : List D → C β} {P : Hp → Hp → β → Prop} (r : Rel K F m G H) (rv : Rep K F v d) (h : LR K F G ((asL d).bind k) m P W σ) :
    ∃ a vs l, v = .ref a ∧ H a = some (.lst vs) ∧ Reps K F vs l ∧ LR K F G (k l) m P W σ := by
  cases d with
  | lst l =>
    cases rv with
    | lst h1 h2 => exact ⟨_, _, l, rfl, r.ex _ _ h1, h2, h⟩
  | ref a =>
    cases rv
    obtain ⟨o, e, h2⟩ := LR.look (k := fun o => C.bind (match o with | .lst l => C.ret l | _ => C.stuck) k) h
    cases o with
    | lst l =>
      obtain ⟨⟨vs, h3, h4⟩, _⟩ := r.mm _ _ e
      exact ⟨a, vs, l, rfl, h3, h4, h2⟩
    | _ => exact h2.elim
  | _ => exact h.elim
end

def dAdd : D → D → C D
  | .int i, .int j => C.ret (.int (i + j))
  | .str a, .str b => if a.length + b.length ≤ sizeLine then C.ret (.str (a ++ b)) else C.stuck
  | .tup a, .tup b => if a.length + b.length ≤ sizeLine then C.ret (.tup (a ++ b)) else C.stuck
  | x, y => (asL x).bind fun a => (asL y).bind fun b => if a.length + b.length ≤ sizeLine then C.ret (.lst (a ++ b)) else C.stuck
def dSub : D → D → C D
  | .int i, .int j => C.ret (.int (i - j))
  | _, _ => C.stuck
def dMul : D → D → C D
  | .int i, .int j => if (-(2 ^ 64) < i ∧ i < 2 ^ 64) ∨ (-(2 ^ 64) < j ∧ j < 2 ^ 64) then C.ret (.int (i * j)) else C.stuck
  | _, _ => C.stuck
def dDiv : D → D → C D
  | .int i, .int j => if 0 < j ∧ j < 1073741824 then C.ret (.int (i / j)) else C.stuck
  | _, _ => C.stuck
def dMod : D → D → C D
  | .int i, .int j => if 0 < j then C.ret (.int (i % j)) else C.stuck
  | _, _ => C.stuck
def dPow : D → D → C D
  | .int i, .int j => if 0 ≤ j ∧ j ≤ 1000000 ∧ i.natAbs < 2 ^ 64 then C.ret (.int (i ^ j.toNat)) else C.stuck
  | _, _ => C.stuck
def dLt : D → D → C D
  | .int i, .int j => C.ret (.bl (decide (i < j)))
  | _, _ => C.stuck
def dLe : D → D → C D
  | .int i, .int j => C.ret (.bl (decide (i ≤ j)))
  | _, _ => C.stuck
def dGt : D → D → C D
  | .int i, .int j => C.ret (.bl (decide (j < i)))
  | _, _ => C.stuck
def dGe : D → D → C D
  | .int i, .int j => C.ret (.bl (decide (j ≤ i)))
  | _, _ => C.stuck
def dNeg : D → C D
  | .int i => C.ret (.int (-i))
  | _ => C.stuck

section
variable {X : Cx} {W : WX}
theorem LR.ite {K : PySem.W.Frag} {α : Type} {F G : Hp} {m : Mem} {W : WX} {σ : L2.St} {p : Prop} [Decidable p] {c : C α} {P : Hp → Hp → α → Prop} (h : LR K F G (if p then c else C.stuck) m P W σ) : p ∧ LR K F G c m P W σ := by
  by_cases q : p
  · rw [if_pos q] at h; exact ⟨q, h⟩
  · rw [if_neg q] at h; exact h.elim
theorem opD_I0 {f : D → D → C D} {g : Int → Int → V} {gd : Int → Int → D} (h1 : ∀ i j, f (.int i) (.int j) = C.ret (gd i j)) (h2 : ∀ x y, (∀ i j, ¬ (x = .int i ∧ y = .int j)) → f x y = C.stuck) (h3 : ∀ (F : Hp) i j, Rep X.K F (g i j) (gd i j)) : OpD X W f (rI0 g) := by
  intro F m G H σ x y v w Q r rx ry h
  by_cases q : ∃ i j, x = .int i ∧ y = .int j
  · obtain ⟨i, j, rfl, rfl⟩ := q
    cases rx
    cases ry
    rw [h1] at h
    exact ⟨i, j, rfl, rfl, h.ret r _ (h3 F i j)⟩
  · rw [h2 x y fun i j z => q ⟨i, j, z⟩] at h
    exact h.elim
theorem opD_I {f : D → D → C D} {c : Int → Int → Prop} [∀ i j, Decidable (c i j)] {g : Int → Int → V} {gd : Int → Int → D} (h1 : ∀ i j, f (.int i) (.int j) = if c i j then C.ret (gd i j) else C.stuck) (h2 : ∀ x y, (∀ i j, ¬ (x = .int i ∧ y = .int j)) → f x y = C.stuck)
    (h3 : ∀ (F : Hp) i j, Rep X.K F (g i j) (gd i j)) : OpD X W f (rI c g) := by
  intro F m G H σ x y v w Q r rx ry h
  by_cases q : ∃ i j, x = .int i ∧ y = .int j
  · obtain ⟨i, j, rfl, rfl⟩ := q
    cases rx
    cases ry
    rw [h1] at h
    obtain ⟨hc, h⟩ := h.ite
    exact ⟨i, j, rfl, rfl, hc, h.ret r _ (h3 F i j)⟩
  · rw [h2 x y fun i j z => q ⟨i, j, z⟩] at h
    exact h.elim
theorem stuck2 {f : D → D → C D} (h : ∀ x y, (∃ i j, x = D.int i ∧ y = D.int j) ∨ f x y = C.stuck) : ∀ x y, (∀ i j, ¬ (x = D.int i ∧ y = D.int j)) → f x y = C.stuck := fun x y n => (h x y).elim (fun ⟨i, j, z⟩ => (n i j z).elim) id
theorem od_sub : OpD X W dSub (rI0 fun i j => .int (i - j)) := opD_I0 (gd := fun i j => .int (i - j)) (fun _ _ => rfl) (stuck2 fun x y => by cases x <;> cases y <;> first | exact .inl ⟨_, _, rfl, rfl⟩ | exact .inr rfl) fun _ _ _ => .int _
instance (i j : Int) : Decidable (CMul i j) := inferInstanceAs (Decidable (_ ∨ _))
instance (i j : Int) : Decidable (CDiv i j) := inferInstanceAs (Decidable (_ ∧ _))
instance (i j : Int) : Decidable (CPow i j) := inferInstanceAs (Decidable (_ ∧ _))
theorem od_mul : OpD X W dMul (rI CMul fun i j => .int (i * j)) := opD_I (gd := fun i j => .int (i * j)) (fun _ _ => rfl) (stuck2 fun x y => by cases x <;> cases y <;> first | exact .inl ⟨_, _, rfl, rfl⟩ | exact .inr rfl) fun _ _ _ => .int _
theorem od_div : OpD X W dDiv (rI CDiv fun i j => .int (i / j)) := opD_I (gd := fun i j => .int (i / j)) (fun _ _ => rfl) (stuck2 fun x y => by cases x <;> cases y <;> first | exact .inl ⟨_, _, rfl, rfl⟩ | exact .inr rfl) fun _ _ _ => .int _
theorem od_mod : OpD X W dMod (rI (fun _ j => 0 < j) fun i j => .int (i % j)) := opD_I (gd := fun i j => .int (i % j)) (fun _ _ => rfl) (stuck2 fun x y => by cases x <;> cases y <;> first | exact .inl ⟨_, _, rfl, rfl⟩ | exact .inr rfl) fun _ _ _ => .int _
theorem od_pow : OpD X W dPow (rI CPow fun i j => .int (i ^ j.toNat)) := opD_I (gd := fun i j => .int (i ^ j.toNat)) (fun _ _ => rfl) (stuck2 fun x y => by cases x <;> cases y <;> first | exact .inl ⟨_, _, rfl, rfl⟩ | exact .inr rfl) fun _ _ _ => .int _
theorem od_lt : OpD X W dLt (rI0 fun i j => .bl (decide (i < j))) := opD_I0 (gd := fun i j => .bl (decide (i < j))) (fun _ _ => rfl) (stuck2 fun x y => by cases x <;> cases y <;> first | exact .inl ⟨_, _, rfl, rfl⟩ | exact .inr rfl) fun _ _ _ => .bl _
theorem od_le : OpD X W dLe (rI0 fun i j => .bl (decide (i ≤ j))) := opD_I0 (gd := fun i j => .bl (decide (i ≤ j))) (fun _ _ => rfl) (stuck2 fun x y => by cases x <;> cases y <;> first | exact .inl ⟨_, _, rfl, rfl⟩ | exact .inr rfl) fun _ _ _ => .bl _
theorem od_gt : OpD X W dGt (rI0 fun i j => .bl (decide (j < i))) := opD_I0 (gd := fun i j => .bl (decide (j < i))) (fun _ _ => rfl) (stuck2 fun x y => by cases x <;> cases y <;> first | exact .inl ⟨_, _, rfl, rfl⟩ | exact .inr rfl) fun _ _ _ => .bl _
theorem od_ge : OpD X W dGe (rI0 fun i j => .bl (decide (j ≤ i))) := opD_I0 (gd := fun i j => .bl (decide (j ≤ i))) (fun _ _ => rfl) (stuck2 fun x y => by cases x <;> cases y <;> first | exact .inl ⟨_, _, rfl, rfl⟩ | exact .inr rfl) fun _ _ _ => .bl _
theorem ud_neg : UnD X W dNeg (rU fun i => .int (-i)) := by
  intro F m G H σ x v Q r rx h
  cases x with
  | int i =>
    cases rx
    exact ⟨i, rfl, h.ret r _ (.int _)⟩
  | _ => exact h.elim
/-- + : ints, texts, tuples, lists -/
def rAddD (K : PySem.W.Frag) : R2 := fun x y H Q => (rI0 (fun i j => .int (i + j)) x y H Q) ∨ (∃ i j, x = .str i ∧ y = .str j ∧ i.length + j.length ≤ sizeLine ∧ Q (.str (i ++ j)) H) ∨ rCatA K x y H Q ∨ rCat x y H Q
theorem or_addD : OpR X (binaryOp .Add) (rAddD X.K) := op_add.or (op_add_str.or (op_catA.or op_cat))
theorem strOk_app {a b : Str} (ha : PyData.strOk a = true) (hb : PyData.strOk b = true) : PyData.strOk (a ++ b) = true := by
  unfold PyData.strOk at *
  show (a.cps ++ b.cps).all _ = true
  rw [Array.all_append, ha, hb]
  rfl
theorem SqT.len {pins : List (Addr × Obj)} {σ : L2.St} {H : Hp} {s : Shared} {a : Addr} {xs : List V} (I : Inv X pins σ H s) (h : SqT X.K H a xs) : xs.length ≤ sizeLine := by
  obtain ⟨_, _, _, h⟩ := I.tuple h
  exact h
theorem add_lists {F G H : Hp} {m : Mem} {σ : L2.St} {x y : D} {v w : V} {Q : VK} (r : Rel X.K F m G H) (rx : Rep X.K F v x) (ry : Rep X.K F w y)
    (h : LR X.K F G ((asL x).bind fun a => (asL y).bind fun b => if a.length + b.length ≤ sizeLine then C.ret (D.lst (a ++ b)) else C.stuck) m (fun F' H' d => ∀ v, Rep X.K F' v d → Q v H') W σ) : rCat v w H Q := by
  obtain ⟨a, vs, l, rfl, h1, h2, h⟩ := asL_of r rx h
  obtain ⟨b, ws, k, rfl, h3, h4, h⟩ := asL_of r ry h
  obtain ⟨hl, h⟩ := h.ite
  refine ⟨a, b, vs, ws, rfl, rfl, h1, h3, by rw [h2.length, h4.length]; exact hl, fun p hp => ?_⟩
  have e := Ex.new (o := .lst (vs ++ ws)) (r.fresh hp).2
  exact h.retE e (r.newF hp _) _ (.lst upd_same ((h2.append h4).mono e))
theorem od_add : OpD X W dAdd (rAddD X.K) := by
  intro F m G H σ x y v w Q r rx ry h
  unfold dAdd at h
  split at h
  · rename_i i j
    cases rx
    cases ry
    exact .inl ⟨i, j, rfl, rfl, h.ret r _ (.int _)⟩
  · rename_i a b
    obtain ⟨hl, h⟩ := h.ite
    cases rx with
    | str _ ha =>
      cases ry with
      | str _ hb => exact .inr (.inl ⟨a, b, rfl, rfl, hl, h.ret r _ (.str _ (strOk_app ha hb))⟩)
  · rename_i a b
    obtain ⟨hl, h⟩ := h.ite
    cases rx with
    | @tup _ vs _ ha ra =>
      cases ry with
      | @tup _ ws _ hb rb =>
        refine .inr (.inr (.inl ⟨_, _, _, _, rfl, rfl, r.ex.t ha, r.ex.t hb, by rw [ra.length, rb.length]; exact hl, ?_, ?_, ?_⟩))
        · intro z
          subst z
          cases ra
          exact h.ret r _ (.tup hb rb)
        · intro z1 z2
          subst z2
          cases rb
          refine h.ret r _ ?_
          rw [List.append_nil]
          exact .tup ha ra
        · intro z1 z2 p hp
          have e := Ex.new (o := .tup (vs ++ ws)) (r.fresh hp).2
          exact h.retE e (r.newF hp _) _ (.tup (SqT.of upd_same) ((ra.append rb).mono e))
  · exact .inr (.inr (.inr (add_lists r rx ry h)))
end
end DL

namespace DL
open PySem PySem.Spec PyProof.Rows L2

mutual
def eqv : D → D → Bool
  | .non, .non => true
  | .bl a, .bl b => a == b
  | .bl a, .int j => (if a then 1 else 0) == j
  | .int i, .bl b => i == (if b then 1 else 0)
  | .int i, .int j => i == j
  | .str x, .str y => x == y
  | .tup xs, .tup ys => eqvs xs ys
  | .lst xs, .lst ys => eqvs xs ys
  | _, _ => false
def eqvs : List D → List D → Bool
  | [], [] => true
  | x :: xs, y :: ys => eqv x y && eqvs xs ys
  | _, _ => false
end
mutual
def dat : D → Bool
  | .non | .bl _ | .int _ | .str _ => true
  | .tup l | .lst l => dats l
  | _ => false
def dats : List D → Bool
  | [] => true
  | x :: xs => dat x && dats xs
end
mutual
def dep : D → Nat
  | .tup l | .lst l => deps l + 1
  | _ => 0
def deps : List D → Nat
  | [] => 0
  | x :: xs => max (dep x) (deps xs)
end
mutual
def toP : D → PyData
  | .bl b => .bool b
  | .int i => .int i
  | .str x => .str x
  | .tup l => .tuple (toPs l)
  | .lst l => .list (toPs l)
  | _ => .none
def toPs : List D → List PyData
  | [] => []
  | x :: xs => toP x :: toPs xs
end
mutual
theorem eqv_toP : ∀ x y : D, dat x = true → dat y = true → PyData.eqv (toP x) (toP y) = eqv x y := by
  intro x y hx hy
  cases x <;> cases y <;> first
    | rfl
    | (simp only [dat] at hx; exact absurd hx (by decide))
    | (simp only [dat] at hy; exact absurd hy (by decide))
    | (simp only [toP, eqv, PyData.eqv]; done)
    | (simp only [toP, eqv, PyData.eqv]; exact eqvs_toP _ _ (by simpa only [dat] using hx) (by simpa only [dat] using hy))
termination_by x => sizeOf x
theorem eqvs_toP : ∀ xs ys : List D, dats xs = true → dats ys = true → PyData.eqvAll (toPs xs) (toPs ys) = eqvs xs ys := by
  intro xs ys hx hy
  cases xs with
  | nil => cases ys <;> simp only [toPs, eqvs, PyData.eqvAll]
  | cons x xs =>
    cases ys with
    | nil => simp only [toPs, eqvs, PyData.eqvAll]
    | cons y ys =>
      simp only [dats, Bool.and_eq_true] at hx hy
      simp only [toPs, eqvs, PyData.eqvAll]
      rw [eqv_toP x y hx.1 hy.1, eqvs_toP xs ys hx.2 hy.2]
termination_by xs => sizeOf xs
end
mutual
theorem dep_toP : ∀ x : D, (toP x).depth = dep x := by
  intro x
  cases x <;> simp only [toP, dep, PyData.depth, deps_toP]
theorem deps_toP : ∀ xs : List D, PyData.depthAll (toPs xs) = deps xs := by
  intro xs
  cases xs with
  | nil => simp only [toPs, deps, PyData.depthAll]
  | cons x xs => simp only [toPs, deps, PyData.depthAll, dep_toP x, deps_toP xs]
end
section
variable {K : PySem.W.Frag} {F G H : Hp}
mutual
theorem rep_dp : ∀ {v : V} {d : D}, Rep K F v d → dat d = true → Ex F H → Dp K H v (toP d) ∧ (toP d).canLay0 = true := by
  intro v d r hd e
  cases r with
  | non => exact ⟨.non, rfl⟩
  | bl b => exact ⟨.bl b, rfl⟩
  | int i => exact ⟨.int i, rfl⟩
  | str x h => exact ⟨.str x, by simp only [toP, PyData.canLay0]; exact h⟩
  | tup h r =>
    obtain ⟨h1, h2⟩ := reps_dp r (by simpa only [dat] using hd) e
    simp only [toP, PyData.canLay0]
    exact ⟨.tup (e.t h) h1, h2⟩
  | lst h r =>
    obtain ⟨h1, h2⟩ := reps_dp r (by simpa only [dat] using hd) e
    simp only [toP, PyData.canLay0]
    exact ⟨.lst (SqL.of (e _ _ h)) h1, h2⟩
  | obj h r => simp only [dat] at hd; cases hd
  | ref a => simp only [dat] at hd; cases hd
  | scr h => simp only [dat] at hd; cases hd
  | dic h r => simp only [dat] at hd; cases hd
  | ldc h r => simp only [dat] at hd; cases hd
  | xc0 a c => simp only [dat] at hd; cases hd
  | xc1 h r => simp only [dat] at hd; cases hd
theorem reps_dp : ∀ {vs : List V} {ds : List D}, Reps K F vs ds → dats ds = true → Ex F H → DpAll K H vs (toPs ds) ∧ PyData.canLayAll0 (toPs ds) = true := by
  intro vs ds r hd e
  cases r with
  | nil => exact ⟨.nil, by simp only [toPs, PyData.canLayAll0]⟩
  | cons r t =>
    simp only [dats, Bool.and_eq_true] at hd
    obtain ⟨h1, h2⟩ := rep_dp r hd.1 e
    obtain ⟨h3, h4⟩ := reps_dp t hd.2 e
    exact ⟨.cons h1 h3, by simp only [toPs, PyData.canLayAll0, h2, h4, Bool.and_self]⟩
end
end
def okEq (x y : D) : Bool := dat x && dat y && (decide (dep x ≤ 64) && decide (dep y ≤ 64))
def dEq (x y : D) : C D := if okEq x y = true then C.ret (.bl (eqv x y)) else C.stuck
def dNe (x y : D) : C D := if okEq x y = true then C.ret (.bl (!eqv x y)) else C.stuck
section
variable {X : Cx} {W : WX}
theorem okEq_dp {F G H : Hp} {m : Mem} {x y : D} {v w : V} (r : Rel X.K F m G H) (rx : Rep X.K F v x) (ry : Rep X.K F w y) (h : okEq x y = true) :
    Dp X.K H v (toP x) ∧ Dp X.K H w (toP y) ∧ SeqAt.shaped (toP x) = true ∧ SeqAt.shaped (toP y) = true ∧ PyData.eqv (toP x) (toP y) = eqv x y := by
  unfold okEq at h
  simp only [Bool.and_eq_true, decide_eq_true_eq] at h
  obtain ⟨⟨h1, h2⟩, h3, h4⟩ := h
  obtain ⟨a1, a2⟩ := rep_dp rx h1 r.ex
  obtain ⟨b1, b2⟩ := rep_dp ry h2 r.ex
  refine ⟨a1, b1, ?_, ?_, eqv_toP x y h1 h2⟩
  · unfold SeqAt.shaped
    rw [a2, dep_toP, decide_eq_true h3]
    rfl
  · unfold SeqAt.shaped
    rw [b2, dep_toP, decide_eq_true h4]
    rfl
theorem od_eq : OpD X W dEq (rEqD X.K) := by
  intro F m G H σ x y v w Q r rx ry h
  obtain ⟨hc, h⟩ := LR.ite h
  obtain ⟨a, b, c, d, e⟩ := okEq_dp r rx ry hc
  refine ⟨_, _, a, b, c, d, ?_⟩
  rw [e]
  exact h.ret r _ (.bl _)
theorem od_ne : OpD X W dNe (rNeD X.K) := by
  intro F m G H σ x y v w Q r rx ry h
  obtain ⟨hc, h⟩ := LR.ite h
  obtain ⟨a, b, c, d, e⟩ := okEq_dp r rx ry hc
  refine ⟨_, _, a, b, c, d, ?_⟩
  rw [e]
  exact h.ret r _ (.bl _)
end

def isD : D → D → Bool
  | .non, .non => true
  | .bl a, .bl b => a == b
  | _, _ => false
/-- x is None, x is True, x is False -/
def dIs (x y : D) : C D := match y with
  | .non => C.ret (.bl (isD x .non))
  | .bl b => C.ret (.bl (isD x (.bl b)))
  | _ => C.stuck
def dIsNot (x y : D) : C D := match y with
  | .non => C.ret (.bl (!isD x .non))
  | .bl b => C.ret (.bl (!isD x (.bl b)))
  | _ => C.stuck
def sing : V → Bool
  | .non | .bl _ => true
  | _ => false
def rIsS (neg : Bool) : R2 := fun x y H Q => sing y = true ∧ Q (.bl (if neg then !decide (x = y) else decide (x = y))) H
section
variable {X : Cx} {W : WX}
theorem or_is : OpR X (compareOp .Is) (rIsS false) := by
  intro pins s σ H x y v u Q I rx ry h
  obtain ⟨hs, q⟩ := h
  by_cases e : x = y
  · subst e
    have e2 : u = v := by
      cases x with
      | non => exact (show u = .none from ry).trans (show v = .none from rx).symm
      | bl b => exact (show u = .bool b from ry).trans (show v = .bool b from rx).symm
      | _ => cases hs
    subst e2
    refine wpAny_is_self ?_ ⟨.bl true, H, I, rfl, by simpa using q⟩
    cases x with
    | non => cases rx; rfl
    | bl b => cases rx; rfl
    | _ => cases hs
  · refine wpAny_is_other ?_ ?_ ⟨.bl false, H, I, rfl, by simpa [e] using q⟩
    · cases y with
      | non =>
        cases ry
        cases x <;> first | (cases rx; rfl) | (obtain ⟨t, rfl⟩ := rx; rfl)
      | bl b =>
        cases ry
        cases x <;> first | (cases rx; rfl) | (obtain ⟨t, rfl⟩ := rx; rfl)
      | _ => cases hs
    · intro z
      subst z
      exact e (rx.inj ry)
theorem or_isnot : OpR X (compareOp .IsNot) (rIsS true) := by
  intro pins s σ H x y v u Q I rx ry h
  obtain ⟨hs, q⟩ := h
  by_cases e : x = y
  · subst e
    have e2 : u = v := by
      cases x with
      | non => exact (show u = .none from ry).trans (show v = .none from rx).symm
      | bl b => exact (show u = .bool b from ry).trans (show v = .bool b from rx).symm
      | _ => cases hs
    subst e2
    refine wpAny_isNot_self ?_ ⟨.bl false, H, I, rfl, by simpa using q⟩
    cases x with
    | non => cases rx; rfl
    | bl b => cases rx; rfl
    | _ => cases hs
  · refine wpAny_isNot_other ?_ ?_ ⟨.bl true, H, I, rfl, by simpa [e] using q⟩
    · cases y with
      | non =>
        cases ry
        cases x <;> first | (cases rx; rfl) | (obtain ⟨t, rfl⟩ := rx; rfl)
      | bl b =>
        cases ry
        cases x <;> first | (cases rx; rfl) | (obtain ⟨t, rfl⟩ := rx; rfl)
      | _ => cases hs
    · intro z
      subst z
      exact e (rx.inj ry)
theorem isD_eq {K : PySem.W.Frag} {F : Hp} {x y : D} {v w : V} (rx : Rep K F v x) (ry : Rep K F w y) (h : sing w = true) : decide (v = w) = isD x y := by
  cases ry with
  | non => cases rx <;> rfl
  | bl b =>
    cases rx with
    | bl a =>
      show decide (V.bl a = V.bl b) = (a == b)
      exact dec_bl
    | _ => rfl
  | _ => cases h
theorem od_is : OpD X W dIs (rIsS false) := by
  intro F m G H σ x y v w Q r rx ry h
  unfold dIs at h
  split at h
  · cases ry
    refine ⟨rfl, ?_⟩
    show Q (.bl (decide (v = .non))) H
    rw [isD_eq rx (.non) rfl]
    exact h.ret r _ (.bl _)
  · rename_i b
    cases ry
    refine ⟨rfl, ?_⟩
    show Q (.bl (decide (v = .bl b))) H
    rw [isD_eq rx (.bl b) rfl]
    exact h.ret r _ (.bl _)
  · exact h.elim
theorem od_isnot : OpD X W dIsNot (rIsS true) := by
  intro F m G H σ x y v w Q r rx ry h
  unfold dIsNot at h
  split at h
  · cases ry
    refine ⟨rfl, ?_⟩
    show Q (.bl (!decide (v = .non))) H
    rw [isD_eq rx (.non) rfl]
    exact h.ret r _ (.bl _)
  · rename_i b
    cases ry
    refine ⟨rfl, ?_⟩
    show Q (.bl (!decide (v = .bl b))) H
    rw [isD_eq rx (.bl b) rfl]
    exact h.ret r _ (.bl _)
  · exact h.elim
end

def flat : D → Bool
  | .non | .bl _ | .int _ | .str _ => true
  | _ => false
def inD (x : D) (l : List D) : Bool := l.any fun y => eqv y x
/-- the items of a list or a tuple -/
def asS : D → C (List D)
  | .tup l => C.ret l
  | x => asL x
/-- one sign in a text -/
def inStr (c z : Str) : C Bool := match c.cps.toList with
  | [k] => C.ret (decide (k ∈ z.cps.toList))
  | _ => C.stuck
def dIn (x y : D) : C D := match x, y with
  | .str c, .str z => (inStr c z).bind fun b => C.ret (.bl b)
  | x, y => (asS y).bind fun l => if flat x && l.all flat then C.ret (.bl (inD x l)) else C.stuck
def dNotIn (x y : D) : C D := match x, y with
  | .str c, .str z => (inStr c z).bind fun b => C.ret (.bl (!b))
  | x, y => (asS y).bind fun l => if flat x && l.all flat then C.ret (.bl (!inD x l)) else C.stuck
section
variable {X : Cx} {W : WX} {K : PySem.W.Frag} {F G H : Hp} {m : Mem} {σ : L2.St}
theorem asS_of {β : Type} {v : V} {d : D} {k : List D → C β} {P : Hp → Hp → β → Prop} (r : Rel K F m G H) (rv : Rep K F v d) (h : LR K F G ((asS d).bind k) m P W σ) :
    ∃ a vs l, v = .ref a ∧ (SqL K H a vs ∨ SqT K H a vs) ∧ Reps K F vs l ∧ LR K F G (k l) m P W σ := by
  unfold asS at h
  split at h
  · rename_i l
    cases rv with
    | tup h1 h2 => exact ⟨_, _, l, rfl, .inr (r.ex.t h1), h2, h⟩
  · obtain ⟨a, vs, l, e, h1, h2, h3⟩ := asL_of r rv h
    exact ⟨a, vs, l, e, .inl (SqL.of h1), h2, h3⟩
theorem flat_rep {v : V} {d : D} (r : Rep K F v d) (h : flat d = true) : flatV v = true := by
  cases r <;> first | rfl | cases h
theorem flats_rep : ∀ {vs : List V} {ds : List D}, Reps K F vs ds → ds.all flat = true → vs.all flatV = true
  | _, _, .nil, _ => rfl
  | _, _, .cons r t, h => by
    rw [List.all_cons, Bool.and_eq_true] at h ⊢
    exact ⟨flat_rep r h.1, flats_rep t h.2⟩
theorem eqV_rep {v w : V} {x y : D} (rx : Rep K F v x) (ry : Rep K F w y) (hx : flat x = true) (hy : flat y = true) : eqV v w = eqv x y := by
  cases rx <;> first
    | (cases hx; done)
    | (cases ry <;> first
        | (cases hy; done)
        | (simp only [eqV, eqv]; done)
        | rfl)
theorem inV_rep {v : V} {x : D} (rx : Rep K F v x) (hx : flat x = true) : ∀ {vs : List V} {ds : List D}, Reps K F vs ds → ds.all flat = true → inV v vs = inD x ds
  | _, _, .nil, _ => rfl
  | _, _, .cons (v := w) (vs := ws) (d := y) (ds := l) r t, h => by
    rw [List.all_cons, Bool.and_eq_true] at h
    have ih := inV_rep rx hx t h.2
    unfold inV inD at ih ⊢
    rw [List.any_cons, List.any_cons, ih, eqV_rep r rx h.1 hx]
def rInD (K : PySem.W.Frag) (neg : Bool) : R2 := fun x y H Q => (∃ (c : Nat) (z : Str), x = .str ⟨#[c]⟩ ∧ y = .str z ∧ Q (.bl (if neg then !decide (c ∈ z.cps.toList) else decide (c ∈ z.cps.toList))) H) ∨ rIn K neg x y H Q
theorem or_in : OpR X (compareOp .In) (rInD X.K false) := op_in_sign.or op_in_seq
theorem or_notin : OpR X (compareOp .NotIn) (rInD X.K true) := op_notIn_sign.or op_notIn_seq
theorem one_sign {c : Str} {k : Nat} (h : c.cps.toList = [k]) : c = ⟨#[k]⟩ := by
  obtain ⟨a⟩ := c
  have e : a = #[k] := by
    have : a.toList = [k] := h
    rw [← Array.toArray_toList (xs := a), this]
  rw [e]
theorem inStr_of {β : Type} {c z : Str} {k : Bool → C β} {P : Hp → Hp → β → Prop} (h : LR K F G ((inStr c z).bind k) m P W σ) : ∃ n, c = ⟨#[n]⟩ ∧ LR K F G (k (decide (n ∈ z.cps.toList))) m P W σ := by
  unfold inStr at h
  split at h
  · rename_i n e
    exact ⟨n, one_sign e, h⟩
  · exact h.elim
theorem od_in : OpD X W dIn (rInD X.K false) := by
  intro F m G H σ x y v w Q r rx ry h
  unfold dIn at h
  split at h
  · rename_i c z
    obtain ⟨n, rfl, h⟩ := inStr_of h
    cases rx
    cases ry
    exact .inl ⟨n, z, rfl, rfl, h.ret r _ (.bl _)⟩
  · obtain ⟨a, vs, l, rfl, h1, h2, h⟩ := asS_of r ry h
    obtain ⟨hf, h⟩ := h.ite
    rw [Bool.and_eq_true] at hf
    refine .inr ⟨a, vs, rfl, h1, flat_rep rx hf.1, flats_rep h2 hf.2, ?_⟩
    show Q (.bl (inV v vs)) H
    rw [inV_rep rx hf.1 h2 hf.2]
    exact h.ret r _ (.bl _)
theorem od_notin : OpD X W dNotIn (rInD X.K true) := by
  intro F m G H σ x y v w Q r rx ry h
  unfold dNotIn at h
  split at h
  · rename_i c z
    obtain ⟨n, rfl, h⟩ := inStr_of h
    cases rx
    cases ry
    exact .inl ⟨n, z, rfl, rfl, h.ret r _ (.bl _)⟩
  · obtain ⟨a, vs, l, rfl, h1, h2, h⟩ := asS_of r ry h
    obtain ⟨hf, h⟩ := h.ite
    rw [Bool.and_eq_true] at hf
    refine .inr ⟨a, vs, rfl, h1, flat_rep rx hf.1, flats_rep h2 hf.2, ?_⟩
    show Q (.bl (!inV v vs)) H
    rw [inV_rep rx hf.1 h2 hf.2]
    exact h.ret r _ (.bl _)
end
end DL

namespace DL
open PySem PySem.Spec PyProof.Rows L2

def ofO {α : Type} : Option α → C α
  | some a => C.ret a
  | none => C.stuck
@[simp] theorem ofO_some {α : Type} {a : α} : ofO (some a) = C.ret a := rfl
theorem LR.ofO {K : PySem.W.Frag} {α : Type} {F G : Hp} {m : Mem} {W : WX} {σ : L2.St} {o : Option α} {P : Hp → Hp → α → Prop} (h : LR K F G (ofO o) m P W σ) : ∃ a, o = some a ∧ LR K F G (C.ret a) m P W σ := by
  cases o with
  | none => exact h.elim
  | some a => exact ⟨a, rfl, h⟩
def dIx (x y : D) : C D := match y with
  | .int i => (match x with
    | .tup l => ofO (atI l i)
    | .str z => if z.length ≤ sizeLine then ofO ((atI z.cps.toList i).map fun c => D.str ⟨#[c]⟩) else C.stuck
    | x => (asL x).bind fun l => ofO (atI l i))
  | _ => C.stuck
def cutD (xs : List D) (lo hi : Option Int) : List D := (xs.drop (HT.sIx xs.length 0 lo)).take (HT.sIx xs.length xs.length hi - HT.sIx xs.length 0 lo)
def dSl (x : D) (lo hi : Option Int) : C D := match x with
  | .tup l => C.ret (.tup (cutD l lo hi))
  | .str z => if z.length ≤ sizeLine then C.ret (.str (cutS z lo hi)) else C.stuck
  | .scr l => C.ret (.lst (cutD (l.map D.int) lo hi))
  | x => (asL x).bind fun l => C.ret (.lst (cutD l lo hi))
abbrev DO := DSt → C (Option Int)
def oNone : DO := fun _ => C.ret none
def oSome (e : DE) : DO := fun δ => (e δ).bind fun d => match d with
  | .int i => C.ret (some i)
  | _ => C.stuck
def eSl (e : DE) (lo hi : DO) : DE := fun δ => (e δ).bind fun x => (lo δ).bind fun l => (hi δ).bind fun u => dSl x l u
section
variable {X : Cx} {W : WX} {K : PySem.W.Frag} {F G H : Hp} {m : Mem} {σ : L2.St}
theorem Reps.atI {vs : List V} {ds : List D} {i : Int} {d : D} (r : Reps K F vs ds) (h : L2.atI ds i = some d) : ∃ v, L2.atI vs i = some v ∧ Rep K F v d := by
  unfold L2.atI at h ⊢
  rw [r.length]
  cases e : ixN ds.length i with
  | none => rw [e] at h; cases h
  | some j =>
    rw [e] at h
    exact r.get h
theorem Reps.cut {vs : List V} {ds : List D} (r : Reps K F vs ds) (lo hi : Option Int) : Reps K F (cutV vs lo hi) (cutD ds lo hi) := by
  unfold cutV cutD
  rw [r.length]
  exact (r.drop _).take _
theorem strOk_sign {z : Str} {i : Int} {c : Nat} (h : PyData.strOk z = true) (hc : L2.atI z.cps.toList i = some c) : PyData.strOk ⟨#[c]⟩ = true := by
  obtain ⟨j, _, h2, _⟩ := atI_get hc
  unfold PyData.strOk at h ⊢
  have hm := List.mem_of_getElem? h2
  rw [Array.all_eq_true_iff_forall_mem] at h
  simp only [Array.all_eq_true_iff_forall_mem]
  intro x hx
  have e : x = c := by simpa using hx
  subst e
  exact h x (by simpa using hm)
theorem od_ix : OpD X W dIx (rIx X.K) := by
  intro F m G H σ x y v w Q r rx ry h
  unfold dIx at h
  split at h
  · rename_i i
    cases ry
    split at h
    · rename_i l
      obtain ⟨d, e, h⟩ := h.ofO
      cases rx with
      | tup h1 h2 =>
        obtain ⟨u, e2, ru⟩ := h2.atI e
        exact .inr (.inl ⟨_, _, i, u, rfl, rfl, r.ex.t h1, e2, h.ret r _ ru⟩)
    · rename_i z
      obtain ⟨hl, h⟩ := h.ite
      obtain ⟨d, e, h⟩ := h.ofO
      cases rx with
      | str _ hz =>
        obtain ⟨c, e2, e3⟩ := Option.map_eq_some_iff.mp e
        subst e3
        exact .inr (.inr ⟨z, i, c, rfl, rfl, hl, e2, h.ret r _ (.str _ (strOk_sign hz e2))⟩)
    · obtain ⟨a, vs, l, rfl, h1, h2, h⟩ := asL_of r rx h
      obtain ⟨d, e, h⟩ := h.ofO
      obtain ⟨u, e2, ru⟩ := h2.atI e
      exact .inl ⟨_, _, i, u, rfl, rfl, SqL.of h1, e2, h.ret r _ ru⟩
  · exact h.elim
theorem je_ix {a b : Expr} {ca cb : DE} {pos : Pos} (ha : JE X W a ca) (hb : JE X W b cb) (hs : PlainIx b := by exact fun _ _ => rfl) : JE X W (.Subscript a b pos) (eOp dIx ca cb) :=
  (pe_ix ix_seq ha hb hs).dimp fun σ H Q ⟨F, m, G, δ, rl, s, h⟩ => ⟨F, m, G, δ, rl, s, (LR.bind h).imp fun F1 H1 _ x e1 _ ⟨m1, r1, h1⟩ v rv => ⟨F1, m1, G, δ, r1, s.mono e1, (LR.bind h1).imp fun F2 H2 _ y e2 _ ⟨m2, r2, h2⟩ w rw =>
    od_ix F2 m2 G H2 σ x y v w Q r2 (rv.mono e2) rw h2⟩⟩
def tO (K : PySem.W.Frag) (W : WX) (e : DO) : TO := fun σ H Q => ∃ F m G δ, Rel K F m G H ∧ SRel K F σ δ ∧ LR K F G (e δ) m (fun _ H' o => Q o H') W σ
theorem _root_.L2.PO.dimp {e : Option Expr} {t t' : TO} (h : PO X e t) (k : ∀ σ H Q, t' σ H Q → t σ H Q) : PO X e t' := ⟨fun pins s σ H Q I q => h.run pins s σ H Q I (k σ H Q q)⟩
def JO (X : Cx) (W : WX) (e : Option Expr) (c : DO) : Prop := PO X e (tO X.K W c)
theorem jo_none : JO X W none oNone := po_none.dimp fun _ _ _ ⟨_, _, _, _, r, _, h⟩ => h.ret r
theorem jo_some {e : Expr} {ce : DE} (he : JE X W e ce) : JO X W (some e) (oSome ce) := (po_some he).dimp fun σ H Q ⟨F, m, G, δ, rl, s, h⟩ => ⟨F, m, G, δ, rl, s, (LR.bind h).imp fun F1 H1 _ x e1 _ ⟨m1, r1, h1⟩ v rv => by
  cases x with
  | int i =>
    cases rv
    exact ⟨i, rfl, h1.ret r1⟩
  | _ => exact h1.elim⟩
def rSlD (K : PySem.W.Frag) : V → Option Int → Option Int → Hp → VK → Prop := fun x lo hi H Q => rSlA K x lo hi H Q ∨ (∃ z, x = .str z ∧ z.length ≤ sizeLine ∧ Q (.str (cutS z lo hi)) H) ∨ rSlL K x lo hi H Q
theorem sr_sl : SlR X (rSlD X.K) := sl_tupA.or (sl_str.or sl_list)
theorem strOk_cut {z : Str} {lo hi : Option Int} (h : PyData.strOk z = true) : PyData.strOk (cutS z lo hi) = true := by
  unfold PyData.strOk at h ⊢
  rw [Array.all_eq_true_iff_forall_mem] at h ⊢
  intro x hx
  refine h x ?_
  unfold cutS at hx
  have h2 : x ∈ ((z.cps.toList.drop (HT.sIx z.length 0 lo)).take (HT.sIx z.length z.length hi - HT.sIx z.length 0 lo)) := by simpa using hx
  have h3 := List.mem_of_mem_drop (List.mem_of_mem_take h2)
  simpa using h3
theorem cut_whole {l : List D} {lo hi : Option Int} (h : HT.sIx l.length 0 lo = 0 ∧ HT.sIx l.length l.length hi = l.length) : cutD l lo hi = l := by
  unfold cutD
  rw [h.1, h.2]
  simp
theorem od_sl {F G H : Hp} {m : Mem} {σ : L2.St} {x : D} {v : V} {lo hi : Option Int} {Q : VK} (r : Rel X.K F m G H) (rx : Rep X.K F v x) (h : LR X.K F G (dSl x lo hi) m (fun F' H' d => ∀ v, Rep X.K F' v d → Q v H') W σ) : rSlD X.K v lo hi H Q := by
  unfold dSl at h
  split at h
  · rename_i l
    cases rx with
    | @tup a vs _ h1 h2 =>
      refine .inl ⟨a, vs, rfl, r.ex.t h1, fun hw => ?_, fun hw p hp => ?_⟩
      · rw [h2.length] at hw
        have q := h.ret r (.ref a)
        rw [cut_whole hw] at q
        exact q (.tup h1 h2)
      · have e := Ex.new (o := .tup (cutV vs lo hi)) (r.fresh hp).2
        exact h.retE e (r.newF hp _) _ (.tup (SqT.of upd_same) ((h2.cut lo hi).mono e))
  · rename_i z
    obtain ⟨hl, h⟩ := h.ite
    cases rx with
    | str _ hz => exact .inr (.inl ⟨z, rfl, hl, h.ret r _ (.str _ (strOk_cut hz))⟩)
  · rename_i l
    cases rx with
    | @scr a _ h1 =>
      refine .inr (.inr ⟨a, _, rfl, r.ex.l h1, fun p hp => ?_⟩)
      have e := Ex.new (o := .lst (cutV (l.map V.int) lo hi)) (r.fresh hp).2
      have hr : Reps X.K F (l.map V.int) (l.map D.int) := by
        clear h h1 e
        induction l with
        | nil => exact .nil
        | cons a l ih => exact .cons (.int a) ih
      exact h.retE e (r.newF hp _) _ (.lst upd_same ((hr.cut lo hi).mono e))
  · obtain ⟨a, vs, l, rfl, h1, h2, h⟩ := asL_of r rx h
    refine .inr (.inr ⟨a, vs, rfl, SqL.of h1, fun p hp => ?_⟩)
    have e := Ex.new (o := .lst (cutV vs lo hi)) (r.fresh hp).2
    exact h.retE e (r.newF hp _) _ (.lst upd_same ((h2.cut lo hi).mono e))
theorem je_sl {e : Expr} {lo hi : Option Expr} {ce : DE} {cl ch : DO} {p2 pos : Pos} (he : JE X W e ce) (hl : JO X W lo cl) (hh : JO X W hi ch) : JE X W (.Subscript e (.Slice lo hi none p2) pos) (eSl ce cl ch) :=
  (pe_slice sr_sl he hl hh).dimp fun σ H Q ⟨F, m, G, δ, rl, s, h⟩ => ⟨F, m, G, δ, rl, s, (LR.bind h).imp fun F1 H1 _ x e1 _ ⟨m1, r1, h1⟩ v rv => ⟨F1, m1, G, δ, r1, s.mono e1, (LR.bind h1).imp fun F2 H2 _ l e2 _ ⟨m2, r2, h2⟩ =>
    ⟨F2, m2, G, δ, r2, (s.mono e1).mono e2, (LR.bind h2).imp fun F3 H3 _ u e3 _ ⟨m3, r3, h3⟩ => od_sl r3 ((rv.mono e2).mono e3) h3⟩⟩⟩

def mkTup (l : List D) : C D := if l.length ≤ sizeLine then C.ret (.tup l) else C.stuck
/-- a list that is never changed -/
def mkLst (l : List D) : C D := if l.length ≤ sizeLine then C.ret (.lst l) else C.stuck
def C.new (o : MO) : C D := ⟨fun m Q _ => ∀ p, m p = none → Q (.ref p) (mset m p o), fun hQ _ h p hp => hQ _ _ (h p hp)⟩
/-- a list that may be changed -/
def mkRef (l : List D) : C D := if l.length ≤ sizeLine then C.new (.lst l) else C.stuck
@[simp] theorem C.run_new {o : MO} {m : Mem} {Q : D → Mem → Prop} {E : Xn → Mem → Prop} : (C.new o).run m Q E = ∀ p, m p = none → Q (.ref p) (mset m p o) := rfl
variable {es : List Expr} {ca : DA} {pos : Pos}
theorem je_tup {x1 : Nat} (h : JA X W es ca) : JE X W (.Tuple es x1 pos) (eApp mkTup ca) :=
  (pe_tup h).dimp fun σ H Q ⟨F, m, G, δ, rl, s, h⟩ => ⟨F, m, G, δ, rl, s, (LR.bind h).imp fun F1 H1 _ xs e1 _ ⟨m1, r1, h1⟩ vs rv => by
    obtain ⟨hl, h1⟩ := LR.ite h1
    refine ⟨by rw [rv.length]; exact hl, fun p hp => ?_⟩
    have e := Ex.new (o := .tup vs) (r1.fresh hp).2
    exact h1.retE e (r1.newF hp _) _ (.tup (SqT.of upd_same) (rv.mono e))⟩
theorem je_lstV (h : JA X W es ca) : JE X W (.List es pos) (eApp mkLst ca) :=
  (pe_lst h).dimp fun σ H Q ⟨F, m, G, δ, rl, s, h⟩ => ⟨F, m, G, δ, rl, s, (LR.bind h).imp fun F1 H1 _ xs e1 _ ⟨m1, r1, h1⟩ vs rv => by
    obtain ⟨hl, h1⟩ := LR.ite h1
    refine ⟨by rw [rv.length]; exact hl, fun p hp => ?_⟩
    have e := Ex.new (o := .lst vs) (r1.fresh hp).2
    exact h1.retE e (r1.newF hp _) _ (.lst upd_same (rv.mono e))⟩
theorem je_lstM (h : JA X W es ca) : JE X W (.List es pos) (eApp mkRef ca) :=
  (pe_lst h).dimp fun σ H Q ⟨F, m, G, δ, rl, s, h⟩ => ⟨F, m, G, δ, rl, s, (LR.bind h).imp fun F1 H1 _ xs e1 _ ⟨m1, r1, h1⟩ vs rv => by
    obtain ⟨hl, h1⟩ := LR.ite h1
    refine ⟨by rw [rv.length]; exact hl, fun p hp => ?_⟩
    exact h1 p (r1.fresh hp).1 F1 _ (Ex.refl F1) (r1.putL (r1.fresh hp).2 (r1.freshG hp) rv) _ (.ref p)⟩

def frz : D → C D
  | .ref a => ⟨fun m Q _ => match m a with
    | some (.lst l) => Q (.lst l) (mdel m a)
    | some (.ins c fs) => Q (.obj c fs) (mdel m a)
    | some (.dic l) => Q (.dic l) (mdel m a)
    | none => False, fun {m Q Q' E E'} hQ _ h => by
      cases e : m a with
      | none => simp only [e] at h
      | some o =>
        cases o with
        | lst l => simp only [e] at h ⊢; exact hQ _ _ h
        | ins c fs => simp only [e] at h ⊢; exact hQ _ _ h
        | dic l => simp only [e] at h ⊢; exact hQ _ _ h⟩
  | _ => C.stuck
theorem run_frz {a : Addr} {l : List D} {m : Mem} {Q : D → Mem → Prop} {E : Xn → Mem → Prop} (h : m a = some (.lst l)) : (frz (.ref a)).run m Q E = Q (.lst l) (mdel m a) := by
  show (match m a with | some (.lst l) => Q (.lst l) (mdel m a) | some (.ins c fs) => Q (.obj c fs) (mdel m a) | some (.dic l) => Q (.dic l) (mdel m a) | none => False) = _
  rw [h]
theorem run_frzI {a : Addr} {c : Str} {fs : List (Str × D)} {m : Mem} {Q : D → Mem → Prop} {E : Xn → Mem → Prop} (h : m a = some (.ins c fs)) : (frz (.ref a)).run m Q E = Q (.obj c fs) (mdel m a) := by
  show (match m a with | some (.lst l) => Q (.lst l) (mdel m a) | some (.ins c fs) => Q (.obj c fs) (mdel m a) | some (.dic l) => Q (.dic l) (mdel m a) | none => False) = _
  rw [h]
theorem frz_of {F G H : Hp} {m : Mem} {σ : L2.St} {d : D} {v : V} {Q : VK} (r : Rel K F m G H) (rv : Rep K F v d) (h : LR K F G (frz d) m (fun F' H' d => ∀ v, Rep K F' v d → Q v H') W σ) : Q v H := by
  cases d with
  | ref a =>
    cases rv
    unfold LR at h
    have h2 : (match m a with
      | some (.lst l) => (fun (a : D) (m' : Mem) => ∀ F' H', Ex F F' → Rel K F' m' G H' → ∀ v, Rep K F' v a → Q v H') (.lst l) (mdel m a)
      | some (.ins c fs) => (fun (a : D) (m' : Mem) => ∀ F' H', Ex F F' → Rel K F' m' G H' → ∀ v, Rep K F' v a → Q v H') (.obj c fs) (mdel m a)
      | some (.dic l) => (fun (a : D) (m' : Mem) => ∀ F' H', Ex F F' → Rel K F' m' G H' → ∀ v, Rep K F' v a → Q v H') (.dic l) (mdel m a)
      | none => False) := h
    cases e : m a with
    | none => rw [e] at h2; exact h2.elim
    | some o =>
      rw [e] at h2
      obtain ⟨h3, h4⟩ := r.mm a o e
      cases o with
      | lst l =>
        obtain ⟨vs, h5, h6⟩ := h3
        have ex := Ex.new (o := .lst vs) h4
        exact h2 _ _ ex (r.freeze h5 h4 (r.gm e)) _ (.lst upd_same (h6.mono ex))
      | ins c fs =>
        obtain ⟨dx, vs, h5, h6⟩ := h3
        have ex := Ex.new (o := .ins (He.ga K c) dx vs) h4
        exact h2 _ _ ex (r.freeze h5 h4 (r.gm e)) _ (.obj upd_same (h6.mono ex))
      | dic l =>
        obtain ⟨vs, h5, h6⟩ := h3
        have ex := Ex.new (o := .dK vs) h4
        exact h2 _ _ ex (r.freeze h5 h4 (r.gm e)) _ (.dic upd_same (h6.mono ex))
  | _ => exact h.elim
/-- e, frozen -/
theorem je_frz {e : Expr} {ce : DE} (he : JE X W e ce) : JE X W e (eUn frz ce) := by
  refine PE.dimp he fun σ H Q ⟨F, m, G, δ, rl, s, h⟩ => ⟨F, m, G, δ, rl, s, (LR.bind h).imp fun F1 H1 _ x e1 _ ⟨m1, r1, h1⟩ v rv => frz_of r1 rv h1⟩
end
end DL

namespace DL
open PySem PySem.Spec PyProof.Rows L2

abbrev DG := D → DSt → C DSt
def gN (i : Nat) : DG := fun d δ => C.ret (δ.set i (some d))
def gsNil : List D → DSt → C DSt := fun l δ => match l with
  | [] => C.ret δ
  | _ => C.stuck
def gsCons (g : DG) (r : List D → DSt → C DSt) : List D → DSt → C DSt := fun l δ => match l with
  | [] => C.stuck
  | d :: l => (g d δ).bind fun δ' => r l δ'
def gT (r : List D → DSt → C DSt) : DG := fun d δ => match d with
  | .tup l => r l δ
  | _ => C.stuck
def tGd (K : PySem.W.Frag) (W : WX) (g : DG) : TG := fun v σ H Q => ∃ F m G δ d, Rel K F m G H ∧ SRel K F σ δ ∧ Rep K F v d ∧ LR K F G (g d δ) m (fun F' H' δ' => ∀ σ', SRel K F' σ' δ' → Q σ' H') W σ
def tGs (K : PySem.W.Frag) (W : WX) (g : List D → DSt → C DSt) : TGs := fun vs σ H Q => ∃ F m G δ ds, Rel K F m G H ∧ SRel K F σ δ ∧ Reps K F vs ds ∧ LR K F G (g ds δ) m (fun F' H' δ' => ∀ σ', SRel K F' σ' δ' → Q σ' H') W σ
section
variable {X : Cx} {W : WX}
theorem _root_.L2.PG.dimp {e : Expr} {t t' : TG} (h : PG X e t) (k : ∀ v σ H Q, t' v σ H Q → t v σ H Q) : PG X e t' := ⟨fun pins s σ H v u Q I r q => h.run pins s σ H v u Q I r (k v σ H Q q)⟩
theorem _root_.L2.PGs.dimp {es : List Expr} {t t' : TGs} (h : PGs X es t) (k : ∀ v σ H Q, t' v σ H Q → t v σ H Q) : PGs X es t' := ⟨fun pins s σ H vs us Q I r q => h.run pins s σ H vs us Q I r (k vs σ H Q q)⟩
def JG (X : Cx) (W : WX) (e : Expr) (g : DG) : Prop := PG X e (tGd X.K W g)
def JGs (X : Cx) (W : WX) (es : List Expr) (g : List D → DSt → C DSt) : Prop := PGs X es (tGs X.K W g)
variable {e : Expr} {es : List Expr} {g : DG} {gr : List D → DSt → C DSt} {pos : Pos} {ce : DE}
theorem jg_name {i : Nat} {x : Str} (hN : X.N.Nodup) (hi : X.N[i]? = some x) (hx : Loc X.env.scope x) (hf : X.fn x = true ∨ X.env.scope.names.lookup x = some .local := by first | exact .inl rfl | exact .inr rfl | assumption) : JG X W (.Name x pos) (gN i) :=
  (pg_name hN hi hx hf).dimp fun v σ H Q ⟨F, m, G, δ, d, r, s, rv, h⟩ => h.ret r _ (s.set rv i)
theorem jgs_nil : JGs X W [] gsNil := pgs_nil.dimp fun vs σ H Q ⟨F, m, G, δ, ds, r, s, rv, h⟩ => by
  cases rv with
  | nil => exact ⟨rfl, h.ret r _ s⟩
  | cons _ _ => exact h.elim
theorem jgs_cons (h1 : JG X W e g) (h2 : JGs X W es gr) (hs : (assignEach (e :: es) X.env).map (·.2) = assign e X.env :: (assignEach es X.env).map (·.2) := by rfl)
    (hW : ∀ c d σ σ' H, W c d σ H → W c d σ' H) : JGs X W (e :: es) (gsCons g gr) := (pgs_cons h1 h2 hs).dimp fun vs σ H Q ⟨F, m, G, δ, ds, r, s, rv, h⟩ => by
  cases rv with
  | nil => exact h.elim
  | cons rd rt =>
    refine ⟨_, _, rfl, F, m, G, δ, _, r, s, rd, (LR.bind h).imp fun F1 H1 _ δ1 e1 _ ⟨m1, r1, h1⟩ σ1 s1 => ⟨F1, m1, G, δ1, _, r1, s1, rt.mono e1, ?_⟩⟩
    exact C.mono _ (fun _ _ q => q) (fun x m' q F' H' c d e r q2 => hW _ _ _ _ _ (q F' H' c d e r q2)) h1
theorem jg_tup {k : Nat} {n : Nat} (hc : X.calm = true) (h : JGs X W es gr) (hlen : ∀ (l : List D) (δ : DSt), l.length ≠ n → gr l δ = C.stuck)
    (hn : (assignEach es X.env).length = n := by rfl) (hst : (assignEach es X.env).findIdx? (·.1) = none := by rfl) : JG X W (.Tuple es k pos) (gT gr) :=
  (pg_tup hc h hn hst).dimp fun v σ H Q ⟨F, m, G, δ, d, r, s, rv, h⟩ => by
    cases d with
    | tup l =>
      cases rv with
      | tup h1 h2 =>
        by_cases hl : l.length = n
        · exact ⟨_, _, rfl, r.ex.t h1, by rw [h2.length]; exact hl, F, m, G, δ, l, r, s, h2, h⟩
        · have h3 : LR X.K F G (gr l δ) m _ W σ := h
          rw [hlen l δ hl] at h3
          exact h3.elim
    | _ => exact h.elim
/-- assignment to any target -/
def sAsgG (e : DE) (g : DG) : CS := ⟨fun δ m K => (e δ).run m (fun d m' => (g d δ).run m' (fun δ' m'' => K.nx δ' m'') (fun x m'' => K.ex x δ m'')) (fun x m' => K.ex x δ m'), fun l h => C.mono _ (fun _ _ q => C.mono _ (fun _ _ q => l.nx _ _ q) (fun _ _ q => l.ex _ _ _ q) q) (fun _ _ q => l.ex _ _ _ q) h⟩
@[simp] theorem run_asgG {e : DE} {g : DG} {δ : DSt} {m : Mem} {K : Kt} : (sAsgG e g).run δ m K = (e δ).run m (fun d m' => (g d δ).run m' (fun δ' m'' => K.nx δ' m'') (fun x m'' => K.ex x δ m'')) (fun x m' => K.ex x δ m') := rfl
theorem js_asgG {tg : Expr} (he : JE X W e ce) (hg : JG X W tg g) (hs : swapsWithSole [tg] e pos.line X.env = pure false := by rfl) (hw : swappedStores [tg] e X.env = pure none := by rfl)
    (h1 : (assignEach [tg] X.env).map (·.2) = [assign tg X.env] := by rfl) : JS X W (.Assign [tg] e pos) (sAsgG ce g) :=
  (ps_asg he hg hs hw h1).dimp fun E σ H ⟨F, m, G, δ, r, s, h⟩ => ⟨F, m, G, δ, r, s, C.mono _ (fun d m' q F' H' e' r' v rv => ⟨F', m', G, δ, d, r', s.mono e', rv, C.mono _ (fun δ' m'' q2 F2 H2 e2 r2 σ2 s2 => q2 F2 H2 σ2 (e'.trans e2) r2 s2) (fun x m'' q2 => liftX_of (E := E) (s.mono e') fun F2 H2 σ2 c d e2 => q2 F2 H2 σ2 c d (e'.trans e2)) q⟩) (fun x m' q => liftX_of s q) h⟩
end

abbrev DI := DSt → C (List D × Option Addr)
def stay (m : Mem) (l : List D) : Option Addr → Prop
  | none => True
  | some a => m a = some (.lst l)
def Kt.loop (K : Kt) (N : DSt → Mem → Prop) : Kt := ⟨N, K.rt, K.nx, N, K.ex⟩
@[simp] theorem Kt.loop_nx {K : Kt} {N : DSt → Mem → Prop} : (K.loop N).nx = N := rfl
@[simp] theorem Kt.loop_rt {K : Kt} {N : DSt → Mem → Prop} : (K.loop N).rt = K.rt := rfl
@[simp] theorem Kt.loop_bk {K : Kt} {N : DSt → Mem → Prop} : (K.loop N).bk = K.nx := rfl
@[simp] theorem Kt.loop_ct {K : Kt} {N : DSt → Mem → Prop} : (K.loop N).ct = N := rfl
@[simp] theorem Kt.loop_ex {K : Kt} {N : DSt → Mem → Prop} : (K.loop N).ex = K.ex := rfl
def forD (w : List D) (o : Option Addr) (g : DG) (b : CS) (K : Kt) : List D → DSt → Mem → Prop
  | [], δ, m => stay m w o ∧ K.nx δ m
  | x :: r, δ, m => stay m w o ∧ (g x δ).run m (fun δ' m' => b.run δ' m' (K.loop (forD w o g b K r))) (fun x m' => K.ex x δ m')
theorem forD.mono {w : List D} {o : Option Addr} {g : DG} {b : CS} {A B : Kt} (l : A.Le B) : ∀ {r : List D} {δ : DSt} {m : Mem}, forD w o g b A r δ m → forD w o g b B r δ m
  | [], _, _, h => ⟨h.1, l.nx _ _ h.2⟩
  | x :: r, δ, m, h => ⟨h.1, C.mono _ (fun δ' m' q => b.mono (A := A.loop (forD w o g b A r)) ⟨fun _ _ q2 => forD.mono l q2, l.rt, l.nx, fun _ _ q2 => forD.mono l q2, l.ex⟩ q) (fun _ _ q => l.ex _ _ _ q) h.2⟩
def sFor (it : DI) (g : DG) (b : CS) : CS := ⟨fun δ m K => (it δ).run m (fun lo m' => forD lo.1 lo.2 g b K lo.1 δ m') (fun x m' => K.ex x δ m'), fun l h => C.mono _ (fun _ _ q => forD.mono l q) (fun _ _ q => l.ex _ _ _ q) h⟩
@[simp] theorem run_for {it : DI} {g : DG} {b : CS} {δ : DSt} {m : Mem} {K : Kt} : (sFor it g b).run δ m K = (it δ).run m (fun lo m' => forD lo.1 lo.2 g b K lo.1 δ m') (fun x m' => K.ex x δ m') := rfl
/-- the iterator J gives the items l -/
structure ItOk (K : PySem.W.Frag) (F : Hp) (J : It) (l : List D) (o : Option Addr) : Prop where
  go : ∀ i F' m G H, i < l.length → Ex F F' → Rel K F' m G H → stay m l o → J.go i H
  yld : ∀ i F' m G H x H' d, Ex F F' → Rel K F' m G H → stay m l o → J.yld i H x H' → l[i]? = some d → ∃ F'', Ex F' F'' ∧ Rel K F'' m G H' ∧ Rep K F'' x d
  stop : ∀ F' m G H, Ex F F' → Rel K F' m G H → stay m l o → J.stop l.length H
def tI (K : PySem.W.Frag) (W : WX) (it : DI) : TI := fun σ H R => ∃ F m G δ, Rel K F m G H ∧ SRel K F σ δ ∧ LR K F G (it δ) m (fun F' H' lo => ∀ J, ItOk K F' J lo.1 lo.2 → R J H') W σ
def JI (X : Cx) (W : WX) (tg iter : Expr) (it : DI) : Prop := PI X tg iter (tI X.K W it)
section
variable {X : Cx} {W : WX}
theorem _root_.L2.PI.dimp {tg e : Expr} {t t' : TI} (h : PI X tg e t) (k : ∀ σ H R, t' σ H R → t σ H R) : PI X tg e t' := ⟨fun pins s σ H R I q => h.run pins s σ H R I (k σ H R q)⟩
theorem js_for {tg iter : Expr} {body : List Stmt} {it : DI} {g : DG} {b : CS} {pos : Pos} (hp : PassesOwn (model X.prog X.w) X.A X.env X.xe) (hc : X.calm = true) (hi : JI X W tg iter it) (hg : JG X W tg g) (hb : JB X W body b)
    (hs : ∀ v, foldedSetIterable iter X.env v = pure v := by intro _; rfl) : JS X W (.For tg iter body [] pos) (sFor it g b) := by
  refine PS.dimp (ps_for hp hc hi hg hb hs) fun E σ H ⟨F, m, G, δ, r, s, h⟩ => ⟨F, m, G, δ, r, s, ?_⟩
  refine C.mono _ (fun lo m' q F1 H1 e1 r1 J hJ => ?_) (fun x m' q => liftX_of s q) h
  obtain ⟨l, o⟩ := lo
  have dr : ∀ i (x : D), l[i]? = some x → l.drop i = x :: l.drop (i + 1) := fun i x e => by
    obtain ⟨hi, e⟩ := List.getElem?_eq_some_iff.mp e
    rw [List.drop_eq_getElem_cons hi, e]
  refine ⟨fun i n σ' H' => n = l.length - i ∧ i ≤ l.length ∧ ∃ F2 m2 δ2, Ex F1 F2 ∧ Rel X.K F2 m2 G H' ∧ SRel X.K F2 σ' δ2 ∧ forD l o g b (liftK X.K F G W E) (l.drop i) δ2 m2,
    ⟨l.length, by simp, Nat.zero_le _, F1, m', δ, Ex.refl F1, r1, s.mono e1, q⟩, ?_⟩
  rintro i n σ' H' ⟨rfl, hi, F2, m2, δ2, e2, r2, s2, q2⟩
  by_cases hlt : i < l.length
  · have ex : l[i]? = some l[i] := List.getElem?_eq_getElem hlt
    rw [dr i _ ex] at q2
    obtain ⟨st, q3⟩ := q2
    refine .inr ⟨hJ.go i F2 m2 G H' hlt e2 r2 st, fun σ3 H3 => ∃ F3 m3 δ3, Ex F1 F3 ∧ Rel X.K F3 m3 G H3 ∧ SRel X.K F3 σ3 δ3 ∧ forD l o g b (liftK X.K F G W E) (l.drop (i + 1)) δ3 m3,
      fun σ3 H3 q => ⟨l.length - (i + 1), by omega, rfl, hlt, q⟩, fun x H3 y => ?_⟩
    obtain ⟨F3, e3, r3, rx⟩ := hJ.yld i F2 m2 G H' x H3 _ e2 r2 st y ex
    refine ⟨F3, m2, G, δ2, _, r3, s2.mono e3, rx, C.mono _ (fun δ4 m4 q4 F4 H4 e4 r4 σ4 s4 => ⟨F4, m4, G, δ4, r4, s4, b.mono ?_ q4⟩) (fun x m4 q4 => liftX_of (E := E) (s2.mono e3) fun F5 H5 σ5 c d e5 => q4 F5 H5 σ5 c d (((e1.trans e2).trans e3).trans e5)) q3⟩
    have e04 : Ex F F4 := ((e1.trans e2).trans e3).trans e4
    exact ⟨fun δ5 m5 q5 F5 H5 σ5 e5 r5 s5 => ⟨F5, m5, δ5, ((e2.trans e3).trans e4).trans e5, r5, s5, q5⟩, fun d m5 q5 F5 H5 v e5 => q5 F5 H5 v (e04.trans e5), fun δ5 m5 q5 F5 H5 σ5 e5 => q5 F5 H5 σ5 (e04.trans e5),
      fun δ5 m5 q5 F5 H5 σ5 e5 r5 s5 => ⟨F5, m5, δ5, ((e2.trans e3).trans e4).trans e5, r5, s5, q5⟩, fun x δ5 m5 q5 F5 H5 σ5 c d e5 => q5 F5 H5 σ5 c d (e04.trans e5)⟩
  · have en : i = l.length := by omega
    subst en
    rw [List.drop_length] at q2
    obtain ⟨st, q3⟩ := q2
    exact .inl ⟨hJ.stop F2 m2 G H' e2 r2 st, q3 F2 H' σ' (e1.trans e2) r2 s2⟩
end
end DL

namespace DL
open PySem PySem.Spec PyProof.Rows L2

def seqI : D → C (List D × Option Addr)
  | .tup l => C.ret (l, none)
  | .lst l => C.ret (l, none)
  | .ref a => C.look a fun o => match o with
    | .lst l => C.ret (l, some a)
    | _ => C.stuck
  | _ => C.stuck
@[simp] theorem seqI_tup {l : List D} : seqI (.tup l) = C.ret (l, none) := rfl
@[simp] theorem seqI_lst {l : List D} : seqI (.lst l) = C.ret (l, none) := rfl
theorem run_seqI_ref {a : Addr} {l : List D} {m : Mem} {Q : List D × Option Addr → Mem → Prop} {E : Xn → Mem → Prop} (h : m a = some (.lst l)) : (seqI (.ref a)).run m Q E = Q (l, some a) m := by
  show (C.look a _).run m Q E = _
  rw [C.run_look h]
  rfl
def iSeq (e : DE) : DI := fun δ => (e δ).bind seqI
section
variable {X : Cx} {W : WX} {K : PySem.W.Frag} {F G H : Hp} {m : Mem} {σ : L2.St}
theorem pi_seq {tg l : Expr} {tl : TE} (hl : PE X l tl) : PI X tg l (fun σ H R => tl σ H fun x H1 => ∃ a, x = .ref a ∧ (((∃ xs, SqL X.K H1 a xs) ∧ R (Itl X.K a) H1) ∨ ((∃ xs, SqT X.K H1 a xs) ∧ R (Itt X.K a) H1))) := by
  refine ⟨fun pins s σ H R I h => thn (hl.run pins s σ H _ I h) fun v s1 ⟨x, H1, I1, r1, a, ex, q1⟩ => ?_⟩
  subst ex
  cases r1
  rcases q1 with ⟨⟨xs, hq⟩, q⟩ | ⟨⟨xs, hq⟩, q⟩
  · obtain ⟨its, rv, p, hz⟩ := I1.list hq
    exact wpAny_pyIter_list p.isList (pi_one (tk := s1.toks) I1 _ (turn_list a _) ⟨_, Heap.get?_push_size _ rfl, rfl, rfl⟩ q)
  · obtain ⟨its, rv, p, hz⟩ := I1.tuple hq
    exact wpAny_pyIter_tuple (show s1.heap.IsTuple a its.toArray from p) (pi_one (tk := s1.toks) I1 _ (turn_tuple a _) ⟨_, Heap.get?_push_size _ rfl, rfl, rfl⟩ q)
theorem itt_ok {F : Hp} {a : Addr} {vs : List V} {l : List D} (h : SqT K F a vs) (r : Reps K F vs l) : ItOk K F (Itt K a) l none where
  go := fun i F' m G H hi e rl _ => by
    obtain ⟨v, e1⟩ : ∃ v, vs[i]? = some v := ⟨vs[i]'(by rw [r.length]; exact hi), List.getElem?_eq_getElem _⟩
    exact ⟨vs, v, rl.ex.t (e.t h), e1⟩
  yld := fun i F' m G H x H' d e rl _ y hd => by
    obtain ⟨rfl, y⟩ := y
    obtain ⟨v, e1, rv⟩ := r.get hd
    have e2 := y vs (rl.ex.t (e.t h))
    rw [e1] at e2
    cases e2
    exact ⟨F', Ex.refl F', rl, rv.mono e⟩
  stop := fun F' m G H e rl _ => ⟨vs, rl.ex.t (e.t h), by rw [r.length]; exact Nat.le_refl _⟩
theorem itm_ok {F : Hp} {a : Addr} {l : List D} : ItOk K F (Itl K a) l (some a) where
  go := fun i F' m G H hi e rl st => by
    obtain ⟨⟨vs, h1, r⟩, _⟩ := rl.mm a _ st
    obtain ⟨v, e1⟩ : ∃ v, vs[i]? = some v := ⟨vs[i]'(by rw [r.length]; exact hi), List.getElem?_eq_getElem _⟩
    exact ⟨vs, v, SqL.of h1, e1⟩
  yld := fun i F' m G H x H' d e rl st y hd => by
    obtain ⟨⟨vs, h1, r⟩, _⟩ := rl.mm a _ st
    obtain ⟨rfl, y⟩ := y
    obtain ⟨v, e1, rv⟩ := r.get hd
    have e2 := y vs (SqL.of h1)
    rw [e1] at e2
    cases e2
    exact ⟨F', Ex.refl F', rl, rv⟩
  stop := fun F' m G H e rl st => by
    obtain ⟨⟨vs, h1, r⟩, _⟩ := rl.mm a _ st
    exact ⟨vs, SqL.of h1, by rw [r.length]; exact Nat.le_refl _⟩
theorem seqI_of {v : V} {d : D} {R : It → Hp → Prop} (r : Rel K F m G H) (rv : Rep K F v d) (h : LR K F G (seqI d) m (fun F' H' lo => ∀ J, ItOk K F' J lo.1 lo.2 → R J H') W σ) :
    ∃ a, v = .ref a ∧ (((∃ xs, SqL K H a xs) ∧ R (Itl K a) H) ∨ ((∃ xs, SqT K H a xs) ∧ R (Itt K a) H)) := by
  cases d with
  | tup l =>
    cases rv with
    | tup h1 h2 => exact ⟨_, rfl, .inr ⟨⟨_, r.ex.t h1⟩, h.ret r _ (itt_ok h1 h2)⟩⟩
  | lst l =>
    cases rv with
    | @lst a vs _ h1 h2 =>
      refine ⟨a, rfl, .inl ⟨⟨vs, SqL.of (r.ex _ _ h1)⟩, h.ret r _ ⟨fun i F' m G H hi e rl _ => ?_, fun i F' m G H x H' d e rl _ y hd => ?_, fun F' m G H e rl _ => ?_⟩⟩⟩
      · obtain ⟨v, e1⟩ : ∃ v, vs[i]? = some v := ⟨vs[i]'(by rw [h2.length]; exact hi), List.getElem?_eq_getElem _⟩
        exact ⟨vs, v, SqL.of (rl.ex _ _ (e _ _ h1)), e1⟩
      · obtain ⟨rfl, y⟩ := y
        obtain ⟨v, e1, rv⟩ := h2.get hd
        have e2 := y vs (SqL.of (rl.ex _ _ (e _ _ h1)))
        rw [e1] at e2
        cases e2
        exact ⟨F', Ex.refl F', rl, rv.mono e⟩
      · exact ⟨vs, SqL.of (rl.ex _ _ (e _ _ h1)), by rw [h2.length]; exact Nat.le_refl _⟩
  | ref a =>
    cases rv
    obtain ⟨o, e, h2⟩ := LR.look (k := fun o => match o with | .lst l => C.ret (l, some a) | _ => C.stuck) h
    cases o with
    | lst l =>
      obtain ⟨⟨vs, h3, h4⟩, _⟩ := r.mm _ _ e
      exact ⟨a, rfl, .inl ⟨⟨vs, SqL.of h3⟩, h2.ret r _ itm_ok⟩⟩
    | _ => exact h2.elim
  | _ => exact h.elim
theorem ji_seq {tg e : Expr} {ce : DE} (he : JE X W e ce) : JI X W tg e (iSeq ce) :=
  (pi_seq he).dimp fun σ H R ⟨F, m, G, δ, r, s, h⟩ => ⟨F, m, G, δ, r, s, (LR.bind h).imp fun F1 H1 _ d e1 _ ⟨m1, r1, h1⟩ v rv => seqI_of r1 rv h1⟩
def rng (lo hi : Int) : List D := (List.range (hi - lo).toNat).map fun (i : Nat) => D.int (lo + i)
theorem rng_length {lo hi : Int} : (rng lo hi).length = (hi - lo).toNat := by unfold rng; rw [List.length_map, List.length_range]
theorem rng_get {lo hi : Int} {i : Nat} {d : D} (h : (rng lo hi)[i]? = some d) : d = .int (lo + i) ∧ i < (hi - lo).toNat := by
  unfold rng at h
  rw [List.getElem?_map] at h
  obtain ⟨j, e1, e2⟩ := Option.map_eq_some_iff.mp h
  obtain ⟨h1, h2⟩ := List.getElem?_eq_some_iff.mp e1
  rw [List.getElem_range] at h2
  rw [List.length_range] at h1
  subst h2
  exact ⟨e2.symm, h1⟩
theorem itr_ok {F : Hp} {lo hi : Int} : ItOk K F (Itr lo (hi - lo).toNat) (rng lo hi) none where
  go := fun i F' m G H hi e rl _ => by rw [rng_length] at hi; exact hi
  yld := fun i F' m G H x H' d e rl _ y hd => by
    obtain ⟨rfl, rfl⟩ := y
    obtain ⟨rfl, _⟩ := rng_get hd
    exact ⟨F', Ex.refl F', rl, .int _⟩
  stop := fun F' m G H e rl _ => by rw [rng_length]; exact Nat.le_refl _
def small62 (i : Int) : Bool := decide (-(2 ^ 62) ≤ i) && decide (i < 2 ^ 62)
theorem small62_iff {i : Int} : small62 i = true ↔ -(2 ^ 62) ≤ i ∧ i < 2 ^ 62 := by unfold small62; rw [Bool.and_eq_true, decide_eq_true_eq, decide_eq_true_eq]
def rangeI1 : List D → C (List D × Option Addr)
  | [.int j] => if small62 j = true then C.ret (rng 0 j, none) else C.stuck
  | _ => C.stuck
def rangeI2 : List D → C (List D × Option Addr)
  | [.int i, .int j] => if (small62 i && small62 j) = true then C.ret (rng i j, none) else C.stuck
  | _ => C.stuck
def iApp (f : List D → C (List D × Option Addr)) (a : DA) : DI := fun δ => (a δ).bind f
theorem ji_range1 {tg a : Expr} {ca : DA} {p pos : Pos} (hg : Gl X "range") (hm : X.mg "range" = none) (ha : JA X W [a] ca) (hs : starEach [a] X.env = [(false, eval a X.env)] := by rfl) : JI X W tg (.Call (.Name "range" p) [a] [] pos) (iApp rangeI1 ca) :=
  (pi_range1 hg hm ha hs).dimp fun σ H R ⟨F, m, G, δ, r, s, h⟩ => ⟨F, m, G, δ, r, s, (LR.bind h).imp fun F1 H1 _ ds e1 _ ⟨m1, r1, h1⟩ vs rvs => by
    unfold rangeI1 at h1
    split at h1
    · obtain ⟨hj, h1⟩ := h1.ite
      rw [small62_iff] at hj
      cases rvs with
      | cons rv t =>
        cases rv with
        | int _ =>
          cases t
          have q := h1.ret r1 _ itr_ok
          rw [Int.sub_zero] at q
          exact ⟨_, rfl, hj.1, hj.2, q⟩
    · exact h1.elim⟩
theorem ji_range2 {tg a b : Expr} {ca : DA} {p pos : Pos} (hg : Gl X "range") (hm : X.mg "range" = none) (ha : JA X W [a, b] ca) (hs : starEach [a, b] X.env = [(false, eval a X.env), (false, eval b X.env)] := by rfl) (hs2 : starEach [b] X.env = [(false, eval b X.env)] := by rfl) :
    JI X W tg (.Call (.Name "range" p) [a, b] [] pos) (iApp rangeI2 ca) :=
  (pi_range2 hg hm ha hs hs2).dimp fun σ H R ⟨F, m, G, δ, r, s, h⟩ => ⟨F, m, G, δ, r, s, (LR.bind h).imp fun F1 H1 _ ds e1 _ ⟨m1, r1, h1⟩ vs rvs => by
    unfold rangeI2 at h1
    split at h1
    · obtain ⟨hj, h1⟩ := h1.ite
      rw [Bool.and_eq_true, small62_iff, small62_iff] at hj
      cases rvs with
      | cons rv t =>
        cases rv with
        | int i =>
          cases t with
          | cons rw t =>
            cases rw with
            | int j =>
              cases t
              exact ⟨_, _, rfl, ⟨hj.1.1, hj.1.2, hj.2.1, hj.2.2⟩, h1.ret r1 _ itr_ok⟩
    · exact h1.elim⟩
def enumD (l : List D) : List D := (List.range l.length).zipWith (fun (i : Nat) d => D.tup [.int i, d]) l
theorem enumD_get {l : List D} {i : Nat} {d : D} (h : (enumD l)[i]? = some d) : ∃ x, l[i]? = some x ∧ d = .tup [.int i, x] := by
  unfold enumD at h
  rw [List.getElem?_zipWith] at h
  cases e : l[i]? with
  | none => rw [e] at h; cases q : (List.range l.length)[i]? <;> rw [q] at h <;> cases h
  | some x =>
    obtain ⟨hl, _⟩ := List.getElem?_eq_some_iff.mp e
    have e2 : (List.range l.length)[i]? = some i := by rw [List.getElem?_range hl]
    rw [e, e2] at h
    cases h
    exact ⟨x, rfl, rfl⟩
theorem enumD_length {l : List D} : (enumD l).length = l.length := by unfold enumD; rw [List.length_zipWith, List.length_range, Nat.min_self]
def enumI : List D → C (List D × Option Addr)
  | [.lst l] => C.ret (enumD l, none)
  | _ => C.stuck
theorem ite_ok {F : Hp} {a : Addr} {vs : List V} {l : List D} (h : F a = some (.lst vs)) (r : Reps K F vs l) : ItOk K F (Ite K a) (enumD l) none where
  go := fun i F' m G H hi e rl _ => by
    rw [enumD_length] at hi
    obtain ⟨v, e1⟩ : ∃ v, vs[i]? = some v := ⟨vs[i]'(by rw [r.length]; exact hi), List.getElem?_eq_getElem _⟩
    exact ⟨vs, v, SqL.of (rl.ex _ _ (e _ _ h)), e1⟩
  yld := fun i F' m G H x H' d e rl _ y hd => by
    obtain ⟨T, z, rfl, hn, rfl, y⟩ := y
    obtain ⟨w, e1, rfl⟩ := enumD_get hd
    obtain ⟨v, e1, rv⟩ := r.get e1
    have e2 := y vs (SqL.of (rl.ex _ _ (e _ _ h)))
    rw [e1] at e2
    obtain rfl := Option.some.inj e2
    have ex := Ex.new (o := .tup [.int (i : Nat), v]) (rl.fresh hn).2
    exact ⟨_, ex, rl.newF hn _, .tup (SqT.of upd_same) (.cons (.int _) (.cons ((rv.mono e).mono ex) .nil))⟩
  stop := fun F' m G H e rl _ => ⟨vs, SqL.of (rl.ex _ _ (e _ _ h)), by rw [r.length, enumD_length]; exact Nat.le_refl _⟩
theorem ji_enum {a : Expr} {ca : DA} {p pos tpos : Pos} {elts : List Expr} {kk : Nat} (hg : Gl X "enumerate") (hm : X.mg "enumerate" = none) (ha : JA X W [a] ca) (hs : starEach [a] X.env = [(false, eval a X.env)] := by rfl) :
    JI X W (.Tuple elts kk tpos) (.Call (.Name "enumerate" p) [a] [] pos) (iApp enumI ca) :=
  (pi_enum hg hm ha hs).dimp fun σ H R ⟨F, m, G, δ, r, s, h⟩ => ⟨F, m, G, δ, r, s, (LR.bind h).imp fun F1 H1 _ ds e1 _ ⟨m1, r1, h1⟩ vs rvs => by
    unfold enumI at h1
    split at h1
    · cases rvs with
      | cons rv t =>
        cases rv with
        | lst h2 h3 =>
          cases t
          exact ⟨_, _, rfl, SqL.of (r1.ex _ _ h2), h1.ret r1 _ (ite_ok h2 h3)⟩
    · exact h1.elim⟩
def signs (x : Str) : List D := x.cps.toList.map fun c => D.str ⟨#[c]⟩
def strI : D → C (List D × Option Addr)
  | .str x => C.ret (signs x, none)
  | _ => C.stuck
def iStrD (e : DE) : DI := fun δ => (e δ).bind strI
theorem strOk_mem {z : Str} {c : Nat} (h : PyData.strOk z = true) (hc : c ∈ z.cps.toList) : PyData.strOk ⟨#[c]⟩ = true := by
  unfold PyData.strOk at h ⊢
  rw [Array.all_eq_true_iff_forall_mem] at h
  simp only [Array.all_eq_true_iff_forall_mem]
  intro x hx
  have e : x = c := by simpa using hx
  subst e
  exact h x (by simpa using hc)
theorem its_ok {F : Hp} {x : Str} (h : PyData.strOk x = true) : ItOk K F (Its x) (signs x) none where
  go := fun i F' m G H hi e rl _ => by
    unfold signs at hi
    rw [List.length_map, Array.length_toList] at hi
    exact hi
  yld := fun i F' m G H y H' d e rl _ yl hd => by
    obtain ⟨rfl, c, e1, rfl⟩ := yl
    unfold signs at hd
    rw [List.getElem?_map, Array.getElem?_toList, e1] at hd
    cases hd
    exact ⟨F', Ex.refl F', rl, .str _ (strOk_mem h (List.mem_of_getElem? (by rw [Array.getElem?_toList]; exact e1)))⟩
  stop := fun F' m G H e rl _ => by
    show x.cps.size ≤ (signs x).length
    unfold signs
    rw [List.length_map, Array.length_toList]
    exact Nat.le_refl _
theorem ji_str {tg e : Expr} {ce : DE} (he : JE X W e ce) : JI X W tg e (iStrD ce) :=
  (pi_str he).dimp fun σ H R ⟨F, m, G, δ, r, s, h⟩ => ⟨F, m, G, δ, r, s, (LR.bind h).imp fun F1 H1 _ d e1 _ ⟨m1, r1, h1⟩ v rv => by
    unfold strI at h1
    split at h1
    · cases rv with
      | str _ hx => exact ⟨_, rfl, h1.ret r1 _ (its_ok hx)⟩
    · exact h1.elim⟩
end
end DL

namespace DL
open PySem PySem.Spec PyProof.Rows L2

def C.noX {α : Type} (c : C α) : C α := ⟨fun m Q _ => c.run m Q fun _ _ => False, fun hQ _ h => c.mono hQ (fun _ _ q => q) h⟩
def C.guard {α : Type} (p : Mem → Prop) (c : C α) : C α := ⟨fun m Q E => p m ∧ c.run m Q E, fun hQ hE h => ⟨h.1, c.mono hQ hE h.2⟩⟩
@[simp] theorem C.run_noX {α : Type} {c : C α} {m : Mem} {Q : α → Mem → Prop} {E : Xn → Mem → Prop} : c.noX.run m Q E = c.run m Q fun _ _ => False := rfl
@[simp] theorem C.run_guard {α : Type} {p : Mem → Prop} {c : C α} {m : Mem} {Q : α → Mem → Prop} {E : Xn → Mem → Prop} : (C.guard p c).run m Q E = (p m ∧ c.run m Q E) := rfl
def wipeD (δ : DSt) : List Nat → DSt
  | [] => δ
  | v :: vs => (wipeD δ vs).set v none
def lcD (w : List D) (o : Option Addr) (g : DG) (t : DT) (e : DE) (δ : DSt) : List D → List D → C (List D)
  | [], acc => C.guard (fun m => stay m w o) (C.ret acc)
  | x :: r, acc => C.guard (fun m => stay m w o) ((g x δ).bind fun δ' => (t δ').bind fun b => if b = true then (e δ').bind fun y => lcD w o g t e δ r (acc ++ [y]) else lcD w o g t e δ r acc)
def eLcK (k : List D → C D) (it : DI) (g : DG) (t : DT) (e : DE) (vs : List Nat) : DE := fun δ => (it δ).bind fun lo => if lo.1.length ≤ sizeLine then (lcD lo.1 lo.2 g t e (wipeD δ vs) lo.1 []).noX.bind k else C.stuck
/-- the list is never changed | may be changed -/
def eLc : DI → DG → DT → DE → List Nat → DE := eLcK fun l => C.ret (.lst l)
def eLcM : DI → DG → DT → DE → List Nat → DE := eLcK fun l => C.new (.lst l)
def tTrue : DT := fun _ => C.ret true
def WF : WX := fun _ _ _ _ => False
section
variable {X : Cx} {W : WX} {K : PySem.W.Frag}
theorem SRel.wipe {F : Hp} {σ : L2.St} {δ : DSt} (s : SRel K F σ δ) : ∀ vs : List Nat, SRel K F (wipe σ vs) (wipeD δ vs)
  | [] => s
  | v :: vs => (SRel.wipe s vs).blank v none
theorem wipe_out {σ : L2.St} {i : Nat} {x : Option V} : ∀ {vs : List Nat}, i ∉ vs → wipe (σ.set i x) vs = (wipe σ vs).set i x
  | [], _ => rfl
  | v :: vs, h => by
    simp only [List.mem_cons, not_or] at h
    show (wipe (σ.set i x) vs).set v none = ((wipe σ vs).set v none).set i x
    rw [wipe_out h.2, List.set_comm _ _ h.1]
theorem wipe_in {σ : L2.St} {i : Nat} {x : Option V} : ∀ {vs : List Nat}, i ∈ vs → wipe (σ.set i x) vs = wipe σ vs
  | v :: vs, h => by
    show (wipe (σ.set i x) vs).set v none = (wipe σ vs).set v none
    by_cases hi : i ∈ vs
    · rw [wipe_in hi]
    · have e : i = v := by
        rcases List.mem_cons.mp h with z | z
        · exact z
        · exact absurd z hi
      subst e
      rw [wipe_out hi, List.set_set]
theorem wipe_wipe {σ : L2.St} : ∀ {vs : List Nat} (us : List Nat), (∀ i ∈ us, i ∈ vs) → wipe (wipe σ us) vs = wipe σ vs
  | vs, [], _ => rfl
  | vs, u :: us, h => by
    show wipe ((wipe σ us).set u none) vs = wipe σ vs
    rw [wipe_in (h u List.mem_cons_self), wipe_wipe us fun i hi => h i (List.mem_cons_of_mem _ hi)]
/-- a target that stores into the slots vs alone -/
def GLc (K : PySem.W.Frag) (g : DG) (gv : TG) (vs : List Nat) : Prop := ∀ (F G : Hp) (m : Mem) (H : Hp) (σ : L2.St) (δ : DSt) (v : V) (d : D) (R : DSt → Mem → Prop) (Q : L2.St → Hp → Prop), Rel K F m G H → SRel K F σ δ → Rep K F v d →
  (g d δ).run m R (fun _ _ => False) → (∀ σ2 δ2, SRel K F σ2 δ2 → wipe σ2 vs = wipe σ vs → R δ2 m → Q σ2 H) → gv v σ H Q
theorem glc_name {i : Nat} {vs : List Nat} (hi : i ∈ vs) : GLc K (gN i) (gName i) vs := fun F G m H σ δ v d R Q r s rv h k => k _ _ (s.set rv i) (wipe_in hi) h
def JTs (X : Cx) (W : WX) (ifs : List Expr) (t : DT) : Prop := PTs X ifs (tT X.K W t)
theorem _root_.L2.PTs.dimp {ifs : List Expr} {t t' : TT} (h : PTs X ifs t) (k : ∀ σ H Q, t' σ H Q → t σ H Q) : PTs X ifs t' := ⟨fun pins s σ H Q I q => h.run pins s σ H Q I (k σ H Q q)⟩
theorem jts_nil : JTs X W [] tTrue := pts_nil.dimp fun σ H Q ⟨F, m, G, δ, r, s, h⟩ => h.ret r
theorem jts_one {c : Expr} {t : DT} (h : JT X W c t) : JTs X W [c] t := pts_one h
theorem lc_sound {it : DI} {g : DG} {gv : TG} {t : DT} {e : DE} {vs : List Nat} {k : List D → C D} (hg : GLc K g gv vs)
    (hk : ∀ (F G : Hp) (m : Mem) (H : Hp) (σ : L2.St) (Dd : Addr) (va : List V) (acc : List D) (Q : VK), Rel K F m G H → H Dd = some (.lst va) → F Dd = none → m Dd = none → G Dd = none → Reps K F va acc → LR K F G (k acc) m (fun F' H' d => ∀ v, Rep K F' v d → Q v H') W σ → Q (.ref Dd) H)
    {σ : L2.St} {H : Hp} {Q : VK} (h : tE K W (eLcK k it g t e vs) σ H Q) : tLc (tI K W it) gv (tT K WF t) (tE K WF e) vs σ H Q := by
  obtain ⟨F, m, G, δ, r, s, h⟩ := h
  refine ⟨F, m, G, δ, r, s, (LR.bind h).imp fun F1 H1 _ lo e1 _ ⟨m1, r1, h1⟩ J hJ Dd hD => ?_⟩
  obtain ⟨l, o⟩ := lo
  obtain ⟨hz, h1⟩ := LR.ite h1
  simp only at hz
  have hG : G Dd = none := r1.freshG hD
  let fin : List D → Mem → Prop := fun a m' => (k a).run m' (fun d m'' => ∀ F' H', Ex F1 F' → Rel K F' m'' G H' → ∀ v, Rep K F' v d → Q v H') (liftX K F1 G W σ)
  have h2 : (lcD l o g t e (wipeD δ vs) l []).run m1 fin fun _ _ => False := h1
  have dr : ∀ i (x : D), l[i]? = some x → l.drop i = x :: l.drop (i + 1) := fun i x e => by
    obtain ⟨hi, e⟩ := List.getElem?_eq_some_iff.mp e
    rw [List.drop_eq_getElem_cons hi, e]
  refine ⟨fun i n H' => n = l.length - i ∧ i ≤ l.length ∧ ∃ F2 m2 acc va, Ex F1 F2 ∧ Rel K F2 m2 G H' ∧ H' Dd = some (.lst va) ∧ F2 Dd = none ∧ m2 Dd = none ∧ Reps K F2 va acc ∧ acc.length ≤ i ∧ (lcD l o g t e (wipeD δ vs) (l.drop i) acc).run m2 fin fun _ _ => False,
    ⟨l.length, by simp, Nat.zero_le _, F1, m1, [], [], Ex.refl F1, r1.newH hD _, upd_same, (r1.fresh hD).2, (r1.fresh hD).1, .nil, Nat.le_refl _, h2⟩, ?_⟩
  rintro i n H' ⟨rfl, hi, F2, m2, acc, va, e2, r2, hd2, f2, n2, ra, la, q2⟩
  by_cases hlt : i < l.length
  · have ex : l[i]? = some l[i] := List.getElem?_eq_getElem hlt
    rw [dr i _ ex] at q2
    obtain ⟨st, q3⟩ := q2
    refine .inr ⟨hJ.go i F2 m2 G H' hlt e2 r2 st, fun H3 => ∃ F3 m3 acc va, Ex F1 F3 ∧ Rel K F3 m3 G H3 ∧ H3 Dd = some (.lst va) ∧ F3 Dd = none ∧ m3 Dd = none ∧ Reps K F3 va acc ∧ acc.length ≤ i + 1 ∧ (lcD l o g t e (wipeD δ vs) (l.drop (i + 1)) acc).run m3 fin fun _ _ => False,
      fun H3 q => ⟨l.length - (i + 1), by omega, rfl, hlt, q⟩, fun x H3 y => ?_⟩
    have r2' : Rel K F2 m2 (upd G Dd (.lst va)) H' := r2.aside f2 n2 hd2
    obtain ⟨F3, e3, r3, rx⟩ := hJ.yld i F2 m2 (upd G Dd (.lst va)) H' x H3 _ e2 r2' st y ex
    refine hg F3 _ m2 H3 _ (wipeD δ vs) x _ _ _ r3 (((s.mono e1).mono (e2.trans e3)).wipe vs) rx q3 fun σ4 δ4 s4 w4 q4 => ⟨w4.trans (wipe_wipe vs fun _ z => z), ?_⟩
    refine ⟨F3, m2, _, δ4, r3, s4, C.mono _ (fun b m5 q5 F5 H5 e5 r5 => ?_) (fun _ _ z => z.elim) q4⟩
    have out : ∀ {F7 : Hp} {m7 : Mem} {H7 : Hp}, Rel K F7 m7 (upd G Dd (.lst va)) H7 → H7 Dd = some (.lst va) ∧ F7 Dd = none ∧ m7 Dd = none := fun r7 => r7.gg Dd _ upd_same
    cases b with
    | true =>
      show tE K WF e σ4 H5 _
      refine ⟨F5, m5, _, δ4, r5, s4.mono e5, C.mono _ (fun y m6 q6 F6 H6 e6 r6 w rw => ?_) (fun _ _ z => z.elim) q5⟩
      obtain ⟨g1, g2, g3⟩ := out r6
      have e26 : Ex F2 F6 := (e3.trans e5).trans e6
      refine ⟨va, g1, by rw [ra.length]; omega, F6, m6, acc ++ [y], va ++ [w], e2.trans e26, (r6.less hG).side g2 g3 hG _, upd_same, g2, g3, (ra.mono e26).append (.cons rw .nil), by rw [List.length_append]; exact Nat.succ_le_succ la, q6⟩
    | false =>
      obtain ⟨g1, g2, g3⟩ := out r5
      have e25 : Ex F2 F5 := e3.trans e5
      exact ⟨F5, m5, acc, va, e2.trans e25, r5.less hG, g1, g2, g3, ra.mono e25, Nat.le_succ_of_le la, q5⟩
  · have en : i = l.length := by omega
    subst en
    rw [List.drop_length] at q2
    obtain ⟨st, q3⟩ := q2
    refine .inl ⟨hJ.stop F2 m2 G H' e2 r2 st, hk F2 G m2 H' σ Dd va acc Q r2 hd2 f2 n2 hG ra ?_⟩
    exact C.mono _ (fun d m' z F' H' e' r' => z F' H' (e2.trans e') r') (fun _ _ z => liftX.mono e2 z) q3
theorem lc_keep (F G : Hp) (m : Mem) (H : Hp) (σ : L2.St) (Dd : Addr) (va : List V) (acc : List D) (Q : VK) (r : Rel K F m G H) (h : H Dd = some (.lst va)) (hF : F Dd = none) (hm : m Dd = none) (hG : G Dd = none) (ra : Reps K F va acc)
    (q : LR K F G (C.ret (D.lst acc)) m (fun F' H' d => ∀ v, Rep K F' v d → Q v H') W σ) : Q (.ref Dd) H := by
  have e := Ex.new (o := .lst va) hF
  have r2 := r.freeze h hF hG
  rw [mdel_new hm] at r2
  exact q.retE e r2 _ (.lst upd_same (ra.mono e))
theorem upd_self {H : Hp} {a : Addr} {o : HO} (h : H a = some o) : upd H a o = H := by
  funext b
  unfold upd
  split
  · rename_i e; rw [e, h]
  · rfl
theorem lc_keepM (F G : Hp) (m : Mem) (H : Hp) (σ : L2.St) (Dd : Addr) (va : List V) (acc : List D) (Q : VK) (r : Rel K F m G H) (h : H Dd = some (.lst va)) (hF : F Dd = none) (hm : m Dd = none) (hG : G Dd = none) (ra : Reps K F va acc)
    (q : LR K F G (C.new (.lst acc)) m (fun F' H' d => ∀ v, Rep K F' v d → Q v H') W σ) : Q (.ref Dd) H := by
  have r2 := r.putL hF hG ra
  rw [upd_self h] at r2
  exact q Dd hm F H (Ex.refl F) r2 _ (.ref Dd)
variable {elt tg iter : Expr} {ifs : List Expr} {scope : Scope} {own : List (Str × Nat)} {pos : Pos} {it : DI} {g : DG} {gv : TG} {t : DT} {e : DE}
theorem je_lc (hc : X.calm = true) (hN : X.N.Nodup) (hi : JI X W tg iter it) (ok : BlkOk X.N X.env.scope scope own) (hG : GLc X.K g gv (own.map (·.2)))
    (hg : ∀ (s : Shared) (H : Hp) (C : Addr) (cl : List (Str × Addr)) (fp : List Addr), PG (X.blk s H scope (compEnvC scope cl C X.env) fp) tg gv) (ht : ∀ (s : Shared) (H : Hp) (C : Addr) (cl : List (Str × Addr)) (fp : List Addr), JTs (X.blk s H scope (compEnvC scope cl C X.env) fp) WF ifs t)
    (he : ∀ (s : Shared) (H : Hp) (C : Addr) (cl : List (Str × Addr)) (fp : List Addr), JE (X.blk s H scope (compEnvC scope cl C X.env) fp) WF elt e) (hs : ∀ x, foldedSetIterable iter X.env x = pure x := by intro _; rfl) :
    JE X W (.ListComp elt [⟨tg, iter, ifs, 0⟩] scope pos) (eLc it g t e (own.map (·.2))) := (pe_lc (tt := tT X.K WF t) (te := tE X.K WF e) hc hN hi ok hg ht he hs).dimp fun _ _ _ h => lc_sound hG lc_keep h
theorem js_setLc {i : Nat} {y : Str} {py spos : Pos} (hc : X.calm = true) (hN : X.N.Nodup) (hy : X.N[i]? = some y) (hyl : X.env.scope.names.lookup y = some .local) (hsw : swapsWith (.ListComp elt [⟨tg, iter, ifs, 0⟩] scope pos) (some (.Name y py)) spos.line X.env = pure true)
    (hi : JI X W tg iter it) (ok : BlkOk X.N X.env.scope scope own) (hG : GLc X.K g gv (own.map (·.2)))
    (hg : ∀ (s : Shared) (H : Hp) (C : Addr) (cl : List (Str × Addr)) (fp : List Addr), PG (X.blk s H scope (compEnvC scope cl C X.env) fp) tg gv) (ht : ∀ (s : Shared) (H : Hp) (C : Addr) (cl : List (Str × Addr)) (fp : List Addr), JTs (X.blk s H scope (compEnvC scope cl C X.env) fp) WF ifs t)
    (he : ∀ (s : Shared) (H : Hp) (C : Addr) (cl : List (Str × Addr)) (fp : List Addr), JE (X.blk s H scope (compEnvC scope cl C X.env) fp) WF elt e) (hs : ∀ x, foldedSetIterable iter X.env x = pure x := by intro _; rfl) :
    JS X W (.Assign [.Name y py] (.ListComp elt [⟨tg, iter, ifs, 0⟩] scope pos) spos) (sAsg i (eLc it g t e (own.map (·.2)))) := (ps_setLc (tt := tT X.K WF t) (te := tE X.K WF e) hc hN hy hyl hsw hi ok hg ht he hs).dimp fun E σ H ⟨F, m, G, δ, r, s, h⟩ =>
  lc_sound hG lc_keep ⟨F, m, G, δ, r, s, C.mono _ (fun d m' q F' H' e' r' v rv => q F' H' _ e' r' ((s.mono e').set rv i)) (fun x m' q => liftX_of s q) h⟩
theorem js_setLcM {i : Nat} {y : Str} {py spos : Pos} (hc : X.calm = true) (hN : X.N.Nodup) (hy : X.N[i]? = some y) (hyl : X.env.scope.names.lookup y = some .local) (hsw : swapsWith (.ListComp elt [⟨tg, iter, ifs, 0⟩] scope pos) (some (.Name y py)) spos.line X.env = pure true)
    (hi : JI X W tg iter it) (ok : BlkOk X.N X.env.scope scope own) (hG : GLc X.K g gv (own.map (·.2)))
    (hg : ∀ (s : Shared) (H : Hp) (C : Addr) (cl : List (Str × Addr)) (fp : List Addr), PG (X.blk s H scope (compEnvC scope cl C X.env) fp) tg gv) (ht : ∀ (s : Shared) (H : Hp) (C : Addr) (cl : List (Str × Addr)) (fp : List Addr), JTs (X.blk s H scope (compEnvC scope cl C X.env) fp) WF ifs t)
    (he : ∀ (s : Shared) (H : Hp) (C : Addr) (cl : List (Str × Addr)) (fp : List Addr), JE (X.blk s H scope (compEnvC scope cl C X.env) fp) WF elt e) (hs : ∀ x, foldedSetIterable iter X.env x = pure x := by intro _; rfl) :
    JS X W (.Assign [.Name y py] (.ListComp elt [⟨tg, iter, ifs, 0⟩] scope pos) spos) (sAsg i (eLcM it g t e (own.map (·.2)))) := (ps_setLc (tt := tT X.K WF t) (te := tE X.K WF e) hc hN hy hyl hsw hi ok hg ht he hs).dimp fun E σ H ⟨F, m, G, δ, r, s, h⟩ =>
  lc_sound hG lc_keepM ⟨F, m, G, δ, r, s, C.mono _ (fun d m' q F' H' e' r' v rv => q F' H' _ e' r' ((s.mono e').set rv i)) (fun x m' q => liftX_of s q) h⟩
end
end DL

namespace DL
open PySem PySem.Spec PyProof.Rows L2

/-- the def keeps the promise: it does what the program f does -/
def spD (K : PySem.W.Frag) (n : Nat) (f : List D → C D) : Sp := fun vs H Q E => vs.length = n ∧ ∃ F m G ds, Rel K F m G H ∧ Reps K F vs ds ∧ LR K F G (f ds) m (fun F' H' d => ∀ v, Rep K F' v d → Q v H') (fun c d _ H => E c d H) []
def Kt.fin (Q : D → Mem → Prop) (E : Xn → Mem → Prop) : Kt := ⟨fun _ m => Q .non m, Q, fun _ _ => False, fun _ _ => False, fun x _ m => E x m⟩
@[simp] theorem Kt.fin_nx {Q : D → Mem → Prop} {E : Xn → Mem → Prop} {δ : DSt} {m : Mem} : (Kt.fin Q E).nx δ m = Q .non m := rfl
@[simp] theorem Kt.fin_rt {Q : D → Mem → Prop} {E : Xn → Mem → Prop} {d : D} {m : Mem} : (Kt.fin Q E).rt d m = Q d m := rfl
@[simp] theorem Kt.fin_ex {Q : D → Mem → Prop} {E : Xn → Mem → Prop} {x : Xn} {δ : DSt} {m : Mem} : (Kt.fin Q E).ex x δ m = E x m := rfl
/-- the program of a def with N names: its body from its arguments -/
def fnD (N : Nat) (b : CS) (ds : List D) : C D := ⟨fun m Q E => b.run (startD N ds) m (Kt.fin Q E), fun {m Q Q' E E'} hQ hE h => b.mono (A := Kt.fin Q E) (B := Kt.fin Q' E') ⟨fun _ _ q => hQ _ _ q, fun _ _ q => hQ _ _ q, fun _ _ q => q, fun _ _ q => q, fun _ _ _ q => hE _ _ q⟩ h⟩
theorem run_fnD {N : Nat} {b : CS} {ds : List D} {m : Mem} {Q : D → Mem → Prop} {E : Xn → Mem → Prop} : (fnD N b ds).run m Q E = b.run (startD N ds) m (Kt.fin Q E) := rfl
section
variable {P : Program} {w : World} {K : PySem.W.Frag} {mg : Str → Option Value} {base : Heap} {x qual : Str} {params : Arguments} {body : List Stmt} {scope : Scope} {dvs : List V} {kws : List (Str × V)} {f : Addr} {fd : FuncData}
theorem fn_ok {N ps : List Str} {k : Nat} {cs : CS} (Fd : FunD K x qual params body scope dvs kws f fd) (S : FnScope N ps scope)
    (hbody : ∀ (cdv : Value) (A : Around) (outer : List Env) (s : Shared) (H : Hp) (E : XK), Room k (A.deeper (envOfC qual scope s.heap.objs.size f cdv)) →
      JB (cxOf (L2.CX P w) P w K mg base N qual scope f cdv A outer s H E) (fun c d _ H => E c d H) body cs) : FnOk P w K mg base (L2.CX P w) (k + 1) f fd ps (spD K ps.length (fnD N.length cs)) := by
  refine Fd.ok S (fun vs H Q E h => h.1) fun cdv A outer s H vs Q E hr h => ⟨_, hbody cdv A outer s H E hr, ?_⟩
  obtain ⟨_, F, m, G, ds, r, rv, h⟩ := h
  refine ⟨F, m, G, _, r, SRel.start rv, ?_⟩
  refine cs.mono (A := Kt.fin (fun d m' => ∀ F' H', Ex F F' → Rel K F' m' G H' → ∀ v, Rep K F' v d → Q v H') (liftX K F G (fun c d _ H => E c d H) [])) ⟨fun δ m' q F' H' σ' e r' s' => q F' H' e r' _ .non, fun d m' q F' H' v e r' rv => q F' H' e r' v rv, fun _ _ q => q.elim, fun _ _ q => q.elim, fun x δ m' q F' H' σ' c d e r' s' hx => q F' H' c d e r' hx⟩ h
theorem fn_stuck {k : Nat} {ps : List Str} {n : Nat} (hn : n = ps.length) : FnOk P w K mg base (L2.CX P w) k f fd ps (spD K n fun _ => C.stuck) :=
  ⟨fun vs H Q E h => h.1.trans hn, fun A outer s H args us vs Q E hr he hb hv h => by obtain ⟨_, F, m, G, ds, r, rv, h⟩ := h; exact h.elim⟩
end
section
variable {X : Cx} {W : WX} {k n : Nat} {f : Addr} {fd : FuncData} {ps : List Str} {fD : List D → C D} {x : Str} {p pos : Pos} {e : Expr} {es : List Expr} {ca : DA}
theorem WE_nil {σ : L2.St} {F G : Hp} {K : PySem.W.Frag} {m : Mem} {α : Type} {c : C α} {P : Hp → Hp → α → Prop} (h : LR K F G c m P W σ) : LR K F G c m P (fun c d _ H => WE W σ c d H) [] := h
/-- f(..), the defaults dvs behind -/
theorem je_call {dvs : List V} {dds : List D} {dus : List Value} (Fn : FnOk X.prog X.w X.K X.mg X.base (L2.CX X.prog X.w) k f fd ps (spD X.K n fD)) (hr : Room k X.A) (tk : Takes X W) (hg : Gl X x) (hm : X.mg x = some (.ref f)) (hk : PySem.W.keepIn X.K (.ref f) = true) (hb : Binds X.K fd ps dus) (hd : Vals dvs dus)
    (hdd : ∀ F : Hp, Reps X.K F dvs dds) (ha : JA X W (e :: es) ca) (hn : ∀ l : List D, (l ++ dds).length ≠ n → fD (l ++ dds) = C.stuck) (hdb : (x == ("__debug__" : Str)) = false := by decide) (he : starEach (e :: es) X.env = (false, eval e X.env) :: starEach es X.env := by rfl) (hpl : (backTo pos (starEach es X.env)).any (·.1) = false := by rfl) :
    JE X W (.Call (.Name x p) (e :: es) [] pos) (fun δ => (ca δ).bind fun l => fD (l ++ dds)) :=
  (pe_callSD Fn hr hg hm hk hb hd (fun σ => passAt tk σ) ha hdb he hpl).dimp fun σ H Q ⟨F, m, G, δ, r, s, h⟩ => ⟨F, m, G, δ, r, s, (LR.bind h).imp fun F1 H1 _ l e1 _ ⟨m1, r1, h1⟩ vs rv => by
    have rr := rv.append (hdd F1)
    refine ⟨?_, F1, m1, G, l ++ dds, r1, rr, h1⟩
    by_cases q : (l ++ dds).length = n
    · rw [rr.length]; exact q
    · rw [hn l q] at h1; exact h1.elim⟩
end

def dLen : List D → C D
  | [.tup l] => C.ret (.int l.length)
  | [.str z] => if z.length ≤ sizeLine then C.ret (.int z.length) else C.stuck
  | [.scr l] => C.ret (.int l.length)
  | [x] => (asL x).bind fun l => C.ret (.int l.length)
  | _ => C.stuck
def dAbs : List D → C D
  | [.int i] => C.ret (.int (if i < 0 then -i else i))
  | _ => C.stuck
def dInt : List D → C D
  | [.int i] => C.ret (.int i)
  | [.bl b] => C.ret (.int (if b then 1 else 0))
  | _ => C.stuck
def dMax2 : List D → C D
  | [.int i, .int j] => C.ret (.int (if j > i then j else i))
  | _ => C.stuck
def dMin2 : List D → C D
  | [.int i, .int j] => C.ret (.int (if j < i then j else i))
  | _ => C.stuck
/-- list(x): never changed | may be changed -/
def dList : List D → C D
  | [x] => (asS x).bind fun l => C.ret (.lst l)
  | _ => C.stuck
def dListM : List D → C D
  | [x] => (asS x).bind fun l => C.new (.lst l)
  | _ => C.stuck
def dTuple : List D → C D
  | [x] => (asS x).bind fun l => C.ret (.tup l)
  | _ => C.stuck
def allInt : List D → Option (List Int)
  | [] => some []
  | .int i :: r => (allInt r).map (i :: ·)
  | _ => none
def dSum : List D → C D
  | [x] => (asL x).bind fun l => (ofO (allInt l)).bind fun ns => C.ret (.int ns.sum)
  | _ => C.stuck
section
variable {X : Cx} {W : WX}
theorem reps1 {K : PySem.W.Frag} {F : Hp} {vs : List V} {d : D} (r : Reps K F vs [d]) : ∃ v, vs = [v] ∧ Rep K F v d := by
  cases r with
  | cons rv t => cases t; exact ⟨_, rfl, rv⟩
theorem reps2 {K : PySem.W.Frag} {F : Hp} {vs : List V} {d e : D} (r : Reps K F vs [d, e]) : ∃ v w, vs = [v, w] ∧ Rep K F v d ∧ Rep K F w e := by
  cases r with
  | cons rv t =>
    obtain ⟨w, rfl, rw⟩ := reps1 t
    exact ⟨_, w, rfl, rv, rw⟩
theorem ints_reps {K : PySem.W.Frag} {F : Hp} : ∀ {vs : List V} {ds : List D} {ns : List Int}, Reps K F vs ds → allInt ds = some ns → vs = ns.map V.int
  | _, _, _, .nil, h => by cases h; rfl
  | _, _, ns, .cons (d := d) (ds := ds) rv t, h => by
    cases rv with
    | int i =>
      obtain ⟨ms, e1, e2⟩ := Option.map_eq_some_iff.mp (show (allInt ds).map (i :: ·) = some ns from h)
      subst e2
      rw [ints_reps t e1]
      rfl
    | _ => cases h
theorem LR.ofOb {K : PySem.W.Frag} {α β : Type} {F G : Hp} {m : Mem} {W : WX} {σ : L2.St} {o : Option α} {k : α → C β} {P : Hp → Hp → β → Prop} (h : LR K F G ((DL.ofO o).bind k) m P W σ) : ∃ a, o = some a ∧ LR K F G (k a) m P W σ := by
  cases o with
  | none => exact h.elim
  | some a => exact ⟨a, rfl, h⟩
def rLenD (K : PySem.W.Frag) : List V → Hp → VK → Prop := fun xs H Q => (∃ p ys, xs = [.ref p] ∧ (SqL K H p ys ∨ SqT K H p ys) ∧ Q (.int ys.length) H) ∨ ∃ z, xs = [.str z] ∧ z.length ≤ sizeLine ∧ Q (.int z.length) H
theorem cr_len : CallR X (.builtin "len") (rLenD X.K) := call_len_seq.or call_len_str
theorem cd_len : CallD X W dLen (rLenD X.K) := by
  intro F m G H σ xs vs Q r rv h
  unfold dLen at h
  split at h
  · obtain ⟨v, rfl, rd⟩ := reps1 rv
    cases rd with
    | tup h1 h2 => exact .inl ⟨_, _, rfl, .inr (r.ex.t h1), by rw [h2.length]; exact h.ret r _ (.int _)⟩
  · obtain ⟨hl, h⟩ := h.ite
    obtain ⟨v, rfl, rd⟩ := reps1 rv
    cases rd with
    | str _ _ => exact .inr ⟨_, rfl, hl, h.ret r _ (.int _)⟩
  · obtain ⟨v, rfl, rd⟩ := reps1 rv
    cases rd with
    | scr h1 => exact .inl ⟨_, _, rfl, .inl (r.ex.l h1), by rw [List.length_map]; exact h.ret r _ (.int _)⟩
  · obtain ⟨v, rfl, rd⟩ := reps1 rv
    obtain ⟨a, vs, l, rfl, h1, h2, h⟩ := asL_of r rd h
    exact .inl ⟨a, vs, rfl, .inl (SqL.of h1), by rw [h2.length]; exact h.ret r _ (.int _)⟩
  · exact h.elim
theorem cd_abs : CallD X W dAbs (fun xs H Q => ∃ i, xs = [.int i] ∧ Q (.int (if i < 0 then -i else i)) H) := by
  intro F m G H σ xs vs Q r rv h
  unfold dAbs at h
  split at h
  · obtain ⟨v, rfl, rd⟩ := reps1 rv
    cases rd
    exact ⟨_, rfl, h.ret r _ (.int _)⟩
  · exact h.elim
theorem cd_int : CallD X W dInt (fun xs H Q => (∃ i, xs = [.int i] ∧ Q (.int i) H) ∨ ∃ k, xs = [.bl k] ∧ Q (.int (if k then 1 else 0)) H) := by
  intro F m G H σ xs vs Q r rv h
  unfold dInt at h
  split at h
  · obtain ⟨v, rfl, rd⟩ := reps1 rv
    cases rd
    exact .inl ⟨_, rfl, h.ret r _ (.int _)⟩
  · obtain ⟨v, rfl, rd⟩ := reps1 rv
    cases rd
    exact .inr ⟨_, rfl, h.ret r _ (.int _)⟩
  · exact h.elim
theorem cd_max2 : CallD X W dMax2 (fun xs H Q => ∃ i j, xs = [.int i, .int j] ∧ Q (.int (if j > i then j else i)) H) := by
  intro F m G H σ xs vs Q r rv h
  unfold dMax2 at h
  split at h
  · obtain ⟨v, w, rfl, rd, re⟩ := reps2 rv
    cases rd
    cases re
    exact ⟨_, _, rfl, h.ret r _ (.int _)⟩
  · exact h.elim
theorem cd_min2 : CallD X W dMin2 (fun xs H Q => ∃ i j, xs = [.int i, .int j] ∧ Q (.int (if j < i then j else i)) H) := by
  intro F m G H σ xs vs Q r rv h
  unfold dMin2 at h
  split at h
  · obtain ⟨v, w, rfl, rd, re⟩ := reps2 rv
    cases rd
    cases re
    exact ⟨_, _, rfl, h.ret r _ (.int _)⟩
  · exact h.elim
theorem cd_list : CallD X W dList (fun xs H Q => ∃ p ys, xs = [.ref p] ∧ (SqL X.K H p ys ∨ SqT X.K H p ys) ∧ ∀ l, H l = none → Q (.ref l) (upd H l (.lst ys))) := by
  intro F m G H σ xs vs Q r rv h
  unfold dList at h
  split at h
  · obtain ⟨v, rfl, rd⟩ := reps1 rv
    obtain ⟨a, vs, l, rfl, h1, h2, h⟩ := asS_of r rd h
    refine ⟨a, vs, rfl, h1, fun p hp => ?_⟩
    have e := Ex.new (o := .lst vs) (r.fresh hp).2
    exact h.retE e (r.newF hp _) _ (.lst upd_same (h2.mono e))
  · exact h.elim
theorem cd_listM : CallD X W dListM (fun xs H Q => ∃ p ys, xs = [.ref p] ∧ (SqL X.K H p ys ∨ SqT X.K H p ys) ∧ ∀ l, H l = none → Q (.ref l) (upd H l (.lst ys))) := by
  intro F m G H σ xs vs Q r rv h
  unfold dListM at h
  split at h
  · obtain ⟨v, rfl, rd⟩ := reps1 rv
    obtain ⟨a, vs, l, rfl, h1, h2, h⟩ := asS_of r rd h
    exact ⟨a, vs, rfl, h1, fun p hp => h p (r.fresh hp).1 F _ (Ex.refl F) (r.putL (r.fresh hp).2 (r.freshG hp) h2) _ (.ref p)⟩
  · exact h.elim
theorem asS_of2 {K : PySem.W.Frag} {F G H : Hp} {m : Mem} {σ : L2.St} {β : Type} {v : V} {d : D} {k : List D → C β} {P : Hp → Hp → β → Prop} (r : Rel K F m G H) (rv : Rep K F v d) (h : LR K F G ((asS d).bind k) m P W σ) :
    ∃ a vs l, v = .ref a ∧ (SqL K H a vs ∨ (SqT K F a vs ∧ d = .tup l)) ∧ Reps K F vs l ∧ LR K F G (k l) m P W σ := by
  unfold asS at h
  split at h
  · rename_i l
    cases rv with
    | tup h1 h2 => exact ⟨_, _, l, rfl, .inr ⟨h1, rfl⟩, h2, h⟩
  · obtain ⟨a, vs, l, e, h1, h2, h3⟩ := asL_of r rv h
    exact ⟨a, vs, l, e, .inl (SqL.of h1), h2, h3⟩
theorem cd_tuple : CallD X W dTuple (fun xs H Q => ∃ p ys, xs = [.ref p] ∧ ((SqL X.K H p ys ∧ ∀ l, H l = none → Q (.ref l) (upd H l (.tup ys))) ∨ (SqT X.K H p ys ∧ Q (.ref p) H))) := by
  intro F m G H σ xs vs Q r rv h
  unfold dTuple at h
  split at h
  · obtain ⟨v, rfl, rd⟩ := reps1 rv
    obtain ⟨a, vs, l, rfl, h1, h2, h⟩ := asS_of2 r rd h
    rcases h1 with h1 | ⟨h1, rfl⟩
    · refine ⟨a, vs, rfl, .inl ⟨h1, fun p hp => ?_⟩⟩
      have e := Ex.new (o := .tup vs) (r.fresh hp).2
      exact h.retE e (r.newF hp _) _ (.tup (SqT.of upd_same) (h2.mono e))
    · exact ⟨a, vs, rfl, .inr ⟨r.ex.t h1, h.ret r _ (.tup h1 h2)⟩⟩
  · exact h.elim
theorem cd_sum : CallD X W dSum (rSum X.K) := by
  intro F m G H σ xs vs Q r rv h
  unfold dSum at h
  split at h
  · obtain ⟨v, rfl, rd⟩ := reps1 rv
    obtain ⟨a, vs, l, rfl, h1, h2, h⟩ := asL_of r rd h
    obtain ⟨ns, e, h⟩ := h.ofOb
    rw [ints_reps h2 e] at h1
    exact ⟨a, ns, rfl, SqL.of h1, h.ret r _ (.int _)⟩
  · exact h.elim
end
end DL

namespace DL
open PySem PySem.Spec PyProof.Rows L2

/-- the built-in type of a value -/
def tyN : D → C String
  | .non => C.ret "NoneType"
  | .bl _ => C.ret "bool"
  | .int _ => C.ret "int"
  | .str _ => C.ret "str"
  | .tup _ => C.ret "tuple"
  | .lst _ => C.ret "list"
  | .dic _ => C.ret "dict"
  | .ldc _ => C.ret "dict"
  | .ref a => C.look a fun o => match o with
    | .lst _ => C.ret "list"
    | _ => C.stuck
  | _ => C.stuck
def isT (t T : String) : Bool := t == T || (t == "bool" && T == "int")
def dIsi (T : String) (d : D) : C D := (tyN d).bind fun t => C.ret (.bl (isT t T))
def dIsi2 (T U : String) (d : D) : C D := (tyN d).bind fun t => C.ret (.bl (isT t T || isT t U))
def tyOk (T : String) : Bool := ["NoneType", "bool", "int", "str", "tuple", "list", "dict"].all fun t => decide (kitB t T = some (isT t T))
section
variable {X : Cx} {W : WX} {K : PySem.W.Frag} {F G H : Hp} {m : Mem} {σ : L2.St}
theorem tyT_of {a : Addr} {xs : List V} (h : SqT K H a xs) : TyX K H (.ref a) (.type "tuple") := by
  rcases h with (h | ⟨o, h⟩) | ⟨o, its, n, h, hc, _⟩
  · exact .base (.tup h)
  · exact .fTuple h
  · exact .kTuple h hc
theorem tyN_of {v : V} {d : D} {β : Type} {k : String → C β} {P : Hp → Hp → β → Prop} (r : Rel K F m G H) (rv : Rep K F v d) (h : LR K F G ((tyN d).bind k) m P W σ) :
    ∃ t, TyX K H v (.type t) ∧ t ∈ ["NoneType", "bool", "int", "str", "tuple", "list", "dict"] ∧ LR K F G (k t) m P W σ := by
  cases d with
  | non => cases rv; exact ⟨_, .base .non, by simp, h⟩
  | bl b => cases rv; exact ⟨_, .base (.bl b), by simp, h⟩
  | int i => cases rv; exact ⟨_, .base (.int i), by simp, h⟩
  | str x => cases rv; exact ⟨_, .base (.str x), by simp, h⟩
  | tup l =>
    cases rv with
    | tup h1 h2 => exact ⟨_, tyT_of (r.ex.t h1), by simp, h⟩
  | lst l =>
    cases rv with
    | lst h1 h2 => exact ⟨_, .base (.lst (r.ex _ _ h1)), by simp, h⟩
  | dic l =>
    cases rv with
    | dic h1 h2 => exact ⟨_, .base (.dK (r.ex _ _ h1)), by simp, h⟩
  | ldc l =>
    cases rv with
    | ldc h1 h2 => exact ⟨_, .fDict (r.ex _ _ h1), by simp, h⟩
  | ref a =>
    cases rv
    obtain ⟨o, e, h2⟩ := LR.look (k := fun o => C.bind (match o with | .lst _ => C.ret "list" | _ => C.stuck) k) h
    cases o with
    | lst l =>
      obtain ⟨⟨vs, h3, h4⟩, _⟩ := r.mm _ _ e
      exact ⟨_, .base (.lst h3), by simp, h2⟩
    | _ => exact h2.elim
  | _ => exact h.elim
theorem tyOk_of {t T : String} (h : tyOk T = true) (ht : t ∈ ["NoneType", "bool", "int", "str", "tuple", "list", "dict"]) : PySem.W.kitOne K (.type t) (.type T) = some (isT t T) := kit_ty (of_decide_eq_true (List.all_eq_true.mp h t ht))
variable {e : Expr} {ce : DE} {p q q2 pos : Pos} {T U : Str} {Tn Un : String}
theorem je_isi (he : JE X W e ce) (hg : Gl X "isinstance") (hm : X.mg "isinstance" = none) (hgT : Gl X T) (hmT : X.mg T = none) (hv : bootBuiltins T = some (.type Tn)) (hT : tyOk Tn = true) (hn : T ≠ "__name__" := by decide) (hd : (T == ("__debug__" : Str)) = false := by decide)
    (hst : starEach [e, .Name T q] X.env = (false, eval e X.env) :: starEach [.Name T q] X.env := by rfl) (hs2 : starEach [.Name T q] X.env = [(false, eval (.Name T q) X.env)] := by rfl) (hpl : (backTo pos (starEach [.Name T q] X.env)).any (·.1) = false := by rfl) :
    JE X W (.Call (.Name "isinstance" p) [e, .Name T q] [] pos) (eUn (dIsi Tn) ce) :=
  (pe_callB call_isi hg hm (by decide +kernel) (pa_cons he (pa_cons (pe_bltn (v := .ty Tn) hgT hmT hv rfl hn hd) pa_nil hs2) hst) (by decide) (by decide) hst hpl).dimp fun σ H Q ⟨F, m, G, δ, r, s, h⟩ =>
    ⟨F, m, G, δ, r, s, (LR.bind h).imp fun F1 H1 _ d e1 _ ⟨m1, r1, h1⟩ v rv => by
      obtain ⟨t, ty, ht, h2⟩ := tyN_of r1 rv h1
      exact ⟨v, .ty Tn, _, _, _, rfl, .ty Tn, ty, tyOk_of hT ht, h2.ret r1 _ (.bl _)⟩⟩
theorem je_isi2 {k1 : Nat} {tp : Pos} (he : JE X W e ce) (hg : Gl X "isinstance") (hm : X.mg "isinstance" = none) (hgT : Gl X T) (hmT : X.mg T = none) (hv : bootBuiltins T = some (.type Tn)) (hT : tyOk Tn = true)
    (hgU : Gl X U) (hmU : X.mg U = none) (hvU : bootBuiltins U = some (.type Un)) (hU : tyOk Un = true) (hn : T ≠ "__name__" := by decide) (hd : (T == ("__debug__" : Str)) = false := by decide) (hnU : U ≠ "__name__" := by decide) (hdU : (U == ("__debug__" : Str)) = false := by decide)
    (hst : starEach [e, .Tuple [.Name T q, .Name U q2] k1 tp] X.env = (false, eval e X.env) :: starEach [.Tuple [.Name T q, .Name U q2] k1 tp] X.env := by rfl)
    (hs2 : starEach [.Tuple [.Name T q, .Name U q2] k1 tp] X.env = [(false, eval (.Tuple [.Name T q, .Name U q2] k1 tp) X.env)] := by rfl)
    (hs3 : starEach [.Name T q, .Name U q2] X.env = (false, eval (.Name T q) X.env) :: starEach [.Name U q2] X.env := by rfl) (hs4 : starEach [.Name U q2] X.env = [(false, eval (.Name U q2) X.env)] := by rfl)
    (hpl : (backTo pos (starEach [.Tuple [.Name T q, .Name U q2] k1 tp] X.env)).any (·.1) = false := by rfl) :
    JE X W (.Call (.Name "isinstance" p) [e, .Tuple [.Name T q, .Name U q2] k1 tp] [] pos) (eUn (dIsi2 Tn Un) ce) :=
  (pe_callB call_isiT hg hm (by decide +kernel) (pa_cons he (pa_cons (pe_tup (pa_cons (pe_bltn (v := .ty Tn) hgT hmT hv rfl hn hd) (pa_cons (pe_bltn (v := .ty Un) hgU hmU hvU rfl hnU hdU) pa_nil hs4) hs3)) pa_nil hs2) hst) (by decide) (by decide) hst hpl).dimp fun σ H Q ⟨F, m, G, δ, r, s, h⟩ =>
    ⟨F, m, G, δ, r, s, (LR.bind h).imp fun F1 H1 _ d e1 _ ⟨m1, r1, h1⟩ v rv => ⟨by show 2 ≤ sizeLine; decide, fun tp hp => by
      have r2 := r1.newH hp (.tup [.ty Tn, .ty Un])
      obtain ⟨t, ty, ht, h2⟩ := tyN_of r2 rv h1
      refine ⟨v, tp, [.ty Tn, .ty Un], _, [.type Tn, .type Un], isT t Tn || isT t Un, rfl, upd_same, .cons (.ty Tn) (.cons (.ty Un) .nil), ty, ?_, h2.ret r2 _ (.bl _)⟩
      refine kitAny_cons (tyOk_of hT ht) (fun z => ?_) fun z => by rw [z]; rfl
      rw [z]
      exact kitAny_cons (tyOk_of hU ht) (fun w => by rw [w]; rfl) fun w => by rw [w]; rfl⟩⟩
end

def C.upd (a : Addr) (f : MO → Option (D × MO)) : C D := ⟨fun m Q _ => match m a with
  | some o => (match f o with
    | some (d, o') => Q d (mset m a o')
    | none => False)
  | none => False, fun {m Q Q' E E'} hQ _ h => by
    cases e : m a with
    | none => simp only [e] at h
    | some o =>
      simp only [e] at h ⊢
      cases e2 : f o with
      | none => simp only [e2] at h
      | some p => simp only [e2] at h ⊢; exact hQ _ _ h⟩
theorem C.run_upd {a : Addr} {f : MO → Option (D × MO)} {m : Mem} {Q : D → Mem → Prop} {E : Xn → Mem → Prop} {o o' : MO} {d : D} (h : m a = some o) (hf : f o = some (d, o')) : (C.upd a f).run m Q E = Q d (mset m a o') := by
  show (match m a with | some o => (match f o with | some (d, o') => Q d (mset m a o') | none => False) | none => False) = _
  rw [h]
  show (match f o with | some (d, o') => Q d (mset m a o') | none => False) = _
  rw [hf]
theorem LR.upd {K : PySem.W.Frag} {F G : Hp} {m : Mem} {W : WX} {σ : L2.St} {a : Addr} {f : MO → Option (D × MO)} {P : Hp → Hp → D → Prop} (h : LR K F G (C.upd a f) m P W σ) : ∃ o o' d, m a = some o ∧ f o = some (d, o') ∧ ∀ F' H', Ex F F' → Rel K F' (mset m a o') G H' → P F' H' d := by
  unfold LR at h
  cases e : m a with
  | none =>
    have h2 : (match m a with | some o => (match f o with | some (d, o') => _ | none => False) | none => False) := h
    rw [e] at h2; exact h2.elim
  | some o =>
    have h2 : (match m a with | some o => (match f o with | some (d, o') => (fun a m' => ∀ F' H', Ex F F' → Rel K F' m' G H' → P F' H' a) d (mset m a o') | none => False) | none => False) := h
    rw [e] at h2
    cases e2 : f o with
    | none =>
      have h3 : (match f o with | some (d, o') => (fun a m' => ∀ F' H', Ex F F' → Rel K F' m' G H' → P F' H' a) d (mset m a o') | none => False) := h2
      rw [e2] at h3; exact h3.elim
    | some p =>
      obtain ⟨d, o'⟩ := p
      have h3 : (match f o with | some (d, o') => (fun a m' => ∀ F' H', Ex F F' → Rel K F' m' G H' → P F' H' a) d (mset m a o') | none => False) := h2
      rw [e2] at h3
      exact ⟨o, o', d, rfl, e2, h3⟩
def appF (y : D) : MO → Option (D × MO)
  | .lst l => if l.length < sizeLine then some (.non, .lst (l ++ [y])) else none
  | _ => none
def dAppend (x y : D) : C D := match x with
  | .ref a => C.upd a (appF y)
  | _ => C.stuck
theorem run_append {a : Addr} {l : List D} {y : D} {m : Mem} {Q : D → Mem → Prop} {E : Xn → Mem → Prop} (h : m a = some (.lst l)) (hl : l.length < sizeLine) : (dAppend (.ref a) y).run m Q E = Q .non (mset m a (.lst (l ++ [y]))) :=
  C.run_upd (d := .non) (o' := .lst (l ++ [y])) h (if_pos hl)
def setF (i : Int) (y : D) : MO → Option (D × MO)
  | .lst l => (ixN l.length i).map fun j => (.non, .lst (l.set j y))
  | _ => none
def dSetItem (x i y : D) : C D := match x, i with
  | .ref a, .int i => C.upd a (setF i y)
  | _, _ => C.stuck
theorem run_setItem {a : Addr} {l : List D} {i : Int} {j : Nat} {y : D} {m : Mem} {Q : D → Mem → Prop} {E : Xn → Mem → Prop} (h : m a = some (.lst l)) (hl : ixN l.length i = some j) : (dSetItem (.ref a) (.int i) y).run m Q E = Q .non (mset m a (.lst (l.set j y))) :=
  C.run_upd (d := .non) (o' := .lst (l.set j y)) h (by show (ixN l.length i).map _ = _; rw [hl]; rfl)
def eApd (o e : DE) : DE := fun δ => (o δ).bind fun x => (asL x).bind fun _ => (e δ).bind fun y => dAppend x y
section
variable {X : Cx} {W : WX}
/-- xs.append(e) -/
theorem je_append {o e : Expr} {co ce : DE} {apos cpos : Pos} (ho : JE X W o co) (he : JE X W e ce) (hbase : attributeBase o "append" X.env (eval o X.env) = eval o X.env := by rfl)
    (hfew : ((backTo cpos (starEach [e] X.env)).all (fun x => !x.1) && (backToKw cpos (keywordEach [] X.env)).all (fun x => x.1.isSome) && decide ([e].length + ([] : List Keyword).length + (if ([] : List Keyword).isEmpty then 0 else 1) < 30)) = true := by rfl)
    (hline : (apos.endLine == cpos.line) = true := by rfl) (hs : starEach [e] X.env = (false, eval e X.env) :: starEach [] X.env := by rfl) (hplain : (backTo cpos (starEach [] X.env)).any (·.1) = false := by rfl) :
    JE X W (.Call (.Attribute o "append" apos) [e] [] cpos) (eApd co ce) :=
  (pe_bm PySem.F.plainAttrs_list PySem.F.slot_list_append PySem.F.type_list_append mt_append ho (pa_cons he pa_nil hs) hbase hfew hline hs hplain).dimp fun σ H Q ⟨F, m, G, δ, r, s, h⟩ =>
    ⟨F, m, G, δ, r, s, (LR.bind h).imp fun F1 H1 _ x e1 _ ⟨m1, r1, h1⟩ v rv => by
      obtain ⟨a, vs, l, rfl, h2, h3, h4⟩ := asL_of r1 rv h1
      refine ⟨Or.inl ⟨rfl, vs, SqL.of h2⟩, F1, m1, G, δ, r1, s.mono e1, (LR.bind h4).imp fun F2 H2 _ y e2 _ ⟨m2, r2, h5⟩ w rw => ?_⟩
      cases x with
      | ref b =>
        cases rv
        obtain ⟨o, o', d, q1, q2, q3⟩ := LR.upd h5
        cases o with
        | ins c fs => cases q2
        | dic l => cases q2
        | lst k =>
          obtain ⟨⟨ws, q4, q5⟩, q6⟩ := r2.mm _ _ q1
          by_cases hl : k.length < sizeLine
          · have q7 : some (D.non, MO.lst (k ++ [y])) = some (d, o') := (if_pos hl).symm.trans q2
            cases q7
            exact ⟨a, ws, w, rfl, rfl, q4, by rw [q5.length]; exact hl, q3 F2 _ (Ex.refl F2) (r2.putL q6 (r2.gm q1) (q5.append (.cons rw .nil))) _ .non⟩
          · have q7 : none = some (d, o') := (if_neg hl).symm.trans q2
            cases q7
      | _ => exact h5.elim⟩
/-- o[i] = e -/
def sSetItem (o i e : DE) : CS := ⟨fun δ m K => ((e δ).bind fun y => (o δ).bind fun x => (i δ).bind fun j => dSetItem x j y).run m (fun _ m' => K.nx δ m') (fun x m' => K.ex x δ m'), fun l h => C.mono _ (fun _ _ q => l.nx _ _ q) (fun _ _ q => l.ex _ _ _ q) h⟩
@[simp] theorem run_setItemS {o i e : DE} {δ : DSt} {m : Mem} {K : Kt} : (sSetItem o i e).run δ m K = ((e δ).bind fun y => (o δ).bind fun x => (i δ).bind fun j => dSetItem x j y).run m (fun _ m' => K.nx δ m') (fun x m' => K.ex x δ m') := rfl
theorem setItem_of {K : PySem.W.Frag} {F G H : Hp} {m : Mem} {σ : L2.St} {x i y : D} {v w z : V} {Q : Hp → Prop} (r : Rel K F m G H) (rx : Rep K F v x) (ri : Rep K F w i) (ry : Rep K F z y) (h : LR K F G (dSetItem x i y) m (fun F' H' _ => Q H') W σ) : rSetL v w z H Q := by
  unfold dSetItem at h
  split at h
  · rename_i a k
    cases rx
    cases ri
    obtain ⟨o, o', d, q1, q2, q3⟩ := LR.upd h
    cases o with
    | ins c fs => cases q2
    | dic l => cases q2
    | lst l =>
      obtain ⟨⟨ws, q4, q5⟩, q6⟩ := r.mm _ _ q1
      obtain ⟨j, e1, e2⟩ := Option.map_eq_some_iff.mp (show (ixN l.length k).map (fun j => (D.non, MO.lst (l.set j y))) = some (d, o') from q2)
      cases e2
      exact ⟨a, ws, k, j, rfl, rfl, q4, by rw [q5.length]; exact e1, q3 F _ (Ex.refl F) (r.putL q6 (r.gm q1) (q5.set ry j))⟩
  · exact h.elim
theorem js_setItem {o i e : Expr} {co ci ce : DE} {tp pos : Pos} (he : JE X W e ce) (hp : PG X (.Subscript o i tp) (gSub (tE X.K W co) (tE X.K W ci) rSetL)) (hs : swapsWithSole [.Subscript o i tp] e pos.line X.env = pure false := by rfl) (hw : swappedStores [.Subscript o i tp] e X.env = pure none := by rfl)
    (h1 : (assignEach [.Subscript o i tp] X.env).map (·.2) = [assign (.Subscript o i tp) X.env] := by rfl) :
    JS X W (.Assign [.Subscript o i tp] e pos) (sSetItem co ci ce) :=
  (ps_asg he hp hs hw h1).dimp fun E σ H ⟨F, m, G, δ, r, s, h⟩ => ⟨F, m, G, δ, r, s, by
    have h2 : LR X.K F G ((ce δ).bind fun y => (co δ).bind fun x => (ci δ).bind fun j => dSetItem x j y) m (fun F' H' _ => E.nx σ H') W σ := C.mono _ (fun _ m' q F' H' e r' => q F' H' σ e r' (s.mono e)) (fun x m' q => liftX_of s q) h
    exact (LR.bind h2).imp fun F1 H1 _ y e1 _ ⟨m1, r1, h3⟩ z rz => ⟨F1, m1, G, δ, r1, s.mono e1, (LR.bind h3).imp fun F2 H2 _ x e2 _ ⟨m2, r2, h4⟩ v rv => ⟨F2, m2, G, δ, r2, (s.mono e1).mono e2, (LR.bind h4).imp fun F3 H3 _ k e3 _ ⟨m3, r3, h5⟩ w rw =>
      setItem_of r3 (rv.mono e3) rw ((rz.mono e2).mono e3) h5⟩⟩⟩
end
end DL

namespace DL
open PySem PySem.Spec PyProof.Rows L2
section
variable {X : Cx} {W : WX} {a b c : Expr} {ca cb cc : DE} {pos : Pos}
theorem je_chain {op op' : CmpOp} {r r' : R2} {f g : D → D → C D} (ho : OpR X (compareOp op) r) (hf : OpD X W f r) (ho' : OpR X (compareOp op') r') (hf' : OpD X W g r') (ha : JE X W a ca) (hb : JE X W b cb) (hc : JE X W c cc) (hm : lastMarks [op, op'] [b, c] = false := by with_unfolding_all rfl) :
    JE X W (.Compare a [op, op'] [b, c] pos) (eChain f g ca cb cc) :=
  (pe_chain ho ho' ha hb hc hm).dimp fun σ H Q ⟨F, m, G, δ, rl, s, h⟩ => ⟨F, m, G, δ, rl, s, (LR.bind h).imp fun F1 H1 _ x e1 _ ⟨m1, r1, h1⟩ v rv => ⟨F1, m1, G, δ, r1, s.mono e1, (LR.bind h1).imp fun F2 H2 _ y e2 _ ⟨m2, r2, h2⟩ w rw =>
    hf F2 m2 G H2 σ x y v w _ r2 (rv.mono e2) rw ((LR.bind h2).imp fun F3 H3 _ z e3 _ ⟨m3, r3, h3⟩ u ru => by
      obtain ⟨k, rfl, h4⟩ := truth_bl h3
      cases ru
      refine ⟨k, rfl, ?_⟩
      cases k with
      | true => exact ⟨F3, m3, G, δ, r3, ((s.mono e1).mono e2).mono e3, (LR.bind h4).imp fun F4 H4 _ q e4 _ ⟨m4, r4, h5⟩ t rt => hf' F4 m4 G H4 σ y q w t Q r4 ((rw.mono e3).mono e4) rt h5⟩
      | false => exact h4.ret r3 _ (.bl false))⟩⟩
theorem jt_chain {op op' : CmpOp} {r r' : R2} {f g : D → D → C D} (ho : OpR X (compareOp op) r) (hf : OpD X W f r) (ho' : OpR X (compareOp op') r') (hf' : OpD X W g r') (ha : JE X W a ca) (hb : JE X W b cb) (hc : JE X W c cc) (hm : lastMarks [op, op'] [b, c] = false := by with_unfolding_all rfl) :
    JT X W (.Compare a [op, op'] [b, c] pos) (tOf (eChain f g ca cb cc)) :=
  (pt_chain ho ho' ha hb hc hm).dimp fun σ H Q ⟨F, m, G, δ, rl, s, h⟩ => ⟨F, m, G, δ, rl, s, (LR.bind (c := ca δ) (k := fun x => ((cb δ).bind fun y => (f x y).bind fun z => (truth z).bind fun k => if k = true then (cc δ).bind fun w => g y w else C.ret (.bl false)).bind truth) h).imp fun F1 H1 _ x e1 _ ⟨m1, r1, h1⟩ v rv => ⟨F1, m1, G, δ, r1, s.mono e1, (LR.bind (c := cb δ) (k := fun y => ((f x y).bind fun z => (truth z).bind fun k => if k = true then (cc δ).bind fun w => g y w else C.ret (.bl false)).bind truth) h1).imp fun F2 H2 _ y e2 _ ⟨m2, r2, h2⟩ w rw =>
    hf F2 m2 G H2 σ x y v w _ r2 (rv.mono e2) rw ((LR.bind (c := f x y) (k := fun z => ((truth z).bind fun k => if k = true then (cc δ).bind fun w => g y w else C.ret (.bl false)).bind truth) h2).imp fun F3 H3 _ z e3 _ ⟨m3, r3, h3⟩ u ru => by
      obtain ⟨k, rfl, h4⟩ := truth_bl (k := fun k => (if k = true then (cc δ).bind fun w => g y w else C.ret (.bl false)).bind truth) h3
      cases ru
      refine ⟨k, rfl, ?_⟩
      cases k with
      | true => exact ⟨F3, m3, G, δ, r3, ((s.mono e1).mono e2).mono e3, (LR.bind (c := cc δ) (k := fun w => (g y w).bind truth) h4).imp fun F4 H4 _ q e4 _ ⟨m4, r4, h5⟩ t rt => hf' F4 m4 G H4 σ y q w t _ r4 ((rw.mono e3).mono e4) rt ((LR.bind h5).imp fun F5 H5 _ b e5 _ ⟨m5, r5, h6⟩ u ru => by
          obtain ⟨k, rfl, h7⟩ := truth_bl (k := C.ret) h6
          cases ru
          exact ⟨k, rfl, h7.ret r5⟩)⟩
      | false => exact ⟨false, rfl, h4.ret r3⟩)⟩⟩
theorem jt_cmp {op : CmpOp} {r : R2} {f : D → D → C D} (ho : OpR X (compareOp op) r) (hf : OpD X W f r) (ha : JE X W a ca) (hb : JE X W b cb) (hm : behindInMarks op b = false) : JT X W (.Compare a [op] [b] pos) (tOf (eOp f ca cb)) :=
  (pt_cmpR ho ha hb hm).dimp fun σ H Q ⟨F, m, G, δ, rl, s, h⟩ => ⟨F, m, G, δ, rl, s, (LR.bind (c := ca δ) (k := fun x => ((cb δ).bind fun y => f x y).bind truth) h).imp fun F1 H1 _ x e1 _ ⟨m1, r1, h1⟩ v rv => ⟨F1, m1, G, δ, r1, s.mono e1, (LR.bind (c := cb δ) (k := fun y => (f x y).bind truth) h1).imp fun F2 H2 _ y e2 _ ⟨m2, r2, h2⟩ w rw =>
    hf F2 m2 G H2 σ x y v w _ r2 (rv.mono e2) rw ((LR.bind h2).imp fun F3 H3 _ z e3 _ ⟨m3, r3, h3⟩ u ru => by
      obtain ⟨k, rfl, h4⟩ := truth_bl (k := C.ret) h3
      cases ru
      exact ⟨k, rfl, h4.ret r3⟩)⟩⟩
end
def sFrz (i : Nat) : CS := ⟨fun δ m K => match δ[i]? with
  | some (some (.ref a)) => (match m a with
    | some (.lst l) => K.nx (δ.set i (some (.lst l))) (mdel m a)
    | some (.ins c fs) => K.nx (δ.set i (some (.obj c fs))) (mdel m a)
    | some (.dic l) => K.nx (δ.set i (some (.dic l))) (mdel m a)
    | none => False)
  | _ => False, fun {δ m A B} l h => by
    split at h
    · rename_i a e
      split at h
      · exact l.nx _ _ h
      · exact l.nx _ _ h
      · exact l.nx _ _ h
      · exact h
    · exact h⟩
theorem run_sFrz {i : Nat} {δ : DSt} {m : Mem} {K : Kt} {a : Addr} {l : List D} (h : δ[i]? = some (some (.ref a))) (hm : m a = some (.lst l)) : (sFrz i).run δ m K = K.nx (δ.set i (some (.lst l))) (mdel m a) := by
  unfold sFrz
  simp only [h, hm]
theorem run_sFrzI {i : Nat} {δ : DSt} {m : Mem} {K : Kt} {a : Addr} {c : Str} {fs : List (Str × D)} (h : δ[i]? = some (some (.ref a))) (hm : m a = some (.ins c fs)) : (sFrz i).run δ m K = K.nx (δ.set i (some (.obj c fs))) (mdel m a) := by
  unfold sFrz
  simp only [h, hm]
theorem SRel.setD {K : PySem.W.Frag} {F : Hp} {v : V} {d : D} (r : Rep K F v d) : ∀ {σ : L2.St} {δ : DSt} {i : Nat}, SRel K F σ δ → σ[i]? = some (some v) → SRel K F σ (δ.set i (some d))
  | [], [], _, _, h => by simp at h
  | _ :: _, _ :: _, 0, s, h => by
    simp at h
    exact ⟨⟨v, h, r⟩, s.2⟩
  | _ :: _, _ :: _, i + 1, s, h => ⟨s.1, SRel.setD r s.2 (by simpa using h)⟩
  | [], _ :: _, _, s, _ => s.elim
  | _ :: _, [], _, s, _ => s.elim
section
variable {X : Cx} {W : WX}
theorem jb_frz {sts : List Stmt} {c : CS} {i : Nat} (h : JB X W sts c) : JB X W sts (sSeq (sFrz i) c) := by
  refine PSs.dimp h fun E σ H ⟨F, m, G, δ, r, s, h⟩ => ?_
  unfold sFrz sSeq at h
  simp only at h
  split at h
  · rename_i a e
    obtain ⟨v, hv, rv⟩ := s.get e
    cases rv
    split at h
    · rename_i l em
      obtain ⟨⟨vs, h5, h6⟩, h4⟩ := r.mm a _ em
      have ex := Ex.new (o := .lst vs) h4
      exact ⟨_, _, G, _, r.freeze h5 h4 (r.gm em), (s.mono ex).setD (.lst upd_same (h6.mono ex)) hv, c.mono (liftK.mono ex) h⟩
    · rename_i cl fs em
      obtain ⟨⟨dx, vs, h5, h6⟩, h4⟩ := r.mm a _ em
      have ex := Ex.new (o := .ins (He.ga X.K cl) dx vs) h4
      exact ⟨_, _, G, _, r.freeze h5 h4 (r.gm em), (s.mono ex).setD (.obj upd_same (h6.mono ex)) hv, c.mono (liftK.mono ex) h⟩
    · rename_i l em
      obtain ⟨⟨vs, h5, h6⟩, h4⟩ := r.mm a _ em
      have ex := Ex.new (o := .dK vs) h4
      exact ⟨_, _, G, _, r.freeze h5 h4 (r.gm em), (s.mono ex).setD (.dic upd_same (h6.mono ex)) hv, c.mono (liftK.mono ex) h⟩
    · exact h.elim
  · exact h.elim
end
end DL

namespace DL
open PySem PySem.Spec PyProof.Rows L2
/-- the module's name x is a def that does what fD does, called by place: its parameters ps, the last of them filled by dds -/
def Has (P : Program) (w : World) (K : PySem.W.Frag) (mg : Str → Option Value) (base : Heap) (x : Str) (n k : Nat) (dds : List D) (fD : List D → C D) : Prop :=
  ∃ (f : Addr) (fd : FuncData) (ps : List Str) (dvs : List V) (dus : List Value), mg x = some (.ref f) ∧ FnOk P w K mg base (L2.CX P w) k f fd ps (spD K ps.length fD) ∧ PySem.W.keepIn K (.ref f) = true ∧ Binds K fd ps dus ∧ Vals dvs dus ∧ (∀ F : Hp, Reps K F dvs dds) ∧ n + dds.length = ps.length
/-- .. called with n values by place and the keywords ks behind -/
def HasK (P : Program) (w : World) (K : PySem.W.Frag) (mg : Str → Option Value) (base : Heap) (x : Str) (n : Nat) (ks : List Str) (k : Nat) (fD : List D → C D) : Prop :=
  ∃ (f : Addr) (fd : FuncData) (ps : List Str), mg x = some (.ref f) ∧ FnOk P w K mg base (L2.CX P w) k f fd ps (spD K ps.length fD) ∧ PySem.W.keepIn K (.ref f) = true ∧ n + ks.length = ps.length ∧
    ∀ (s : Shared) (us ws : List Value), K.In s.heap → us.length = n → ws.length = ks.length → BindsTo s fd ⟨us, ks.zip ws⟩ (ps.zip (us ++ ws))
def eCall (n : Nat) (dds : List D) (fD : List D → C D) (a : DA) : DE := fun δ => (a δ).bind fun l => if l.length = n then fD (l ++ dds) else C.stuck
def eCallK (n m : Nat) (fD : List D → C D) (a b : DA) : DE := fun δ => (a δ).bind fun l => (b δ).bind fun k => if l.length = n ∧ k.length = m then fD (l ++ k) else C.stuck
section
variable {X : Cx} {W : WX} {k n : Nat} {dds : List D} {fD : List D → C D} {x : Str} {p pos : Pos} {e : Expr} {es : List Expr} {ca ck : DA}
theorem je_callH (h : Has X.prog X.w X.K X.mg X.base x n k dds fD) (hr : Room k X.A) (tk : Takes X W) (hg : Gl X x) (ha : JA X W (e :: es) ca)
    (hdb : (x == ("__debug__" : Str)) = false := by decide) (he : starEach (e :: es) X.env = (false, eval e X.env) :: starEach es X.env := by rfl) (hpl : (backTo pos (starEach es X.env)).any (·.1) = false := by rfl) :
    JE X W (.Call (.Name x p) (e :: es) [] pos) (eCall n dds fD ca) := by
  obtain ⟨f, fd, ps, dvs, dus, hm, Fn, kp, hb, hd, hdd, hn⟩ := h
  refine (pe_callSD Fn hr hg hm kp hb hd (fun σ => passAt tk σ) ha hdb he hpl).dimp fun σ H Q ⟨F, m, G, δ, r, s, h⟩ => ⟨F, m, G, δ, r, s, (LR.bind h).imp fun F1 H1 _ l e1 _ ⟨m1, r1, h1⟩ vs rv => ?_⟩
  obtain ⟨hl, h1⟩ := LR.ite h1
  have rr := rv.append (hdd F1)
  exact ⟨by rw [rr.length, List.length_append, hl, hn], F1, m1, G, l ++ dds, r1, rr, h1⟩
theorem je_callH0 (h : Has X.prog X.w X.K X.mg X.base x 0 k [] fD) (hr : Room k X.A) (tk : Takes X W) (hg : Gl X x) (hdb : (x == ("__debug__" : Str)) = false := by decide) :
    JE X W (.Call (.Name x p) [] [] pos) (fun _ => fD []) := by
  obtain ⟨f, fd, ps, dvs, dus, hm, Fn, kp, hb, hd, hdd, hn⟩ := h
  obtain rfl : dvs = [] := by
    have := (hdd fun _ => none).length
    exact List.eq_nil_of_length_eq_zero this
  obtain rfl : ps = [] := List.eq_nil_of_length_eq_zero hn.symm
  cases hd
  refine ⟨fun pins s σ H Q I ⟨F, m, G, δ, r, sr, h⟩ => ?_⟩
  refine wpAny_Call_Name_kw (ld_glob I hg hm ?_ hdb)
  refine PySem.W.callWith_K0 I.kIn kp ?_
  exact run_fnSD (vs := []) (us := []) (ds := []) Fn hr hb .nil (passAt tk σ) I .nil ⟨rfl, F, m, G, [], r, .nil, h⟩
theorem _root_.L2.PK.dimp {kws : List Keyword} {t t' : TA} (h : PK X kws t) (k : ∀ σ H Q, t' σ H Q → t σ H Q) : PK X kws t' := ⟨fun pos pins s σ H Q I q => h.run pos pins s σ H Q I (k σ H Q q)⟩
def JK (X : Cx) (W : WX) (kws : List Keyword) (c : DA) : Prop := PK X kws (tA X.K W c)
theorem jk_nil : JK X W [] aNil := pk_nil.dimp fun _ _ _ ⟨_, _, _, _, r, _, h⟩ => h.ret r _ .nil
theorem jk_cons {nm : Option Str} {kpos : Pos} {kws : List Keyword} {ce : DE} {r : DA} (ha : JE X W e ce) (hr : JK X W kws r) : JK X W (⟨nm, e, kpos⟩ :: kws) (aCons ce r) :=
  (pk_cons ha hr).dimp fun σ H Q ⟨F, m, G, δ, rl, s, h⟩ => ⟨F, m, G, δ, rl, s, (LR.bind h).imp fun F1 H1 _ x e1 _ ⟨m1, r1, h1⟩ v rv => ⟨F1, m1, G, δ, r1, s.mono e1, (LR.bind h1).imp fun F2 H2 _ xs e2 _ ⟨m2, r2, h2⟩ vs rvs =>
    h2.ret r2 _ (.cons (rv.mono e2) rvs)⟩⟩
theorem je_callKw {ks : List Str} {kws : List Keyword} (h : HasK X.prog X.w X.K X.mg X.base x n ks k fD) (hr : Room k X.A) (tk : Takes X W) (hg : Gl X x) (ha : JA X W (e :: es) ca) (hkw : JK X W kws ck)
    (hall : (backToKw pos (keywordEach kws X.env)).all (·.1.isSome) = true := by rfl) (hks : (backToKw pos (keywordEach kws X.env)).filterMap (·.1) = ks := by rfl)
    (hdb : (x == ("__debug__" : Str)) = false := by decide) (he : starEach (e :: es) X.env = (false, eval e X.env) :: starEach es X.env := by rfl)
    (hpl : ((backTo pos (starEach (e :: es) X.env)).any (·.1) || (backToKw pos (keywordEach kws X.env)).any (·.1.isNone)) = false := by rfl) :
    JE X W (.Call (.Name x p) (e :: es) kws pos) (eCallK n ks.length fD ca ck) := by
  obtain ⟨f, fd, ps, hm, Fn, kp, hn, hb⟩ := h
  refine ⟨fun pins s σ H Q I ⟨F, m, G, δ, r, sr, h⟩ => ?_⟩
  refine wpAny_Call_Name_kw (ld_glob I hg hm ?_ hdb)
  have h2 : tA X.K W ca σ H (fun vs H1 => tA X.K W ck σ H1 fun zs H2 => vs.length = n ∧ zs.length = ks.length ∧ spD X.K ps.length fD (vs ++ zs) H2 Q (WE W σ)) :=
    ⟨F, m, G, δ, r, sr, (LR.bind h).imp fun F1 H1 _ l e1 _ ⟨m1, r1, h1⟩ vs rv => ⟨F1, m1, G, δ, r1, sr.mono e1, (LR.bind h1).imp fun F2 H2 _ z e2 _ ⟨m2, r2, h2⟩ zs rz => by
      obtain ⟨hl, h2⟩ := LR.ite h2
      have rr := (rv.mono e2).append rz
      exact ⟨by rw [rv.length]; exact hl.1, by rw [rz.length]; exact hl.2, by rw [rr.length, List.length_append, hl.1, hl.2, hn], F2, m2, G, l ++ z, r2, rr, h2⟩⟩⟩
  refine PySem.W.callWith_KW (h₀ := X.base) I.ok.mod.kin kp hall (thn (PA.run ha pos pins s σ H _ I h2) fun us s1 ⟨vs, H1, I1, rv, q⟩ => ?_) hpl he
  refine thn (PK.run hkw pos pins s1 σ H1 _ I1 q) fun ws s2 ⟨zs, H2, I2, rz, l1, l2, q2⟩ => ⟨I2.kIn, ?_⟩
  rw [hks]
  have r2 : Vals (vs ++ zs) (us ++ ws) := rv.append rz
  refine wpAny_call (codeAny_mono (Fn.run X.A X.stack s2 H2 ⟨us, ks.zip ws⟩ (us ++ ws) (vs ++ zs) Q (WE W σ) hr I2.env0 (hb s2 us ws I2.kIn (rv.length.symm.trans l1) (rz.length.symm.trans l2)) r2 q2) fun r s' hq => ?_)
  cases r with
  | error e => exact passAt tk σ pins H2 s2 e s' I2 hq
  | ok fl =>
    cases fl with
    | ret u => exact I2.after hq
    | next => exact hq.elim
    | brk => exact hq.elim
    | cont => exact hq.elim
end
end DL

namespace DL
open PySem PySem.Spec PyProof.Rows L2
/-- the module's name x holds the datum d -/
def KConst (K : PySem.W.Frag) (mg : Str → Option Value) (x : Str) (d : D) : Prop := ∃ v u, mg x = some u ∧ RelV v u ∧ ∀ F : Hp, Rep K F v d
section
variable {X : Cx} {W : WX}
theorem je_const {x : Str} {d : D} {pos : Pos} (h : KConst X.K X.mg x d) (hg : Gl X x) (hd : (x == ("__debug__" : Str)) = false := by decide) : JE X W (.Name x pos) (eC d) := by
  obtain ⟨v, u, hm, rv, hr⟩ := h
  exact je_glob hg hm rv hr hd
theorem takesWF : Takes X WF := fun u s' ⟨_, _, _, _, _, _, _, _, _, _, _, _, _, _, _, _, w⟩ => w.elim
theorem gs_len2 {i j : Nat} (l : List D) (δ : DSt) (h : l.length ≠ 2) : gsCons (gN i) (gsCons (gN j) gsNil) l δ = C.stuck := match l, h with
  | [], _ => rfl
  | [_], _ => rfl
  | [_, _], h => absurd rfl h
  | _ :: _ :: _ :: _, _ => rfl
theorem gs_len3 {i j k : Nat} (l : List D) (δ : DSt) (h : l.length ≠ 3) : gsCons (gN i) (gsCons (gN j) (gsCons (gN k) gsNil)) l δ = C.stuck := match l, h with
  | [], _ => rfl
  | [_], _ => rfl
  | [_, _], _ => rfl
  | [_, _, _], h => absurd rfl h
  | _ :: _ :: _ :: _ :: _, _ => rfl
theorem gs_len4 {i j k q : Nat} (l : List D) (δ : DSt) (h : l.length ≠ 4) : gsCons (gN i) (gsCons (gN j) (gsCons (gN k) (gsCons (gN q) gsNil))) l δ = C.stuck := match l, h with
  | [], _ => rfl
  | [_], _ => rfl
  | [_, _], _ => rfl
  | [_, _, _], _ => rfl
  | [_, _, _, _], h => absurd rfl h
  | _ :: _ :: _ :: _ :: _ :: _, _ => rfl
theorem gs_len5 {i j k q r : Nat} (l : List D) (δ : DSt) (h : l.length ≠ 5) : gsCons (gN i) (gsCons (gN j) (gsCons (gN k) (gsCons (gN q) (gsCons (gN r) gsNil)))) l δ = C.stuck := match l, h with
  | [], _ => rfl
  | [_], _ => rfl
  | [_, _], _ => rfl
  | [_, _, _], _ => rfl
  | [_, _, _, _], _ => rfl
  | [_, _, _, _, _], h => absurd rfl h
  | _ :: _ :: _ :: _ :: _ :: _ :: _, _ => rfl
end
section
variable {P : Program} {w : World} {K : PySem.W.Frag} {mg : Str → Option Value} {base : Heap} {x qual : Str} {params : Arguments} {body : List Stmt} {scope : Scope} {dvs : List V} {kws : List (Str × V)} {f : Addr} {fd : FuncData}
theorem fn_okX {N ps : List Str} {k : Nat} {cs : CS} (Fd : FunD K x qual params body scope dvs kws f fd) (S : FnScope N ps scope)
    (hbody : ∀ (cdv : Value) (A : Around) (outer : List Env) (s : Shared) (H : Hp) (E : XK), Room k (A.deeper (envOfC qual scope s.heap.objs.size f cdv)) →
      Takes (cxOf (L2.CX P w) P w K mg base N qual scope f cdv A outer s H E) (fun c d _ H => E c d H) → PassesOwn (model P w) (cxOf (L2.CX P w) P w K mg base N qual scope f cdv A outer s H E).A (cxOf (L2.CX P w) P w K mg base N qual scope f cdv A outer s H E).env (cxOf (L2.CX P w) P w K mg base N qual scope f cdv A outer s H E).xe →
      (∀ (c : Value) (d : Option Addr) (σ σ' : L2.St) (H : Hp), (fun (c : Value) (d : Option Addr) (_ : L2.St) (H : Hp) => E c d H) c d σ H → (fun (c : Value) (d : Option Addr) (_ : L2.St) (H : Hp) => E c d H) c d σ' H) →
      JB (cxOf (L2.CX P w) P w K mg base N qual scope f cdv A outer s H E) (fun c d _ H => E c d H) body cs) : FnOk P w K mg base (L2.CX P w) (k + 1) f fd ps (spD K ps.length (fnD N.length cs)) :=
  fn_ok Fd S fun cdv A outer s H E hr => hbody cdv A outer s H E hr (takes_of rfl rfl rfl rfl) (passes_of rfl) fun _ _ _ _ _ h => h
theorem has_of {n k : Nat} {ps : List Str} {fD : List D → C D} (hm : mg x = some (.ref f)) (Fd : FunD K x qual params body scope [] kws f fd) (ok : FnOk P w K mg base (L2.CX P w) k f fd ps (spD K ps.length fD)) (hn : n = ps.length)
    (hb : ∀ (kV doc pm : Value) (an : Option Addr) (cdv ct : Value) (us : List Value), us.length = ps.length → bindArgs (PySem.W.fnOf x qual params body scope .none kV doc pm an cdv ct) ⟨us, []⟩ = pure (ps.zip us)) : Has P w K mg base x n k [] fD :=
  ⟨f, fd, ps, [], [], hm, ok, Fd.kp, Fd.bindsN hb, .nil, fun _ => .nil, by rw [List.length_nil]; exact hn⟩
/-- the law: for every script it hands back True -/
theorem law_sp {fD : List D → C D} (h : ∀ ns : List Int, ns.length ≤ 63 → (fD [.scr ns]).run (fun _ => none) (fun d _ => d = .bl true) (fun _ _ => False)) (H : Hp) (a : Addr) (ns : List Int) (hl : ns.length ≤ 63) (hS : SqL K H a (ns.map V.int)) :
    spD K 1 fD [.ref a] H (fun v _ => v = .bl true) (fun _ _ _ => False) :=
  ⟨rfl, H, fun _ => none, fun _ => none, [.scr ns], ⟨Ex.refl H, fun _ _ e => (by cases e), fun _ _ e => (by cases e)⟩, .cons (.scr hS) .nil, C.mono _ (fun d m' q F' H' e r v rv => by subst q; cases rv; rfl) (fun _ _ q => q.elim) (h ns hl)⟩
theorem fn_cx0 {k : Nat} {ps : List Str} {sp : Sp} (h : FnOk P w K mg base (L2.CX P w) k f fd ps sp) : FnOk P w K mg base CX0 k f fd ps (fun vs H Q _ => sp vs H Q fun _ _ _ => False) :=
  ⟨fun vs H Q E q => h.len vs H Q _ q, fun A outer s H args us vs Q E hr he hb hv q => codeAny_mono (h.run A outer s H args us vs Q _ hr he hb hv q) fun r s' z => by
    cases r with
    | ok fl => cases fl <;> exact z
    | error e =>
      obtain ⟨_, _, _, _, _, _, _, _, _, _, _, _, z⟩ := (show L2.CX P w outer H s (fun _ _ _ => False) e s' from z)
      exact z.elim⟩
theorem no_cx {P : Program} {w : World} (H : Hp) (s : Shared) (e : Value) (s' : Shared) (h : L2.CX P w [] H s (fun _ _ _ => False) e s') : False := by
  obtain ⟨_, _, _, _, _, _, _, _, _, _, _, _, h⟩ := h
  exact h
end
theorem const_int {K : PySem.W.Frag} {h : Heap} {mg : Str → Option Value} {x : Str} {i : Int} (X : K.In h) (G : h.Ns mainGlobals mg) (c : (He.Fa.int x i).ok K = true) : KConst K mg x (.int i) := by
  obtain ⟨t, e⟩ := He.int_ok X G c
  exact ⟨.int i, _, e, ⟨t, rfl⟩, fun _ => .int i⟩
theorem const_str {K : PySem.W.Frag} {h : Heap} {mg : Str → Option Value} {x z : Str} (X : K.In h) (G : h.Ns mainGlobals mg) (c : (He.Fa.str x z).ok K = true) (hz : PyData.strOk z = true) : KConst K mg x (.str z) := by
  obtain ⟨t, e⟩ := He.str_ok X G c
  exact ⟨.str z, _, e, ⟨t, rfl⟩, fun _ => .str z hz⟩
theorem const_strs {K : PySem.W.Frag} {h : Heap} {mg : Str → Option Value} {x : Str} {zs : List Str} (X : K.In h) (G : h.Ns mainGlobals mg) (c : (He.Fa.glo x).ok K = true) (ht : He.tupB K x (zs.map He.Dv.str) = true) (hz : zs.all PyData.strOk = true) : KConst K mg x (.tup (zs.map D.str)) := by
  refine ⟨.ref (He.ga K x), _, He.glo_ok X G c, rfl, fun F => .tup (He.tupB_ok ht F) ?_⟩
  rw [List.map_map]
  clear ht c
  induction zs with
  | nil => exact .nil
  | cons z zs ih =>
    rw [List.all_cons, Bool.and_eq_true] at hz
    exact .cons (.str z hz.1) (ih hz.2)
end DL

namespace DL
open PySem PySem.Spec PyProof.Rows L2
def keyD : D → Option Key
  | .int i => some (.inl i)
  | .str x => some (.inr x)
  | _ => none
def valD (kvs : List (Key × D)) (k : Key) : Option D := (kvs.find? fun kv => decide (kv.1 = k)).map (·.2)
def putKD (kvs : List (Key × D)) (k : Key) (v : D) : List (Key × D) :=
  if (kvs.any fun kv => decide (kv.1 = k)) = true then kvs.map (fun kv => if kv.1 = k then (kv.1, v) else kv) else kvs ++ [(k, v)]
def mergeKD (kvs more : List (Key × D)) : List (Key × D) := more.foldl (fun acc kv => putKD acc kv.1 kv.2) kvs
def pairsD : List (DE × DE) → DSt → C (List (Key × D))
  | [], _ => C.ret []
  | (k, v) :: r, δ => (k δ).bind fun x => (v δ).bind fun y => (ofO (keyD x)).bind fun q => (pairsD r δ).bind fun l => C.ret ((q, y) :: l)
def eDisp (ps : List (DE × DE)) : DE := fun δ => (pairsD ps δ).bind fun l => if l.length ≤ 15 then C.ret (.dic (mergeKD [] l)) else C.stuck
/-- the pairs of a dict -/
def asD : D → C (List (Key × D))
  | .dic l => C.ret l
  | .ldc l => C.ret l
  | .ref a => C.look a fun o => match o with
    | .dic l => C.ret l
    | _ => C.stuck
  | _ => C.stuck
def dGet (x y : D) : C D := (asD x).bind fun l => (ofO (keyD y)).bind fun k => ofO (valD l k)
section
variable {X : Cx} {W : WX} {K : PySem.W.Frag} {F G H : Hp} {m : Mem} {σ : L2.St}
theorem RepK.length : ∀ {vs : List (Key × V)} {ds : List (Key × D)}, RepK K F vs ds → vs.length = ds.length
  | _, _, .nil => rfl
  | _, _, .cons _ t => by rw [List.length_cons, List.length_cons, RepK.length t]
theorem RepK.val {k : Key} : ∀ {vs : List (Key × V)} {ds : List (Key × D)} {d : D}, RepK K F vs ds → valD ds k = some d → ∃ v, valV vs k = some v ∧ Rep K F v d
  | _, _, _, .nil, h => by cases h
  | _, _, d, .cons (n := n) (ds := ds) r t, h => by
    unfold valD at h
    rw [List.find?_cons] at h
    unfold valV
    rw [List.find?_cons]
    by_cases e : n = k
    · simp only [e, decide_true] at h ⊢
      cases h
      exact ⟨_, rfl, r⟩
    · simp only [e, decide_false] at h ⊢
      exact RepK.val t h
theorem RepK.valN {k : Key} : ∀ {vs : List (Key × V)} {ds : List (Key × D)}, RepK K F vs ds → valD ds k = none → valV vs k = none
  | _, _, .nil, h => rfl
  | _, _, .cons (n := n) (ds := ds) r t, h => by
    unfold valD at h
    rw [List.find?_cons] at h
    unfold valV
    rw [List.find?_cons]
    by_cases e : n = k
    · simp only [e, decide_true] at h
      cases h
    · simp only [e, decide_false] at h ⊢
      exact RepK.valN t h
theorem RepK.any {k : Key} : ∀ {vs : List (Key × V)} {ds : List (Key × D)}, RepK K F vs ds → (vs.any fun kv => decide (kv.1 = k)) = ds.any fun kv => decide (kv.1 = k)
  | _, _, .nil => rfl
  | _, _, .cons r t => by rw [List.any_cons, List.any_cons, RepK.any t]
theorem RepK.map {k : Key} {v : V} {d : D} (rv : Rep K F v d) : ∀ {vs : List (Key × V)} {ds : List (Key × D)}, RepK K F vs ds → RepK K F (vs.map fun kv => if kv.1 = k then (kv.1, v) else kv) (ds.map fun kv => if kv.1 = k then (kv.1, d) else kv)
  | _, _, .nil => .nil
  | _, _, .cons (n := n) r t => by
    rw [List.map_cons, List.map_cons]
    by_cases e : n = k
    · simp only [e, if_true]
      exact .cons rv (RepK.map rv t)
    · simp only [e, if_false]
      exact .cons r (RepK.map rv t)
theorem RepK.snoc {k : Key} {v : V} {d : D} (rv : Rep K F v d) : ∀ {vs : List (Key × V)} {ds : List (Key × D)}, RepK K F vs ds → RepK K F (vs ++ [(k, v)]) (ds ++ [(k, d)])
  | _, _, .nil => .cons rv .nil
  | _, _, .cons r t => .cons r (RepK.snoc rv t)
theorem RepK.put {k : Key} {v : V} {d : D} (rv : Rep K F v d) {vs : List (Key × V)} {ds : List (Key × D)} (r : RepK K F vs ds) : RepK K F (putK vs k v) (putKD ds k d) := by
  unfold putK putKD
  rw [r.any]
  split
  · exact r.map rv
  · exact r.snoc rv
theorem RepK.merge : ∀ {more : List (Key × V)} {dm : List (Key × D)} {vs : List (Key × V)} {ds : List (Key × D)}, RepK K F more dm → RepK K F vs ds → RepK K F (mergeK vs more) (mergeKD ds dm)
  | _, _, _, _, .nil, r => r
  | _, _, _, _, .cons (n := n) (v := v) (d := d) rv t, r => by
    have q := RepK.merge t (r.put (k := n) rv)
    exact q
theorem keyD_of {v : V} {d : D} {k : Key} (r : Rep K F v d) (h : keyD d = some k) : v = kV k := by
  cases r <;> first
    | (cases h; rfl)
    | (cases h; done)
theorem LR.bindG {α β : Type} {c : C α} {k : α → C β} {P : Hp → Hp → β → Prop} {p : Addr} {o : HO} (hG : G p = none) (h : LR K F G (c.bind k) m P W σ) : LR K F (L2.upd G p o) c m (fun F1 H1 a => ∃ m1, Rel K F1 m1 (L2.upd G p o) H1 ∧ LR K F1 G (k a) m1 P W σ) W σ :=
  c.mono (fun a m' q F1 H1 e r => ⟨m', r, (k a).mono (fun b m'' q2 F2 H2 e2 r2 => q2 F2 H2 (e.trans e2) r2) (fun _ _ q2 => liftX.mono e q2) q⟩) (fun x m' q F' H' c d e r => q F' H' c d e (r.less hG)) h
theorem pairs_sound {σ : L2.St} : ∀ {ps : List (DE × DE)} {F G H : Hp} {m : Mem} {δ : DSt} {P : Hp → Hp → List (Key × D) → Prop} {Q : List (V × V) → Hp → Prop}, Rel K F m G H → SRel K F σ δ → LR K F G (pairsD ps δ) m P W σ →
    (∀ F2 H2 m2 l vs, Ex F F2 → Rel K F2 m2 G H2 → RepK K F2 vs l → P F2 H2 l → Q (vs.map fun kv => (kV kv.1, kv.2)) H2) → tPairs (ps.map fun p => (tE K W p.1, tE K W p.2)) σ H Q
  | [], F, G, H, m, δ, P, Q, r, s, h, k => k F H m [] [] (Ex.refl F) r .nil (h.ret r)
  | (pk, pv) :: ps, F, G, H, m, δ, P, Q, r, s, h, k => by
    refine ⟨F, m, G, δ, r, s, (LR.bind h).imp fun F1 H1 _ x e1 _ ⟨m1, r1, h1⟩ v rv => ⟨F1, m1, G, δ, r1, s.mono e1, (LR.bind h1).imp fun F2 H2 _ y e2 _ ⟨m2, r2, h2⟩ w rw => ?_⟩⟩
    obtain ⟨q, eq, h2⟩ := h2.ofOb
    have ev := keyD_of rv eq
    subst ev
    refine pairs_sound r2 ((s.mono e1).mono e2) (P := fun F' H' l => P F' H' ((q, y) :: l)) ((LR.bind h2).imp fun F3 H3 _ l e3 _ ⟨m3, r3, h3⟩ => h3.ret r3) fun F3 H3 m3 l vs e3 r3 rk p3 => ?_
    exact k F3 H3 m3 ((q, y) :: l) ((q, w) :: vs) ((e1.trans e2).trans e3) r3 (.cons (rw.mono e3) rk) p3
def JP (X : Cx) (W : WX) (pos : Pos) (ks : List (Option Expr)) (vs : List Expr) (ps : List (DE × DE)) : Prop := PPs X pos ks vs (ps.map fun p => (tE X.K W p.1, tE X.K W p.2))
theorem jp_nil {pos : Pos} : JP X W pos [] [] [] := pps_nil
theorem jp_cons {pos : Pos} {k v : Expr} {ks : List (Option Expr)} {vs : List Expr} {ck cv : DE} {ps : List (DE × DE)} (hk : JE X W k ck) (hv : JE X W v cv) (hr : JP X W pos ks vs ps) : JP X W pos (some k :: ks) (v :: vs) ((ck, cv) :: ps) := pps_cons hk hv hr
theorem je_disp {pos : Pos} {ks : List (Option Expr)} {vs : List Expr} {ps : List (DE × DE)} (h : JP X W pos ks vs ps) (hall : ks.all (·.isSome) = true := by rfl) (hl : ks.length = vs.length := by rfl) (h0 : ks ≠ [] := by exact fun z => nomatch z) (h15 : ks.length ≤ 15 := by decide) : JE X W (.Dict ks vs pos) (eDisp ps) :=
  (pe_disp h hall hl h0 h15).dimp fun σ H Q ⟨F, m, G, δ, r, s, h⟩ p hp => by
    have hG := r.freshG hp
    have r1 : Rel X.K F m (L2.upd G p (.dK [])) (L2.upd H p (.dK [])) := (r.newH hp (.dK [])).aside (r.fresh hp).2 (r.fresh hp).1 upd_same
    refine pairs_sound r1 s (LR.bindG hG h) fun F2 H2 m2 l vs e2 r2 rk ⟨m3, r3, h3⟩ => ?_
    obtain ⟨hl, h3⟩ := h3.ite
    obtain ⟨g1, g2, g3⟩ := r3.gg p _ upd_same
    refine ⟨g1, vs, rfl, by rw [rk.length]; exact hl, ?_⟩
    have r4 := (r3.less hG).side g2 g3 hG (.dK (mergeK [] vs))
    have ex := Ex.new (o := .dK (mergeK [] vs)) g2
    have r5 := r4.freeze (a := p) upd_same g2 hG
    rw [mdel_new g3] at r5
    exact h3.retE ex r5 _ (.dic upd_same ((RepK.merge rk .nil).mono ex))
theorem asD_of {β : Type} {v : V} {d : D} {k : List (Key × D) → C β} {P : Hp → Hp → β → Prop} (r : Rel K F m G H) (rv : Rep K F v d) (h : LR K F G ((asD d).bind k) m P W σ) :
    ∃ a vs l, v = .ref a ∧ Rd H a (.dK vs) ∧ RepK K F vs l ∧ LR K F G (k l) m P W σ := by
  cases d with
  | dic l =>
    cases rv with
    | dic h1 h2 => exact ⟨_, _, l, rfl, .inl (r.ex _ _ h1), h2, h⟩
  | ldc l =>
    cases rv with
    | ldc h1 h2 => exact ⟨_, _, l, rfl, .inr ⟨_, r.ex _ _ h1⟩, h2, h⟩
  | ref a =>
    cases rv
    obtain ⟨o, e, h2⟩ := LR.look (k := fun o => C.bind (match o with | .dic l => C.ret l | _ => C.stuck) k) h
    cases o with
    | dic l =>
      obtain ⟨⟨vs, h3, h4⟩, _⟩ := r.mm _ _ e
      exact ⟨a, vs, l, rfl, .inl h3, h4, h2⟩
    | _ => exact h2.elim
  | _ => exact h.elim
theorem je_dget {o i : Expr} {co ci : DE} {pos : Pos} (hu : X.A.units + 1 < cLine) (ho : JE X W o co) (hi : JE X W i ci) (hs : NoSl i := by exact fun _ _ => rfl) : JE X W (.Subscript o i pos) (eOp dGet co ci) :=
  (pe_dget hu ho hi hs).dimp fun σ H Q ⟨F, m, G, δ, r, s, h⟩ => ⟨F, m, G, δ, r, s, (LR.bind h).imp fun F1 H1 _ x e1 _ ⟨m1, r1, h1⟩ v rv => ⟨F1, m1, G, δ, r1, s.mono e1, (LR.bind h1).imp fun F2 H2 _ y e2 _ ⟨m2, r2, h2⟩ w rw => by
    obtain ⟨a, vs, l, rfl, h3, h4, h5⟩ := asD_of r2 (rv.mono e2) h2
    obtain ⟨k, e3, h5⟩ := h5.ofOb
    obtain ⟨d, e4, h5⟩ := h5.ofO
    have ev := keyD_of rw e3
    subst ev
    obtain ⟨u, e5, ru⟩ := h4.val e4
    exact ⟨a, u, rfl, by rw [← e5]; exact .inl ⟨_, _, h3, rfl, rfl⟩, h5.ret r2 _ ru⟩⟩⟩
end
end DL

namespace DL
open PySem PySem.Spec PyProof.Rows L2
/-- an instance: its class, its fields -/
def asI : D → C (Str × List (Str × D))
  | .obj c fs => C.ret (c, fs)
  | .ref a => C.look a fun o => match o with
    | .ins c fs => C.ret (c, fs)
    | _ => C.stuck
  | _ => C.stuck
def FldOk (K : PySem.W.Frag) (cs : List Str) (f : Str) : Prop := ∀ c ∈ cs, Cls K (He.ga K c) ∧ NoAttr K (He.ga K c) f
def eFld (cs : List Str) (f : Str) (e : DE) : DE := fun δ => (e δ).bind fun x => (asI x).bind fun i => if i.1 ∈ cs then ofO (i.2.lookup f) else C.stuck
def fldF (cs : List Str) (f : Str) (y : D) : MO → Option (D × MO)
  | .ins c fs => if c ∈ cs ∧ fs.length < 1000 then some (.non, .ins c (putD f y fs)) else none
  | _ => none
def dSetFld (cs : List Str) (f : Str) (x y : D) : C D := match x with
  | .ref a => C.upd a (fldF cs f y)
  | _ => C.stuck
def sSetFld (cs : List Str) (f : Str) (o e : DE) : CS := ⟨fun δ m K => ((e δ).bind fun y => (o δ).bind fun x => dSetFld cs f x y).run m (fun _ m' => K.nx δ m') (fun x m' => K.ex x δ m'), fun l h => C.mono _ (fun _ _ q => l.nx _ _ q) (fun _ _ q => l.ex _ _ _ q) h⟩
section
variable {K : PySem.W.Frag} {F G H : Hp} {m : Mem} {W : WX} {σ : L2.St}
theorem asI_of {β : Type} {v : V} {d : D} {k : Str × List (Str × D) → C β} {P : Hp → Hp → β → Prop} (r : Rel K F m G H) (rv : Rep K F v d) (h : LR K F G ((asI d).bind k) m P W σ) :
    ∃ a dx c fs vs, v = .ref a ∧ H a = some (.ins (He.ga K c) dx vs) ∧ RepF K F vs fs ∧ LR K F G (k (c, fs)) m P W σ := by
  cases d with
  | obj c fs =>
    cases rv with
    | obj h1 h2 => exact ⟨_, _, c, fs, _, rfl, r.ex _ _ h1, h2, h⟩
  | ref a =>
    cases rv
    have h2 : LR K F G (C.look a fun o => (match o with | .ins c fs => C.ret (c, fs) | _ => C.stuck : C (Str × List (Str × D))).bind k) m P W σ := by
      unfold LR at h ⊢
      have e : ((asI (.ref a)).bind k).run = (C.look a fun o => (match o with | .ins c fs => C.ret (c, fs) | _ => C.stuck : C (Str × List (Str × D))).bind k).run := by
        funext m Q E
        show (match m a with | some o => _ | none => False) = (match m a with | some o => _ | none => False)
        cases m a <;> rfl
      rw [e] at h
      exact h
    obtain ⟨o, e1, h3⟩ := LR.look h2
    cases o with
    | ins c fs =>
      obtain ⟨⟨dx, vs, q1, q2⟩, _⟩ := r.mm _ _ e1
      exact ⟨a, dx, c, fs, vs, rfl, q1, q2, h3⟩
    | lst l => exact h3.elim
    | dic l => exact h3.elim
  | _ => exact h.elim
theorem RepF.put {f : Str} {v : V} {d : D} (rv : Rep K F v d) : ∀ {vs : List (Str × V)} {ds : List (Str × D)}, RepF K F vs ds → RepF K F (putF f v vs) (putD f d ds)
  | _, _, .nil => .cons rv .nil
  | _, _, .cons (n := n) r t => by
    unfold putF putD
    by_cases h : n = f
    · rw [if_pos h, if_pos h]; exact .cons rv t
    · rw [if_neg h, if_neg h]; exact .cons r (RepF.put rv t)
end
section
variable {X : Cx} {W : WX} {o e : Expr} {co ce : DE} {f : Str} {cs : List Str} {pos pos' : Pos}
theorem je_fld (hf : FldOk X.K cs f) (he : JE X W e ce) (hb : attributeBase e f X.env (eval e X.env) = eval e X.env := by rfl) : JE X W (.Attribute e f pos) (eFld cs f ce) :=
  (pe_fld he hb).dimp fun σ H Q ⟨F, m, G, δ, r, s, h⟩ => ⟨F, m, G, δ, r, s, (LR.bind h).imp fun F1 H1 _ x e1 _ ⟨m1, r1, h1⟩ v rv => by
    obtain ⟨a, dx, c, fs, vs, rfl, q1, q2, h2⟩ := asI_of r1 rv h1
    obtain ⟨hc, h3⟩ := LR.ite h2
    obtain ⟨d, e2, h4⟩ := LR.ofO h3
    obtain ⟨u, e3, ru⟩ := q2.lookup e2
    exact ⟨a, _, dx, vs, u, rfl, q1, (hf c hc).1, (hf c hc).2, e3, h4.ret r1 _ ru⟩⟩
theorem js_fld (hf : FldOk X.K cs f) (he : JE X W e ce) (ho : JE X W o co) (hs : swapsWith e (some (.Attribute o f pos')) pos.line X.env = pure false := by rfl) : JS X W (.Assign [.Attribute o f pos'] e pos) (sSetFld cs f co ce) :=
  (ps_fld ho he hs).dimp fun E σ H ⟨F, m, G, δ, r, s, h⟩ => ⟨F, m, G, δ, r, s, by
    have h2 : LR X.K F G ((ce δ).bind fun y => (co δ).bind fun x => dSetFld cs f x y) m (fun F' H' _ => E.nx σ H') W σ := C.mono _ (fun _ m' q F' H' e r' => q F' H' σ e r' (s.mono e)) (fun x m' q => liftX_of s q) h
    exact (LR.bind h2).imp fun F1 H1 _ y e1 _ ⟨m1, r1, h3⟩ z rz => ⟨F1, m1, G, δ, r1, s.mono e1, (LR.bind h3).imp fun F2 H2 _ x e2 _ ⟨m2, r2, h4⟩ v rv => by
      cases x with
      | ref a =>
        cases rv
        obtain ⟨o, o', d, q1, q2, q3⟩ := LR.upd h4
        cases o with
        | lst l => cases q2
        | dic l => cases q2
        | ins c fs =>
          by_cases hc : c ∈ cs ∧ fs.length < 1000
          · have q7 : some (D.non, MO.ins c (putD f y fs)) = some (d, o') := (if_pos hc).symm.trans q2
            cases q7
            obtain ⟨⟨dx, vs, q4, q5⟩, q6⟩ := r2.mm _ _ q1
            exact ⟨a, _, dx, vs, rfl, q4, (hf c hc.1).1, (hf c hc.1).2, by rw [q5.length]; exact hc.2, q3 F2 _ (Ex.refl F2) (r2.put q6 (r2.gm q1) ⟨dx, _, upd_same, q5.put (rz.mono e2)⟩)⟩
          · have q7 : none = some (d, o') := (if_neg hc).symm.trans q2
            cases q7
      | _ => exact h4.elim⟩⟩
end

/-- the class c has the method m (dds: what its defaults give behind n values) -/
def HasM (P : Program) (w : World) (K : PySem.W.Frag) (mg : Str → Option Value) (base : Heap) (c mt : Str) (n k : Nat) (dds : List D) (fD : List D → C D) : Prop :=
  ∃ (f : Addr) (fd : FuncData) (ps : List Str) (dvs : List V) (dus : List Value), Cls K (He.ga K c) ∧ Meth K (He.ga K c) mt f ∧ FnOk P w K mg base (L2.CX P w) k f fd ps (spD K ps.length fD) ∧ Binds K fd ps dus ∧ Vals dvs dus ∧ (∀ F : Hp, Reps K F dvs dds) ∧ n + 1 + dds.length = ps.length
def eMeth (c mt : Str) (n : Nat) (dds : List D) (fD : List D → C D) (o : DE) (a : DA) : DE := fun δ => (o δ).bind fun x => (asI x).bind fun i => if i.1 = c ∧ i.2.lookup mt = none then ((a δ).bind fun l => if l.length = n then fD (x :: (l ++ dds)) else C.stuck) else C.stuck
section
variable {X : Cx} {W : WX} {k n : Nat} {dds : List D} {fD : List D → C D} {c mt : Str} {p pos apos : Pos} {o e : Expr} {es : List Expr} {co : DE} {ca : DA}
theorem je_methH {pl : Sem Bool} (h : HasM X.prog X.w X.K X.mg X.base c mt n k dds fD) (hr : Room k X.A) (tk : Takes X W) (ho : JE X W o co) (ha : JA X W (e :: es) ca)
    (hst : starEach (e :: es) X.env = (false, eval e X.env) :: starEach es X.env := by rfl) (hpl : (backTo pos (starEach es X.env)).any (·.1) = false := by rfl)
    (ht : eval (.Call (.Attribute o mt apos) (e :: es) [] pos) X.env = (do
      let ov ← eval o X.env
      standAt apos.atName
      let (f, first) ← holding [ov] (getMethod ov mt pl)
      callWith pos f first (backTo pos (starEach (e :: es) X.env)) (backToKw pos (keywordEach [] X.env))) := by rfl) :
    JE X W (.Call (.Attribute o mt apos) (e :: es) [] pos) (eMeth c mt n dds fD co ca) := by
  obtain ⟨f, fd, ps, dvs, dus, hC, hM, Fn, hb, hd, hdd, hn⟩ := h
  refine ⟨fun pins s σ H Q I ⟨F, m, G, δ, r, sr, h⟩ => ?_⟩
  have h2 : tE X.K W co σ H (fun x H1 => ∃ a dx fs, x = .ref a ∧ H1 a = some (.ins (He.ga X.K c) dx fs) ∧ fs.lookup mt = none ∧ tA X.K W ca σ H1 fun vs H2 => spD X.K ps.length fD (x :: (vs ++ dvs)) H2 Q (WE W σ)) :=
    ⟨F, m, G, δ, r, sr, (LR.bind h).imp fun F1 H1 _ x e1 _ ⟨m1, r1, h1⟩ v rv => by
      obtain ⟨a, dx, c', fs, vs, rfl, q1, q2, h2⟩ := asI_of r1 rv h1
      obtain ⟨⟨hc, hl⟩, h3⟩ := LR.ite h2
      have hc' : c' = c := hc
      subst hc'
      refine ⟨a, dx, vs, rfl, q1, q2.lookupN hl, F1, m1, G, δ, r1, sr.mono e1, (LR.bind h3).imp fun F2 H2 _ l e2 _ ⟨m2, r2, h4⟩ ws rw => ?_⟩
      obtain ⟨hl2, h5⟩ := LR.ite h4
      have rr : Reps X.K F2 (V.ref a :: (ws ++ dvs)) (x :: (l ++ dds)) := .cons (rv.mono e2) (rw.append (hdd F2))
      exact ⟨by rw [rr.length, List.length_cons, List.length_append, hl2, ← hn]; omega, F2, m2, G, _, r2, rr, h5⟩⟩
  refine PySem.W.methodCall_KW (pl := pl) (thn (PE.run ho pins s σ H _ I h2) fun u s1 ⟨x, H1, I1, rx, a, dx, fs, ex, ea, l, q⟩ => ?_) ht
  subst ex
  obtain rfl : u = Value.ref a := rx
  refine getmeth_ok I1 ea hC hM l ?_
  refine PySem.W.callWith_K (first := [.ref a]) (h₀ := X.base) I.ok.mod.kin hM.kp (thn (PA.run ha pos pins s1 σ H1 _ I1 q) fun us s2 ⟨vs, H2, I2, rv, q2⟩ => ⟨I2.kIn, ?_⟩) hst hpl
  exact run_fnSD (us := .ref a :: us) (vs := .ref a :: vs) Fn hr hb hd (passAt tk σ) I2 (.cons rfl rv) q2
theorem je_methH0 {pl : Sem Bool} (h : HasM X.prog X.w X.K X.mg X.base c mt 0 k dds fD) (hr : Room k X.A) (tk : Takes X W) (ho : JE X W o co)
    (ht : eval (.Call (.Attribute o mt apos) [] [] pos) X.env = (do
      let ov ← eval o X.env
      standAt apos.atName
      let (f, first) ← holding [ov] (getMethod ov mt pl)
      callWith pos f first (backTo pos (starEach [] X.env)) (backToKw pos (keywordEach [] X.env))) := by rfl) :
    JE X W (.Call (.Attribute o mt apos) [] [] pos) (eMeth c mt 0 dds fD co aNil) := by
  obtain ⟨f, fd, ps, dvs, dus, hC, hM, Fn, hb, hd, hdd, hn⟩ := h
  refine ⟨fun pins s σ H Q I ⟨F, m, G, δ, r, sr, h⟩ => ?_⟩
  have h2 : tE X.K W co σ H (fun x H1 => ∃ a dx fs, x = .ref a ∧ H1 a = some (.ins (He.ga X.K c) dx fs) ∧ fs.lookup mt = none ∧ spD X.K ps.length fD (x :: dvs) H1 Q (WE W σ)) :=
    ⟨F, m, G, δ, r, sr, (LR.bind h).imp fun F1 H1 _ x e1 _ ⟨m1, r1, h1⟩ v rv => by
      obtain ⟨a, dx, c', fs, vs, rfl, q1, q2, h2⟩ := asI_of r1 rv h1
      obtain ⟨⟨hc, hl⟩, h3⟩ := LR.ite h2
      have hc' : c' = c := hc
      subst hc'
      have rr : Reps X.K F1 (V.ref a :: dvs) (x :: dds) := .cons rv (hdd F1)
      exact ⟨a, dx, vs, rfl, q1, q2.lookupN hl, by rw [rr.length, List.length_cons, ← hn]; omega, F1, m1, G, _, r1, rr, h3⟩⟩
  refine PySem.W.methodCall_KW (pl := pl) (thn (PE.run ho pins s σ H _ I h2) fun u s1 ⟨x, H1, I1, rx, a, dx, fs, ex, ea, l, q⟩ => ?_) ht
  subst ex
  obtain rfl : u = Value.ref a := rx
  refine getmeth_ok I1 ea hC hM l ?_
  exact PySem.W.callWith_K0 (first := [.ref a]) I1.kIn hM.kp (run_fnSD (us := [.ref a]) (vs := [.ref a]) Fn hr hb hd (passAt tk σ) I1 (.cons rfl .nil) q)
end

def HasC (P : Program) (w : World) (K : PySem.W.Frag) (mg : Str → Option Value) (base : Heap) (c : Str) (n k : Nat) (dds : List D) (fD : List D → C D) : Prop :=
  ∃ (f : Addr) (fd : FuncData) (ps : List Str) (dvs : List V) (dus : List Value), mg c = some (.ref (He.ga K c)) ∧ Mk K (He.ga K c) f ∧ FnOk P w K mg base (L2.CX P w) k f fd ps (spD K ps.length fD) ∧ Binds K fd ps dus ∧ Vals dvs dus ∧ (∀ F : Hp, Reps K F dvs dds) ∧ n + 1 + dds.length = ps.length
def isNon : D → C Unit
  | .non => C.ret ()
  | _ => C.stuck
/-- a new instance, made by fD -/
def mkI (c : Str) (fD : List D → C D) (l : List D) : C D := (C.new (.ins c [])).bind fun x => (fD (x :: l)).bind fun r => (isNon r).bind fun _ => C.ret x
def eMake (c : Str) (n : Nat) (dds : List D) (fD : List D → C D) (a : DA) : DE := fun δ => (a δ).bind fun l => if l.length = n then mkI c fD (l ++ dds) else C.stuck
section
variable {X : Cx} {W : WX} {k n : Nat} {dds : List D} {fD : List D → C D} {c : Str} {p pos : Pos} {e : Expr} {es : List Expr} {ca : DA} {f : Addr} {fd : FuncData} {ps : List Str} {dvs : List V} {ds : List Value}
theorem made_back {X : Cx} {pins : List (Addr × Obj)} {σ : L2.St} {H : Hp} {s s' : Shared} {Q : VK} {E : XK} {x : Addr} (hx : PassesAt (L2.CX X.prog X.w) X σ E) (I : Inv X pins σ H s) : ∀ {r : Result}, CR (L2.CX X.prog X.w) X.stack X.prog X.w H s (fun v H2 => v = .non ∧ Q (.ref x) H2) E r s' →
    PySem.W.InitBack x (fun r s' => match r with | .ok (.ret v) => EP X pins σ Q v s' | .ok _ => False | .error e => X.xe e s') r s'
  | .error e, h => hx pins H s e s' I h
  | .ok (.ret _), h => let ⟨_, G, J, rv, e, q⟩ := I.after h; ⟨by subst e; exact rv, .ref x, G, J, rfl, q⟩
  | .ok .next, h => h.elim
  | .ok .brk, h => h.elim
  | .ok .cont, h => h.elim
theorem run_mk {X : Cx} {k : Nat} {f : Addr} {fd : FuncData} {ps : List Str} {pins : List (Addr × Obj)} {σ : L2.St} {H : Hp} {s : Shared} {Q : VK} {us : List Value} {kw : List (Str × Value)} {Cc : Addr} {sp : Sp} {E : XK} (M : Mk X.K Cc f) (Fn : FnOk X.prog X.w X.K X.mg X.base (L2.CX X.prog X.w) k f fd ps sp) (hr : Room (k + 1) X.A) (hx : PassesAt (L2.CX X.prog X.w) X σ E) (I : Inv X pins σ H s)
    (h : ∀ x dx, H x = none → H dx = none → dx ≠ x → ∃ bound vs, Vals vs bound ∧ (∀ s', X.K.In s'.heap → BindsTo s' fd ⟨.ref x :: us, kw⟩ (ps.zip bound)) ∧ sp vs (upd (upd H dx (.own x)) x (.ins Cc dx [])) (fun v H2 => v = .non ∧ Q (.ref x) H2) E) :
    wpAny (model X.prog X.w) X.A (call (.ref Cc) us kw) (EP X pins σ Q) X.xe s := by
  have new : ∀ b, s.heap.objs.size ≤ b → H b = none := fun _ le => I.hok.fresh le
  obtain ⟨bound, vs, rv, bind, q⟩ := h (s.heap.objs.size + 1) s.heap.objs.size (new _ (Nat.le_succ _)) (new _ (Nat.le_refl _)) (Nat.succ_ne_self _).symm
  have J : Inv X pins σ _ _ := I.made (C := Cc)
  have init := Fn.run _ X.stack _ _ _ bound vs _ E (hr.make Cc us kw) (J.env0.make Cc us kw) (bind _ J.kIn) rv q
  exact wpAny_call (make_map I.kIn M.makes M.init (beq_iff_eq.mp M.fn) (codeAny_mono init fun _ _ q => made_back hx J q))
theorem run_makeSD {X : Cx} {k : Nat} {f : Addr} {fd : FuncData} {ps : List Str} {dvs : List V} {ds : List Value} {pins : List (Addr × Obj)} {σ : L2.St} {H : Hp} {s : Shared} {Q : VK} {us : List Value} {vs : List V} {Cc : Addr} {sp : Sp} {E : XK} (M : Mk X.K Cc f) (Fn : FnOk X.prog X.w X.K X.mg X.base (L2.CX X.prog X.w) k f fd ps sp) (hr : Room (k + 1) X.A) (hb : Binds X.K fd ps ds) (hd : Vals dvs ds)
    (hx : PassesAt (L2.CX X.prog X.w) X σ E) (I : Inv X pins σ H s) (r : Vals vs us)
    (h : ∀ x dx, H x = none → H dx = none → dx ≠ x → sp (.ref x :: (vs ++ dvs)) (upd (upd H dx (.own x)) x (.ins Cc dx [])) (fun v H2 => v = .non ∧ Q (.ref x) H2) E) :
    wpAny (model X.prog X.w) X.A (call (.ref Cc) us) (EP X pins σ Q) X.xe s :=
  run_mk M Fn hr hx I fun x dx n1 n2 ne => by
    have q := h x dx n1 n2 ne
    have all : Vals (.ref x :: (vs ++ dvs)) (Value.ref x :: (us ++ ds)) := .cons rfl (r.append hd)
    exact ⟨_, _, all, fun s' lies => hb s' (.ref x :: us) lies (all.length.symm.trans (Fn.len _ _ _ _ q)), q⟩
theorem mkI_of {K : PySem.W.Frag} {F G H : Hp} {m : Mem} {σ : L2.St} {Q : VK} {l : List D} {vs : List V} {nn : Nat} (r : Rel K F m G H) (rv : Reps K F vs l) (hn : vs.length + 1 = nn) (h : LR K F G (mkI c fD l) m (fun F' H' d => ∀ v, Rep K F' v d → Q v H') W σ) :
    ∀ x dx, H x = none → H dx = none → dx ≠ x → spD K nn fD (.ref x :: vs) (upd (upd H dx (.own x)) x (.ins (He.ga K c) dx [])) (fun v H2 => v = .non ∧ Q (.ref x) H2) (WE W σ) := by
  intro x dx hx hdx ne
  obtain ⟨mx, Fx⟩ := r.fresh hx
  have r1 : Rel K F m G (upd H dx (.own x)) := r.newH hdx _
  have hx1 : (upd H dx (.own x)) x = none := by rw [upd_ne ne.symm]; exact hx
  have r2 : Rel K F (mset m x (.ins c [])) G (upd (upd H dx (.own x)) x (.ins (He.ga K c) dx [])) := r1.put Fx (r.freshG hx) ⟨dx, [], upd_same, .nil⟩
  refine ⟨by rw [List.length_cons]; exact hn, F, _, G, _, r2, .cons (.ref x) rv, ?_⟩
  have h1 : ((fD (.ref x :: l)).bind fun r => (isNon r).bind fun _ => C.ret (D.ref x)).run (mset m x (.ins c [])) (fun a m' => ∀ F' H', Ex F F' → Rel K F' m' G H' → ∀ v, Rep K F' v a → Q v H') (liftX K F G W σ) := h x mx
  refine C.mono _ (fun d m' q F' H' e r' v rv' => ?_) (fun _ _ q => q) h1
  cases d with
  | non => cases rv'; exact ⟨rfl, q F' H' e r' _ (.ref x)⟩
  | _ => exact q.elim
theorem je_makeH (h : HasC X.prog X.w X.K X.mg X.base c n k dds fD) (hr : Room (k + 1) X.A) (tk : Takes X W) (hg : Gl X c) (ha : JA X W (e :: es) ca)
    (hdb : (c == ("__debug__" : Str)) = false := by decide) (he : starEach (e :: es) X.env = (false, eval e X.env) :: starEach es X.env := by rfl) (hpl : (backTo pos (starEach es X.env)).any (·.1) = false := by rfl) :
    JE X W (.Call (.Name c p) (e :: es) [] pos) (eMake c n dds fD ca) := by
  obtain ⟨f, fd, ps, dvs, dus, hm, M, Fn, hb, hd, hdd, hn⟩ := h
  refine ⟨fun pins s σ H Q I ⟨F, m, G, δ, r, sr, h⟩ => ?_⟩
  refine wpAny_Call_Name_kw (ld_glob I hg hm ?_ hdb)
  have h2 : tA X.K W ca σ H (fun vs H1 => ∀ x dx, H1 x = none → H1 dx = none → dx ≠ x → spD X.K ps.length fD (.ref x :: (vs ++ dvs)) (upd (upd H1 dx (.own x)) x (.ins (He.ga X.K c) dx [])) (fun v H2 => v = .non ∧ Q (.ref x) H2) (WE W σ)) :=
    ⟨F, m, G, δ, r, sr, (LR.bind h).imp fun F1 H1 _ l e1 _ ⟨m1, r1, h1⟩ vs rv => by
      obtain ⟨hl, h3⟩ := LR.ite h1
      have rr := rv.append (hdd F1)
      exact mkI_of r1 rr (by rw [rr.length, List.length_append, hl, ← hn]; omega) h3⟩
  refine PySem.W.callWith_K (h₀ := X.base) I.ok.mod.kin M.kp (thn (PA.run ha pos pins s σ H _ I h2) fun us s1 ⟨vs, H1, I1, rv, q⟩ => ⟨I1.kIn, ?_⟩) he hpl
  exact run_makeSD M Fn hr hb hd (passAt tk σ) I1 rv q
end
end DL

namespace DL
open PySem PySem.Spec PyProof.Rows L2
section
variable {K : PySem.W.Frag} {x qual : Str} {params : Arguments} {body : List Stmt} {scope : Scope} {kws : List (Str × V)} {f : Addr} {fd : FuncData} {ps : List Str}
/-- keywords ks are written, the keyword-only ms lack; no other defaults -/
abbrev KeepsPairs (g : {α : Type} → List α → List α → List α → List α) : Prop := ∀ {as bs cs : List V} {ps qs rs : List Value}, Vals as ps → Vals bs qs → Vals cs rs → Vals (g as bs cs) (g ps qs rs)
theorem kbinds0 {K : PySem.W.Frag} {x qual : Str} {params : Arguments} {body : List Stmt} {scope : Scope} {kws : List (Str × V)} {f : Addr} {fd : FuncData} {ps : List Str} (F : FunD K x qual params body scope [] kws f fd) (n : Nat) (ks : List Str) (ms : List (Str × V)) (g : {α : Type} → List α → List α → List α → List α) (hk : kws ≠ []) (hms : ∀ q ∈ ms, q ∈ kws) (hrel : KeepsPairs g)
    (h : ∀ D doc pm an cdv ct (us mv ws : List Value), us.length = n → mv.length = ms.length → ws.length = ks.length → KwChain D ((ms.map (·.1)).zip mv) (bindArgs (PySem.W.fnOf x qual params body scope .none (.ref D) doc pm an cdv ct) ⟨us, ks.zip ws⟩) (ps.zip (g us mv ws))) :
    ∃ mv : List Value, KBn K fd ps n ks (fun us ws => g us mv ws) (fun vs zs => g vs (ms.map (·.2)) zs) := by
  obtain ⟨_, _, _, _, doc, pm, an, cdv, ct, _, rfl, _, _, noDefaults, inDict⟩ := F.ex
  obtain rfl := (noDefaults.resolve_right fun z => z.1 rfl).2
  obtain ⟨D, rfl, kept⟩ := inDict.resolve_left hk
  have ⟨mv, len, rel, read⟩ := kwd_vals (K := K) (D := D) fun q m => kept q (hms q m)
  have bind : ∀ (s : Shared) (us ws : List Value), K.In s.heap → us.length = n → ws.length = ks.length → BindsTo s _ ⟨us, ks.zip ws⟩ (ps.zip (g us mv ws)) := fun s us ws lies l1 l2 =>
    BindsTo.of_looks fun _ => KwChain.looks lies read (h D doc pm an cdv ct us mv ws l1 len l2)
  exact ⟨mv, bind, fun written given => hrel written rel given⟩
end
/-- called with n values and the keywords ks; gD puts them and the defaults in order -/
def HasG (P : Program) (w : World) (K : PySem.W.Frag) (mg : Str → Option Value) (base : Heap) (x : Str) (n : Nat) (ks : List Str) (k : Nat) (gD : List D → List D → List D) (fD : List D → C D) : Prop :=
  ∃ (f : Addr) (fd : FuncData) (ps : List Str) (g : List Value → List Value → List Value) (gV : List V → List V → List V), mg x = some (.ref f) ∧ FnOk P w K mg base (L2.CX P w) k f fd ps (spD K ps.length fD) ∧ PySem.W.keepIn K (.ref f) = true ∧ KBn K fd ps n ks g gV ∧
    (∀ (F : Hp) (vs zs : List V) (ds es : List D), Reps K F vs ds → Reps K F zs es → Reps K F (gV vs zs) (gD ds es)) ∧ (∀ ds es : List D, ds.length = n → es.length = ks.length → (gD ds es).length = ps.length)
def eCallG (n m : Nat) (gD : List D → List D → List D) (fD : List D → C D) (a b : DA) : DE := fun δ => (a δ).bind fun l => (b δ).bind fun k => if l.length = n ∧ k.length = m then fD (gD l k) else C.stuck
section
variable {X : Cx} {W : WX} {k n : Nat} {gD : List D → List D → List D} {fD : List D → C D} {x : Str} {p pos : Pos} {e : Expr} {es : List Expr} {ca ck : DA}
theorem je_callG {ks : List Str} {kws : List Keyword} (h : HasG X.prog X.w X.K X.mg X.base x n ks k gD fD) (hr : Room k X.A) (tk : Takes X W) (hg : Gl X x) (ha : JA X W (e :: es) ca) (hkw : JK X W kws ck)
    (hall : (backToKw pos (keywordEach kws X.env)).all (·.1.isSome) = true := by rfl) (hks : (backToKw pos (keywordEach kws X.env)).filterMap (·.1) = ks := by rfl)
    (hdb : (x == ("__debug__" : Str)) = false := by decide) (he : starEach (e :: es) X.env = (false, eval e X.env) :: starEach es X.env := by rfl)
    (hpl : ((backTo pos (starEach (e :: es) X.env)).any (·.1) || (backToKw pos (keywordEach kws X.env)).any (·.1.isNone)) = false := by rfl) :
    JE X W (.Call (.Name x p) (e :: es) kws pos) (eCallG n ks.length gD fD ca ck) := by
  obtain ⟨f, fd, ps, g, gV, hm, Fn, kp, hb, hR, hl0⟩ := h
  refine ⟨fun pins s σ H Q I ⟨F, m, G, δ, r, sr, h⟩ => ?_⟩
  refine wpAny_Call_Name_kw (ld_glob I hg hm ?_ hdb)
  have h2 : tA X.K W ca σ H (fun vs H1 => tA X.K W ck σ H1 fun zs H2 => vs.length = n ∧ zs.length = ks.length ∧ spD X.K ps.length fD (gV vs zs) H2 Q (WE W σ)) :=
    ⟨F, m, G, δ, r, sr, (LR.bind h).imp fun F1 H1 _ l e1 _ ⟨m1, r1, h1⟩ vs rv => ⟨F1, m1, G, δ, r1, sr.mono e1, (LR.bind h1).imp fun F2 H2 _ z e2 _ ⟨m2, r2, h2⟩ zs rz => by
      obtain ⟨hl, h2⟩ := LR.ite h2
      have rr := hR F2 _ _ _ _ (rv.mono e2) rz
      exact ⟨by rw [rv.length]; exact hl.1, by rw [rz.length]; exact hl.2, by rw [rr.length]; exact hl0 _ _ hl.1 hl.2, F2, m2, G, gD l z, r2, rr, h2⟩⟩⟩
  refine PySem.W.callWith_KW (h₀ := X.base) I.ok.mod.kin kp hall (thn (PA.run ha pos pins s σ H _ I h2) fun us s1 ⟨vs, H1, I1, rv, q⟩ => ?_) hpl he
  refine thn (PK.run hkw pos pins s1 σ H1 _ I1 q) fun ws s2 ⟨zs, H2, I2, rz, l1, l2, q2⟩ => ⟨I2.kIn, ?_⟩
  rw [hks]
  have r2 := hb.rel rv rz
  refine wpAny_call (codeAny_mono (Fn.run X.A X.stack s2 H2 ⟨us, ks.zip ws⟩ (g us ws) (gV vs zs) Q (WE W σ) hr I2.env0 (hb.to s2 us ws I2.kIn (rv.length.symm.trans l1) (rz.length.symm.trans l2)) r2 q2) fun r s' hq => ?_)
  cases r with
  | error e => exact passAt tk σ pins H2 s2 e s' I2 hq
  | ok fl =>
    cases fl with
    | ret u => exact I2.after hq
    | next => exact hq.elim
    | brk => exact hq.elim
    | cont => exact hq.elim
end
theorem FldOk.nil {K : PySem.W.Frag} {f : Str} : FldOk K [] f := fun _ h => nomatch h
theorem FldOk.cons {K : PySem.W.Frag} {f c : Str} {cs : List Str} (h1 : Cls K (He.ga K c)) (h2 : NoAttr K (He.ga K c) f) (h : FldOk K cs f) : FldOk K (c :: cs) f := fun x hx => by
  rcases List.mem_cons.mp hx with rfl | hx
  · exact ⟨h1, h2⟩
  · exact h x hx
end DL

namespace DL
open PySem PySem.Spec PyProof.Rows L2
def dListRg : D → C D
  | .int n => if 0 ≤ n ∧ n ≤ 1000000 then C.ret (.lst (rng 0 n)) else C.stuck
  | _ => C.stuck
def dTupRg : D → C D
  | .int n => if 0 ≤ n ∧ n ≤ 1000000 then C.ret (.tup (rng 0 n)) else C.stuck
  | _ => C.stuck
theorem rg_reps {K : PySem.W.Frag} {F : Hp} {a b : Int} : Reps K F (rgV a b) (rng a b) := by
  unfold rgV rng
  generalize List.range (b - a).toNat = l
  induction l with
  | nil => exact .nil
  | cons i r ih => exact .cons (.int _) ih
section
variable {X : Cx} {W : WX} {e : Expr} {ce : DE} {p pos p2 pos2 : Pos}
theorem je_listRg (hc : X.calm = true) (hg : Gl X "list") (hm : X.mg "list" = none) (hg2 : Gl X "range") (hm2 : X.mg "range" = none) (he : JE X W e ce) (na : starEach [e] X.env = (false, eval e X.env) :: starEach [] X.env := by rfl)
    (nb : starEach [.Call (.Name "range" p2) [e] [] pos2] X.env = (false, eval (.Call (.Name "range" p2) [e] [] pos2) X.env) :: starEach [] X.env := by rfl) : JE X W (.Call (.Name "list" p) [.Call (.Name "range" p2) [e] [] pos2] [] pos) (eUn dListRg ce) :=
  (pe_listRg hc hg hm (prg_1 hg2 hm2 he na) nb).dimp fun σ H Q ⟨F, m, G, δ, r, s, h⟩ => ⟨F, m, G, δ, r, s, (LR.bind h).imp fun F1 H1 _ x e1 _ ⟨m1, r1, h1⟩ v rv => by
    cases x with
    | int n =>
      cases rv
      obtain ⟨hn, h2⟩ := LR.ite h1
      refine ⟨n, rfl, RgOk.of_le (Int.le_refl 0) (by omega) (by omega) hn.1, fun q hq => ?_⟩
      exact h2.retE (Ex.new (r1.fresh hq).2) (r1.newF hq _) _ (.lst upd_same (rg_reps))
    | _ => exact h1.elim⟩
theorem je_tupRg (hc : X.calm = true) (hg : Gl X "tuple") (hm : X.mg "tuple" = none) (hg2 : Gl X "range") (hm2 : X.mg "range" = none) (he : JE X W e ce) (na : starEach [e] X.env = (false, eval e X.env) :: starEach [] X.env := by rfl)
    (nb : starEach [.Call (.Name "range" p2) [e] [] pos2] X.env = (false, eval (.Call (.Name "range" p2) [e] [] pos2) X.env) :: starEach [] X.env := by rfl) : JE X W (.Call (.Name "tuple" p) [.Call (.Name "range" p2) [e] [] pos2] [] pos) (eUn dTupRg ce) :=
  (pe_tupRg hc hg hm (prg_1 hg2 hm2 he na) nb).dimp fun σ H Q ⟨F, m, G, δ, r, s, h⟩ => ⟨F, m, G, δ, r, s, (LR.bind h).imp fun F1 H1 _ x e1 _ ⟨m1, r1, h1⟩ v rv => by
    cases x with
    | int n =>
      cases rv
      obtain ⟨hn, h2⟩ := LR.ite h1
      refine ⟨n, rfl, RgOk.of_le (Int.le_refl 0) (by omega) (by omega) hn.1, fun q hq => ?_⟩
      exact h2.retE (Ex.new (r1.fresh hq).2) (r1.newF hq _) _ (.tup (SqT.of upd_same) (rg_reps))
    | _ => exact h1.elim⟩
end
end DL

namespace DL
open PySem PySem.Spec PyProof.Rows L2
/-- min(list of whole numbers) -/
def minI : List Int → Option Int
  | [] => none
  | x :: r => match minI r with
    | none => some x
    | some y => some (if y < x then y else x)
theorem minI_some : ∀ {l : List Int} {m : Int}, minI l = some m → m ∈ l ∧ ∀ y ∈ l, m ≤ y
  | [], _, h => by cases h
  | x :: r, m, h => by
    unfold minI at h
    cases e : minI r with
    | none =>
      rw [e] at h
      have h2 : x = m := Option.some.inj h
      cases r with
      | nil => subst h2; exact ⟨.head _, fun y hy => by rw [List.mem_singleton.mp hy]; exact Int.le_refl _⟩
      | cons a b =>
        unfold minI at e
        cases q : minI b <;> rw [q] at e <;> cases e
    | some y =>
      rw [e] at h
      have h2 : (if y < x then y else x) = m := Option.some.inj h
      obtain ⟨h3, h4⟩ := minI_some e
      by_cases z : y < x
      · rw [if_pos z] at h2
        subst h2
        exact ⟨.tail _ h3, fun w hw => by
          rcases List.mem_cons.mp hw with rfl | hw
          · omega
          · exact h4 w hw⟩
      · rw [if_neg z] at h2
        subst h2
        exact ⟨.head _, fun w hw => by
          rcases List.mem_cons.mp hw with rfl | hw
          · omega
          · have := h4 w hw; omega⟩
def dMinL : List D → C D
  | [x] => (asL x).bind fun l => (ofO (allInt l)).bind fun ns => (ofO (minI ns)).bind fun i => C.ret (.int i)
  | _ => C.stuck
theorem cd_minL {X : Cx} {W : WX} : CallD X W dMinL (rMin X.K) := by
  intro F m G H σ xs vs Q r rv h
  unfold dMinL at h
  split at h
  · obtain ⟨v, rfl, rd⟩ := reps1 rv
    obtain ⟨a, vs, l, rfl, h1, h2, h⟩ := asL_of r rd h
    obtain ⟨ns, e, h⟩ := h.ofOb
    obtain ⟨i, e2, h⟩ := h.ofOb
    obtain ⟨g1, g2⟩ := minI_some e2
    rw [ints_reps h2 e] at h1
    refine ⟨a, ns, rfl, SqL.of h1, List.length_pos_of_mem g1, fun k k1 k2 => ?_⟩
    have : k = i := Int.le_antisymm (k2 i g1) (g2 k k1)
    subst this
    exact h.ret r _ (.int _)
  · exact h.elim
/-- xs.clear() -/
def clrF : MO → Option (D × MO)
  | .lst _ => some (.non, .lst [])
  | _ => none
def dClear (x : D) : C D := match x with
  | .ref a => C.upd a clrF
  | _ => C.stuck
def eClr (o : DE) : DE := fun δ => (o δ).bind fun x => (asL x).bind fun _ => dClear x
theorem je_clear {X : Cx} {W : WX} {o : Expr} {co : DE} {apos cpos : Pos} (ho : JE X W o co) (hbase : attributeBase o "clear" X.env (eval o X.env) = eval o X.env := by rfl) (hline : (apos.endLine == cpos.line) = true := by rfl) :
    JE X W (.Call (.Attribute o "clear" apos) [] [] cpos) (eClr co) :=
  (pe_bm0 PySem.F.plainAttrs_list PySem.F.slot_list_clear PySem.F.type_list_clear mt_clear ho hbase hline).dimp fun σ H Q ⟨F, m, G, δ, r, s, h⟩ =>
    ⟨F, m, G, δ, r, s, (LR.bind h).imp fun F1 H1 _ x e1 _ ⟨m1, r1, h1⟩ v rv => by
      obtain ⟨a, vs, l, rfl, h2, h3, h4⟩ := asL_of r1 rv h1
      refine ⟨Or.inl ⟨rfl, vs, SqL.of h2⟩, ?_⟩
      cases x with
      | ref b =>
        cases rv
        obtain ⟨o, o', d, q1, q2, q3⟩ := LR.upd h4
        cases o with
        | ins c fs => cases q2
        | dic l => cases q2
        | lst k =>
          obtain ⟨⟨ws, q4, q5⟩, q6⟩ := r1.mm _ _ q1
          cases q2
          exact ⟨a, ws, rfl, rfl, q4, q3 F1 _ (Ex.refl F1) (r1.putL q6 (r1.gm q1) .nil) _ .non⟩
      | _ => exact h4.elim⟩
end DL

namespace DL
open PySem PySem.Spec PyProof.Rows L2
theorem meets_enum1 {v : Value} {o : Obj} {H : Heap → Prop} (B : Begins v o H) :
    Meets (Builtin.«enumerate.__new__» ⟨[.type "enumerate", v], []⟩) (fun _ R s => H s.heap ∧
      R (.ok (.ret (.ref (s.heap.push o).objs.size))) { s with heap := (s.heap.push o).push { cls := .type "enumerate", data := .fields #[.none, .bool false, .ref s.heap.objs.size, rawInt 0, .none, .none] } }) := by
  refine .of_wp ?_
  rintro prog w A R ⟨heap, gens, drawn, toks, os⟩ ⟨there, out⟩
  have itself := sub_enumerate
  have begun : ∀ {A' : Around} {E Q : Value → Shared → Prop}, Q (.ref heap.objs.size) ⟨heap.push o, gens, drawn, toks, os⟩ → wpAny (model prog w) A' (pyIter v) Q E ⟨heap, gens, drawn, toks, os⟩ := B.iter _ _ _ _ _ _ there
  wp_walk using begun
  -- whether the call came through the type is asked of the stack; both ways bind alike
  repeat refine wpAny_stack_any fun _ => wpAny_pure ?_
  split
  · rename_i c _ _ _ _ _
    cases (c == Value.type "enumerate") <;> (wp_walk using begun; exact ⟨_, rfl, out⟩)
  · wp_walk using begun
    exact ⟨_, rfl, out⟩
theorem call_enum1 {prog : Program} {w : World} {A : Around} {E : Value → Shared → Prop} {s : Shared} {v : Value} {o : Obj} {H : Heap → Prop} {Q : Value → Shared → Prop} (B : Begins v o H) (h1 : H s.heap)
    (h : ∀ h', IsEnum h' (s.heap.objs.size + 1) s.heap.objs.size 0 .none → h'.get? s.heap.objs.size = some o → h'.objs.size = s.heap.objs.size + 2 →
      (∀ b o, s.heap.get? b = some o → h'.get? b = some o) → Q (.ref (s.heap.objs.size + 1)) { s with heap := h' }) :
    wpAny (model prog w) A (call (.type "enumerate") [v]) Q E s := by
  refine callType_new F.called_enumerate (by decide) (F.typeCall_enumerate_1 _) (F.newCall_enumerate_1 _) (fun obj => F.args_object_init_2 obj _) F.entry_enumerate_new
    (meets_enum1 B) ⟨h1, ?_⟩
  have hz : (s.heap.push o).objs.size = s.heap.objs.size + 1 := Heap.size_push ..
  show _ ∧ _
  rw [hz]
  have he : IsEnum ((s.heap.push o).push { cls := .type "enumerate", data := .fields #[.none, .bool false, .ref s.heap.objs.size, rawInt 0, .none, .none] }) (s.heap.objs.size + 1) s.heap.objs.size 0 .none := by
    have := Heap.get?_push_size (s.heap.push o) (o := { cls := .type "enumerate", data := .fields #[.none, .bool false, .ref s.heap.objs.size, rawInt 0, .none, .none] }) rfl
    rw [hz] at this; exact this
  exact ⟨⟨_, he, rfl⟩, h _ he (Heap.get?_push_of_some _ (Heap.get?_push_size _ B.free)) (by rw [Heap.size_push, hz]) fun b o x => Heap.get?_push_of_some _ (Heap.get?_push_of_some _ x)⟩
/-- the tuple at a, each item in a new pair -/
def IteT (K : PySem.W.Frag) (a : Addr) : It :=
  ⟨fun i H => ∃ (xs : List V) (x : V), SqT K H a xs ∧ xs[i]? = some x, fun i H v H' => ∃ T x, v = .ref T ∧ H T = none ∧ H' = upd H T (.tup [.int (i : Nat), x]) ∧ ∀ xs, SqT K H a xs → xs[i]? = some x, fun i H => ∃ xs : List V, SqT K H a xs ∧ xs.length = i⟩
theorem cls_ne {h : Heap} {a b : Addr} {o o' : Obj} {m n : String} (h1 : h.get? a = some o) (h2 : h.get? b = some o') (c1 : o.cls = .type m) (c2 : o'.cls = .type n) (ne : m ≠ n) : a ≠ b := fun z => by
  rw [z, h2] at h1
  cases h1
  rw [c2] at c1
  injection c1 with c1
  exact ne c1.symm
structure EnTup (a e it : Addr) (i : Nat) (h : Heap) : Prop where
  en : ∃ old, IsEnum h e it (i : Int) old
  ti : h.IsTupleIter it a i
theorem EnTup.below {a e it : Addr} {i : Nat} {h : Heap} (x : EnTup a e it i h) : e < h.objs.size ∧ it < h.objs.size :=
  let ⟨⟨_, he⟩, _, hi, _⟩ := x
  ⟨Heap.lt_size he, Heap.lt_size hi⟩
theorem EnTup.apart {a e it : Addr} {i : Nat} {h : Heap} (x : EnTup a e it i h) : e ≠ it := by
  obtain ⟨⟨_, he⟩, _, hi, c, _⟩ := x
  exact cls_ne he hi rfl c (by decide)
theorem EnTup.draws {prog : Program} {w : World} {A : Around} {a e it : Addr} {i : Nat} {h : Heap} {items : Array Value} (x : EnTup a e it i h) (t : h.IsTuple a items) (hh : A.handled = none) : Draws prog w A it [it, a] items.size (fun i v => items[i]? = some v) fun i h => h.IsTupleIter it a i ∧ h.IsTuple a items :=
  let ⟨_, hi, ci, _⟩ := x.ti
  let ⟨_, ha, ca, _⟩ := t
  Draws.tuple hh it a (cls_ne ha hi ca ci (by decide)) items
theorem EnTup.foreign {a e it : Addr} {i : Nat} {h : Heap} {items : Array Value} (x : EnTup a e it i h) (t : h.IsTuple a items) : e ∉ [it, a] := by
  obtain ⟨⟨_, he⟩, _⟩ := id x
  obtain ⟨_, ha, ca, _⟩ := t
  have other : e ≠ a := cls_ne he ha rfl ca (by decide)
  simp [x.apart, other]
theorem EnTup.yields {prog : Program} {w : World} {A : Around} {s : Shared} {E : Value → Shared → Prop} {a e it : Addr} {i : Nat} {items : Array Value} (x : EnTup a e it i s.heap) (t : s.heap.IsTuple a items) (hh : A.in1.handled = none) {u : Value} (hu : items[i]? = some u) {elts : List Expr} {kk : Nat} {tpos : Pos} {Q : Shared → Prop}
    (q : ∀ h n, EnTup a e it (i + 1) h → h.get? s.heap.objs.size = some { cls := .type "tuple", data := .seq #[.int i n, u] } → (∀ b o, b ≠ e → b ≠ it → s.heap.get? b = some o → h.get? b = some o) → Q { s with heap := h, toks := n + 1 }) :
    wpAny (model prog w) A (pyNext (.ref e)) (fun r s1 => ∃ y, r = some y ∧ y = .ref s.heap.objs.size ∧ wpAny (model prog w) A (letOwnedTupleGo (.Tuple elts kk tpos) (.ref e) y) (fun _ => Q) E s1) E s := by
  obtain ⟨⟨_, he⟩, hi⟩ := id x
  have lt : i < items.size := (Array.getElem?_eq_some_iff.mp hu).1
  refine wpAny_pyNext_enum_itemC (c := i) (x.draws t hh) he ⟨hi, t⟩ lt x.apart (x.foreign t) fun y h n hy out st mk _ old => ⟨_, rfl, rfl, ?_⟩
  cases hy.symm.trans hu
  refine wpAny_letOwnedTupleGo_enum (s := { s with heap := h, toks := n + 1 }) out fun h2 he2 but => ?_
  have stay : ∀ {b : Addr} {o : Obj}, b ≠ e → h.get? b = some o → h2.get? b = some o := fun ne g => (but.2 _ ne).trans g
  exact q h2 n ⟨⟨_, he2⟩, st.1.at fun _ g => stay (Ne.symm x.apart) g⟩ (stay (Nat.ne_of_gt x.below.1) mk) fun b o n1 n2 g => stay n1 (old b o n1 n2 g)
theorem EnTup.ends {prog : Program} {w : World} {A : Around} {s : Shared} {E : Value → Shared → Prop} {a e it : Addr} {i : Nat} {items : Array Value} (x : EnTup a e it i s.heap) (t : s.heap.IsTuple a items) (hh : A.in1.handled = none) (hl : items.size = i) {Q : Shared → Prop} (q : ∀ h, (∀ b o, b ≠ it → s.heap.get? b = some o → h.get? b = some o) → Q { s with heap := h }) :
    wpAny (model prog w) A (pyNext (.ref e)) (fun r s1 => r = none ∧ Q s1) E s :=
  let ⟨_, he⟩ := x.en
  wpAny_pyNext_enum_endD (x.draws t hh) he ⟨hl ▸ x.ti, t⟩ fun h but => ⟨rfl, q h fun b o ne g => but b o ne g⟩
theorem turn_enumT {P : Program} {w : World} {K : PySem.W.Frag} {elts : List Expr} {kk : Nat} {tpos : Pos} (a e it : Addr) : Turn P w K (.Tuple elts kk tpos) (IteT K a) [e, it] e (EnTup a e it) where
  mem := List.mem_cons_self ..
  obj i h x b m := by
    obtain ⟨⟨_, he⟩, _, hi, _, hd⟩ := x
    rcases List.mem_cons.mp m with rfl | m
    · exact ⟨_, he, nofun⟩
    · cases List.mem_singleton.mp m
      exact ⟨_, hi, fun _ q => by rw [hd] at q; cases q⟩
  keep i h h' x k := ⟨let ⟨_, he⟩ := x.en; ⟨_, k e (by simp) _ he⟩, x.ti.at fun _ g => k it (by simp) _ g⟩
  item := by
    rintro X rfl rfl rfl calm i pins s σ H E I away x ⟨xs, v, at_, hv⟩
    obtain ⟨us, rv, tup, _⟩ := I.tuple at_
    obtain ⟨u, hu, ru⟩ := rv.get hv
    have two : (2 : Nat) ≤ sizeLine := by decide
    have tell := x.yields (prog := X.prog) (w := X.w) (E := E) (elts := elts) (kk := kk) (tpos := tpos) tup (I.ok.hd calm) (u := u) (by simpa using hu)
      (Q := fun s2 => ∃ y H', Inv X pins σ H' s2 ∧ RelV y (.ref s.heap.objs.size) ∧ (IteT X.K a).yld i H y H' ∧ EnTup a e it (i + 1) s2.heap ∧ ∀ b ∈ [e, it], H' b = none) fun h n x' mk old => by
        have pair : ObjOk X.prog X.w (upd H s.heap.objs.size (.tup [.int (i : Nat), v])) h s.heap.objs.size (.tup [.int (i : Nat), v]) := ⟨two, [.int i n, u], .cons ⟨n, rfl⟩ (.cons ru .nil), _, mk, rfl, _, rfl⟩
        refine ⟨.ref s.heap.objs.size, _, I.turnedNew (ch := [e, it]) (fun b o out g => old b o (fun z => out (by simp [z])) (fun z => out (by simp [z])) g) away (Nat.le_refl _) pair, rfl, ⟨_, v, rfl, I.hok.fresh (Nat.le_refl _), rfl, fun ys hy => by rw [I.tuple_inj hy at_]; exact hv⟩, x', fun b m => ?_⟩
        have lt : b < s.heap.objs.size := (List.mem_cons.mp m).elim (fun z => z ▸ x.below.1) fun m => List.mem_singleton.mp m ▸ x.below.2
        exact (upd_ne (Nat.ne_of_lt lt)).trans (away b m).1
    exact wpAny_mono tell (fun _ _ ⟨y, e1, e2, r⟩ => ⟨y, e1, e2 ▸ r⟩) fun _ _ q => q
  done := by
    rintro X rfl rfl rfl calm i pins s σ H E I away x ⟨xs, at_, len⟩
    obtain ⟨us, rv, tup, _⟩ := I.tuple at_
    obtain ⟨free, f1, _, f2, f3, f4⟩ := away it (by simp)
    exact x.ends tup (I.ok.hd calm) (by rw [List.size_toArray, ← rv.length, len]) fun h old => I.turned (t' := s.toks) old free f1 f2 f3 f4
  self _ _ _ _ _ x q := let ⟨_, he⟩ := x.en; wpAny_pyIter_enum he q
def iEnumS (K : PySem.W.Frag) (ta : TA) : TI := fun σ H R => ta σ H fun vs H1 => ∃ a xs, vs = [.ref a] ∧ ((SqL K H1 a xs ∧ R (Ite K a) H1) ∨ (SqT K H1 a xs ∧ R (IteT K a) H1))
theorem pi_enumS {X : Cx} {e : Expr} {ta : TA} {p pos tpos : Pos} {elts : List Expr} {kk : Nat} (hg : Gl X "enumerate") (hm : X.mg "enumerate" = none) (ha : PA X [e] ta) (hs : starEach [e] X.env = [(false, eval e X.env)] := by rfl) :
    PI X (.Tuple elts kk tpos) (.Call (.Name "enumerate" p) [e] [] pos) (iEnumS X.K ta) where
  run pins s σ H R I h := by
    have made : ∀ {s1 : Shared} {H1 : Hp} {h' : Heap}, Inv X pins σ H1 s1 → (∀ b o, s1.heap.get? b = some o → h'.get? b = some o) →
        Inv X pins σ H1 { s1 with heap := h' } ∧ ∀ b ∈ [s1.heap.objs.size + 1, s1.heap.objs.size], FpOk X pins H1 b := fun {s1 H1 h'} I1 old => by
      refine ⟨I1.kept (t' := s1.toks) old, fun b m => ?_⟩
      have le : s1.heap.objs.size ≤ b := by simp at m; omega
      exact I1.fpOk le (I1.hok.fresh le)
    refine Call_ (ld_blt I hg hm boot_enumerate (PyProof.Rows.callWith_type1 (thn (ha.run pos pins s σ H _ I h) ?_) hs rfl))
    rintro us s1 ⟨vs, H1, I1, rv, a, xs, rfl, way⟩
    cases rv with | cons ra rest =>
    cases rest
    cases ra
    cases way with
    | inl l =>
      obtain ⟨its, _, at_, _⟩ := I1.list l.1
      refine call_enumerate_list at_.isList fun h' he hi _ old => wpAny_pyIter_enum he ?_
      exact ⟨_, _, _, _, H1, rfl, (made I1 old).1, turn_enum a (s1.heap.objs.size + 1) s1.heap.objs.size, ⟨⟨_, he⟩, hi, Nat.succ_ne_self _⟩, (made I1 old).2, l.2⟩
    | inr t =>
      obtain ⟨its, _, at_, _⟩ := I1.tuple t.1
      refine call_enum1 (begins_tuple a its.toArray) at_ fun h' he hi _ old => wpAny_pyIter_enum he ?_
      exact ⟨_, _, _, _, H1, rfl, (made I1 old).1, turn_enumT a (s1.heap.objs.size + 1) s1.heap.objs.size, ⟨⟨_, he⟩, ⟨_, hi, rfl, rfl⟩⟩, (made I1 old).2, t.2⟩
section
variable {X : Cx} {W : WX} {K : PySem.W.Frag}
def enumJ : List D → C (List D × Option Addr)
  | [.lst l] => C.ret (enumD l, none)
  | [.tup l] => C.ret (enumD l, none)
  | _ => C.stuck
theorem iteT_ok {F : Hp} {a : Addr} {vs : List V} {l : List D} (h : ∀ {F' : Hp} {m : Mem} {G H : Hp}, Ex F F' → Rel K F' m G H → SqT K H a vs) (r : Reps K F vs l) : ItOk K F (IteT K a) (enumD l) none where
  go := fun i F' m G H hi e rl _ => by
    rw [enumD_length] at hi
    obtain ⟨v, e1⟩ : ∃ v, vs[i]? = some v := ⟨vs[i]'(by rw [r.length]; exact hi), List.getElem?_eq_getElem _⟩
    exact ⟨vs, v, h e rl, e1⟩
  yld := fun i F' m G H x H' d e rl _ y hd => by
    obtain ⟨T, z, rfl, hn, rfl, y⟩ := y
    obtain ⟨w, e1, rfl⟩ := enumD_get hd
    obtain ⟨v, e1, rv⟩ := r.get e1
    have e2 := y vs (h e rl)
    rw [e1] at e2
    obtain rfl := Option.some.inj e2
    have ex := Ex.new (o := .tup [.int (i : Nat), v]) (rl.fresh hn).2
    exact ⟨_, ex, rl.newF hn _, .tup (SqT.of upd_same) (.cons (.int _) (.cons ((rv.mono e).mono ex) .nil))⟩
  stop := fun F' m G H e rl _ => ⟨vs, h e rl, by rw [r.length, enumD_length]⟩
theorem ji_enumS {a : Expr} {ca : DA} {p pos tpos : Pos} {elts : List Expr} {kk : Nat} (hg : Gl X "enumerate") (hm : X.mg "enumerate" = none) (ha : JA X W [a] ca) (hs : starEach [a] X.env = [(false, eval a X.env)] := by rfl) :
    JI X W (.Tuple elts kk tpos) (.Call (.Name "enumerate" p) [a] [] pos) (iApp enumJ ca) :=
  (pi_enumS hg hm ha hs).dimp fun σ H R ⟨F, m, G, δ, r, s, h⟩ => ⟨F, m, G, δ, r, s, (LR.bind h).imp fun F1 H1 _ ds e1 _ ⟨m1, r1, h1⟩ vs rvs => by
    unfold enumJ at h1
    split at h1
    · cases rvs with
      | cons rv t =>
        cases rv with
        | lst h2 h3 =>
          cases t
          exact ⟨_, _, rfl, .inl ⟨SqL.of (r1.ex _ _ h2), h1.ret r1 _ (ite_ok h2 h3)⟩⟩
    · cases rvs with
      | cons rv t =>
        cases rv with
        | tup h2 h3 =>
          cases t
          exact ⟨_, _, rfl, .inr ⟨r1.ex.t h2, h1.ret r1 _ (iteT_ok (fun e rl => rl.ex.t (e.t h2)) h3)⟩⟩
    · exact h1.elim⟩
end
end DL

namespace DL
open PySem PySem.Spec PyProof.Rows L2
section
variable {P : Program} {w : World} {A : Around} {E : Value → Shared → Prop} {s : Shared}
/-- an empty set as set(..) begins with it -/
abbrev newSet (w : World) : Obj := { cls := .type "set", dict := none, data := .set #[] 0 (.fresh 0 0 (!w.params.followText "set-order")) }
/-- set(l), l a list of ints -/
theorem set_of_list {l : Addr} {its : Array Value} (ns : List Int) {Q : Value → Shared → Prop} (hh : A.handled = none) (hl : s.heap.IsList l its) (hit : IntsAre its.toList ns) (hb : ns.length + 1 < scanBound)
    (h : ∀ (h' : Heap) (tk c : Nat), SetR w h' s.heap.objs.size (fun j => decide (j ∈ ns)) c → c ≤ ns.length → (∀ b o, s.heap.get? b = some o → h'.get? b = some o) → Q (.ref s.heap.objs.size) { s with heap := h', toks := tk }) :
    wpAny (model P w) A (call (.type "set") [.ref l]) Q E s := by
  have hsz : its.size = ns.length := by
    have q := IntsAre.length hit
    rwa [Array.length_toList] at q
  have hlS : l < s.heap.objs.size := by obtain ⟨_, e, _⟩ := hl; exact Heap.lt_size e
  have at_ : ∀ (i : Nat) (v : Value), its[i]? = some v → ∃ k t, ns[i]? = some k ∧ v = .int k t := fun i v hv => by
    have hi : i < ns.length := hsz ▸ (Array.getElem?_eq_some_iff.mp hv).1
    obtain ⟨t, e⟩ := PyProof.Rows.IntsAre.int_at hit i v ((Array.getElem?_toList ..).trans hv)
    exact ⟨ns[i], t, List.getElem?_eq_getElem hi, by rw [e, List.getD_eq_getElem?_getD, List.getElem?_eq_getElem hi]; rfl⟩
  obtain ⟨c, tl, hmro⟩ := F.called_set.mro
  have m1 := F.called_set.made
  have m2 := F.called_set.sub
  have m3 := F.called_set.notType
  have m4 := F.called_set.canCreate
  have m5 := F.typeCall_set_1 (.ref l)
  refine wpAny_call (codeAny_of_tree (show wpAny _ _ (callAny (.type "set") _) _ _ _ from wpAny_pure ⟨Code.quiet_builtin _ (by decide +kernel), codeAny_builtin F.entry_type_call ?_⟩))
  rw [Around.under_plain (weight_type_call_type "set" [.ref l] []) rfl]
  repeat (any_goals (first | assumption | wp_step))
  refine codeAny_mono (code_set_led1 (.ref l) (E := E) (Q₁ := fun o s₁ => o = .ref s.heap.objs.size ∧ s₁ = { s with heap := s.heap.push (newSet w) }) ⟨rfl, rfl⟩) fun r s₁ hr => ?_
  match r, hr with
  | .error e, hr => exact hr
  | .ok (.ret o), hr =>
    obtain ⟨rfl, rfl⟩ := hr
    have hS : (s.heap.push (newSet w)).get? s.heap.objs.size = some (newSet w) := Heap.get?_push_size _ rfl
    have hT : Shared.TypeIs { s with heap := s.heap.push (newSet w) } (.ref s.heap.objs.size) "set" := ⟨_, hS, rfl⟩
    have i1 := F.called_set.init.lookup
    have i2 := F.called_set.init.bind (.ref s.heap.objs.size)
    repeat (any_goals (first | assumption | wp_step))
    refine codeAny_mono (codeAny_call_builtin (R := wants (fun r s₂ => r = .none ∧ ∃ h' tk c, s₂ = { s with heap := h', toks := tk } ∧ SetR w h' s.heap.objs.size (fun j => decide (j ∈ ns)) c ∧ c ≤ ns.length ∧ ∀ b o, s.heap.get? b = some o → h'.get? b = some o) E) F.called_set.init.plain F.entry_set_init (check_set_init_1 hT ?_)) fun r₂ s₂ hr₂ => ?_
    · obtain ⟨⟨oc, od, dt, sl⟩, hol, hc, n, hd⟩ := hl
      obtain rfl : oc = .type "list" := hc
      obtain rfl : dt = .seq its n := hd
      have hol' : (s.heap.push (newSet w)).get? l = some { cls := .type "list", dict := od, data := .seq its n, slots := sl } := Heap.get?_push_of_some _ hol
      have u1 := F.sub_list_set
      have u2 := F.sub_list_frozenset
      have u3 : (Value.type "list" == Value.type "dict") = false := by decide
      have hl1 : (s.heap.push (newSet w)).IsList l its := ⟨_, hol', rfl, n, rfl⟩
      unfold Builtin.«set.__init__» noKeywords Builtin.Frozenset.updateFrom
      generalize hPI : pyIter = PI
      wp_walk
      subst hPI
      refine wpAny_pyIter_list hl1 (wpAny_bind (wpAny_runValue ?_))
      have h3 : A.in1.in1.in1.handled = none := by simp [hh]
      have nI : l ≠ (s.heap.push (newSet w)).objs.size := by rw [Heap.size_push]; exact Nat.ne_of_lt (Nat.lt_succ_of_lt hlS)
      have nS : s.heap.objs.size ∉ [(s.heap.push (newSet w)).objs.size, l] := by
        rw [Heap.size_push]
        simp only [List.mem_cons, List.not_mem_nil, or_false, not_or]
        exact ⟨Nat.ne_of_lt (Nat.lt_succ_self _), Nat.ne_of_gt hlS⟩
      refine set_update_ints ((Walks.list h3 _ l nI its).toS) s.heap.objs.size nS ns hsz hb at_ (its.size - 0) 0 _ (by omega) (Nat.zero_le _) ⟨⟨_, Heap.get?_push_size _ rfl, rfl, rfl⟩, hl1.push _⟩ ⟨0, Nat.le_refl 0, setR_new_at (Heap.get?_push_of_some _ hS)⟩ ?_
      rintro ⟨h', g2, d', tk', os'⟩ c' hm hc' hS'
      obtain rfl : g2 = s.gens := hm.gens
      obtain rfl : d' = s.drawn := hm.drawn
      obtain rfl : os' = s.os := hm.os
      refine wpAny_pure (wpAny_pure ⟨rfl, h', tk', c', rfl, hS', hsz ▸ hc', fun b o e => ?_⟩)
      have b0 : b < s.heap.objs.size := Heap.lt_size e
      refine hm.heap b o ?_ (Heap.get?_push_of_some _ (Heap.get?_push_of_some _ e))
      simp only [List.mem_cons, List.not_mem_nil, or_false, not_or]
      exact ⟨Nat.ne_of_lt b0, by rw [Heap.size_push]; exact Nat.ne_of_lt (Nat.lt_succ_of_lt b0)⟩
    · match r₂, hr₂ with
      | .error e, q => exact q
      | .ok (.ret r), q =>
        obtain ⟨rfl, h', tk, c', rfl, q1, q2, q3⟩ := q
        repeat (any_goals (first | assumption | wp_step))
        exact h _ _ _ q1 q2 q3
      | .ok .next, q => exact q.elim
      | .ok .brk, q => exact q.elim
      | .ok .cont, q => exact q.elim
  | .ok .next, hr => exact hr.elim
  | .ok .brk, hr => exact hr.elim
  | .ok .cont, hr => exact hr.elim
end
def insI (x : Int) : List Int → List Int
  | [] => [x]
  | y :: l => if x < y then x :: y :: l else if x = y then y :: l else y :: insI x l
/-- the members, ascending, each once -/
def sortSet : List Int → List Int
  | [] => []
  | x :: l => insI x (sortSet l)
theorem mem_insI {x k : Int} : ∀ {l : List Int}, k ∈ insI x l ↔ k = x ∨ k ∈ l
  | [] => by simp [insI]
  | y :: l => by
    unfold insI
    split
    · simp
    · split
      · rename_i e; subst e; simp
      · simp only [List.mem_cons, mem_insI (l := l)]
        constructor
        · rintro (h | h | h)
          · exact .inr (.inl h)
          · exact .inl h
          · exact .inr (.inr h)
        · rintro (h | h | h)
          · exact .inr (.inl h)
          · exact .inl h
          · exact .inr (.inr h)
theorem mem_sortSet {k : Int} : ∀ {l : List Int}, k ∈ sortSet l ↔ k ∈ l
  | [] => Iff.rfl
  | x :: l => by rw [sortSet, mem_insI, mem_sortSet (l := l), List.mem_cons]
theorem insI_asc {x : Int} : ∀ {l : List Int}, l.Pairwise (· < ·) → (insI x l).Pairwise (· < ·)
  | [], _ => by simp [insI]
  | y :: l, h => by
    obtain ⟨h1, h2⟩ := List.pairwise_cons.mp h
    unfold insI
    split
    · rename_i hx
      exact List.pairwise_cons.mpr ⟨fun z hz => by
        rcases List.mem_cons.mp hz with e | e
        · rw [e]; exact hx
        · exact Int.lt_trans hx (h1 z e), h⟩
    · split
      · exact h
      · rename_i n1 n2
        refine List.pairwise_cons.mpr ⟨fun z hz => ?_, insI_asc h2⟩
        rcases mem_insI.mp hz with e | e
        · rw [e]; omega
        · exact h1 z e
theorem sortSet_asc : ∀ l : List Int, (sortSet l).Pairwise (· < ·)
  | [] => .nil
  | x :: l => insI_asc (sortSet_asc l)
theorem asc_unique : ∀ {a b : List Int}, a.Pairwise (· < ·) → b.Pairwise (· < ·) → (∀ k, k ∈ a ↔ k ∈ b) → a = b
  | [], [], _, _, _ => rfl
  | [], y :: b, _, _, h => by have := (h y).mpr List.mem_cons_self; cases this
  | x :: a, [], _, _, h => by have := (h x).mp List.mem_cons_self; cases this
  | x :: a, y :: b, ha, hb, h => by
    obtain ⟨a1, a2⟩ := List.pairwise_cons.mp ha
    obtain ⟨b1, b2⟩ := List.pairwise_cons.mp hb
    have e : x = y := by
      rcases List.mem_cons.mp ((h x).mp List.mem_cons_self) with e | e
      · exact e
      · rcases List.mem_cons.mp ((h y).mpr List.mem_cons_self) with f | f
        · exact f.symm
        · have := b1 x e; have := a1 y f; omega
    subst e
    refine congrArg _ (asc_unique a2 b2 fun k => ?_)
    constructor
    · intro hk
      rcases List.mem_cons.mp ((h k).mp (List.mem_cons_of_mem _ hk)) with e | e
      · have := a1 k hk; omega
      · exact e
    · intro hk
      rcases List.mem_cons.mp ((h k).mpr (List.mem_cons_of_mem _ hk)) with e | e
      · have := b1 k hk; omega
      · exact e
def dSortedSet (x : D) : C D := (asL x).bind fun l => (ofO (allInt l)).bind fun ns => if ns.length < 64 then C.ret (.lst ((sortSet ns).map D.int)) else C.stuck
section
variable {X : Cx} {W : WX}
def rSetI (K : PySem.W.Frag) (w : World) : List V → Hp → VK → Prop := fun xs H Q => ∃ (a : Addr) (ns : List Int), xs = [.ref a] ∧ SqL K H a (ns.map V.int) ∧ ns.length < 64 ∧ ∀ p c, c < 64 → H p = none → Q (.ref p) (upd H p (SetO w p (fun j => decide (j ∈ ns)) c))
theorem cr_setI (hc : X.calm = true) : CallR X (.type "set") (rSetI X.K X.w) := by
  intro pins s σ H xs us Q I r h
  obtain ⟨a, ns, rfl, hs, hn, q⟩ := h
  rw [Vals.ref1 r]
  obtain ⟨its, rv, pl, hz⟩ := I.list hs
  refine set_of_list ns (I.ok.hd hc) pl.isList (Vals.ints rv) (by show ns.length + 1 < 4096; omega) fun h' tk c R hcn hk => ?_
  exact ⟨.ref _, _, I.laid (t' := tk) hk (Nat.le_refl _) (setO_new R), rfl, q _ c (by omega) (I.hok.fresh (Nat.le_refl _))⟩
theorem reps_ints {K : PySem.W.Frag} {F : Hp} : ∀ ns : List Int, Reps K F (ns.map V.int) (ns.map D.int)
  | [] => .nil
  | n :: ns => .cons (.int n) (reps_ints ns)
theorem je_sortedSet {e : Expr} {ce : DE} {p q pos pos' : Pos} (hc : X.calm = true) (he : JE X W e ce) (hg : Gl X "sorted") (hm : X.mg "sorted" = none) (hg2 : Gl X "set") (hm2 : X.mg "set" = none) (hs : starEach [e] X.env = (false, eval e X.env) :: starEach [] X.env := by rfl) (hpl : (backTo pos' (starEach [] X.env)).any (·.1) = false := by rfl)
    (hs2 : starEach [.Call (.Name "set" q) [e] [] pos'] X.env = (false, eval (.Call (.Name "set" q) [e] [] pos') X.env) :: starEach [] X.env := by rfl) (hpl2 : (backTo pos (starEach [] X.env)).any (·.1) = false := by rfl) :
    JE X W (.Call (.Name "sorted" p) [.Call (.Name "set" q) [e] [] pos'] [] pos) (eUn dSortedSet ce) :=
  (pe_callB (cr_sortedSet hc) hg hm (by decide +kernel) (pa_cons (pe_callTy (cr_setI hc) hg2 hm2 (by decide +kernel) (pa_cons he pa_nil hs) (by decide) (by decide) hs hpl) pa_nil hs2) (by decide) (by decide) hs2 hpl2).dimp fun σ H Q ⟨F, m, G, δ, r, s, h⟩ =>
    ⟨F, m, G, δ, r, s, (LR.bind h).imp fun F1 H1 _ x e1 _ ⟨m1, r1, h1⟩ v rv => by
      obtain ⟨a, vs, l, rfl, h2, h3, h4⟩ := asL_of r1 rv h1
      obtain ⟨ns, e, h4⟩ := h4.ofOb
      obtain ⟨hn, h4⟩ := h4.ite
      rw [ints_reps h3 e] at h2
      refine ⟨a, ns, rfl, SqL.of h2, hn, fun p c hc hp => ⟨p, _, c, rfl, upd_same, hc, fun ks q asc mem len hq => ?_⟩⟩
      have r2 := r1.newH hp (SetO X.w p (fun j => decide (j ∈ ns)) c)
      have ek : ks = sortSet ns := asc_unique asc (sortSet_asc ns) fun k => by rw [mem k, mem_sortSet, decide_eq_true_eq]
      subst ek
      have ex := Ex.new (o := .lst ((sortSet ns).map V.int)) (r2.fresh hq).2
      exact h4.retE ex (r2.newF hq _) _ (.lst upd_same (reps_ints _))⟩
end
end DL

namespace DL
open PySem PySem.Spec PyProof.Rows L2
def dListRgM : D → C D
  | .int n => if 0 ≤ n ∧ n ≤ 1000000 then C.new (.lst (rng 0 n)) else C.stuck
  | _ => C.stuck
def dSortedSetM (x : D) : C D := (asL x).bind fun l => (ofO (allInt l)).bind fun ns => if ns.length < 64 then C.new (.lst ((sortSet ns).map D.int)) else C.stuck
section
variable {X : Cx} {W : WX} {e : Expr} {ce : DE} {p pos p2 pos2 : Pos}
theorem je_listRgM (hc : X.calm = true) (hg : Gl X "list") (hm : X.mg "list" = none) (hg2 : Gl X "range") (hm2 : X.mg "range" = none) (he : JE X W e ce) (na : starEach [e] X.env = (false, eval e X.env) :: starEach [] X.env := by rfl)
    (nb : starEach [.Call (.Name "range" p2) [e] [] pos2] X.env = (false, eval (.Call (.Name "range" p2) [e] [] pos2) X.env) :: starEach [] X.env := by rfl) : JE X W (.Call (.Name "list" p) [.Call (.Name "range" p2) [e] [] pos2] [] pos) (eUn dListRgM ce) :=
  (pe_listRg hc hg hm (prg_1 hg2 hm2 he na) nb).dimp fun σ H Q ⟨F, m, G, δ, r, s, h⟩ => ⟨F, m, G, δ, r, s, (LR.bind h).imp fun F1 H1 _ x e1 _ ⟨m1, r1, h1⟩ v rv => by
    cases x with
    | int n =>
      cases rv
      obtain ⟨hn, h2⟩ := LR.ite h1
      refine ⟨n, rfl, RgOk.of_le (Int.le_refl 0) (by omega) (by omega) hn.1, fun q hq => ?_⟩
      exact h2 q (r1.fresh hq).1 F1 _ (Ex.refl F1) (r1.putL (r1.fresh hq).2 (r1.freshG hq) rg_reps) _ (.ref q)
    | _ => exact h1.elim⟩
theorem je_sortedSetM {q pos' : Pos} (hc : X.calm = true) (he : JE X W e ce) (hg : Gl X "sorted") (hm : X.mg "sorted" = none) (hg2 : Gl X "set") (hm2 : X.mg "set" = none) (hs : starEach [e] X.env = (false, eval e X.env) :: starEach [] X.env := by rfl) (hpl : (backTo pos' (starEach [] X.env)).any (·.1) = false := by rfl)
    (hs2 : starEach [.Call (.Name "set" q) [e] [] pos'] X.env = (false, eval (.Call (.Name "set" q) [e] [] pos') X.env) :: starEach [] X.env := by rfl) (hpl2 : (backTo pos (starEach [] X.env)).any (·.1) = false := by rfl) :
    JE X W (.Call (.Name "sorted" p) [.Call (.Name "set" q) [e] [] pos'] [] pos) (eUn dSortedSetM ce) :=
  (pe_callB (cr_sortedSet hc) hg hm (by decide +kernel) (pa_cons (pe_callTy (cr_setI hc) hg2 hm2 (by decide +kernel) (pa_cons he pa_nil hs) (by decide) (by decide) hs hpl) pa_nil hs2) (by decide) (by decide) hs2 hpl2).dimp fun σ H Q ⟨F, m, G, δ, r, s, h⟩ =>
    ⟨F, m, G, δ, r, s, (LR.bind h).imp fun F1 H1 _ x e1 _ ⟨m1, r1, h1⟩ v rv => by
      obtain ⟨a, vs, l, rfl, h2, h3, h4⟩ := asL_of r1 rv h1
      obtain ⟨ns, e, h4⟩ := h4.ofOb
      obtain ⟨hn, h4⟩ := h4.ite
      rw [ints_reps h3 e] at h2
      refine ⟨a, ns, rfl, SqL.of h2, hn, fun p c hc hp => ⟨p, _, c, rfl, upd_same, hc, fun ks q asc mem len hq => ?_⟩⟩
      have r2 := r1.newH hp (SetO X.w p (fun j => decide (j ∈ ns)) c)
      have ek : ks = sortSet ns := asc_unique asc (sortSet_asc ns) fun k => by rw [mem k, mem_sortSet, decide_eq_true_eq]
      subst ek
      exact h4 q (r2.fresh hq).1 F1 _ (Ex.refl F1) (r2.putL (r2.fresh hq).2 (r2.freshG hq) (reps_ints _)) _ (.ref q)⟩
end
end DL

namespace DL
open PySem PySem.Spec PyProof.Rows L2
def dIndex (x y : D) : C D := (asL x).bind fun l => if flat y && l.all flat then (ofO (l.findIdx? fun z => eqv z y)).bind fun j => C.ret (.int (j : Nat)) else C.stuck
def eIndex (o e : DE) : DE := fun δ => (o δ).bind fun x => (asL x).bind fun _ => (e δ).bind fun y => dIndex x y
section
variable {X : Cx} {W : WX}
theorem je_index {o e : Expr} {co ce : DE} {apos cpos : Pos} (ho : JE X W o co) (he : JE X W e ce) (hbase : attributeBase o "index" X.env (eval o X.env) = eval o X.env := by rfl)
    (hfew : ((backTo cpos (starEach [e] X.env)).all (fun x => !x.1) && (backToKw cpos (keywordEach [] X.env)).all (fun x => x.1.isSome) && decide ([e].length + ([] : List Keyword).length + (if ([] : List Keyword).isEmpty then 0 else 1) < 30)) = true := by rfl)
    (hline : (apos.endLine == cpos.line) = true := by rfl) (hs : starEach [e] X.env = (false, eval e X.env) :: starEach [] X.env := by rfl) (hplain : (backTo cpos (starEach [] X.env)).any (·.1) = false := by rfl) :
    JE X W (.Call (.Attribute o "index" apos) [e] [] cpos) (eIndex co ce) :=
  (pe_bm PySem.F.plainAttrs_list PySem.F.slot_list_index PySem.F.type_list_index mt_index ho (pa_cons he pa_nil hs) hbase hfew hline hs hplain).dimp fun σ H Q ⟨F, m, G, δ, r, s, h⟩ =>
    ⟨F, m, G, δ, r, s, (LR.bind h).imp fun F1 H1 _ x e1 _ ⟨m1, r1, h1⟩ v rv => by
      obtain ⟨a, vs, l, rfl, h2, h3, h4⟩ := asL_of r1 rv h1
      refine ⟨Or.inl ⟨rfl, vs, SqL.of h2⟩, F1, m1, G, δ, r1, s.mono e1, (LR.bind h4).imp fun F2 H2 _ y e2 _ ⟨m2, r2, h5⟩ w rw => ?_⟩
      obtain ⟨a', vs', l', ea, h6, h7, h8⟩ := asL_of r2 (rv.mono e2) h5
      cases ea
      obtain ⟨hf, h9⟩ := h8.ite
      rw [Bool.and_eq_true] at hf
      obtain ⟨j, ej, h10⟩ := h9.ofOb
      obtain ⟨hj, hj2⟩ := List.findIdx?_eq_some_iff_getElem.mp ej
      have hz : l'[j]? = some l'[j] := List.getElem?_eq_getElem hj
      obtain ⟨z, hz1, hz2⟩ := h7.get hz
      have hfl : ∀ d ∈ l', flat d = true := List.all_eq_true.mp hf.2
      refine ⟨a, vs', w, j, z, rfl, rfl, SqL.of h6, flat_rep rw hf.1, flats_rep h7 hf.2, hz1, ?_, fun i z' hi hz' => ?_, h10.ret r2 _ (.int _)⟩
      · rw [eqV_rep hz2 rw (hfl _ (List.getElem_mem hj)) hf.1]
        exact hj2.1
      · have hi2 : i < l'.length := Nat.lt_trans hi hj
        obtain ⟨z2, q1, q2⟩ := h7.get (List.getElem?_eq_getElem hi2)
        rw [hz'] at q1
        cases q1
        rw [eqV_rep q2 rw (hfl _ (List.getElem_mem hi2)) hf.1]
        simpa using hj2.2 i hi⟩
end
def HasP (P : Program) (w : World) (K : PySem.W.Frag) (mg : Str → Option Value) (base : Heap) (c mt : Str) (k : Nat) (fD : List D → C D) : Prop :=
  ∃ (p g : Addr) (fd : FuncData) (ps : List Str), Cls K (He.ga K c) ∧ PropOf K (He.ga K c) mt p g ∧ FnOk P w K mg base (L2.CX P w) k g fd ps (spD K ps.length fD) ∧ Binds K fd ps [] ∧ ps.length = 1
def eProp (c : Str) (fD : List D → C D) (e : DE) : DE := fun δ => (e δ).bind fun x => (asI x).bind fun i => if i.1 = c then (fD [x]).noX else C.stuck
theorem passes_false {P : Program} {w : World} {X : Cx} : Passes (L2.CX P w) X (fun _ _ _ => False) := fun _ _ _ _ _ _ _ h => by
  obtain ⟨_, _, _, _, _, _, _, _, _, _, _, _, z⟩ := h
  exact z.elim
theorem LR.noX_of {α : Type} {K : PySem.W.Frag} {F G : Hp} {c : C α} {m : Mem} {P : Hp → Hp → α → Prop} {W W' : WX} {σ σ' : L2.St} (h : LR K F G c.noX m P W σ) : LR K F G c m P W' σ' :=
  C.mono c (fun _ _ q => q) (fun _ _ q => q.elim) h
section
variable {X : Cx} {W : WX} {k n : Nat} {fD : List D → C D} {c f : Str} {pos : Pos} {e : Expr} {ce : DE}
theorem je_prop (h : HasP X.prog X.w X.K X.mg X.base c f k fD) (hr : Room (k + 1) X.A) (he : JE X W e ce) (hab : attributeBase e f X.env (eval e X.env) = eval e X.env := by rfl) : JE X W (.Attribute e f pos) (eProp c fD ce) := by
  obtain ⟨p, g, fd, ps, hC, hP, Fn, hb, hn⟩ := h
  refine (pe_prop he hC hP Fn hr hb (dvs := []) .nil passes_false hab).dimp fun σ H Q ⟨F, m, G, δ, r, s, h⟩ => ⟨F, m, G, δ, r, s, (LR.bind h).imp fun F1 H1 _ x e1 _ ⟨m1, r1, h1⟩ v rv => ?_⟩
  obtain ⟨a, dx, c', fs, vs, rfl, q1, q2, h2⟩ := asI_of r1 rv h1
  obtain ⟨hc, h3⟩ := LR.ite h2
  have hc' : c' = c := hc
  subst hc'
  exact ⟨a, dx, vs, rfl, q1, hn.symm, F1, m1, G, [x], r1, .cons rv .nil, LR.noX_of h3⟩
end
def HasCG (P : Program) (w : World) (K : PySem.W.Frag) (mg : Str → Option Value) (base : Heap) (c : Str) (n : Nat) (ks : List Str) (k : Nat) (gD : List D → List D → List D) (fD : List D → C D) : Prop :=
  ∃ (f : Addr) (fd : FuncData) (ps : List Str) (g : List Value → List Value → List Value) (gV : List V → List V → List V), mg c = some (.ref (He.ga K c)) ∧ Mk K (He.ga K c) f ∧ FnOk P w K mg base (L2.CX P w) k f fd ps (spD K ps.length fD) ∧ KBn K fd ps (n + 1) ks g gV ∧
    (∀ (F : Hp) (vs zs : List V) (ds es : List D), Reps K F vs ds → Reps K F zs es → vs.length = n → zs.length = ks.length → ∀ x, ∃ ws, gV (.ref x :: vs) zs = .ref x :: ws ∧ Reps K F ws (gD ds es) ∧ ws.length + 1 = ps.length)
def eMakeG (c : Str) (n m : Nat) (gD : List D → List D → List D) (fD : List D → C D) (a b : DA) : DE := fun δ => (a δ).bind fun l => (b δ).bind fun k => if l.length = n ∧ k.length = m then mkI c fD (gD l k) else C.stuck
section
variable {X : Cx} {W : WX} {k n : Nat} {gD : List D → List D → List D} {fD : List D → C D} {c : Str} {p pos : Pos} {e : Expr} {es : List Expr} {ca ck : DA}
theorem run_makeKS {X : Cx} {k n : Nat} {pins : List (Addr × Obj)} {σ : L2.St} {H : Hp} {s : Shared} {Q : VK} {us ws : List Value} {vs zs : List V} {Cc f : Addr} {fd : FuncData} {ps ks : List Str} {sp : Sp} {E : XK} {g : List Value → List Value → List Value} {gV : List V → List V → List V} (M : Mk X.K Cc f) (F : FnOk X.prog X.w X.K X.mg X.base (L2.CX X.prog X.w) k f fd ps sp) (hr : Room (k + 1) X.A) (hb : KBn X.K fd ps (n + 1) ks g gV) (hx : PassesAt (L2.CX X.prog X.w) X σ E) (I : Inv X pins σ H s)
    (r : Vals vs us) (rz : Vals zs ws) (l1 : vs.length = n) (l2 : zs.length = ks.length)
    (h : ∀ x dx, H x = none → H dx = none → dx ≠ x → sp (gV (.ref x :: vs) zs) (upd (upd H dx (.own x)) x (.ins Cc dx [])) (fun v H2 => v = .non ∧ Q (.ref x) H2) E) :
    wpAny (model X.prog X.w) X.A (call (.ref Cc) us (ks.zip ws)) (EP X pins σ Q) X.xe s :=
  run_mk M F hr hx I fun x dx n1 n2 ne => by
    have self : Vals (V.ref x :: vs) (Value.ref x :: us) := .cons rfl r
    exact ⟨_, _, hb.rel self rz, fun s' lies => hb.to s' (.ref x :: us) ws lies (by simp [← r.length, l1]) (by rw [← rz.length, l2]), h x dx n1 n2 ne⟩
theorem je_makeG {ks : List Str} {kws : List Keyword} (h : HasCG X.prog X.w X.K X.mg X.base c n ks k gD fD) (hr : Room (k + 1) X.A) (tk : Takes X W) (hg : Gl X c) (ha : JA X W (e :: es) ca) (hkw : JK X W kws ck)
    (hall : (backToKw pos (keywordEach kws X.env)).all (·.1.isSome) = true := by rfl) (hks : (backToKw pos (keywordEach kws X.env)).filterMap (·.1) = ks := by rfl)
    (hdb : (c == ("__debug__" : Str)) = false := by decide) (he : starEach (e :: es) X.env = (false, eval e X.env) :: starEach es X.env := by rfl)
    (hpl : ((backTo pos (starEach (e :: es) X.env)).any (·.1) || (backToKw pos (keywordEach kws X.env)).any (·.1.isNone)) = false := by rfl) :
    JE X W (.Call (.Name c p) (e :: es) kws pos) (eMakeG c n ks.length gD fD ca ck) := by
  obtain ⟨f, fd, ps, g, gV, hm, M, Fn, hb, hR⟩ := h
  refine ⟨fun pins s σ H Q I ⟨F, m, G, δ, r, sr, h⟩ => ?_⟩
  refine wpAny_Call_Name_kw (ld_glob I hg hm ?_ hdb)
  have h2 : tA X.K W ca σ H (fun vs H1 => tA X.K W ck σ H1 fun zs H2 => vs.length = n ∧ zs.length = ks.length ∧ ∀ x dx, H2 x = none → H2 dx = none → dx ≠ x → spD X.K ps.length fD (gV (.ref x :: vs) zs) (upd (upd H2 dx (.own x)) x (.ins (He.ga X.K c) dx [])) (fun v H3 => v = .non ∧ Q (.ref x) H3) (WE W σ)) :=
    ⟨F, m, G, δ, r, sr, (LR.bind h).imp fun F1 H1 _ l e1 _ ⟨m1, r1, h1⟩ vs rv => ⟨F1, m1, G, δ, r1, sr.mono e1, (LR.bind h1).imp fun F2 H2 _ z e2 _ ⟨m2, r2, h2⟩ zs rz => by
      obtain ⟨hl, h2⟩ := LR.ite h2
      have l1 : vs.length = n := by rw [rv.length]; exact hl.1
      have l2 : zs.length = ks.length := by rw [rz.length]; exact hl.2
      refine ⟨l1, l2, fun x dx hx hdx ne => ?_⟩
      obtain ⟨ws, ew, rw, lw⟩ := hR F2 vs zs l z (rv.mono e2) rz l1 l2 x
      rw [ew]
      exact mkI_of r2 rw lw h2 x dx hx hdx ne⟩⟩
  refine PySem.W.callWith_KW (h₀ := X.base) I.ok.mod.kin M.kp hall (thn (PA.run ha pos pins s σ H _ I h2) fun us s1 ⟨vs, H1, I1, rv, q⟩ => ?_) hpl he
  refine thn (PK.run hkw pos pins s1 σ H1 _ I1 q) fun ws s2 ⟨zs, H2, I2, rz, l1, l2, q2⟩ => ⟨I2.kIn, ?_⟩
  rw [hks]
  exact run_makeKS M Fn hr hb (passAt tk σ) I2 rv rz l1 l2 q2
end
def boolD : D → C D
  | .bl b => C.ret (.bl b)
  | _ => C.stuck
def dEqI (c : Str) (fD : List D → C D) (x y : D) : C D := (asI x).bind fun i => (asI y).bind fun j => if i.1 = c ∧ j.1 = c then (fD [x, y]).noX.bind boolD else C.stuck
def rEqI (K : PySem.W.Frag) (Cc : Addr) (fD : List D → C D) : R2 := fun x y H Q => ∃ a b dx dy fs gs, x = .ref a ∧ y = .ref b ∧ H a = some (.ins Cc dx fs) ∧ H b = some (.ins Cc dy gs) ∧ spD K 2 fD [.ref a, .ref b] H (fun v H' => (∃ q, v = .bl q) ∧ Q v H') (fun _ _ _ => False)
section
variable {X : Cx} {W : WX} {k : Nat} {fD : List D → C D} {c : Str}
theorem call_quiet {X : Cx} {k : Nat} {pins : List (Addr × Obj)} {σ : L2.St} {H : Hp} {s : Shared} {Q : VK} {R : Value → Shared → Prop} {E : Value → Shared → Prop} {f : Addr} {fd : FuncData} {ps : List Str} {sp : Sp} {us : List Value} {vs : List V} (Fn : FnOk X.prog X.w X.K X.mg X.base (L2.CX X.prog X.w) k f fd ps sp) (hr : Room k X.A)
    (I : Inv X pins σ H s) (bind : BindsTo s fd ⟨us, []⟩ (ps.zip us)) (rv : Vals vs us) (h : sp vs H Q fun _ _ _ => False) (out : ∀ u s', EP X pins σ Q u s' → R u s') : wpAny (model X.prog X.w) X.A (call (.ref f) us) R E s := by
  refine wpAny_call (codeAny_mono (Fn.run X.A X.stack s H _ us vs Q _ hr I.env0 bind rv h) fun r s' q => ?_)
  match r, q with
  | .ok (.ret u), q => exact out u s' (I.after q)
  | .error _, ⟨_, _, _, _, _, _, _, _, _, _, _, _, no⟩ => exact no.elim
theorem inst_seen {X : Cx} {H : Hp} {s : Shared} {a C dx : Addr} {fs : List (Str × V)} (g : HOk X.prog X.w H s.heap) (h : H a = some (.ins C dx fs)) : ∃ od, PySem.W.InstAt s.heap a (PySem.W.instObj C dx) C (some od) :=
  let ⟨_, lies, _⟩ := ins_get g h
  let ⟨od, seen, _⟩ := lies.look
  ⟨od, seen⟩
theorem op_eqI {X : Cx} {k : Nat} {fD : List D → C D} {c : Str} (h : HasM X.prog X.w X.K X.mg X.base c "__eq__" 1 k [] fD) (hr : Room k X.A) : OpR X (compareOp .Eq) (rEqI X.K (He.ga X.K c) fD) := by
  rintro pins s σ H x y v u Q I rx ry ⟨a, b, dx, dy, fs, gs, rfl, rfl, ha, hb, q⟩
  obtain ⟨f, fd, ps, dvs, dus, _, method, Fn, binds, rd, none_, two⟩ := h
  cases none_ fun _ => none
  cases rd
  rw [show v = .ref a from rx, show u = .ref b from ry]
  have both : Vals [V.ref a, V.ref b] [Value.ref a, Value.ref b] := .cons rfl (.cons rfl .nil)
  have ⟨_, one⟩ := inst_seen I.hok ha
  have ⟨_, other⟩ := inst_seen I.hok hb
  have ⟨_, frame⟩ := I.fr
  rw [show 2 = ps.length from two] at q
  refine PySem.W.cmp_K (op := .Eq) hr.units0 frame I.ok.mod.kin one other.type (by simp [PySem.W.notFirst]) method.at_ method.fn (call_quiet Fn hr I ?_ both q fun w s' back => ?_)
  · exact List.append_nil [Value.ref a, Value.ref b] ▸ binds s _ I.kIn two
  · obtain ⟨z, H', J, rz, ⟨t, e⟩, q'⟩ := back
    rw [e] at rz q'
    rw [show w = .bool t from rz]
    exact ⟨.bl t, H', J, rfl, q'⟩
theorem od_eqI : OpD X W (dEqI c fD) (rEqI X.K (He.ga X.K c) fD) := by
  intro F m G H σ x y v w Q r rx ry h
  obtain ⟨a, dx, c1, fs, vs, rfl, q1, q2, h2⟩ := asI_of r rx h
  obtain ⟨b, dy, c2, gs, ws, rfl, p1, p2, h3⟩ := asI_of r ry h2
  obtain ⟨⟨hc1, hc2⟩, h4⟩ := LR.ite h3
  have e1 : c1 = c := hc1
  have e2 : c2 = c := hc2
  subst e1 e2
  refine ⟨a, b, dx, dy, vs, ws, rfl, rfl, q1, p1, rfl, F, m, G, [x, y], r, .cons rx (.cons ry .nil), ?_⟩
  refine C.mono (fD [x, y]) (fun d m' q F' H' e r' u ru => ?_) (fun _ _ q => q.elim) h4
  cases d with
  | bl b => cases ru; exact ⟨⟨b, rfl⟩, q F' H' e r' _ (.bl b)⟩
  | _ => exact q.elim
end
/-- what is known of the class c: yes for its own instances, no for None, texts, tuples -/
def isiB (K : PySem.W.Frag) (c : Str) : Bool := decide (PySem.W.kitOne K (.ref (He.ga K c)) (.ref (He.ga K c)) = some true) && (decide (PySem.W.kitOne K (.type "NoneType") (.ref (He.ga K c)) = some false) && (decide (PySem.W.kitOne K (.type "str") (.ref (He.ga K c)) = some false) && (decide (PySem.W.kitOne K (.type "tuple") (.ref (He.ga K c)) = some false) && (He.eqO (PySem.W.findIn K (.ref (He.ga K c)) "__class__") (some (some (.builtin "object.__class__"))) && (He.eqO (PySem.W.specialIn K (.builtin "object.__class__") "__get__") (some (some (.builtin "getset_descriptor.__get__"))) && (decide (PySem.W.takesIn K (.builtin "object.__class__") = some true) && decide (PySem.W.mroIn K (He.ga K c) (.type "object") = some true)))))))
structure IsiOk (K : PySem.W.Frag) (mg : Str → Option Value) (c : Str) : Prop where
  gl : mg c = some (.ref (He.ga K c))
  own : PySem.W.kitOne K (.ref (He.ga K c)) (.ref (He.ga K c)) = some true
  non : PySem.W.kitOne K (.type "NoneType") (.ref (He.ga K c)) = some false
  str : PySem.W.kitOne K (.type "str") (.ref (He.ga K c)) = some false
  tup : PySem.W.kitOne K (.type "tuple") (.ref (He.ga K c)) = some false
  cls : Cls K (He.ga K c)
  ha : PySem.W.findIn K (.ref (He.ga K c)) "__class__" = some (some (.builtin "object.__class__"))
  hn : PySem.W.specialIn K (.builtin "object.__class__") "__get__" = some (some (.builtin "getset_descriptor.__get__"))
  htk : PySem.W.takesIn K (.builtin "object.__class__") = some true
  hm : PySem.W.mroIn K (He.ga K c) (.type "object") = some true
theorem isi_ok {K : PySem.W.Frag} {mg : Str → Option Value} {c : Str} (g : mg c = some (.ref (He.ga K c))) (cl : Cls K (He.ga K c)) (h : isiB K c = true) : IsiOk K mg c := by
  unfold isiB at h
  simp only [Bool.and_eq_true] at h
  obtain ⟨h1, h2, h3, h4, h5, h6, h7, h8⟩ := h
  exact ⟨g, of_decide_eq_true h1, of_decide_eq_true h2, of_decide_eq_true h3, of_decide_eq_true h4, cl, He.eqO_ok h5, He.eqO_ok h6, of_decide_eq_true h7, of_decide_eq_true h8⟩
def dIsiC (c : Str) (x : D) : C D := match x with
  | .non => C.ret (.bl false)
  | .str _ => C.ret (.bl false)
  | .tup _ => C.ret (.bl false)
  | x => (asI x).bind fun i => if i.1 = c then C.ret (.bl true) else C.stuck
section
variable {X : Cx} {W : WX} {e : Expr} {ce : DE} {c : Str} {p q pos : Pos}
theorem je_isiC (hk : IsiOk X.K X.mg c) (hgc : Gl X c) (he : JE X W e ce) (hg : Gl X "isinstance") (hm : X.mg "isinstance" = none) (hd : (c == ("__debug__" : Str)) = false := by decide)
    (hst : starEach [e, .Name c q] X.env = (false, eval e X.env) :: starEach [.Name c q] X.env := by rfl) (hs2 : starEach [.Name c q] X.env = [(false, eval (.Name c q) X.env)] := by rfl) (hpl : (backTo pos (starEach [.Name c q] X.env)).any (·.1) = false := by rfl) :
    JE X W (.Call (.Name "isinstance" p) [e, .Name c q] [] pos) (eUn (dIsiC c) ce) :=
  (pe_callB call_isi hg hm (by decide +kernel) (pa_cons he (pa_cons (pe_glob (v := .ref (He.ga X.K c)) hgc hk.gl rfl hd) pa_nil hs2) hst) (by decide) (by decide) hst hpl).dimp fun σ H Q ⟨F, m, G, δ, r, s, h⟩ =>
    ⟨F, m, G, δ, r, s, (LR.bind h).imp fun F1 H1 _ d e1 _ ⟨m1, r1, h1⟩ v rv => by
      unfold dIsiC at h1
      split at h1
      · cases rv
        exact ⟨_, _, _, _, _, rfl, .own _, .base .non, hk.non, h1.ret r1 _ (.bl _)⟩
      · cases rv
        exact ⟨_, _, _, _, _, rfl, .own _, .base (.str _), hk.str, h1.ret r1 _ (.bl _)⟩
      · cases rv with
        | tup g1 g2 => exact ⟨_, _, _, _, _, rfl, .own _, tyT_of (r1.ex.t g1), hk.tup, h1.ret r1 _ (.bl _)⟩
      · obtain ⟨a, dx, c', fs, vs, rfl, q1, q2, h2⟩ := asI_of r1 rv h1
        obtain ⟨hc, h3⟩ := LR.ite h2
        have hc' : c' = c := hc
        subst hc'
        exact ⟨.ref a, _, _, _, _, rfl, .own _, .base (.ins q1 hk.cls hk.ha hk.hn hk.htk hk.hm), hk.own, h3.ret r1 _ (.bl _)⟩⟩
end
end DL

namespace DL
open PySem PySem.Spec PyProof.Rows L2
def pAd (K : PySem.W.Frag) (c m : Str) : Addr := match PySem.W.recIn K (He.ma K (He.ga K c) m) "property" with
  | some (.ref g :: _) => g
  | _ => 0
def propB (K : PySem.W.Frag) (c m : Str) : Bool := He.eqO (PySem.W.findIn K (.ref (He.ga K c)) m) (some (some (.ref (He.ma K (He.ga K c) m)))) &&
  (He.eqO (PySem.W.specialIn K (.ref (He.ma K (He.ga K c) m)) "__get__") (some (some (.builtin "property.__get__"))) && (decide (PySem.W.takesIn K (.ref (He.ma K (He.ga K c) m)) = some true) && (match PySem.W.recIn K (He.ma K (He.ga K c) m) "property" with
  | some (.ref _ :: _) => true
  | _ => false)))
theorem prop_ok {K : PySem.W.Frag} {c m : Str} (h : propB K c m = true) : PropOf K (He.ga K c) m (He.ma K (He.ga K c) m) (pAd K c m) := by
  unfold propB at h
  rw [Bool.and_eq_true, Bool.and_eq_true, Bool.and_eq_true] at h
  obtain ⟨h1, h2, h3, h4⟩ := h
  refine ⟨He.eqO_ok h1, He.eqO_ok h2, of_decide_eq_true h3, ?_⟩
  unfold pAd
  split at h4
  · rename_i g rest e
    rw [e]
    exact ⟨rest, rfl⟩
  · cases h4
structure PropD where
  cls : Str
  name : Str
  qual : Str
  params : Arguments
  body : List Stmt
  scope : Scope
def fnA (K : PySem.W.Frag) (a : Addr) : He.FnW := match K.lookup a with
  | some ⟨_, _, .func fd, _⟩ => some (fd.name, fd.qualname, fd.params, fd.body, fd.scope, fd.globals, fd.closure, fd.builtins)
  | _ => none
def PropD.val (d : PropD) : He.FnW := some (d.name, d.qual, d.params, .stmts d.body, d.scope, mainGlobals, [], builtinsNs)
def PropD.ok (K : PySem.W.Frag) (d : PropD) : Bool := propB K d.cls d.name && (PySem.W.keepIn K (.ref (pAd K d.cls d.name)) && (match K.lookup (pAd K d.cls d.name) with
  | some ⟨_, _, .func fd, _⟩ => PySem.W.codeIn K fd.code d.qual && (He.dflB K fd.defaults [] && He.kwdB K fd.kwdefaults [])
  | _ => false))
theorem PropD.funD {K : PySem.W.Frag} {d : PropD} (e : fnA K (pAd K d.cls d.name) = d.val) (c : d.ok K = true) : PropOf K (He.ga K d.cls) d.name (He.ma K (He.ga K d.cls) d.name) (pAd K d.cls d.name) ∧ ∃ fd, FunD K d.name d.qual d.params d.body d.scope [] [] (pAd K d.cls d.name) fd := by
  unfold PropD.ok at c
  rw [Bool.and_eq_true, Bool.and_eq_true] at c
  obtain ⟨c0, kp, c2⟩ := c
  refine ⟨prop_ok c0, ?_⟩
  unfold fnA PropD.val at e
  generalize pAd K d.cls d.name = a at *
  cases q : K.lookup a with
  | none => rw [q] at c2; cases c2
  | some o =>
    rw [q] at c2 e
    obtain ⟨oc, od, dt, osl⟩ := o
    cases dt with
    | func fd =>
      obtain ⟨n1, n2, n3, n4, n5, n6, n7, n8, n9, n10, n11, n12, n13, n14, n15⟩ := fd
      simp only [Option.some.injEq, Prod.mk.injEq] at e
      obtain ⟨h1, h2, h3, h4, h5, h6, h7, h8⟩ := e
      subst h1 h2 h3 h4 h5 h6 h7 h8
      simp only [Bool.and_eq_true] at c2
      exact ⟨_, ⟨oc, od, n8, n9, n10, n11, n12, n13, n14, osl, rfl, q, c2.1, He.dflB_ok c2.2.1, He.kwdB_ok c2.2.2⟩, kp⟩
    | _ => cases c2
abbrev AlP : Type := He.AlX × List He.FnW
def obsP (n : Nat) (fa : List He.Fa) (fn : List He.DefD) (pd : List PropD) (ex : PySem.W.Frag → Bool) (g : Addr → Option Obj) : AlP :=
  (He.obsX n fa fn [] [] (fun K => ex K && pd.all fun d => d.ok K) g, pd.map fun d => fnA (He.frT g (He.asD g n)) (pAd (He.frT g (He.asD g n)) d.cls d.name))
structure SaysP (fa : List He.Fa) (fn : List He.DefD) (pd : List PropD) (ex : PySem.W.Frag → Bool) (w : World) (h : Heap) (K : PySem.W.Frag) : Prop where
  x : He.SaysX fa fn [] [] (fun K => ex K && pd.all fun d => d.ok K) w h K
  p : pd.map (fun d => fnA K (pAd K d.cls d.name)) = pd.map PropD.val
def hookP (n : Nat) (fa : List He.Fa) (fn : List He.DefD) (pd : List PropD) (ex : PySem.W.Frag → Bool) : PySem.W.Hook where
  α := AlP
  obs := fun s => obsP n fa fn pd ex s.heap.get?
  val := fun w => (He.valX fn [] w, pd.map PropD.val)
  says := fun w h => ∃ K : PySem.W.Frag, K.In h ∧ SaysP fa fn pd ex w h K
  of := fun _ _ e => ⟨_, He.frT_in, ⟨He.saysX_of (congrArg (fun z : AlP => z.1) e), congrArg (fun z : AlP => z.2) e⟩⟩
  keeps := fun _ _ _ ⟨K, hK, c⟩ k => ⟨K, PySem.W.Frag.In.keeps hK k, ⟨⟨c.x.t, c.x.more, c.x.hd, c.x.out, fun p hp => k _ _ (c.x.empty p hp)⟩, c.p⟩⟩
theorem obsP_eq {n : Nat} {fa : List He.Fa} {fn : List He.DefD} {pd : List PropD} {ex : PySem.W.Frag → Bool} {g : Addr → Option Obj} {s : Shared} (h : ∀ a, g a = s.heap.get? a) : obsP n fa fn pd ex g = (hookP n fa fn pd ex).obs s := by
  have e : g = s.heap.get? := funext h
  rw [e] <;> rfl
theorem SaysP.prop {fa : List He.Fa} {fn : List He.DefD} {pd : List PropD} {ex : PySem.W.Frag → Bool} {w : World} {h : Heap} {K : PySem.W.Frag} (c : SaysP fa fn pd ex w h K) (i : Nat) {d : PropD} (hi : pd[i]? = some d := by rfl) :
    PropOf K (He.ga K d.cls) d.name (He.ma K (He.ga K d.cls) d.name) (pAd K d.cls d.name) ∧ ∃ fd, FunD K d.name d.qual d.params d.body d.scope [] [] (pAd K d.cls d.name) fd := by
  have h1 : (ex K && pd.all fun d => d.ok K) = true := c.x.more
  rw [Bool.and_eq_true] at h1
  have h2 : (pd.map fun d => fnA K (pAd K d.cls d.name))[i]? = (pd.map PropD.val)[i]? := by rw [c.p]
  rw [List.getElem?_map, List.getElem?_map, hi] at h2
  exact PropD.funD (Option.some.inj h2) (List.all_eq_true.mp h1.2 d (List.mem_of_getElem? hi))
theorem SaysP.more {fa : List He.Fa} {fn : List He.DefD} {pd : List PropD} {ex : PySem.W.Frag → Bool} {w : World} {h : Heap} {K : PySem.W.Frag} (c : SaysP fa fn pd ex w h K) : ex K = true := by
  have h1 : (ex K && pd.all fun d => d.ok K) = true := c.x.more
  rw [Bool.and_eq_true] at h1
  exact h1.1
end DL

namespace DL
open PySem PySem.Spec PyProof.Rows L2
def allStr : List D → Option (List Str)
  | [] => some []
  | .str z :: r => (allStr r).map (z :: ·)
  | _ => none
theorem strs_reps {K : PySem.W.Frag} {F : Hp} : ∀ {vs : List V} {ds : List D} {ys : List Str}, Reps K F vs ds → allStr ds = some ys → vs = ys.map V.str ∧ ∀ y ∈ ys, PyData.strOk y = true
  | _, _, _, .nil, h => by cases h; exact ⟨rfl, fun y hy => nomatch hy⟩
  | _, _, ys, .cons (d := d) (ds := ds) rv t, h => by
    cases rv with
    | str z hz =>
      obtain ⟨ms, e1, e2⟩ := Option.map_eq_some_iff.mp (show (allStr ds).map (z :: ·) = some ys from h)
      subst e2
      obtain ⟨h1, h2⟩ := strs_reps t e1
      rw [h1]
      refine ⟨rfl, fun y hy => ?_⟩
      rcases List.mem_cons.mp hy with rfl | hy
      · exact hz
      · exact h2 y hy
    | _ => cases h
theorem strOk_join {a : Str} (ha : PyData.strOk a = true) : ∀ {ys : List Str}, (∀ y ∈ ys, PyData.strOk y = true) → PyData.strOk (Str.join a ys) = true
  | [], _ => by show PyData.strOk (Str.join "" []) = true; decide +kernel
  | [x], h => h x (.head _)
  | x :: z :: r, h => by
    show PyData.strOk (x ++ a ++ Str.join a (z :: r)) = true
    exact strOk_app (strOk_app (h x (.head _)) ha) (strOk_join ha fun y hy => h y (.tail _ hy))
def isStrD : D → C Unit
  | .str _ => C.ret ()
  | _ => C.stuck
def dJoin (x y : D) : C D := match x with
  | .str a => (asS y).bind fun l => (ofO (allStr l)).bind fun ys => if (ys.map (·.length)).sum + ys.length * a.length ≤ 16777216 then C.ret (.str (Str.join a ys)) else C.stuck
  | _ => C.stuck
def eJoin (o e : DE) : DE := fun δ => (o δ).bind fun x => (isStrD x).bind fun _ => (e δ).bind fun y => dJoin x y
def dSIndex (x y : D) : C D := match x, y with
  | .str a, .str b => (match Builtin.Str.occurrences a b 0 a.length 1 with
    | i :: _ => C.ret (.int (i : Nat))
    | [] => C.stuck)
  | _, _ => C.stuck
def eSIndex (o e : DE) : DE := fun δ => (o δ).bind fun x => (isStrD x).bind fun _ => (e δ).bind fun y => dSIndex x y
section
variable {X : Cx} {W : WX} {o e : Expr} {co ce : DE} {apos pos : Pos}
theorem je_join (ho : JE X W o co) (he : JE X W e ce) (hs : starEach [e] X.env = [(false, eval e X.env)] := by rfl) (hbase : attributeBase o "join" X.env (eval o X.env) = eval o X.env := by rfl) (hline : (apos.endLine == pos.line) = true := by rfl) :
    JE X W (.Call (.Attribute o "join" apos) [e] [] pos) (eJoin co ce) :=
  (pe_join ho he hs hbase hline).dimp fun σ H Q ⟨F, m, G, δ, r, s, h⟩ =>
    ⟨F, m, G, δ, r, s, (LR.bind h).imp fun F1 H1 _ x e1 _ ⟨m1, r1, h1⟩ v rv => by
      cases x with
      | str a =>
        cases rv with
        | str _ ha =>
          refine ⟨⟨a, rfl⟩, F1, m1, G, δ, r1, s.mono e1, (LR.bind (show LR X.K F1 G ((ce δ).bind fun y => dJoin (.str a) y) m1 _ W σ from h1)).imp fun F2 H2 _ y e2 _ ⟨m2, r2, h5⟩ w rw => ?_⟩
          obtain ⟨p, vs, l, rfl, h6, h7, h8⟩ := asS_of r2 rw (show LR X.K F2 G ((asS y).bind fun l => (ofO (allStr l)).bind fun ys => if (ys.map (·.length)).sum + ys.length * a.length ≤ 16777216 then C.ret (D.str (Str.join a ys)) else C.stuck) m2 (fun F' H' d => ∀ v, Rep X.K F' v d → Q v H') W σ from h5)
          obtain ⟨ys, ey, h9⟩ := h8.ofOb
          obtain ⟨hn, h10⟩ := h9.ite
          obtain ⟨ev, hok⟩ := strs_reps h7 ey
          subst ev
          refine ⟨a, p, ys, rfl, rfl, h6, hn, ?_⟩
          rw [TL.join_eq]
          exact h10.ret r2 _ (.str _ (strOk_join ha hok))
      | _ => exact h1.elim⟩
theorem je_sindex (ho : JE X W o co) (he : JE X W e ce) (hs : starEach [e] X.env = [(false, eval e X.env)] := by rfl) (hbase : attributeBase o "index" X.env (eval o X.env) = eval o X.env := by rfl) (hline : (apos.endLine == pos.line) = true := by rfl) :
    JE X W (.Call (.Attribute o "index" apos) [e] [] pos) (eSIndex co ce) :=
  (pe_m1 PySem.F.slot_str_index PySem.F.type_str_index mt_sindex ho he hs hbase hline).dimp fun σ H Q ⟨F, m, G, δ, r, s, h⟩ =>
    ⟨F, m, G, δ, r, s, (LR.bind h).imp fun F1 H1 _ x e1 _ ⟨m1, r1, h1⟩ v rv => by
      cases x with
      | str a =>
        cases rv with
        | str _ ha =>
          refine ⟨⟨a, rfl⟩, F1, m1, G, δ, r1, s.mono e1, (LR.bind (show LR X.K F1 G ((ce δ).bind fun y => dSIndex (.str a) y) m1 _ W σ from h1)).imp fun F2 H2 _ y e2 _ ⟨m2, r2, h5⟩ w rw => ?_⟩
          cases y with
          | str b =>
            cases rw
            unfold dSIndex at h5
            simp only at h5
            split at h5
            · rename_i i rest ei
              exact ⟨a, b, i, rest, rfl, rfl, ei, h5.ret r2 _ (.int _)⟩
            · exact h5.elim
          | _ => exact h5.elim
      | _ => exact h1.elim⟩
end
def nfB (K : PySem.W.Frag) (c : Str) : Bool := PySem.W.notFirst K (He.ga K c) (.type "NoneType") && (PySem.W.notFirst K (He.ga K c) (.type "str") && PySem.W.notFirst K (He.ga K c) (.type "tuple"))
def dEqJ (c : Str) (fD : List D → C D) (x y : D) : C D := (asI x).bind fun i => if i.1 = c then (match y with
  | .non | .str _ | .tup _ => (fD [x, y]).noX.bind boolD
  | _ => C.stuck) else C.stuck
def rEqJ (K : PySem.W.Frag) (Cc : Addr) (fD : List D → C D) : R2 := fun x y H Q => ∃ a dx fs, x = .ref a ∧ H a = some (.ins Cc dx fs) ∧ (y = .non ∨ (∃ z, y = .str z) ∨ ∃ t xs, y = .ref t ∧ SqT K H t xs) ∧ spD K 2 fD [.ref a, y] H (fun v H' => (∃ q, v = .bl q) ∧ Q v H') (fun _ _ _ => False)
section
variable {X : Cx} {W : WX} {k : Nat} {fD : List D → C D} {c : Str}
theorem op_eqJ (h : HasM X.prog X.w X.K X.mg X.base c "__eq__" 1 k [] fD) (hnf : nfB X.K c = true) (hr : Room k X.A) : OpR X (compareOp .Eq) (rEqJ X.K (He.ga X.K c) fD) := by
  obtain ⟨f, fd, ps, dvs, dus, hC, hM, Fn, hb, hd, hdd, hn⟩ := h
  have hps : ps.length = 2 := by rw [← hn]; rfl
  have e1 : dvs = [] := by have := hdd (fun _ => none); cases this; rfl
  subst e1
  have e2 : dus = [] := by cases hd; rfl
  subst e2
  unfold nfB at hnf
  simp only [Bool.and_eq_true] at hnf
  obtain ⟨nN, nS, nT⟩ := hnf
  intro pins s σ H x y v u Q I rx ry ⟨a, dx, fs, ex, ha, hy, hsp⟩
  subst ex
  cases rx
  obtain ⟨mA, J, _⟩ := ins_get I.hok ha
  obtain ⟨od, J, _⟩ := J.look
  obtain ⟨m, hF⟩ := I.fr
  obtain ⟨tb, hL, hnfb⟩ : ∃ tb, PySem.W.Looks (model X.prog X.w) s.heap (typeOf u) tb ∧ PySem.W.notFirst X.K (He.ga X.K c) tb = true := by
    rcases hy with rfl | ⟨z, rfl⟩ | ⟨t, xs, rfl, hq⟩
    · cases (show u = Value.none from ry)
      exact ⟨_, fun A Q E s k q => wpAny_pure q, nN⟩
    · obtain ⟨tk, rfl⟩ : ∃ tk, u = Value.str z tk := ry
      exact ⟨_, fun A Q E s k q => wpAny_pure q, nS⟩
    · cases (show u = Value.ref t from ry)
      obtain ⟨its, rv, ⟨o, ho, hc, _⟩, hz⟩ := I.tuple hq
      exact ⟨_, fun A Q E s k q => wpAny_typeOf_ref (k _ _ ho) (by rw [hc]; exact q), nT⟩
  show wpAny (model X.prog X.w) X.A (richCompare .Eq (.ref a) u) (EP X pins σ Q) X.xe s
  refine PySem.W.cmp_K (op := .Eq) hr.units0 hF I.ok.mod.kin J hL hnfb hM.at_ hM.fn ?_
  have r2 : Vals [V.ref a, y] [Value.ref a, u] := .cons rfl (.cons ry .nil)
  rw [← hps] at hsp
  refine wpAny_call (codeAny_mono (Fn.run X.A X.stack s H ⟨[.ref a, u], []⟩ [.ref a, u] [.ref a, y] _ _ hr I.env0 (by
    have := hb s [.ref a, u] I.kIn (by rw [hps]; rfl)
    simpa using this) r2 hsp) fun r s' hq => ?_)
  cases r with
  | error e => exact passes_false pins σ H s e s' I hq
  | ok fl =>
    cases fl with
    | ret w =>
      obtain ⟨z, H', I', rz, ⟨q, ez⟩, qq⟩ := I.after hq
      subst ez
      cases rz
      exact ⟨.bl q, H', I', rfl, qq⟩
    | next => exact False.elim hq
    | brk => exact False.elim hq
    | cont => exact False.elim hq
theorem eqJ_end {F G : Hp} {m : Mem} {σ : L2.St} {x y : D} {Q : VK} (h4 : LR X.K F G ((fD [x, y]).noX.bind boolD) m (fun F' H' d => ∀ v, Rep X.K F' v d → Q v H') W σ) :
    LR X.K F G (fD [x, y]) m (fun F' H' d => ∀ v, Rep X.K F' v d → (∃ q, v = .bl q) ∧ Q v H') (fun _ _ _ _ => False) [] := by
  refine C.mono (fD [x, y]) (fun d m' q F' H' e r' u ru => ?_) (fun _ _ q => q.elim) h4
  cases d with
  | bl b => cases ru; exact ⟨⟨b, rfl⟩, q F' H' e r' _ (.bl b)⟩
  | _ => exact q.elim
theorem od_eqJ : OpD X W (dEqJ c fD) (rEqJ X.K (He.ga X.K c) fD) := by
  intro F m G H σ x y v w Q r rx ry h
  obtain ⟨a, dx, c1, fs, vs, rfl, q1, q2, h2⟩ := asI_of r rx h
  obtain ⟨hc1, h4⟩ := LR.ite h2
  have e1 : c1 = c := hc1
  subst e1
  cases y with
  | non =>
    cases ry
    exact ⟨a, dx, vs, rfl, q1, .inl rfl, rfl, F, m, G, _, r, .cons rx (.cons .non .nil), eqJ_end h4⟩
  | str z =>
    cases ry with
    | str _ hz => exact ⟨a, dx, vs, rfl, q1, .inr (.inl ⟨z, rfl⟩), rfl, F, m, G, _, r, .cons rx (.cons (.str z hz) .nil), eqJ_end h4⟩
  | tup l =>
    cases ry with
    | tup g1 g2 => exact ⟨a, dx, vs, rfl, q1, .inr (.inr ⟨_, _, rfl, r.ex.t g1⟩), rfl, F, m, G, _, r, .cons rx (.cons (.tup g1 g2) .nil), eqJ_end h4⟩
  | _ => exact h4.elim
end
end DL

namespace DL
open PySem PySem.Spec PyProof.Rows L2

theorem lookup_nd {α : Type} {x : Str} {u : α} : ∀ {l : List (Str × α)}, (l.map (·.1)).Nodup → (x, u) ∈ l → l.lookup x = some u
  | [], _, h => by cases h
  | (y, w) :: r, nd, h => by
    rw [List.map_cons, List.nodup_cons] at nd
    rcases List.mem_cons.mp h with e | h
    · cases e
      simp [List.lookup]
    · have ne : x ≠ y := fun e => nd.1 (by rw [← e]; exact List.mem_map.mpr ⟨(x, u), h, rfl⟩)
      have e : (x == y) = false := by simpa using ne
      rw [List.lookup, e]
      exact lookup_nd nd.2 h
theorem zip_rev {x : Str} {u : Value} {ps : List Str} {us : List Value} {i : Nat} (nd : ps.Nodup) (hl : us.length = ps.length) (h1 : ps[i]? = some x) (h2 : us[i]? = some u) : (ps.zip us).reverse.lookup x = some u := by
  refine lookup_nd ?_ ?_
  · rw [List.map_reverse, List.map_fst_zip (by omega)]
    exact (List.reverse_perm ps).nodup_iff.mpr nd
  · rw [List.mem_reverse]
    refine List.mem_iff_getElem?.mpr ⟨i, ?_⟩
    rw [List.getElem?_zip_eq_some]
    exact ⟨h1, h2⟩

/-- what the program says of its file -/
structure PrOk (P : Program) (file : Str) : Prop where
  file : ((P.main.file : Str) == file) = true
  top : (P.main.scope.names.lookup ("super" : Str)).isSome = false
/-- the __init__ at f of the error class at C -/
structure SuC (K : PySem.W.Frag) (mg : Str → Option Value) (file : Str) (C f : Addr) (name qual : Str) (params : Arguments) (body : List Stmt) (scope : Scope) (fd : FuncData) : Prop where
  T : OexC K C
  fi : PySem.W.findIn K (.ref C) "__init__" = some (some (.ref f))
  tI : PySem.W.typeIn K (.ref f) = some (.type "function")
  ex : ∃ (oc : Value) (od : Option Addr) (kV doc pm : Value) (an : Option Addr) (cda : Addr) (ct : Value) (cc : Addr) (osl : Array (Option Value)) (ccl : Value) (cdd : Option Addr) (vs : Array Value) (ccs : Array (Option Value)) (tf : Tok) (cl : Value) (cld : Option Addr) (csl : Array (Option Value)),
    fd = PySem.W.ksFn name qual params body scope .none kV doc pm an (.ref cda) ct cc ∧ K.lookup f = some ⟨oc, od, .func fd, osl⟩ ∧ PySem.W.codeIn K (.ref cda) qual = true ∧
      K.lookup cda = some ⟨ccl, cdd, .fields vs, ccs⟩ ∧ vs[2]? = some (.str file tf) ∧ K.lookup cc = some ⟨cl, cld, .cell (some (.ref C)), csl⟩
  op : PySem.W.nsIn K cStatics "thirdparty.any" = some none
  mr : PySem.W.mroIn K C (.ref C) = some true
  sup : mg "super" = none
  si : PySem.W.ks_superIn K C C "__init__" = some (some (.builtin "ValueError.__init__"))
  sub : PySem.W.subIn K (.ref C) (.type "ValueError") = some true
structure SuS (ps : List Str) (sc : Scope) : Prop where
  kind : sc.kind = .function
  co : sc.isCoroutine = false
  gen : sc.isGenerator = false
  nd : ps.Nodup
  par : ∀ x ∈ ps, sc.names.lookup x = some .local
  nocell : ∀ x ∈ sc.names, x.2 ≠ .cell
  free : ∀ x ∈ sc.names, x.2 = .free → x.1 = "__class__"
  su : sc.names.lookup ("super" : Str) = some .globalImplicit
  cl : sc.names.lookup ("__class__" : Str) = some .free

def cxS (P : Program) (w : World) (K : PySem.W.Frag) (mg : Str → Option Value) (base : Heap) (N : List Str) (qual : Str) (scope : Scope) (f : Addr) (cd : Value) (cc : Addr) (A : Around) (outer : List Env) (s : Shared) (H : Hp) (E : XK) : Cx where
  prog := P
  w := w
  K := K
  mg := mg
  base := base
  A := A.deeper (PySem.W.ksEnv qual scope s.heap.objs.size f cd cc)
  N := N
  s_0 := s
  H_0 := H
  env := PySem.W.ksEnv qual scope s.heap.objs.size f cd cc
  outer := outer
  stack := PySem.W.ksEnv qual scope s.heap.objs.size f cd cc :: outer
  ex := []
  calm := true
  fn := fun _ => false
  pn := []
  xe := fun e s' => wpAny (model P w) (A.deeper (PySem.W.ksEnv qual scope s.heap.objs.size f cd cc)) (leaving (PySem.W.ksEnv qual scope s.heap.objs.size f cd cc) e) (fun _ s'' => L2.CX P w outer H s E e s'') (fun e' s'' => L2.CX P w outer H s E e' s'') s'

theorem cell_one {x k : Str} {c cc : Addr} (h : List.lookup x [(k, cc)] = some c) : x = k ∧ c = cc := by
  by_cases e : x = k
  · subst e
    simpa [eq_comm] using h
  · simp [List.lookup, beq_eq_false_iff_ne.mpr e] at h
theorem start_val {vs : List V} {i : Nat} {v : V} (h : (vs.map some)[i]? = some (some v)) : vs[i]? = some v := by simpa using h
theorem inv_startS {P : Program} {w : World} {K : PySem.W.Frag} {mg : Str → Option Value} {base : Heap} {ps : List Str} {qual : Str} {scope : Scope} {f : Addr} {cd : Value} {cc : Addr} {A : Around} {outer : List Env} {s : Shared} {h₀ : Heap} {tk : Nat} {H : Hp} {E : XK} {us : List Value} {vs : List V}
    {cl : Value} {cld : Option Addr} {csl : Array (Option Value)} {cv : Option Value} (S : SuS ps scope) (hd : A.handled = none) (e0 : Env0 P w K mg base A outer s H) (hl : vs.length = ps.length) (r : Vals vs us) (hcell : K.lookup cc = some ⟨cl, cld, .cell cv, csl⟩)
    (hns : h₀.Ns s.heap.objs.size (fun x => (ps.zip us).reverse.lookup x)) (hk : ∀ b o, s.heap.get? b = some o → h₀.get? b = some o) :
    Inv (cxS P w K mg base ps qual scope f cd cc A outer s H E) [] (vs.map some) H { s with heap := h₀, toks := tk } := by
  have lies : base.get? cc = some ⟨cl, cld, .cell cv, csl⟩ := e0.mod.kin _ _ hcell
  have cells : ∀ {x : Str} {c : Addr}, (cxS P w K mg base ps qual scope f cd cc A outer s H E).env.cells.lookup x = some c → x = "__class__" ∧ c = cc := cell_one
  have names : ∀ y : Str, scope.names.lookup y = some .cell ∨ scope.names.lookup y = some .free → ∃ c, List.lookup y [(("__class__" : Str), cc)] = some c := fun y hy => by
    have member : (y, NameKind.free) ∈ scope.names := hy.elim (fun z => absurd rfl (S.nocell _ (PySem.mem_of_lookup z))) PySem.mem_of_lookup
    obtain rfl : y = "__class__" := S.free _ member rfl
    exact ⟨cc, List.lookup_cons_self⟩
  have vals : ∀ {i : Nat} {y : Str} {v : V}, ps[i]? = some y → (vs.map some)[i]? = some (some v) → ∃ u, RelV v u ∧ (ps.zip us).reverse.lookup y = some u := fun {i y v} h1 h2 =>
    have ⟨u, at_, rel⟩ := r.get (start_val h2)
    ⟨u, rel, zip_rev S.nd (r.length.symm.trans hl) h1 at_⟩
  have none_ : ∀ b : Addr, b ∉ (cxS P w K mg base ps qual scope f cd cc A outer s H E).ex := fun b => List.not_mem_nil
  constructor
  case ok => exact ⟨e0.mod, S.kind, rfl, rfl, Nat.le_refl _, fun y z c h1 h2 => (cells h1).1.trans (cells h2).1.symm, names, fun y c z h => absurd (show false = true from z) (by decide), fun _ => hd, Around.frames_deeper e0.frames, .inr ⟨rfl, rfl⟩, fun b z => (none_ b z).elim, e0.bs, e0.bsz, fun b _ _ => none_ b, fun b z => (none_ b z).elim, e0.funs, e0.frf⟩
  case loc => exact ⟨_, hns, fun i y v h1 h2 h3 => let ⟨u, rel, look⟩ := vals h1 h2; ⟨u, rel, .inl ⟨S.par y (List.mem_of_getElem? h1), look⟩⟩⟩
  all_goals first
    | exact rfl
    | exact e0.bare
    | exact Un.kept hk
    | exact e0.hok.fresh (Nat.le_refl _)
    | exact e0.hok.kept hk
    | exact (List.length_map _).trans hl
    | exact fun p hp => absurd (show p ∈ ([] : List (Addr × Obj)) from hp) List.not_mem_nil
    | exact fun y c h => (cells h).2 ▸ ⟨cv, _, hk _ _ (e0.bs _ _ lies).1, rfl⟩
    | exact fun y c h => (cells h).2 ▸ (e0.bs _ _ lies).2
open PySem.W in
theorem su_node {P : Program} {w : World} {K : PySem.W.Frag} {mg : Str → Option Value} {base : Heap} {ps : List Str} {qual file : Str} {scope : Scope} {f : Addr} {cda cc : Addr} {A : Around} {outer : List Env} {s s1 : Shared} {H H1 : Hp} {E : XK} {E₁ : Value → Shared → Prop} {σ : L2.St}
    {body : List Stmt} {p0 p1 : Pos} {whole : Sem Value} {Q : Value → Shared → Prop} {C a : Addr} {name : Str} {params : Arguments} {fbody : List Stmt} {fd : FuncData} {ar : Arg}
    (hP : PrOk P file) (F : SuC K mg file C f name qual params fbody scope fd) (S : SuS ps scope)
    (hfd : fd.params = params) (har : (params.posonlyargs ++ params.args).head? = some ar) (hka : scope.names.lookup ar.arg = some .local)
    {ccl : Value} {cdd : Option Addr} {vs : Array Value} {ccs : Array (Option Value)} {tf : Tok} {cl : Value} {cld : Option Addr} {csl : Array (Option Value)} {oc : Value} {od : Option Addr} {osl : Array (Option Value)}
    (hf : K.lookup f = some ⟨oc, od, .func fd, osl⟩) (hcode : K.lookup cda = some ⟨ccl, cdd, .fields vs, ccs⟩) (hvs : vs[2]? = some (.str file tf)) (hcell : K.lookup cc = some ⟨cl, cld, .cell (some (.ref C)), csl⟩)
    (I : Inv (cxS P w K mg base ps qual scope f (.ref cda) cc A outer s H E) [] σ H1 s1) {m : Str → Option Value} (hns : s1.heap.Ns s.heap.objs.size m) (hm : m ar.arg = some (.ref a)) (ea : H1 a = some (exo a C none))
    (h : ∀ so h', h'.get? so = some (ks_superObj C a C) → (∀ b o, s1.heap.get? b = some o → h'.get? b = some o) → s1.heap.objs.size ≤ so → Q (.ref so) { s1 with heap := h' }) :
    _root_.PySem.wpAt (model P w) (A.deeper (ksEnv qual scope s.heap.objs.size f (.ref cda) cc)) (.func body (ksEnv qual scope s.heap.objs.size f (.ref cda) cc)) (attributeBase (.Call (.Name "super" p0) [] [] p1) "__init__" (ksEnv qual scope s.heap.objs.size f (.ref cda) cc) whole) Q E₁ s1 := by
  have X : K.In s1.heap := I.kIn
  obtain ⟨nm, q, N, bs, bm, sn, sub, ab, col, dd, k0, k1, k2, k3, k5, hC, hbm⟩ := F.T.cls
  have hC1 := X _ _ hC
  obtain ⟨t1, hx⟩ := exo_at I.hok ea
  have hg : s1.heap.Ns mainGlobals mg := I.mod.glob.keeps I.bk
  obtain ⟨mb, hb, hb2⟩ := I.mod.blt
  refine ks_wpAt_super_base (env := ksEnv qual scope s.heap.objs.size f (.ref cda) cc) S.su S.cl (by decide) rfl (X _ _ hf) rfl (by rw [hfd]; exact har) rfl (X _ _ hcode) rfl hvs hP.file hP.top ?_
  refine ks_loadName_global S.kind S.su (PySem.Calls.loadGlobal_builtin (env := ksEnv qual scope s.heap.objs.size f (.ref cda) cc) hg F.sup (hb.keeps I.bk) ((hb2 _ (by decide)).trans (by first | boot_by_name | rfl | kernel_rfl)) ⟨rfl, ?_⟩)
  refine wpAny_loadName_free S.kind S.cl rfl ⟨_, X _ _ hcell, rfl⟩ ?_
  refine wpAny_loadName_local S.kind hka hns hm ?_
  refine ks_wpAny_isType_cls hC1 rfl ⟨rfl, ?_⟩
  obtain ⟨hh, g, d, t, os⟩ := s1
  refine ks_wpAny_call_super hC1 rfl hx rfl (fun c e => by cases e) (looks_mroIn X F.mr) (fun h' e k => ?_)
  exact h _ h' e k (Nat.le_refl _)
open PySem.W in
theorem call_mwV {prog : Program} {w : World} {A : Around} {E : Value → Shared → Prop} {h : Heap} {g : Array GenState} {d : Drawn} {t : Nat} {os : OsState} {nm q : Str} {C N : Addr} {bs bm : List Value} {hdct : Bool} {sn : List Str} {sub : List Value} {ab : Bool} {col : Option Bool} {dd : Option Addr} {k0 k1 k2 k3 k5 : Option Value}
    {u e t0 : Addr} {rest : List Value} {Q : Value → Shared → Prop} (hC : h.get? C = some (excClassObj nm q C N bs bm hdct sn sub ab col dd k0 k1 k2 k3 k5 "ValueError.__new__")) (he : h.get? e = some (excObj C t0 none .none)) (hu : h.get? u = some (kxs_mw "ValueError.__init__" e)) (hrest : rest.length ≤ sizeLine)
    (hq : ∀ h', (∀ b o, b ≠ e → h.get? b = some o → h'.get? b = some o) → h'.get? e = some (excObj C h.objs.size none .none) → Q .none ⟨h', g, d, t, os⟩) : wpAny (model prog w) A (call (.ref u) rest) Q E ⟨h, g, d, t, os⟩ := by
  have init : codeAny (model prog w) A (.builtin "ValueError.__init__" ⟨.ref e :: rest, []⟩) (fun r s' => match r with | .ok (.ret v) => Q v s' | .ok _ => False | .error x => E x s') ⟨h, g, d, t, os⟩ :=
    codeAny_builtin PySem.F.excBase_ValueError.initEntry (exc_init_tree (cls := .ref C) (t0 := t0) he hrest fun h' keep new _ => hq h' keep new)
  refine wpAny_call (codeAny_of_tree (wpAny_bind (wpAny_load hu (KFB.if_so (by simp [kxs_mw]) (wpAny_bind (check_bound_init PySem.F.excBase_ValueError.toExcCallFacts hC he rfl ?_))))))
  exact wpAny_bind (wpAny_pure (wpAny_pure ⟨plainId_quiet PySem.F.excBase_ValueError.init.plain _, init⟩))
/-- the call by its line -/
def SuE (p0 p1 p2 p3 p4 : Pos) (txt : Str) (j : Nat) (pl : Env → Sem Bool) : Prop := ∀ env : Env, eval (.Call (.Attribute (.Call (.Name "super" p0) [] [] p1) "__init__" p2) [.Constant (.str txt) j p3] [] p4) env = (do
      let ov ← attributeBase (.Call (.Name "super" p0) [] [] p1) "__init__" env (eval (.Call (.Name "super" p0) [] [] p1) env)
      standAt p2.atName
      let (f, first) ← holding [ov] (getMethod ov "__init__" (pl env))
      callWith p4 f first (backTo p4 (starEach [.Constant (.str txt) j p3] env)) [])
open PySem.W in
/-- super().__init__(text) as a statement -/
theorem su_stmt {P : Program} {w : World} {K : PySem.W.Frag} {mg : Str → Option Value} {base : Heap} {ps : List Str} {qual file : Str} {scope : Scope} {f : Addr} {cda cc : Addr} {A : Around} {outer : List Env} {s s1 : Shared} {H H1 : Hp} {E : XK} {E₁ : Value → Shared → Prop} {σ : L2.St}
    {body : List Stmt} {p0 p1 p2 p3 p4 p5 : Pos} {txt : Str} {j : Nat} {Q : Flow → Shared → Prop} {C a : Addr} {name : Str} {params : Arguments} {fbody : List Stmt} {fd : FuncData} {ar : Arg}
    {pl : Env → Sem Bool} (hce : SuE p0 p1 p2 p3 p4 txt j pl)
    (hP : PrOk P file) (F : SuC K mg file C f name qual params fbody scope fd) (S : SuS ps scope)
    (hfd : fd.params = params) (har : (params.posonlyargs ++ params.args).head? = some ar) (hka : scope.names.lookup ar.arg = some .local)
    {ccl : Value} {cdd : Option Addr} {vs : Array Value} {ccs : Array (Option Value)} {tf : Tok} {cl : Value} {cld : Option Addr} {csl : Array (Option Value)} {oc : Value} {od : Option Addr} {osl : Array (Option Value)}
    (hf : K.lookup f = some ⟨oc, od, .func fd, osl⟩) (hcode : K.lookup cda = some ⟨ccl, cdd, .fields vs, ccs⟩) (hvs : vs[2]? = some (.str file tf)) (hcell : K.lookup cc = some ⟨cl, cld, .cell (some (.ref C)), csl⟩)
    (I : Inv (cxS P w K mg base ps qual scope f (.ref cda) cc A outer s H E) [] σ H1 s1) {m : Str → Option Value} (hns : s1.heap.Ns s.heap.objs.size m) (hm : m ar.arg = some (.ref a)) (ea : H1 a = some (exo a C none))
    (h : ∀ s', Inv (cxS P w K mg base ps qual scope f (.ref cda) cc A outer s H E) [] σ H1 s' → Q .next s') :
    _root_.PySem.wpAt (model P w) (A.deeper (ksEnv qual scope s.heap.objs.size f (.ref cda) cc)) (.func body (ksEnv qual scope s.heap.objs.size f (.ref cda) cc))
      (exec (.Expr (.Call (.Attribute (.Call (.Name "super" p0) [] [] p1) "__init__" p2) [.Constant (.str txt) j p3] [] p4) p5) (ksEnv qual scope s.heap.objs.size f (.ref cda) cc)) Q E₁ s1 := by
  refine ks_wpAt_Expr_any (ks_wpAt_MethodCall ?_ (hce _)) (by unfold interactive; rw [S.kind]; rfl) rfl
  · refine su_node hP F S hfd har hka hf hcode hvs hcell I hns hm ea fun so h1 hso k1 hle => ?_
    have I1 : Inv (cxS P w K mg base ps qual scope f (.ref cda) cc A outer s H E) [] σ H1 { s1 with heap := h1 } := I.kept (t' := s1.toks) k1
    have X1 : K.In h1 := I1.kIn
    obtain ⟨nm, q, N, bs, bm, sn, sub, ab, col, dd, k0, k1', k2, k3, k5, hC, hbm⟩ := F.T.cls
    obtain ⟨t1, hx⟩ := exo_at I1.hok ea
    have hclC : clsIn K C = some { name := nm, bases := bs, mro := .ref C :: bm, ns := N, qualname := q, hasDict := true, slotNames := sn, subclasses := sub, abstract := ab, collection := col, hasDel := false } := by unfold clsIn; rw [hC] <;> rfl
    have hsi := F.si
    unfold ks_superIn at hsi
    rw [hclC, Option.bind_some] at hsi
    have IA : InstAt h1 a { cls := .ref C, dict := none, data := .fields #[.ref t1, .none, .none, .none, .bool false, .none] } C none := ⟨hx, rfl, rfl, trivial⟩
    have hI : Looks (model P w) h1 (isInstance (.ref a) (.type "ValueError")) true := IA.type.andThen (looks_subIn X1 F.sub)
    have hmr : Looks (model P w) h1 (mroOf (.ref C)) (.ref C :: bm) := (looks_clsIn X1 hclC).andThen .now
    obtain ⟨hp, g, d, t, os⟩ := s1
    dsimp only at I1 hx h1 ⊢
    refine kxs_getMethod kxs_ValueError hso (looks_opaque X1 F.op) hmr rfl X1 hsi hI (ks_ne X1 IA hclC) (by decide) ?_
    have I2 : Inv (cxS P w K mg base ps qual scope f (.ref cda) cc A outer s H E) [] σ H1 ⟨h1.push (kxs_mw "ValueError.__init__" a), g, d, t + 1, os⟩ := I1.kept (t' := t + 1) fun b o e => Heap.get?_push_of_some _ e
    have hu : (h1.push (kxs_mw "ValueError.__init__" a)).get? h1.objs.size = some (kxs_mw "ValueError.__init__" a) := Heap.get?_push_at rfl rfl
    refine kxs_callWith (i := "ValueError.__init__") (x := a) rfl ?_
    refine PySem.Calls.evalArgs_plain ?_
    refine PySem.Calls.spliced_cons (PySem.Calls.Constant_str (k := j) (pos := p3) ?_)
    refine PySem.Calls.spliced_nil ⟨hu, ?_⟩
    have I3 : Inv (cxS P w K mg base ps qual scope f (.ref cda) cc A outer s H E) [] σ H1 ⟨h1.push (kxs_mw "ValueError.__init__" a), g, d, t + 1 + 1, os⟩ := I2.tok _
    obtain ⟨t2, hx2⟩ := exo_at I3.hok ea
    refine call_mwV (rest := [.str txt (t + 1)]) (I3.kIn _ _ hC) hx2 hu (by show 1 ≤ sizeLine; decide) fun h' k e1 => ?_
    have J := I3.write (t' := t + 1 + 1) (x := a) (e := a) (o := exo a C none) (by rw [ea]; exact True.intro) (.inl rfl) k ⟨_, e1⟩ (exo_ok e1)
    have eu : upd H1 a (exo a C none) = H1 := by
      funext b
      by_cases hb : b = a
      · rw [hb, upd_same, ea]
      · rw [upd_ne hb]
    rw [eu] at J
    exact h _ J
theorem env0_here {P : Program} {w : World} {K : PySem.W.Frag} {mg : Str → Option Value} {base : Heap} {A : Around} {outer : List Env} {s : Shared} {H : Hp} (e : Env0 P w K mg base A outer s H) : K.In s.heap ∧ s.heap.NoLimit :=
  have old : ∀ b o, base.get? b = some o → s.heap.get? b = some o := fun b o q => (e.bs b o q).1
  ⟨e.mod.kin.keeps old, e.mod.nolimit.keeps old⟩
open PySem.W in
theorem fn_super {P : Program} {w : World} {K : PySem.W.Frag} {mg : Str → Option Value} {base : Heap} {k : Nat} {ps : List Str} {sp : Sp} {qual file name : Str} {params : Arguments} {rest : List Stmt} {scope : Scope} {C f : Addr} {fd : FuncData}
    {p0 p1 p2 p3 p4 p5 : Pos} {txt : Str} {j : Nat} {ar : Arg} {pr : List Str} {pl : Env → Sem Bool} (hce : SuE p0 p1 p2 p3 p4 txt j pl)
    (hP : PrOk P file) (F : SuC K mg file C f name qual params (.Expr (.Call (.Attribute (.Call (.Name "super" p0) [] [] p1) "__init__" p2) [.Constant (.str txt) j p3] [] p4) p5 :: rest) scope fd) (S : SuS ps scope)
    (har : (params.posonlyargs ++ params.args).head? = some ar) (hps : ps = ar.arg :: pr) (len : ∀ vs H Q E, sp vs H Q E → vs.length = ps.length)
    (hbody : ∀ (cdv : Value) (cc : Addr) (A : Around) (outer : List Env) (s : Shared) (H : Hp) (vs : List V) (Q : VK) (E : XK), sp vs H Q E → ∃ a ws t, vs = .ref a :: ws ∧ H a = some (exo a C none) ∧
      PSs (cxS P w K mg base ps qual scope f cdv cc A outer s H E) rest t ∧ t { nx := fun _ H' => Q .non H', rt := Q } (vs.map some) H) :
    FnOk P w K mg base (L2.CX P w) (k + 1) f fd ps sp := by
  refine ⟨len, ?_⟩
  intro A outer s H args us vs Q E hr e0 hb r hsp
  have hl := len _ _ _ _ hsp
  obtain ⟨oc, od, kV, doc, pm, an, cda, ct, cc, osl, ccl, cdd, vs2, ccs, tf, cl, cld, csl, rfl, lk, hcd, hcode, hvs, hcell⟩ := F.ex
  have ⟨KX, lim⟩ := env0_here e0
  have hus : us.length = ps.length := by rw [← r.length]; exact hl
  have hka : scope.names.lookup ar.arg = some .local := S.par _ (by rw [hps]; exact List.mem_cons_self)
  refine ks_codeAny_call_defAt hr.depth (KX _ _ lk) rfl lim (codeRec_of KX hcd) rfl hb S.nocell (fun y hy => S.par _ (List.of_mem_zip hy).1) (fun h₀ hns hk => ?_) S.co S.gen S.kind
  obtain ⟨a, ws, t, rfl, ea, ht, hq⟩ := hbody (.ref cda) cc A outer s H vs Q E hsp
  have I : Inv (cxS P w K mg base ps qual scope f (.ref cda) cc A outer s H E) [] ((V.ref a :: ws).map some) H { s with heap := h₀, toks := s.toks + (ps.zip us).length } := inv_startS S hr.hd e0 hl r hcell hns hk
  have hm : (fun x => (ps.zip us).reverse.lookup x) ar.arg = some (.ref a) := by
    cases r with
    | @cons _ u0 _ ur ra rw' =>
      obtain rfl : u0 = Value.ref a := ra
      exact zip_rev (i := 0) S.nd hus (by rw [hps]; rfl) rfl
  refine ks_wpAt_execs_cons (su_stmt hce hP F S rfl har hka lk hcode hvs hcell I hns hm ea fun s' J => ?_)
  refine wpAt_of_wpAny (wpAny_mono (ht.run [] s' _ H _ J hq) (fun fl s2 hs => ?_) fun e s2 hs => hs)
  exact match fl, hs with
    | .ret _, ⟨v, _, G, J, rv, q⟩ => ⟨v, G, J.os, J.bare, J.base, J.hok, rv, q⟩
    | .next, ⟨_, G, J, q⟩ => ⟨.non, G, J.os, J.bare, J.base, J.hok, rfl, q⟩
    | .brk, ⟨_, _, _, q⟩ => q.elim
    | .cont, ⟨_, _, _, q⟩ => q.elim

/-- such an __init__ with the fields fs keeps this -/
def spX (C : Addr) (fs : List Str) : Sp := fun vs H Q _ => ∃ (a : Addr) (ws : List V), vs = .ref a :: ws ∧ ws.length = fs.length ∧ H a = some (exo a C none) ∧
  ∀ dx, H dx = none → dx ≠ a → Q .non (upd (upd H dx (exd dx (fs.zip ws).reverse)) a (exo a C (some dx)))
theorem upd_swap {H : Hp} {a b : Addr} {o u : HO} (h : b ≠ a) : upd (upd H a o) b u = upd (upd H b u) a o := by
  funext c
  by_cases h1 : c = a
  · subst h1
    rw [upd_ne (Ne.symm h), upd_same, upd_same]
  · by_cases h2 : c = b
    · subst h2
      rw [upd_same, upd_ne h, upd_same]
    · rw [upd_ne h2, upd_ne h1, upd_ne h1, upd_ne h2]
theorem upd_twice {H : Hp} {a : Addr} {o u : HO} : upd (upd H a o) a u = upd H a u := by
  funext c
  by_cases h1 : c = a
  · subst h1
    rw [upd_same, upd_same]
  · rw [upd_ne h1, upd_ne h1, upd_ne h1]
section
variable {P : Program} {w : World} {K : PySem.W.Frag} {mg : Str → Option Value} {base : Heap} {k : Nat} {qual file name : Str} {params : Arguments} {scope : Scope} {C f : Addr} {fd : FuncData}
    {p0 p1 p2 p3 p4 p5 q0 q1 q2 q3 r0 r1 r2 r3 : Pos} {txt : Str} {j : Nat} {ar : Arg} {x g y z : Str} {pl : Env → Sem Bool}
theorem fn_super1 (hce : SuE p0 p1 p2 p3 p4 txt j pl) (hP : PrOk P file)
    (F : SuC K mg file C f name qual params [.Expr (.Call (.Attribute (.Call (.Name "super" p0) [] [] p1) "__init__" p2) [.Constant (.str txt) j p3] [] p4) p5, .Assign [.Attribute (.Name x q0) g q1] (.Name y q2) q3] scope fd) (S : SuS [x, y] scope)
    (har : (params.posonlyargs ++ params.args).head? = some ar) (hx : ar.arg = x) (hno : PySem.W.findIn K (.ref C) g = some none)
    (d1 : (x == ("__debug__" : Str)) = false := by decide) (d2 : (x == ("__classdict__" : Str)) = false := by decide) (d3 : (y == ("__debug__" : Str)) = false := by decide) (d4 : (y == ("__classdict__" : Str)) = false := by decide) :
    FnOk P w K mg base (L2.CX P w) (k + 1) f fd [x, y] (spX C [g]) := by
  refine fn_super hce hP F S har (by rw [hx]) (fun vs H Q E h => ?_) fun cdv cc A outer s H vs Q E h => ?_
  · obtain ⟨a, ws, rfl, h1, _⟩ := h
    rw [List.length_cons, h1]
    rfl
  · obtain ⟨a, ws, rfl, h1, ea, h2⟩ := h
    match ws, h1 with
    | [v], _ =>
      refine ⟨a, [v], _, rfl, ea, pss_one (ps_ost (pe_var (i := 0) rfl (.inl (S.par x (by simp))) d1 d2) (pe_var (i := 1) rfl (.inl (S.par y (by simp))) d3 d4) rfl), ?_⟩
      refine ⟨v, rfl, .ref a, rfl, a, C, rfl, F.T, hno, .inl ⟨ea, fun dx n ne => h2 dx n ne⟩⟩
theorem fn_super2 (hce : SuE p0 p1 p2 p3 p4 txt j pl) (hP : PrOk P file) {g2 : Str}
    (F : SuC K mg file C f name qual params [.Expr (.Call (.Attribute (.Call (.Name "super" p0) [] [] p1) "__init__" p2) [.Constant (.str txt) j p3] [] p4) p5, .Assign [.Attribute (.Name x q0) g q1] (.Name y q2) q3, .Assign [.Attribute (.Name x r0) g2 r1] (.Name z r2) r3] scope fd) (S : SuS [x, y, z] scope)
    (har : (params.posonlyargs ++ params.args).head? = some ar) (hx : ar.arg = x) (hno : PySem.W.findIn K (.ref C) g = some none) (hno2 : PySem.W.findIn K (.ref C) g2 = some none)
    (d1 : (x == ("__debug__" : Str)) = false := by decide) (d2 : (x == ("__classdict__" : Str)) = false := by decide) (d3 : (y == ("__debug__" : Str)) = false := by decide) (d4 : (y == ("__classdict__" : Str)) = false := by decide)
    (d5 : (z == ("__debug__" : Str)) = false := by decide) (d6 : (z == ("__classdict__" : Str)) = false := by decide) :
    FnOk P w K mg base (L2.CX P w) (k + 1) f fd [x, y, z] (spX C [g, g2]) := by
  refine fn_super hce hP F S har (by rw [hx]) (fun vs H Q E h => ?_) fun cdv cc A outer s H vs Q E h => ?_
  · obtain ⟨a, ws, rfl, h1, _⟩ := h
    rw [List.length_cons, h1]
    rfl
  · obtain ⟨a, ws, rfl, h1, ea, h2⟩ := h
    match ws, h1 with
    | [v, v2], _ =>
      refine ⟨a, [v, v2], _, rfl, ea, pss_cons (ps_ost (pe_var (i := 0) rfl (.inl (S.par x (by simp))) d1 d2) (pe_var (i := 1) rfl (.inl (S.par y (by simp))) d3 d4) rfl)
        (pss_one (ps_ost (pe_var (i := 0) rfl (.inl (S.par x (by simp))) d1 d2) (pe_var (i := 2) rfl (.inl (S.par z (by simp))) d5 d6) rfl)), ?_⟩
      refine ⟨v, rfl, .ref a, rfl, a, C, rfl, F.T, hno, .inl ⟨ea, fun dx n ne => ?_⟩⟩
      refine ⟨v2, rfl, .ref a, rfl, a, C, rfl, F.T, hno2, .inr ⟨dx, [(g, v)], upd_same, ?_, by show 1 ≤ 900; decide, ?_⟩⟩
      · rw [upd_ne ne, upd_same]
      · rw [upd_swap ne, upd_twice]
        exact h2 dx n ne
end
end DL

namespace DL
open PySem PySem.Spec PyProof.Rows L2

def atSl (oi : Option Nat) (o : Option V) (σ : L2.St) : L2.St := match oi with
  | none => σ
  | some i => σ.set i o
def endsA (oi : Option Nat) (D : Ends) : Ends := { nx := fun σ H => D.nx (atSl oi none σ) H, rt := D.rt, bk := fun σ H => D.bk (atSl oi none σ) H, ct := fun σ H => D.ct (atSl oi none σ) H }
abbrev Cls1 : Type := Value × Option Nat × (Addr → Value → Option Addr → TS)
def wManyA (K : PySem.W.Frag) (Wout : WX) (D : Ends) : List Cls1 → WX
  | [] => Wout
  | (c, oi, ts) :: r => fun cls d σ H => ∃ b, PySem.W.exmOne K cls c = some b ∧ (b = true → ∀ a, H a = none → ts a cls d (endsA oi D) (atSl oi (some (.ref a)) σ) H) ∧ (b = false → wManyA K Wout D r cls d σ H)
inductive HdsA (X : Cx) : List ExceptHandler → List Cls1 → Prop
  | nil : HdsA X [] []
  | cons {x : Str} {c : Value} {on : Option Str} {oi : Option Nat} {ts : Addr → Value → Option Addr → TS} {b₀ : Stmt} {suite : List Stmt} {np pos' : Pos} {hds : List ExceptHandler} {l : List Cls1} (hc : Names X x c)
      (hn : (on = none ∧ oi = none) ∨ ∃ n i, on = some n ∧ oi = some i ∧ X.N[i]? = some n ∧ X.env.kindOf n = some .local)
      (hsu : ∀ (a : Addr) (oe : Obj) (cls : Value) (d : Option Addr) (pn : List (Addr × Obj)), Zc cls d oe → (∃ vs, oe.data = .fields vs) → PSs (X.suite a ((a, oe) :: pn)) (b₀ :: suite) (ts a cls d)) (r : HdsA X hds l) :
      HdsA X (.ExceptHandler (some (.Name x np)) on (b₀ :: suite) pos' :: hds) ((c, oi, ts) :: l)
section
variable {X : Cx} {body : List Stmt} {h₀ : ExceptHandler} {hds : List ExceptHandler} {l : List Cls1} {pos : Pos} {tb : WX → TS} {Wout : WX}
theorem sp_seen {X Y : Cx} {pn pins : List (Addr × Obj)} {oi : Option Nat} {D : Ends} {f : Flow} {s : Shared} (k : ∀ σ H, Inv Y pn σ H s → Inv X pins σ H s) (h : SP Y pn (endsA oi D) f s) :
    ∃ σ H, Inv X pins σ H s ∧ ∀ z, Inv X pins (atSl oi none σ) H z → SP X pins D f z :=
  match f, h with
  | .next, ⟨σ, H, J, q⟩ => ⟨σ, H, k σ H J, fun _ J' => ⟨_, H, J', q⟩⟩
  | .brk, ⟨σ, H, J, q⟩ => ⟨σ, H, k σ H J, fun _ J' => ⟨_, H, J', q⟩⟩
  | .cont, ⟨σ, H, J, q⟩ => ⟨σ, H, k σ H J, fun _ J' => ⟨_, H, J', q⟩⟩
  | .ret _, ⟨v, σ, H, J, r, q⟩ => ⟨σ, H, k σ H J, fun _ J' => ⟨v, _, H, J', r, q⟩⟩
structure Aloft (X : Cx) (pins : List (Addr × Obj)) (B : Heap) (z : Shared) (a : Addr) (cls : Value) (d : Option Addr) (σ : L2.St) (H : Hp) (s : Shared) : Prop where
  at_ : Inv X pins σ H z
  ground : ∀ b o, z.heap.get? b = some o → b ∉ frs X.stack → B.get? b = some o
  up : z.heap.UpToSlots s.heap
  fly : HandSPX.FlyingZ B X.stack a (Zc cls d) s.heap
  own : H a = none
  os : s.os = z.os
  bare : AllBare s.gens
theorem Aloft.next {X : Cx} {pins : List (Addr × Obj)} {B : Heap} {z s : Shared} {a : Addr} {cls : Value} {d : Option Addr} {σ : L2.St} {H : Hp} (F : Aloft X pins B z a cls d σ H s) {h : Heap} (f : HandSPX.FlyingZ B X.stack a (Zc cls d) h) (u : s.heap.UpToSlots h) : Aloft X pins B z a cls d σ H { s with heap := h } :=
  ⟨F.at_, F.ground, F.up.trans u, f, F.own, F.os, F.bare⟩
theorem Aloft.inv {X : Cx} {pins : List (Addr × Obj)} {B : Heap} {z s : Shared} {a : Addr} {cls : Value} {d : Option Addr} {σ : L2.St} {H : Hp} (F : Aloft X pins B z a cls d σ H s) : Inv X pins σ H s := F.at_.landed F.ground F.fly.1 F.up F.os F.bare
theorem Aloft.noframe {X : Cx} {pins : List (Addr × Obj)} {B : Heap} {z s : Shared} {a : Addr} {cls : Value} {d : Option Addr} {σ : L2.St} {H : Hp} (F : Aloft X pins B z a cls d σ H s) : a ∉ frs X.stack := by
  intro m
  obtain ⟨oe, vs, e1, _, e2⟩ := F.fly.there
  obtain ⟨o, e3, no⟩ := (F.fly.2.2.1.mem m).2
  exact no vs (Option.some.inj (e3.symm.trans e1) ▸ e2)
theorem Aloft.suite {X : Cx} {pins : List (Addr × Obj)} {B : Heap} {z s : Shared} {a : Addr} {cls : Value} {d : Option Addr} {σ : L2.St} {H : Hp} (F : Aloft X pins B z a cls d σ H s) (hs : X.stack = X.env :: X.outer) (hf : X.env.frame = some X.env.locals) :
    ∃ oe, s.heap.get? a = some oe ∧ Zc cls d oe ∧ (∃ vs, oe.data = .fields vs) ∧ Inv (X.suite a ((a, oe) :: (X.pn ++ pins))) [] σ H s := by
  obtain ⟨oe, vs, e1, zc, e2⟩ := F.fly.there
  have no := F.noframe
  rw [hs] at no
  have inFrs : ∀ {e : Env} {b : Addr}, e ∈ X.env :: X.outer → e.frame = some b → b ∈ frs (X.env :: X.outer) := fun m q => List.mem_filterMap.mpr ⟨_, m, q⟩
  refine ⟨oe, e1, zc, ⟨vs, e2⟩, F.inv.suite e1 e2 F.own (fun q => no (inFrs (List.mem_cons_self ..) (q ▸ hf))) fun q => ?_⟩
  obtain ⟨e, m, q'⟩ := List.mem_filterMap.mp q
  exact no (inFrs (List.mem_cons_of_mem _ m) q')
theorem Aloft.asked {X : Cx} {pins : List (Addr × Obj)} {B : Heap} {z s : Shared} {a : Addr} {cls : Value} {d : Option Addr} {σ : L2.St} {H : Hp} (F : Aloft X pins B z a cls d σ H s) (hs : X.stack = X.env :: X.outer) (hf : X.env.frame = some X.env.locals) {x : Str} {c : Value} {np : Pos} {b : Bool} (hc : Names X x c) (hb : PySem.W.exmOne X.K cls c = some b)
    {Q : Bool → Shared → Prop} {E E' : Value → Shared → Prop} (q : Q b s) :
    wpAny (model X.prog X.w) (X.A.mark (some (.ref a))) (eval (.Name x np) X.env) (fun v s1 => wpAny (model X.prog X.w) (X.A.mark (some (.ref a))) (excMatches (.ref a) v) Q E s1) E' s := by
  obtain ⟨oe, e1, zc, _, J⟩ := F.suite hs hf
  have cl : PySem.W.Looks (model X.prog X.w) s.heap (typeOf (.ref a)) cls := fun _ _ _ _ keep w => wpAny_typeOf_ref (keep _ _ e1) (zc.1.symm ▸ w)
  have held := (PySem.W.exm_one F.inv.kIn cl hb).here (A := X.A.mark (some (.ref a))) (E := E) q
  have glob := fun {u : Value} (m : X.mg x = some u) w => ld_glob (E := E') (pos := np) (Q := fun v s1 => wpAny (model X.prog X.w) (X.A.mark (some (.ref a))) (excMatches (.ref a) v) Q E s1) J hc.1 m w hc.2.1
  exact hc.2.2.elim (fun m => glob m held) fun m => ld_blt J hc.1 m.1 m.2.1 held m.2.2 hc.2.1
theorem Aloft.leaves {X : Cx} {pins : List (Addr × Obj)} {B : Heap} {z s : Shared} {a : Addr} {cls : Value} {d : Option Addr} {σ : L2.St} {H : Hp} {Wout : WX} (F : Aloft X pins B z a cls d σ H s) (hf : X.env.frame = some X.env.locals) (tk : Takes X Wout) (w : Wout cls d σ H) {Q : Flow → Shared → Prop} :
    wpAny (model X.prog X.w) X.A (handleBy (.ref a) X.env []) Q X.xe s := by
  refine wpAny_handleBy_nil ?_
  have thrown : wpAny (model X.prog X.w) X.A (do setFlight (.ref a) X.env.frame; (throw (.ref a) : Sem Flow)) Q X.xe s := by
    rw [hf]
    exact wpAny_bind (HandSPX.setFlight_upZ F.fly fun h hh u => wpAny_throw (tk _ _ ⟨a, B, z, pins, σ, H, cls, d, rfl, F.at_, F.ground, F.up.trans u, .inr (.inr hh), F.own, F.os, F.bare, w⟩))
  obtain ⟨_, _, _, oe, vs, T, _, _, e1, _, e2, e3, _⟩ := F.fly
  simp only [PySem.passOn]
  refine wpAny_bind (wpAny_field e1 e2 e3 ?_)
  rw [if_neg (fun q => by cases q)]
  first | exact thrown | exact wpAny_bind (wpAny_pure thrown)
theorem Aloft.handled {X : Cx} {pins : List (Addr × Obj)} {B : Heap} {z s : Shared} {a : Addr} {cls : Value} {d : Option Addr} {σ : L2.St} {H : Hp} {Wout : WX} {D : Ends} (F : Aloft X pins B z a cls d σ H s) (hs : X.stack = X.env :: X.outer) (hf : X.env.frame = some X.env.locals) (hN : X.N.Nodup) (tk : Takes X Wout) {hds : List ExceptHandler} {l : List Cls1} (k : HdsA X hds l)
    (w : wManyA X.K Wout D l cls d σ H) : wpAny (model X.prog X.w) X.A (handleBy (.ref a) X.env hds) (SP X pins D) X.xe s := by
  induction k with
  | nil => exact F.leaves hf tk w
  | cons hc hn hsu _ ih =>
    obtain ⟨b, hb, yes, no⟩ := w
    refine wpAny_handleBy_cons (codeAny_handlers_test (F.asked hs hf hc hb ?_)) nofun
    match b with
    | false => exact ih (no rfl)
    | true =>
      have enter : ∀ {M : Model} {A : Around} {E : Value → Shared → Prop} {Q : Unit → Shared → Prop}, (∀ s1 oe, Aloft X pins B z a cls d σ H s1 → Zc cls d oe → (∃ vs, oe.data = .fields vs) → Inv (X.suite a ((a, oe) :: (X.pn ++ pins))) [] σ H s1 → Q () s1) →
          wpAny M A (setFlight (.ref a) none) Q E s := fun g => HandSPX.lands_againZ F.fly fun h f u =>
        let ⟨oe, _, zc, fs, J⟩ := (F.next f u).suite hs hf
        g _ oe (F.next f u) zc fs J
      rcases hn with ⟨rfl, rfl⟩ | ⟨n, i, rfl, rfl, hi, hl⟩
      · refine codeAny_handlers_suite (enter fun s1 oe _ zc fs J => wpAny_mono ((hsu a oe cls d _ zc fs).run [] s1 _ H _ J (yes rfl a F.own)) (fun f s2 r => ?_) fun _ _ q => q.elim)
        obtain ⟨_, _, J2, go⟩ := sp_seen (fun _ _ q => q.unsuite F.at_.ok) r
        exact go _ J2
      · refine codeAny_handlers_suite_as (enter fun s1 oe _ zc fs J => store_ok (X := X.suite a _) (v := .ref a) J hN hi (.inl hl) rfl (fun s2 J2 => ?_) (.inr hl))
        refine wpAny_mono ((hsu a oe cls d _ zc fs).run [] s2 _ H _ J2 (yes rfl a F.own)) (fun f s3 r => ?_) fun _ _ q => q.elim
        obtain ⟨_, _, J3, go⟩ := sp_seen (fun _ _ q => q.unsuite F.at_.ok) r
        exact gone_ok J3 hN hi hl go
abbrev Tried (X : Cx) (body : List Stmt) (tb : WX → TS) : Prop :=
  ∀ (W : WX) (pins : List (Addr × Obj)) (go : Value → Shared → Prop), Takes (X.tr pins go) W → PassesOwn (model X.prog X.w) X.A X.env go → PSs (X.tr pins go) body (tb W)
theorem ps_try_manyA {X : Cx} {body : List Stmt} {h₀ : ExceptHandler} {hds : List ExceptHandler} {l : List Cls1} {pos : Pos} {tb : WX → TS} {Wout : WX} (hs : X.stack = X.env :: X.outer) (hf : X.env.frame = some X.env.locals) (hN : X.N.Nodup)
    (tk : Takes X Wout) (hb : Tried X body tb) (hh : HdsA X (h₀ :: hds) l) : PS X (.Try body (h₀ :: hds) [] [] pos) (fun D σ H => tb (wManyA X.K Wout D l) D σ H) where
  run pins s σ H D I h := by
    have frames : X.A.frames = some (X.env :: X.outer) := hs ▸ I.ok.frames
    have inside := fun (K : Value → Shared → Prop) taken => (hb (wManyA X.K Wout D l) _ (fun u s' => wpAny (model X.prog X.w) X.A (noteFrame u X.env) (fun _ s1 => K u s1) X.xe s') taken PassesOwn.looking).run [] s σ H D (I.toTry _) h
    refine wpAny_Try_except (wpAny_mono (inside _ ?_) (fun f s1 r => ?_) fun _ _ q => q)
    · rintro _ s' ⟨a, B, z, _, σ', H', cls, d, rfl, J, ground, up, sky, own, os, bare, w⟩
      exact (hs ▸ sky : Sky B (X.env :: X.outer) a (Zc cls d) X.env.locals s'.heap).land Zc.steady frames hf fun h f u =>
        Aloft.handled (s := { s' with heap := h }) ⟨J.ofTry I.ok, ground, up.trans u, hs ▸ f, own, os, bare⟩ hs hf hN tk hh w
    · obtain ⟨_, _, J, go⟩ := sp_seen (oi := none) (fun _ _ q => q.ofTry I.ok) r
      have out := go _ J
      cases f with
      | next => exact wpAny_execs_nil out
      | _ => exact out
end
/-- the error c with these fields -/
def xnOf (c : Str) (fs : List Str) (ds : List D) : Xn := ⟨c, some (fs.zip ds).reverse⟩
def sRaise (c : Str) (fs : List Str) (a : DA) : CS := ⟨fun δ m K => (a δ).run m (fun ds m' => ds.length = fs.length ∧ K.ex (xnOf c fs ds) δ m') (fun x m' => K.ex x δ m'),
  fun l h => C.mono _ (fun _ _ q => ⟨q.1, l.ex _ _ _ q.2⟩) (fun _ _ q => l.ex _ _ _ q) h⟩
@[simp] theorem run_raiseS {c : Str} {fs : List Str} {a : DA} {δ : DSt} {m : Mem} {K : Kt} : (sRaise c fs a).run δ m K = (a δ).run m (fun ds m' => ds.length = fs.length ∧ K.ex (xnOf c fs ds) δ m') (fun x m' => K.ex x δ m') := rfl
def sRaise0 (c : Str) : CS := ⟨fun δ m K => K.ex ⟨c, none⟩ δ m, fun l h => l.ex _ _ _ h⟩
@[simp] theorem run_raise0 {c : Str} {δ : DSt} {m : Mem} {K : Kt} : (sRaise0 c).run δ m K = K.ex ⟨c, none⟩ δ m := rfl
theorem repF_zip {K : PySem.W.Frag} {F : Hp} : ∀ {fs : List Str} {vs : List V} {ds : List D}, Reps K F vs ds → RepF K F (fs.zip vs) (fs.zip ds)
  | [], _, _, _ => by simp only [List.zip_nil_left]; exact .nil
  | f :: fs, _, _, .nil => by simp only [List.zip_nil_right]; exact .nil
  | f :: fs, _, _, .cons r t => .cons r (repF_zip t)
theorem repF_app {K : PySem.W.Frag} {F : Hp} : ∀ {a b : List (Str × V)} {c d : List (Str × D)}, RepF K F a c → RepF K F b d → RepF K F (a ++ b) (c ++ d)
  | _, _, _, _, .nil, h => h
  | _, _, _, _, .cons r t, h => .cons r (repF_app t h)
theorem repF_rev {K : PySem.W.Frag} {F : Hp} : ∀ {a : List (Str × V)} {c : List (Str × D)}, RepF K F a c → RepF K F a.reverse c.reverse
  | _, _, .nil => .nil
  | _, _, .cons r t => by
    rw [List.reverse_cons, List.reverse_cons]
    exact repF_app (repF_rev t) (.cons r .nil)
/-- an own error class with an __init__ of ours -/
structure HasX (P : Program) (w : World) (K : PySem.W.Frag) (mg : Str → Option Value) (base : Heap) (k : Nat) (c : Str) (fs : List Str) : Prop where
  gl : mg c = some (.ref (He.ga K c))
  T : OexC K (He.ga K c)
  ex : ∃ (f : Addr) (fd : FuncData) (ps : List Str), PySem.W.findIn K (.ref (He.ga K c)) "__init__" = some (some (.ref f)) ∧ PySem.W.typeIn K (.ref f) = some (.type "function") ∧ Binds K fd ps [] ∧ FnOk P w K mg base (L2.CX P w) k f fd ps (spX (He.ga K c) fs)
structure HasX0 (K : PySem.W.Frag) (mg : Str → Option Value) (c : Str) : Prop where
  gl : mg c = some (.ref (He.ga K c))
  q : PySem.W.excIn K (He.ga K c) He.veBase "ValueError.__new__" = true
  kp : PySem.W.keepIn K (.ref (He.ga K c)) = true
  s : PySem.W.subIn K (.ref (He.ga K c)) (.type "BaseException") = some true
  t : PySem.W.typeIn K (.ref (He.ga K c)) = some (.type "type")
section
variable {X : Cx} {W : WX} {k : Nat} {c : Str} {fs : List Str} {p pos pos' : Pos} {e : Expr} {es : List Expr} {ca : DA}
theorem js_raise (hX : HasX X.prog X.w X.K X.mg X.base k c fs) (hr : Room (k + 1) X.A) (hcalm : X.calm = true) (tk : Takes X W) (hg : Gl X c) (ha : JA X W (e :: es) ca) (hl : fs.length ≤ 900) (hdb : (c == ("__debug__" : Str)) = false := by decide)
    (he : starEach (e :: es) X.env = (false, eval e X.env) :: starEach es X.env := by rfl) (hpl : (backTo pos (starEach es X.env)).any (·.1) = false := by rfl) : JS X W (.Raise (some (.Call (.Name c p) (e :: es) [] pos)) none pos') (sRaise c fs ca) := by
  obtain ⟨f, fd, ps, fi, tI, hb, Fn⟩ := hX.ex
  refine (ps_raise hcalm tk (pmk_oex hX.T fi tI Fn hr hb .nil (fun pins σ H s u s' I z => passes_call (E := fun _ _ _ => False) tk (fun _ _ _ _ z => z.elim) pins σ H s u s' I z) hg hX.gl ha hdb he hpl)).dimp fun E σ H ⟨F, m, G, δ, r, s, h⟩ => ?_
  refine ⟨F, m, G, δ, r, s, C.mono _ (fun ds m' q F' H' e' r' vs rv => ?_) (fun x m' q => liftX_of s q) h⟩
  obtain ⟨q1, q2⟩ := q
  have hvl : vs.length = fs.length := by rw [rv.length]; exact q1
  refine ⟨by omega, fun a na => ?_⟩
  refine ⟨a, vs, by rw [List.append_nil], hvl, upd_same, fun dx nd ne => ?_⟩
  have nd1 : H' dx = none := by rw [upd_ne ne] at nd; exact nd
  refine ⟨rfl, dx, (fs.zip vs).reverse, upd_same, by rw [upd_ne ne, upd_same], nd1, ?_⟩
  have eH : upd (del (upd (upd (upd H' a (exo a (He.ga X.K c) none)) dx (exd dx (fs.zip vs).reverse)) a (exo a (He.ga X.K c) (some dx))) a) dx (.xd (fs.zip vs).reverse) = upd H' dx (.xd (fs.zip vs).reverse) := by
    funext b
    by_cases h1 : b = dx
    · rw [h1, upd_same, upd_same]
    · by_cases h2 : b = a
      · rw [h2, upd_ne (Ne.symm ne), upd_ne (Ne.symm ne), del_same, na]
      · rw [upd_ne h1, del_ne h2, upd_ne h2, upd_ne h1, upd_ne h2, upd_ne h1]
  rw [eH]
  have ee := Ex.new (o := .xd (fs.zip vs).reverse) (r'.fresh nd1).2
  exact q2 _ _ σ _ _ (e'.trans ee) (r'.newF nd1 _) ((s.mono e').mono ee) ⟨rfl, dx, _, rfl, upd_same, repF_rev (repF_zip (rv.mono ee))⟩
theorem pmk_own0 (h0 : HasX0 X.K X.mg c) (hg : Gl X c) (hdb : (c == ("__debug__" : Str)) = false := by decide) : PMk X (.Call (.Name c p) [] [] pos) (fun _ H Q => Q (.ref (He.ga X.K c)) none H) := by
  intro pins s σ H Q I h
  refine wpAny_Call_Name_kw (ld_glob I hg h0.gl ?_ hdb)
  refine PySem.W.callWith_K0 I.kIn h0.kp ?_
  show wpAny _ _ (call (.ref (He.ga X.K c)) []) _ _ _
  obtain ⟨bm, N, nm, qn, bs, hdct, sn, sub, ab, col, dd, k0, k1, k2, k3, k5, mN, hC, hN, hni, T⟩ := exc_obj I.kIn h0.q
  refine wpAny_call_exc_subT F.excBase_ValueError T hC hN hni (fun h' e hm => ?_) (by show 0 ≤ sizeLine; omega)
  exact mk_of I hm (raises_own h0.s h0.t) h (I.hok.gone hm.new)
theorem js_raise0 (h0 : HasX0 X.K X.mg c) (hcalm : X.calm = true) (tk : Takes X W) (hg : Gl X c) (hdb : (c == ("__debug__" : Str)) = false := by decide) : JS X W (.Raise (some (.Call (.Name c p) [] [] pos)) none pos') (sRaise0 c) :=
  (ps_raise hcalm tk (pmk_own0 h0 hg hdb)).dimp fun E σ H ⟨F, m, G, δ, r, s, h⟩ => h F H σ _ _ (Ex.refl F) r s ⟨rfl, rfl⟩
/-- C('m'), C without an own __init__ -/
theorem js_raise0T {t : Str} {j : Nat} {p2 : Pos} (h0 : HasX0 X.K X.mg c) (hcalm : X.calm = true) (tk : Takes X W) (hg : Gl X c) (hdb : (c == ("__debug__" : Str)) = false := by decide) : JS X W (.Raise (some (.Call (.Name c p) [.Constant (.str t) j p2] [] pos)) none pos') (sRaise0 c) :=
  (ps_raise hcalm tk (pmk_own F.excBase_ValueError h0.q h0.gl h0.kp (raises_own h0.s h0.t) hg hdb)).dimp fun E σ H ⟨F, m, G, δ, r, s, h⟩ => h F H σ _ _ (Ex.refl F) r s ⟨rfl, rfl⟩
end

def xsub (c C : Str) : Bool := c == C || (C == "CellError" || C == "ValueError")
def clsV (K : PySem.W.Frag) (C : Str) : Value := if C = "ValueError" then .type "ValueError" else .ref (He.ga K C)
/-- what is known of the errors L and the classes Cs that are asked for -/
def errB (K : PySem.W.Frag) (L Cs Fs : List Str) : Bool := He.eqO (PySem.W.specialIn K (.builtin "object.__class__") "__get__") (some (some (.builtin "getset_descriptor.__get__"))) && (decide (PySem.W.takesIn K (.builtin "object.__class__") = some true) && L.all fun c =>
  (PySem.W.clsIn K (He.ga K c)).isSome && (xfB K (He.ga K c) && (He.eqO (PySem.W.findIn K (.ref (He.ga K c)) "__class__") (some (some (.builtin "object.__class__"))) && (decide (PySem.W.mroIn K (He.ga K c) (.type "object") = some true) &&
    ((Cs.all fun C => decide (PySem.W.exmOne K (.ref (He.ga K c)) (clsV K C) = some (xsub c C)) && decide (PySem.W.kitOne K (.ref (He.ga K c)) (clsV K C) = some (xsub c C))) && Fs.all fun f => He.eqO (PySem.W.findIn K (.ref (He.ga K c)) f) (some none))))))
structure ErrC (K : PySem.W.Frag) (c : Str) (Cs Fs : List Str) : Prop where
  cl : (PySem.W.clsIn K (He.ga K c)).isSome = true
  xf : XfC K (He.ga K c)
  ha : PySem.W.findIn K (.ref (He.ga K c)) "__class__" = some (some (.builtin "object.__class__"))
  hm : PySem.W.mroIn K (He.ga K c) (.type "object") = some true
  hn : PySem.W.specialIn K (.builtin "object.__class__") "__get__" = some (some (.builtin "getset_descriptor.__get__"))
  ht : PySem.W.takesIn K (.builtin "object.__class__") = some true
  exm : ∀ C ∈ Cs, PySem.W.exmOne K (.ref (He.ga K c)) (clsV K C) = some (xsub c C)
  kit : ∀ C ∈ Cs, PySem.W.kitOne K (.ref (He.ga K c)) (clsV K C) = some (xsub c C)
  no : ∀ f ∈ Fs, PySem.W.findIn K (.ref (He.ga K c)) f = some none
def ErrF (K : PySem.W.Frag) (L Cs Fs : List Str) : Prop := ∀ c, L.contains c = true → ErrC K c Cs Fs
theorem errB_ok {K : PySem.W.Frag} {L Cs Fs : List Str} (h : errB K L Cs Fs = true) : ErrF K L Cs Fs := fun c hc => by
  unfold errB at h
  rw [Bool.and_eq_true, Bool.and_eq_true] at h
  obtain ⟨h1, h2, h3⟩ := h
  have h4 := List.all_eq_true.mp h3 c (by simpa using hc)
  rw [Bool.and_eq_true, Bool.and_eq_true, Bool.and_eq_true, Bool.and_eq_true, Bool.and_eq_true] at h4
  obtain ⟨a1, a2, a3, a4, a5, a6⟩ := h4
  refine ⟨a1, xfB_ok a2, He.eqO_ok a3, of_decide_eq_true a4, He.eqO_ok h1, of_decide_eq_true h2, fun C hC => ?_, fun C hC => ?_, fun f hf => He.eqO_ok (List.all_eq_true.mp a6 f hf)⟩
  · have z := List.all_eq_true.mp a5 C hC
    rw [Bool.and_eq_true] at z
    exact of_decide_eq_true z.1
  · have z := List.all_eq_true.mp a5 C hC
    rw [Bool.and_eq_true] at z
    exact of_decide_eq_true z.2
structure Hd where
  cls : Str
  oi : Option Nat
  su : Addr → Option Addr → Str → CS
def setSl (oi : Option Nat) (o : Option D) (δ : DSt) : DSt := match oi with
  | none => δ
  | some i => δ.set i o
def endK (oi : Option Nat) (K : Kt) : Kt := ⟨fun δ m => K.nx (setSl oi none δ) m, K.rt, fun δ m => K.bk (setSl oi none δ) m, fun δ m => K.ct (setSl oi none δ) m, fun _ _ _ => False⟩
def hdl : List Hd → Kt → Xn → DSt → Mem → Prop
  | [], K, x, δ, m => K.ex x δ m
  | h :: r, K, x, δ, m => if xsub x.cls h.cls = true then (∀ a d, m a = none → (h.su a d x.cls).run (setSl h.oi (some (.xc a d x.cls (x.fs.getD []))) δ) m (endK h.oi K)) else hdl r K x δ m
theorem hdl_mono {A B : Kt} (l : A.Le B) {x : Xn} {δ : DSt} {m : Mem} : ∀ {hs : List Hd}, hdl hs A x δ m → hdl hs B x δ m
  | [], h => l.ex _ _ _ h
  | d :: r, h => by
    unfold hdl at h ⊢
    split
    · rename_i e
      rw [if_pos e] at h
      exact fun a dd na => (d.su a dd x.cls).mono (A := endK d.oi A) (B := endK d.oi B) ⟨fun _ _ q => l.nx _ _ q, fun _ _ q => l.rt _ _ q, fun _ _ q => l.bk _ _ q, fun _ _ q => l.ct _ _ q, fun _ _ _ q => q⟩ (h a dd na)
    · rename_i e
      rw [if_neg e] at h
      exact hdl_mono l h
def Kt.tr (L : List Str) (hs : List Hd) (K : Kt) : Kt := ⟨K.nx, K.rt, K.bk, K.ct, fun x δ m => L.contains x.cls = true ∧ hdl hs K x δ m⟩
def sTry (L : List Str) (b : CS) (hs : List Hd) : CS := ⟨fun δ m K => b.run δ m (K.tr L hs), fun {δ m A B} l h => b.mono (A := A.tr L hs) (B := B.tr L hs) ⟨l.nx, l.rt, l.bk, l.ct, fun _ _ _ q => ⟨q.1, hdl_mono l q.2⟩⟩ h⟩
@[simp] theorem run_try {L : List Str} {b : CS} {hs : List Hd} {δ : DSt} {m : Mem} {K : Kt} : (sTry L b hs).run δ m K = b.run δ m (K.tr L hs) := rfl
@[simp] theorem tr_nx {L : List Str} {hs : List Hd} {δ : DSt} {m : Mem} {K : Kt} : (K.tr L hs).nx δ m = K.nx δ m := rfl
@[simp] theorem tr_rt {L : List Str} {hs : List Hd} {d : D} {m : Mem} {K : Kt} : (K.tr L hs).rt d m = K.rt d m := rfl
@[simp] theorem tr_bk {L : List Str} {hs : List Hd} {δ : DSt} {m : Mem} {K : Kt} : (K.tr L hs).bk δ m = K.bk δ m := rfl
@[simp] theorem tr_ct {L : List Str} {hs : List Hd} {δ : DSt} {m : Mem} {K : Kt} : (K.tr L hs).ct δ m = K.ct δ m := rfl
@[simp] theorem tr_ex {L : List Str} {hs : List Hd} {x : Xn} {δ : DSt} {m : Mem} {K : Kt} : (K.tr L hs).ex x δ m = (L.contains x.cls = true ∧ hdl hs K x δ m) := rfl
abbrev W0 : WX := fun _ _ _ _ => False
inductive HdsD (X : Cx) (L Cs : List Str) : List ExceptHandler → List Hd → Prop
  | nil : HdsD X L Cs [] []
  | cons {C : Str} {on : Option Str} {oi : Option Nat} {su : Addr → Option Addr → Str → CS} {b₀ : Stmt} {suite : List Stmt} {np pos' : Pos} {hds : List ExceptHandler} {l : List Hd} (hC : C ∈ Cs) (hc : Names X C (clsV X.K C))
      (hn : (on = none ∧ oi = none) ∨ ∃ n i, on = some n ∧ oi = some i ∧ X.N[i]? = some n ∧ X.env.kindOf n = some .local)
      (hsu : ∀ (a : Addr) (oe : Obj) (d : Option Addr) (c : Str) (pn : List (Addr × Obj)), L.contains c = true → Zc (.ref (He.ga X.K c)) d oe → (∃ vs, oe.data = .fields vs) → JB (X.suite a ((a, oe) :: pn)) W0 (b₀ :: suite) (su a d c)) (r : HdsD X L Cs hds l) :
      HdsD X L Cs (.ExceptHandler (some (.Name C np)) on (b₀ :: suite) pos' :: hds) (⟨C, oi, su⟩ :: l)
theorem names_c {X : Cx} {C : Str} (hg : Gl X C) (hd : (C == ("__debug__" : Str)) = false) (hne : ¬ C = "ValueError") (h : X.mg C = some (.ref (He.ga X.K C))) : Names X C (clsV X.K C) :=
  ⟨hg, hd, .inl (by unfold clsV; rw [if_neg hne]; exact h)⟩
def tsOf (K : PySem.W.Frag) (L : List Str) (h : Hd) : Addr → Value → Option Addr → TS := fun a cls d E σ H => ∃ c, cls = .ref (He.ga K c) ∧ L.contains c = true ∧ tS K W0 (h.su a d c) E σ H
def clsOf (K : PySem.W.Frag) (L : List Str) (h : Hd) : Cls1 := (clsV K h.cls, h.oi, tsOf K L h)
theorem HdsD.a {X : Cx} {L Cs : List Str} : ∀ {hds : List ExceptHandler} {l : List Hd}, HdsD X L Cs hds l → HdsA X hds (l.map (clsOf X.K L))
  | _, _, .nil => .nil
  | _, _, .cons hC hc hn hsu r => .cons hc hn (fun a oe cls d pn hz hf => ⟨fun pins st σ H E I q => by
      obtain ⟨c, rfl, hL, q⟩ := q
      exact (hsu a oe d c pn hL hz hf).run pins st σ H E I q⟩) r.a
theorem srel_sl {K : PySem.W.Frag} {F : Hp} {σ : L2.St} {δ : DSt} (s : SRel K F σ δ) (oi : Option Nat) {v : V} {d : D} (r : Rep K F v d) : SRel K F (atSl oi (some v) σ) (setSl oi (some d) δ) := by
  cases oi with
  | none => exact s
  | some i => exact s.set r i
theorem srel_no {K : PySem.W.Frag} {F : Hp} {σ : L2.St} {δ : DSt} (s : SRel K F σ δ) (oi : Option Nat) : SRel K F (atSl oi none σ) (setSl oi none δ) := by
  cases oi with
  | none => exact s
  | some i => exact s.blank i none
section
variable {X : Cx} {W : WX} {L Cs : List Str} {body : List Stmt} {cb : CS} {h₀ : ExceptHandler} {hds : List ExceptHandler} {l : List Hd} {pos : Pos}
theorem xrep_xc {K : PySem.W.Frag} {F H : Hp} {x : Xn} {c : Value} {d : Option Addr} (q : XRep K F H x c d) (a : Addr) : Rep K F (.ref a) (.xc a d x.cls (x.fs.getD [])) := by
  obtain ⟨cn, fs⟩ := x
  obtain ⟨_, q2⟩ := q
  cases fs with
  | none =>
    have e : d = none := q2
    rw [e]
    exact .xc0 a _
  | some fs =>
    obtain ⟨dd, vs, e, h1, h2⟩ := q2
    rw [e]
    exact .xc1 h1 h2
theorem hdl_w {K : PySem.W.Frag} {F G : Hp} {E : Ends} {Fs : List Str} (Er : ErrF K L Cs Fs) {x : Xn} {δ : DSt} {m : Mem} (hL : L.contains x.cls = true) : ∀ {l : List Hd}, (∀ h ∈ l, h.cls ∈ Cs) → hdl l (liftK K F G W E) x δ m →
    ∀ (F' H' : Hp) (σ' : L2.St) (c : Value) (d : Option Addr), Ex F F' → Rel K F' m G H' → SRel K F' σ' δ → XRep K F' H' x c d → wManyA K W E (l.map (clsOf K L)) c d σ' H'
  | [], _, h => fun F' H' σ' c d e r s q => h F' H' σ' c d e r s q
  | hd :: l, hl, h => fun F' H' σ' c d e r s q => by
    have ec := q.1
    unfold hdl at h
    refine ⟨xsub x.cls hd.cls, ?_, fun eb a na => ?_, fun eb => ?_⟩
    · rw [ec]
      exact (Er _ hL).exm _ (hl _ List.mem_cons_self)
    · rw [if_pos eb] at h
      refine ⟨x.cls, ec, hL, F', m, G, _, r, srel_sl s hd.oi (xrep_xc q a), ?_⟩
      refine (hd.su a d x.cls).mono (A := endK hd.oi (liftK K F G W E)) (B := liftK K F' G W0 (endsA hd.oi E)) ⟨fun δ2 m2 q2 F2 H2 σ2 e2 r2 s2 => ?_, fun d2 m2 q2 F2 H2 v2 e2 r2 s2 => ?_, fun δ2 m2 q2 F2 H2 σ2 e2 r2 s2 => ?_, fun δ2 m2 q2 F2 H2 σ2 e2 r2 s2 => ?_, fun _ _ _ q2 => q2.elim⟩ (h a d (r.fresh na).1)
      · exact q2 F2 H2 _ (e.trans e2) r2 (srel_no s2 hd.oi)
      · exact q2 F2 H2 v2 (e.trans e2) r2 s2
      · exact q2 F2 H2 _ (e.trans e2) r2 (srel_no s2 hd.oi)
      · exact q2 F2 H2 _ (e.trans e2) r2 (srel_no s2 hd.oi)
    · rw [if_neg (by rw [eb]; decide)] at h
      exact hdl_w Er hL (fun h hh => hl h (List.mem_cons_of_mem _ hh)) h F' H' σ' c d e r s q
theorem HdsD.mem : ∀ {hds : List ExceptHandler} {l : List Hd}, HdsD X L Cs hds l → ∀ h ∈ l, h.cls ∈ Cs
  | _, _, .nil => fun _ z => by cases z
  | _, _, .cons hC _ _ _ r => fun h z => by
    rcases List.mem_cons.mp z with e | z
    · rw [e]; exact hC
    · exact r.mem h z
theorem js_try {Fs : List Str} (Er : ErrF X.K L Cs Fs) (hs : X.stack = X.env :: X.outer) (hf : X.env.frame = some X.env.locals) (hN : X.N.Nodup) (tk : Takes X W)
    (hb : ∀ (W' : WX) (pn : List (Addr × Obj)) (xe : Value → Shared → Prop), Takes (X.tr pn xe) W' → PassesOwn (model X.prog X.w) X.A X.env xe → JB (X.tr pn xe) W' body cb) (hh : HdsD X L Cs (h₀ :: hds) l) : JS X W (.Try body (h₀ :: hds) [] [] pos) (sTry L cb l) :=
  (ps_try_manyA hs hf hN tk (tb := fun W' => tS X.K W' cb) (fun W' pn xe t po => hb W' pn xe t po) hh.a).dimp fun E σ H ⟨F, m, G, δ, r, s, h⟩ => by
    refine ⟨F, m, G, δ, r, s, cb.mono (A := (liftK X.K F G W E).tr L l) ⟨fun _ _ q => q, fun _ _ q => q, fun _ _ q => q, fun _ _ q => q, fun x δ' m' q => ?_⟩ h⟩
    exact hdl_w Er q.1 hh.mem q.2
end

def xfD (a : Addr) (d : Option Addr) (f : Str) : D → C D
  | .xc a' d' _ fs => if a' = a ∧ d' = d then ofO (fs.lookup f) else C.stuck
  | _ => C.stuck
def eXf (a : Addr) (d : Option Addr) (f : Str) (ce : DE) : DE := fun δ => (ce δ).bind (xfD a d f)
def isE (a : Addr) (d : Option Addr) (c cn : Str) : D → C D
  | .xc a' d' _ _ => if a' = a ∧ d' = d then C.ret (.bl (xsub c cn)) else C.stuck
  | _ => C.stuck
def eIsE (a : Addr) (d : Option Addr) (c cn : Str) (ce : DE) : DE := fun δ => (ce δ).bind (isE a d c cn)
theorem repF_get {K : PySem.W.Frag} {F : Hp} {f : Str} : ∀ {vs : List (Str × V)} {fs : List (Str × D)} {d : D}, RepF K F vs fs → fs.lookup f = some d → ∃ v, vs.lookup f = some v ∧ Rep K F v d
  | _, _, _, .nil, h => by cases h
  | _, _, d, .cons (n := n) (v := v) (vs := vs) (d := d1) (ds := ds) r t, h => by
    by_cases e : f = n
    · subst e
      rw [List.lookup_cons_self] at h ⊢
      cases h
      exact ⟨v, rfl, r⟩
    · have e2 : (f == n) = false := by simpa using e
      rw [List.lookup, e2] at h
      rw [List.lookup, e2]
      exact repF_get t h
section
variable {X : Cx} {W : WX} {L Cs : List Str} {a : Addr} {oe : Obj} {d : Option Addr} {c C f : Str} {pn : List (Addr × Obj)} {e : Expr} {ce : DE} {p q pos : Pos}
theorem je_xf {Fs : List Str} (Er : ErrF X.K L Cs Fs) (hL : L.contains c = true) (hz : Zc (.ref (He.ga X.K c)) d oe) (hf : ∃ vs, oe.data = .fields vs) (hno : f ∈ Fs)
    (he : JE (X.suite a ((a, oe) :: pn)) W e ce) (hb : attributeBase e f X.env (eval e X.env) = eval e X.env := by rfl) : JE (X.suite a ((a, oe) :: pn)) W (.Attribute e f pos) (eXf a d f ce) :=
  (pe_xf (Er c hL).xf ((Er c hL).no f hno) hz hf he hb).dimp fun σ H Q ⟨F, m, G, δ, r, s, h⟩ => ⟨F, m, G, δ, r, s, (LR.bind h).imp fun F1 H1 _ x e1 _ ⟨m1, r1, h1⟩ v rv => by
    unfold xfD at h1
    split at h1
    · rename_i a' d' c' fs
      obtain ⟨⟨ea, ed⟩, h2⟩ := LR.ite h1
      obtain ⟨y, e2, h3⟩ := LR.ofO h2
      cases rv with
      | xc0 => cases e2
      | xc1 g1 g2 =>
        obtain ⟨u, e4, ru⟩ := repF_get g2 e2
        exact ⟨by rw [ea], rfl, _, _, u, ed.symm, r1.ex _ _ g1, e4, h3.ret r1 _ ru⟩
    · exact h1.elim⟩
/-- isinstance(e, C), e the error that the suite holds -/
def rIsD (K : PySem.W.Frag) (cn : Str) (a : Addr) (d : Option Addr) : List V → Hp → VK → Prop := fun xs H Q => ∃ (cv : V) (cu : Value) (b : Bool), xs = [.ref a, cv] ∧ (∀ u, RelV cv u → u = cu) ∧ PySem.W.kitOne K (.ref (He.ga K cn)) cu = some b ∧ (∀ dd, d = some dd → ∃ fs, H dd = some (.xd fs)) ∧ Q (.bl b) H
theorem call_isD {Fs : List Str} (Er : ErrF X.K L Cs Fs) (hL : L.contains c = true) (hz : Zc (.ref (He.ga X.K c)) d oe) (hf : ∃ vs, oe.data = .fields vs) : CallR (X.suite a ((a, oe) :: pn)) (.builtin "isinstance") (rIsD X.K c a d) := by
  intro pins s σ H xs us Q I r h
  obtain ⟨cv, cu, b, rfl, hcv, e, hd, q⟩ := h
  cases r with
  | cons rx rr =>
    cases rr with
    | cons rt rr =>
      cases rr
      cases rx
      have ec := hcv _ rt
      subst ec
      obtain ⟨hget, _⟩ := I.pin (a, oe) (List.mem_append.mpr (.inl List.mem_cons_self))
      obtain ⟨vs, hv⟩ := hf
      have K1 := Er c hL
      have fin : ∀ od : Option Obj, PySem.W.InstAt s.heap a oe (He.ga X.K c) od → wpAny (model X.prog X.w) (X.A.mark (some (.ref a))) (call (.builtin "isinstance") [.ref a, _]) (EP (X.suite a ((a, oe) :: pn)) pins σ Q) (fun _ _ => False) s := fun od J =>
        PySem.W.kia_one (PySem.W.kitx_exc K1.cl K1.xf.ga K1.xf.gg K1.xf.exC K1.ha K1.hn K1.ht K1.hm) I.kIn J e (fun z => nomatch z) fun tk => ⟨.bl b, H, I.kept (t' := tk) fun _ _ z => z, rfl, q⟩
      obtain ⟨oc, od, oda, osl⟩ := oe
      obtain ⟨h1, h2⟩ := hz
      dsimp only at h1 h2 hv
      subst h1 h2 hv
      cases od with
      | none => exact fin none ⟨hget, rfl, rfl, trivial⟩
      | some dd =>
        obtain ⟨fs, hx⟩ := hd dd rfl
        have hx : ObjOk X.prog X.w H s.heap dd (.xd fs) := I.hok dd _ hx
        obtain ⟨mA, ⟨o, es, ep, ho, hr⟩, _⟩ := hx
        exact fin (some o) ⟨hget, rfl, rfl, ho⟩
theorem isE_of {K : PySem.W.Frag} {F G H : Hp} {m : Mem} {σ : L2.St} {x : D} {v : V} {Q : VK} {Fs : List Str} (Er : ErrF K L Cs Fs) (hL : L.contains c = true) (hC : C ∈ Cs) {cv : V} (hv : ∀ u, RelV cv u → u = clsV K C) (r : Rel K F m G H) (rv : Rep K F v x) (h1 : LR K F G (isE a d c C x) m (fun F' H' d => ∀ v, Rep K F' v d → Q v H') W σ) :
    rIsD K c a d [v, cv] H Q := by
  unfold isE at h1
  split at h1
  · rename_i a' d' c' fs
    obtain ⟨⟨ea, ed⟩, h2⟩ := LR.ite h1
    have K1 := Er c hL
    cases rv with
    | xc0 => exact ⟨cv, _, _, by rw [ea], hv, K1.kit C hC, fun dd z => (by rw [← ed] at z; cases z), h2.ret r _ (.bl _)⟩
    | xc1 g1 g2 =>
      refine ⟨cv, _, _, by rw [ea], hv, K1.kit C hC, fun dd z => ?_, h2.ret r _ (.bl _)⟩
      rw [← ed] at z
      cases z
      exact ⟨_, r.ex _ _ g1⟩
  · exact h1.elim
theorem je_isE {Fs : List Str} (Er : ErrF X.K L Cs Fs) (hL : L.contains c = true) (hz : Zc (.ref (He.ga X.K c)) d oe) (hf : ∃ vs, oe.data = .fields vs) (hC : C ∈ Cs) (hne : ¬ C = "ValueError") (hgl : X.mg C = some (.ref (He.ga X.K C))) (hgc : Gl X C)
    (he : JE (X.suite a ((a, oe) :: pn)) W e ce) (hg : Gl X "isinstance") (hm : X.mg "isinstance" = none) (hd : (C == ("__debug__" : Str)) = false := by decide)
    (hst : starEach [e, .Name C q] X.env = (false, eval e X.env) :: starEach [.Name C q] X.env := by rfl) (hs2 : starEach [.Name C q] X.env = [(false, eval (.Name C q) X.env)] := by rfl) (hpl : (backTo pos (starEach [.Name C q] X.env)).any (·.1) = false := by rfl) :
    JE (X.suite a ((a, oe) :: pn)) W (.Call (.Name "isinstance" p) [e, .Name C q] [] pos) (eIsE a d c C ce) :=
  (pe_callB (X := X.suite a ((a, oe) :: pn)) (call_isD Er hL hz hf) hg hm (by decide +kernel) (pa_cons he (pa_cons (pe_glob (X := X.suite a ((a, oe) :: pn)) (v := .ref (He.ga X.K C)) hgc hgl rfl hd) pa_nil hs2) hst) (by decide) (by decide) hst hpl).dimp fun σ H Q ⟨F, m, G, δ, r, s, h⟩ =>
    ⟨F, m, G, δ, r, s, (LR.bind h).imp fun F1 H1 _ x e1 _ ⟨m1, r1, h1⟩ v rv => isE_of Er hL hC (cv := .ref (He.ga X.K C)) (fun u z => by have z : u = Value.ref (He.ga X.K C) := z; rw [z]; unfold clsV; rw [if_neg hne]) r1 rv h1⟩
theorem je_isEV {Fs : List Str} (Er : ErrF X.K L Cs Fs) (hL : L.contains c = true) (hz : Zc (.ref (He.ga X.K c)) d oe) (hf : ∃ vs, oe.data = .fields vs) (hC : ("ValueError" : Str) ∈ Cs) (hgl : X.mg "ValueError" = none) (hgc : Gl X "ValueError")
    (he : JE (X.suite a ((a, oe) :: pn)) W e ce) (hg : Gl X "isinstance") (hm : X.mg "isinstance" = none)
    (hst : starEach [e, .Name "ValueError" q] X.env = (false, eval e X.env) :: starEach [.Name "ValueError" q] X.env := by rfl) (hs2 : starEach [.Name "ValueError" q] X.env = [(false, eval (.Name "ValueError" q) X.env)] := by rfl) (hpl : (backTo pos (starEach [.Name "ValueError" q] X.env)).any (·.1) = false := by rfl) :
    JE (X.suite a ((a, oe) :: pn)) W (.Call (.Name "isinstance" p) [e, .Name "ValueError" q] [] pos) (eIsE a d c "ValueError" ce) :=
  (pe_callB (X := X.suite a ((a, oe) :: pn)) (call_isD Er hL hz hf) hg hm (by decide +kernel) (pa_cons he (pa_cons (pe_bltn (X := X.suite a ((a, oe) :: pn)) (v := .ty "ValueError") hgc hgl PyProof.Rows.Boot.«ValueError» rfl (by decide) (by decide)) pa_nil hs2) hst) (by decide) (by decide) hst hpl).dimp fun σ H Q ⟨F, m, G, δ, r, s, h⟩ =>
    ⟨F, m, G, δ, r, s, (LR.bind h).imp fun F1 H1 _ x e1 _ ⟨m1, r1, h1⟩ v rv => isE_of Er hL hC (cv := .ty "ValueError") (fun u z => by have z : u = Value.type "ValueError" := z; rw [z]; rfl) r1 rv h1⟩
end
end DL

namespace DL
open PySem PySem.Spec PyProof.Rows L2
def oexB (K : PySem.W.Frag) (C : Addr) : Bool := (match K.lookup C with
  | some ⟨.type "type", _, .cls cd, sl⟩ => (match cd.mro, sl.toList with
    | .ref C' :: bm, [_, _, _, _, some (.builtin n), _] => C' == C && (n == "ValueError.__new__" && (!cd.hasDel && (cd.hasDict && PySem.HandSPX.refsVE bm)))
    | _, _ => false)
  | _ => false) && (He.eqO (PySem.W.findIn K (.ref C) "__setattr__") (some (some (.builtin "object.__setattr__"))) && (decide (PySem.W.subIn K (.ref C) (.type "BaseException") = some true) && (decide (PySem.W.typeIn K (.ref C) = some (.type "type")) && PySem.W.keepIn K (.ref C))))
theorem oexB_ok {K : PySem.W.Frag} {C : Addr} (h : oexB K C = true) : OexC K C := by
  unfold oexB at h
  rw [Bool.and_eq_true, Bool.and_eq_true, Bool.and_eq_true, Bool.and_eq_true] at h
  obtain ⟨q, h1, h2, h3, h4⟩ := h
  refine ⟨?_, He.eqO_ok h1, of_decide_eq_true h2, of_decide_eq_true h3, h4⟩
  split at q
  · rename_i dd cd sl ho
    split at q
    · rename_i C' bm k0 k1 k2 k3 n k5 hm hs
      simp only [Bool.and_eq_true, beq_iff_eq, Bool.not_eq_true'] at q
      obtain ⟨rfl, rfl, hdel, hdct, ht⟩ := q
      obtain ⟨nm, bs, mro, ns, qn, hd, sn, sub, ab, col, del⟩ := cd
      dsimp only at hm hdel hdct
      subst hm hdel hdct
      have hsl : sl = #[k0, k1, k2, k3, some (.builtin "ValueError.__new__"), k5] := by
        obtain ⟨l⟩ := sl
        simp only at hs
        rw [hs]
      subst hsl
      exact ⟨nm, qn, ns, bs, bm, sn, sub, ab, col, dd, k0, k1, k2, k3, k5, ho, ht⟩
    · cases q
  · cases q
structure XInD where
  cls : Str
  qual : Str
  params : Arguments
  body : List Stmt
  scope : Scope
abbrev FnZ : Type := Option (Str × Str × Arguments × FuncBody × Scope × Addr × Addr)
def fnZ (K : PySem.W.Frag) (a : Addr) : FnZ := match K.lookup a with
  | some ⟨_, _, .func fd, _⟩ => some (fd.name, fd.qualname, fd.params, fd.body, fd.scope, fd.globals, fd.builtins)
  | _ => none
def XInD.val (d : XInD) : FnZ := some ("__init__", d.qual, d.params, .stmts d.body, d.scope, mainGlobals, builtinsNs)
def XInD.at_ (K : PySem.W.Frag) (d : XInD) : Addr := He.ma K (He.ga K d.cls) "__init__"
def strAt (file : Str) (vs : Array Value) : Bool := match (vs[2]? : Option Value) with
  | some (.str z _) => decide (z = file)
  | _ => false
def codeF (K : PySem.W.Frag) (file : Str) (cda : Addr) : Bool := match K.lookup cda with
  | some ⟨_, _, .fields vs, _⟩ => strAt file vs
  | _ => false
def cellC (K : PySem.W.Frag) (C cc : Addr) : Bool := match K.lookup cc with
  | some ⟨_, _, .cell (some (.ref D)), _⟩ => decide (D = C)
  | _ => false
def funC (K : PySem.W.Frag) (file : Str) (C : Addr) (qual : Str) (fd : FuncData) : Bool := match fd.code, fd.closure, fd.defaults with
  | .ref cda, [(n, cc)], .none => decide (n = "__class__") && (PySem.W.codeIn K (.ref cda) qual && (codeF K file cda && cellC K C cc))
  | _, _, _ => false
def XInD.ok (K : PySem.W.Frag) (file : Str) (d : XInD) : Bool := oexB K (He.ga K d.cls) && (He.eqO (PySem.W.findIn K (.ref (He.ga K d.cls)) "__init__") (some (some (.ref (d.at_ K)))) && (decide (PySem.W.typeIn K (.ref (d.at_ K)) = some (.type "function")) &&
  ((match K.lookup (d.at_ K) with
    | some ⟨_, _, .func fd, _⟩ => funC K file (He.ga K d.cls) d.qual fd
    | _ => false) && (He.eqO (PySem.W.nsIn K cStatics "thirdparty.any") (some none) && (decide (PySem.W.mroIn K (He.ga K d.cls) (.ref (He.ga K d.cls)) = some true) &&
    (He.eqO (PySem.W.ks_superIn K (He.ga K d.cls) (He.ga K d.cls) "__init__") (some (some (.builtin "ValueError.__init__"))) && decide (PySem.W.subIn K (.ref (He.ga K d.cls)) (.type "ValueError") = some true)))))))
theorem XInD.suC {K : PySem.W.Frag} {mg : Str → Option Value} {file : Str} {d : XInD} (sup : mg "super" = none) (e : fnZ K (d.at_ K) = d.val) (c : d.ok K file = true) :
    ∃ fd, SuC K mg file (He.ga K d.cls) (d.at_ K) "__init__" d.qual d.params d.body d.scope fd := by
  unfold XInD.ok at c
  simp only [Bool.and_eq_true] at c
  obtain ⟨c1, c2, c3, c4, c5, c6, c7, c8⟩ := c
  unfold fnZ XInD.val at e
  generalize d.at_ K = a at *
  cases q : K.lookup a with
  | none => rw [q] at c4; cases c4
  | some o =>
    rw [q] at c4 e
    obtain ⟨oc, od, dt, osl⟩ := o
    cases dt with
    | func fd =>
      obtain ⟨n1, n2, n3, n4, n5, n6, n7, n8, n9, n10, n11, n12, n13, n14, n15⟩ := fd
      simp only [Option.some.injEq, Prod.mk.injEq] at e
      obtain ⟨h1, h2, h3, h4, h5, h6, h7⟩ := e
      subst h1 h2 h3 h4 h5 h6 h7
      unfold funC at c4
      dsimp only at c4
      split at c4
      · rename_i cda n cc
        simp only [Bool.and_eq_true] at c4
        obtain ⟨d1, d2, d3, d4⟩ := c4
        have en := of_decide_eq_true d1
        subst en
        unfold codeF at d3
        split at d3
        · rename_i x1 x2 vs x3 e1
          unfold strAt at d3
          split at d3
          · rename_i z tf e2
            have ez := of_decide_eq_true d3
            subst ez
            unfold cellC at d4
            split at d4
            · rename_i y1 y2 D y3 e3
              have eD := of_decide_eq_true d4
              subst eD
              exact ⟨_, oexB_ok c1, He.eqO_ok c2, of_decide_eq_true c3, ⟨oc, od, _, _, _, _, cda, _, cc, osl, _, _, vs, _, tf, _, _, _, rfl, q, d2, e1, e2, e3⟩, He.eqO_ok c5, of_decide_eq_true c6, sup, He.eqO_ok c7, of_decide_eq_true c8⟩
            · cases d4
          · cases d3
        · cases d3
      · cases c4
    | _ => cases c4
abbrev AlQ : Type := (He.AlD × Bool) × List He.FnW × List FnZ
def frQ (g : Addr → Option Obj) (n : Nat) : PySem.W.Frag := He.frT g (cStatics :: He.asD g n)
def obsQ (n : Nat) (fa : List He.Fa) (fn : List He.DefD) (pd : List PropD) (xd : List XInD) (file : Str) (ex : PySem.W.Frag → Bool) (g : Addr → Option Obj) : AlQ :=
  ((He.obsD fa fn (frQ g n), ex (frQ g n) && ((pd.all fun d => d.ok (frQ g n)) && xd.all fun d => d.ok (frQ g n) file)), (pd.map fun d => fnA (frQ g n) (pAd (frQ g n) d.cls d.name)), xd.map fun d => fnZ (frQ g n) (d.at_ (frQ g n)))
structure SaysQ (fa : List He.Fa) (fn : List He.DefD) (pd : List PropD) (xd : List XInD) (file : Str) (ex : PySem.W.Frag → Bool) (K : PySem.W.Frag) : Prop where
  d : He.SaysD fa fn K
  b : (ex K && ((pd.all fun d => d.ok K) && xd.all fun d => d.ok K file)) = true
  p : pd.map (fun d => fnA K (pAd K d.cls d.name)) = pd.map PropD.val
  z : xd.map (fun d => fnZ K (d.at_ K)) = xd.map XInD.val
def hookQ (n : Nat) (fa : List He.Fa) (fn : List He.DefD) (pd : List PropD) (xd : List XInD) (file : Str) (ex : PySem.W.Frag → Bool) : PySem.W.Hook where
  α := AlQ
  obs := fun s => obsQ n fa fn pd xd file ex s.heap.get?
  val := fun _ => ((He.valD fn, true), pd.map PropD.val, xd.map XInD.val)
  says := fun _ h => ∃ K : PySem.W.Frag, K.In h ∧ SaysQ fa fn pd xd file ex K
  of := fun _ _ e => ⟨_, He.frT_in, ⟨congrArg (fun z : AlQ => z.1.1) e, congrArg (fun z : AlQ => z.1.2) e, congrArg (fun z : AlQ => z.2.1) e, congrArg (fun z : AlQ => z.2.2) e⟩⟩
  keeps := fun _ _ _ ⟨K, hK, c⟩ k => ⟨K, PySem.W.Frag.In.keeps hK k, c⟩
theorem obsQ_eq {n : Nat} {fa : List He.Fa} {fn : List He.DefD} {pd : List PropD} {xd : List XInD} {file : Str} {ex : PySem.W.Frag → Bool} {g : Addr → Option Obj} {s : Shared} (h : ∀ a, g a = s.heap.get? a) : obsQ n fa fn pd xd file ex g = (hookQ n fa fn pd xd file ex).obs s := by
  have e : g = s.heap.get? := funext h
  rw [e] <;> rfl
section
variable {fa : List He.Fa} {fn : List He.DefD} {pd : List PropD} {xd : List XInD} {file : Str} {ex : PySem.W.Frag → Bool} {K : PySem.W.Frag}
theorem SaysQ.more (c : SaysQ fa fn pd xd file ex K) : ex K = true := by
  have h1 := c.b
  rw [Bool.and_eq_true] at h1
  exact h1.1
theorem SaysQ.prop (c : SaysQ fa fn pd xd file ex K) (i : Nat) {d : PropD} (hi : pd[i]? = some d := by rfl) :
    PropOf K (He.ga K d.cls) d.name (He.ma K (He.ga K d.cls) d.name) (pAd K d.cls d.name) ∧ ∃ fd, FunD K d.name d.qual d.params d.body d.scope [] [] (pAd K d.cls d.name) fd := by
  have h1 := c.b
  rw [Bool.and_eq_true, Bool.and_eq_true] at h1
  have h2 : (pd.map fun d => fnA K (pAd K d.cls d.name))[i]? = (pd.map PropD.val)[i]? := by rw [c.p]
  rw [List.getElem?_map, List.getElem?_map, hi] at h2
  exact PropD.funD (Option.some.inj h2) (List.all_eq_true.mp h1.2.1 d (List.mem_of_getElem? hi))
theorem SaysQ.init (c : SaysQ fa fn pd xd file ex K) {mg : Str → Option Value} (sup : mg "super" = none) (i : Nat) {d : XInD} (hi : xd[i]? = some d := by rfl) :
    ∃ fd, SuC K mg file (He.ga K d.cls) (d.at_ K) "__init__" d.qual d.params d.body d.scope fd := by
  have h1 := c.b
  rw [Bool.and_eq_true, Bool.and_eq_true] at h1
  have h2 : (xd.map fun d => fnZ K (d.at_ K))[i]? = (xd.map XInD.val)[i]? := by rw [c.z]
  rw [List.getElem?_map, List.getElem?_map, hi] at h2
  exact XInD.suC sup (Option.some.inj h2) (List.all_eq_true.mp h1.2.2 d (List.mem_of_getElem? hi))
end
/-- from the __init__ to the raising -/
theorem hasX_of {P : Program} {w : World} {K : PySem.W.Frag} {mg : Str → Option Value} {base : Heap} {k : Nat} {c file qual : Str} {fs ps : List Str} {f : Addr} {fd : FuncData} {params : Arguments} {body : List Stmt} {scope : Scope} (gl : mg c = some (.ref (He.ga K c))) (S : SuC K mg file (He.ga K c) f "__init__" qual params body scope fd)
    (hb : ∀ (kV doc pm : Value) (an : Option Addr) (cdv ct : Value) (cc : Addr) (us : List Value), us.length = ps.length → bindArgs (PySem.W.ksFn "__init__" qual params body scope .none kV doc pm an cdv ct cc) ⟨us, []⟩ = pure (ps.zip us))
    (ok : FnOk P w K mg base (L2.CX P w) k f fd ps (spX (He.ga K c) fs)) : HasX P w K mg base k c fs := by
  refine ⟨gl, S.T, f, fd, ps, S.fi, S.tI, ?_, ok⟩
  obtain ⟨oc, od, kV, doc, pm, an, cda, ct, cc, osl, ccl, cdd, vs, ccs, tf, cl, cld, csl, rfl, _⟩ := S.ex
  exact Binds.all fun us hl => hb kV doc pm an (.ref cda) ct cc us hl
end DL

namespace DL
open PySem PySem.Spec PyProof.Rows L2
def insF (i : Int) (y : D) : MO → Option (D × MO)
  | .lst l => if l.length < sizeLine ∧ 0 ≤ i ∧ i < 2 ^ 63 then some (.non, .lst (l.take i.toNat ++ [y] ++ l.drop i.toNat)) else none
  | _ => none
def dInsert (x i y : D) : C D := match x, i with
  | .ref a, .int i => C.upd a (insF i y)
  | _, _ => C.stuck
theorem insert_run {a : Addr} {l : List D} {i : Int} {y : D} {m : Mem} {Q : D → Mem → Prop} {E : Xn → Mem → Prop} (h : m a = some (.lst l)) (hl : l.length < sizeLine) (h0 : 0 ≤ i) (h1 : i < 2 ^ 63) : (dInsert (.ref a) (.int i) y).run m Q E = Q .non (mset m a (.lst (l.take i.toNat ++ [y] ++ l.drop i.toNat))) :=
  C.run_upd (d := .non) (o' := .lst (l.take i.toNat ++ [y] ++ l.drop i.toNat)) h (if_pos ⟨hl, h0, h1⟩)
def eIns (o i e : DE) : DE := fun δ => (o δ).bind fun x => (asL x).bind fun _ => (i δ).bind fun j => (e δ).bind fun y => dInsert x j y
section
variable {X : Cx} {W : WX}
theorem je_insert {o i e : Expr} {co ci ce : DE} {apos cpos : Pos} (ho : JE X W o co) (hi : JE X W i ci) (he : JE X W e ce) (hbase : attributeBase o "insert" X.env (eval o X.env) = eval o X.env := by rfl)
    (hfew : ((backTo cpos (starEach [i, e] X.env)).all (fun x => !x.1) && (backToKw cpos (keywordEach [] X.env)).all (fun x => x.1.isSome) && decide ([i, e].length + ([] : List Keyword).length + (if ([] : List Keyword).isEmpty then 0 else 1) < 30)) = true := by rfl)
    (hline : (apos.endLine == cpos.line) = true := by rfl) (hs : starEach [i, e] X.env = (false, eval i X.env) :: starEach [e] X.env := by rfl) (hs2 : starEach [e] X.env = (false, eval e X.env) :: starEach [] X.env := by rfl) (hplain : (backTo cpos (starEach [e] X.env)).any (·.1) = false := by rfl) :
    JE X W (.Call (.Attribute o "insert" apos) [i, e] [] cpos) (eIns co ci ce) :=
  (pe_bm PySem.F.plainAttrs_list PySem.F.slot_list_insert PySem.F.type_list_insert mt_insert ho (pa_cons hi (pa_cons he pa_nil hs2) hs) hbase hfew hline hs hplain).dimp fun σ H Q ⟨F, m, G, δ, r, s, h⟩ =>
    ⟨F, m, G, δ, r, s, (LR.bind h).imp fun F1 H1 _ x e1 _ ⟨m1, r1, h1⟩ v rv => by
      obtain ⟨a, vs, l, rfl, h2, h3, h4⟩ := asL_of r1 rv h1
      refine ⟨Or.inl ⟨rfl, vs, SqL.of h2⟩, F1, m1, G, δ, r1, s.mono e1, (LR.bind h4).imp fun F2 H2 _ j e2 _ ⟨m2, r2, h5⟩ w rw => ⟨F2, m2, G, δ, r2, (s.mono e1).mono e2, (LR.bind h5).imp fun F3 H3 _ y e3 _ ⟨m3, r3, h6⟩ u ru => ?_⟩⟩
      cases x with
      | ref b =>
        cases j with
        | int k =>
          cases rv
          cases rw
          obtain ⟨o, o', d, q1, q2, q3⟩ := LR.upd (show LR X.K F3 G (C.upd a (insF k y)) m3 _ W σ from h6)
          cases o with
          | ins c fs => cases q2
          | dic l => cases q2
          | lst l =>
            obtain ⟨⟨ws, q4, q5⟩, q6⟩ := r3.mm _ _ q1
            by_cases hl : l.length < sizeLine ∧ 0 ≤ k ∧ k < 2 ^ 63
            · have q7 : some (D.non, MO.lst (l.take k.toNat ++ [y] ++ l.drop k.toNat)) = some (d, o') := (if_pos hl).symm.trans q2
              cases q7
              exact ⟨a, ws, k, u, rfl, rfl, q4, by rw [q5.length]; exact hl.1, hl.2.1, hl.2.2, q3 F3 _ (Ex.refl F3) (r3.putL q6 (r3.gm q1) (((q5.take k.toNat).append (.cons ru .nil)).append (q5.drop k.toNat))) _ .non⟩
            · have q7 : none = some (d, o') := (if_neg hl).symm.trans q2
              cases q7
        | _ => exact h6.elim
      | _ => exact h6.elim⟩
end
def dAddM (x y : D) : C D := (asL x).bind fun a => (asL y).bind fun b => if a.length + b.length ≤ sizeLine then C.new (.lst (a ++ b)) else C.stuck
theorem od_addM {X : Cx} {W : WX} : OpD X W dAddM (rAddD X.K) := by
  intro F m G H σ x y v w Q r rx ry h
  unfold dAddM at h
  obtain ⟨a, vs, l, rfl, h1, h2, h⟩ := asL_of r rx h
  obtain ⟨b, ws, k, rfl, h3, h4, h⟩ := asL_of r ry h
  obtain ⟨hl, h⟩ := h.ite
  exact .inr (.inr (.inr ⟨a, b, vs, ws, rfl, rfl, h1, h3, by rw [h2.length, h4.length]; exact hl, fun p hp => h p (r.fresh hp).1 F _ (Ex.refl F) (r.putL (r.fresh hp).2 (r.freshG hp) (h2.append h4)) _ (.ref p)⟩))
end DL

namespace DL
open PySem PySem.Spec PyProof.Rows L2

def dAddI : D → D → C D
  | .int i, .int j => C.ret (.int (i + j))
  | _, _ => C.stuck
theorem dAddI_of {K : PySem.W.Frag} {F G : Hp} {m : Mem} {W : WX} {σ : L2.St} {x y : D} {v w : V} {P : Hp → Hp → D → Prop} (rv : Rep K F v x) (rw : Rep K F w y) (h : LR K F G (dAddI x y) m P W σ) :
    ∃ i j, v = .int i ∧ w = .int j ∧ LR K F G (C.ret (.int (i + j))) m P W σ := by
  cases x with
  | int i =>
    cases y with
    | int j => cases rv; cases rw; exact ⟨i, j, rfl, rfl, h⟩
    | _ => exact h.elim
  | _ => exact h.elim
section
variable {X : Cx} {W : WX} {e o : Expr} {ce co : DE} {pos pos' : Pos}
theorem js_aug {i : Nat} {x : Str} (hN : X.N.Nodup) (hi : X.N[i]? = some x) (hx : Loc X.env.scope x) (he : JE X W e ce)
    (hf : X.fn x = true ∨ X.env.scope.names.lookup x = some .local := by first | exact .inl rfl | exact .inr rfl | assumption) : JS X W (.AugAssign (.Name x pos') .Add e pos) (sAsg i (eOp dAddI (eVar i) ce)) :=
  (ps_aug hN hi hx he ip_add hf).dimp fun E σ H ⟨F, m, G, δ, r, s, h⟩ => by
    have h2 : LR X.K F G (eOp dAddI (eVar i) ce δ) m (fun F' H' d => ∀ v, Rep X.K F' v d → E.nx (σ.set i (some v)) H') W σ := C.mono _ (fun d m' q F' H' e' r' v rv => q F' H' _ e' r' ((s.mono e').set rv i)) (fun x m' q => liftX_of s q) h
    have h3 := LR.bind h2
    unfold eVar at h3
    split at h3
    · rename_i d ed
      obtain ⟨v, h1, rv⟩ := s.get ed
      obtain ⟨m1, r1, h4⟩ := h3.ret r
      refine ⟨v, h1, F, m1, G, δ, r1, s, (LR.bind h4).imp fun F1 H1 _ y e1 _ ⟨m2, r2, h5⟩ w rw => ?_⟩
      obtain ⟨i, j, rfl, rfl, h6⟩ := dAddI_of (rv.mono e1) rw h5
      exact ⟨i, j, rfl, rfl, h6.ret r2 _ (.int _)⟩
    · exact h3.elim
/-- o.f += e -/
def fldC (c f : Str) (y : D) : MO → Option (D × MO)
  | .ins c' fs => if c' = c ∧ fs.length < 1000 then some (.non, .ins c' (putD f y fs)) else none
  | _ => none
def dSetFldC (c f : Str) (x y : D) : C D := match x with
  | .ref a => C.upd a (fldC c f y)
  | _ => C.stuck
def augF (cs : List Str) (f : Str) (x : D) (e : C D) (i : Str × List (Str × D)) : C D := if i.1 ∈ cs then ((ofO (i.2.lookup f)).bind fun u => e.bind fun y => (dAddI u y).bind fun z => dSetFldC i.1 f x z) else C.stuck
def sFldAugD (cs : List Str) (f : Str) (o e : DE) : CS := ⟨fun δ m K => ((o δ).bind fun x => (asI x).bind (augF cs f x (e δ))).run m (fun _ m' => K.nx δ m') (fun x m' => K.ex x δ m'),
  fun l h => C.mono _ (fun _ _ q => l.nx _ _ q) (fun _ _ q => l.ex _ _ _ q) h⟩
theorem js_fldaug {f : Str} {cs : List Str} (hf : FldOk X.K cs f) (ho : JE X W o co) (he : JE X W e ce) : JS X W (.AugAssign (.Attribute o f pos') .Add e pos) (sFldAugD cs f co ce) :=
  (ps_fldaug ho he in_add).dimp fun E σ H ⟨F, m, G, δ, r, s, h⟩ => ⟨F, m, G, δ, r, s, by
    have h2 : LR X.K F G ((co δ).bind fun x => (asI x).bind (augF cs f x (ce δ))) m (fun F' H' _ => E.nx σ H') W σ := C.mono _ (fun _ m' q F' H' e r' => q F' H' σ e r' (s.mono e)) (fun x m' q => liftX_of s q) h
    refine (LR.bind h2).imp fun F1 H1 _ x e1 _ ⟨m1, r1, h3⟩ v rv => ?_
    obtain ⟨a, dx, c, fs, vs, rfl, q1, q2, h4⟩ := asI_of r1 rv h3
    obtain ⟨hc, h5⟩ := LR.ite h4
    obtain ⟨d, e2, h6⟩ := h5.ofOb
    obtain ⟨u, e3, ru⟩ := q2.lookup e2
    refine ⟨a, _, dx, vs, u, rfl, q1, (hf c hc).1, (hf c hc).2, e3, F1, m1, G, δ, r1, s.mono e1, (LR.bind h6).imp fun F2 H2 _ y e4 _ ⟨m2, r2, h7⟩ w rw => ?_⟩
    have h9 := LR.bind h7
    cases d with
    | int i =>
      cases y with
      | int j =>
        cases ru
        cases rw
        obtain ⟨m4, r4, h10⟩ := LR.ret (a := D.int (i + j)) h9 r2
        refine ⟨i, j, rfl, rfl, ?_⟩
        cases x with
        | ref b =>
          cases rv
          obtain ⟨o, o', d, p1, p2, p3⟩ := LR.upd h10
          cases o with
          | lst l => cases p2
          | dic l => cases p2
          | ins c2 fs2 =>
            by_cases hc2 : c2 = c ∧ fs2.length < 1000
            · have p7 : some (D.non, MO.ins c2 (putD f (.int (i + j)) fs2)) = some (d, o') := (if_pos hc2).symm.trans p2
              cases p7
              obtain ⟨⟨dx2, vs2, p4, p5⟩, p6⟩ := r4.mm _ _ p1
              obtain ⟨rfl, hl⟩ := hc2
              exact ⟨dx2, vs2, p4, by rw [p5.length]; exact hl, p3 F2 _ (Ex.refl F2) (r4.put p6 (r4.gm p1) ⟨dx2, _, upd_same, p5.put (.int _)⟩)⟩
            · have p7 : none = some (d, o') := (if_neg hc2).symm.trans p2
              cases p7
        | _ => exact h10.elim
      | _ => exact h9.elim
    | _ => exact h9.elim⟩
end

def dDIn (x y : D) : C D := (asD y).bind fun l => (ofO (keyD x)).bind fun k => C.ret (.bl (valD l k).isSome)
def dDNotIn (x y : D) : C D := (asD y).bind fun l => (ofO (keyD x)).bind fun k => C.ret (.bl (!(valD l k).isSome))
section
variable {X : Cx} {W : WX} {K : PySem.W.Frag} {F G H : Hp} {m : Mem} {σ : L2.St}
theorem RepK.valO {k : Key} {vs : List (Key × V)} {ds : List (Key × D)} (r : RepK K F vs ds) : (valV vs k).isSome = (valD ds k).isSome := by
  cases q : valD ds k with
  | none => rw [r.valN q]; rfl
  | some d => obtain ⟨v, e, _⟩ := r.val q; rw [e]; rfl
variable {o i e : Expr} {co ci ce : DE} {pos pos' apos cpos : Pos}
theorem din_t {neg : Bool} {f : D → D → C D} (hf : ∀ x y, f x y = (asD y).bind fun l => (ofO (keyD x)).bind fun k => C.ret (.bl (if neg then !(valD l k).isSome else (valD l k).isSome))) {σ : L2.St} {H : Hp} {Q : VK} (h : tE X.K W (eOp f ci co) σ H Q) :
    tE X.K W ci σ H fun y H1 => tE X.K W co σ H1 fun x H2 => ∃ a o, x = .ref a ∧ DGet H2 a y o ∧ Q (.bl (if neg then !o.isSome else o.isSome)) H2 := by
  obtain ⟨F, m, G, δ, r, s, h⟩ := h
  refine ⟨F, m, G, δ, r, s, (LR.bind h).imp fun F1 H1 _ x e1 _ ⟨m1, r1, h1⟩ v rv => ⟨F1, m1, G, δ, r1, s.mono e1, (LR.bind h1).imp fun F2 H2 _ y e2 _ ⟨m2, r2, h2⟩ w rw => ?_⟩⟩
  rw [hf] at h2
  obtain ⟨a, vs, l, rfl, h3, h4, h5⟩ := asD_of r2 rw h2
  obtain ⟨k, e3, h5⟩ := h5.ofOb
  have ev := keyD_of (rv.mono e2) e3
  subst ev
  have q := h5.ret r2 _ (.bl _)
  rw [← h4.valO] at q
  exact ⟨a, _, rfl, .inl ⟨_, _, h3, rfl, rfl⟩, q⟩
theorem je_din (hu : X.A.units + 1 < cLine) (hi : JE X W i ci) (ho : JE X W o co) (hm : behindInMarks .In o = false := by rfl) : JE X W (.Compare i [.In] [o] pos) (eOp dDIn ci co) := (pe_cmp (pc_din hu hi ho) (h1 := hm)).dimp fun _ _ _ h => din_t (neg := false) (fun _ _ => rfl) h
theorem je_dnotin (hu : X.A.units + 1 < cLine) (hi : JE X W i ci) (ho : JE X W o co) (hm : behindInMarks .NotIn o = false := by rfl) : JE X W (.Compare i [.NotIn] [o] pos) (eOp dDNotIn ci co) := (pe_cmp (pc_dnotin hu hi ho) (h1 := hm)).dimp fun _ _ _ h => din_t (neg := true) (fun _ _ => rfl) h
theorem tOf_imp {c : DE} {t : TE} (h : ∀ σ H Q, tE X.K W c σ H Q → t σ H Q) {σ : L2.St} {H : Hp} {Q : Bool → Hp → Prop} (q : tT X.K W (tOf c) σ H Q) : tB t σ H Q := by
  obtain ⟨F, m, G, δ, r, s, q⟩ := q
  refine h _ _ _ ⟨F, m, G, δ, r, s, (LR.bind q).imp fun F1 H1 _ x e1 _ ⟨m1, r1, h1⟩ v rv => ?_⟩
  obtain ⟨b, rfl, h2⟩ := truth_bl (k := C.ret) h1
  cases rv
  exact ⟨b, rfl, h2.ret r1⟩
theorem jt_din (hu : X.A.units + 1 < cLine) (hi : JE X W i ci) (ho : JE X W o co) (hm : behindInMarks .In o = false := by rfl) : JT X W (.Compare i [.In] [o] pos) (tOf (eOp dDIn ci co)) := (pt_cmp (pc_din hu hi ho) (h1 := hm)).dimp fun _ _ _ h => tOf_imp (fun _ _ _ h => din_t (neg := false) (fun _ _ => rfl) h) h
theorem jt_dnotin (hu : X.A.units + 1 < cLine) (hi : JE X W i ci) (ho : JE X W o co) (hm : behindInMarks .NotIn o = false := by rfl) : JT X W (.Compare i [.NotIn] [o] pos) (tOf (eOp dDNotIn ci co)) := (pt_cmp (pc_dnotin hu hi ho) (h1 := hm)).dimp fun _ _ _ h => tOf_imp (fun _ _ _ h => din_t (neg := true) (fun _ _ => rfl) h) h
end
end DL

namespace DL
open PySem PySem.Spec PyProof.Rows L2

def leS (a b : Str) : Bool := !Spec.ltCps b.cps.toList a.cps.toList
theorem leS_iff {a b : Str} : leS a b = true ↔ a.cps.toList ≤ b.cps.toList := by
  unfold leS
  rw [ltCps_eq]
  simp
theorem leS_trans {a b c : Str} (h1 : leS a b = true) (h2 : leS b c = true) : leS a c = true := by
  rw [leS_iff] at *
  exact List.le_trans h1 h2
theorem leS_total (a b : Str) : (leS a b || leS b a) = true := by
  rcases List.le_total a.cps.toList b.cps.toList with h | h
  · rw [leS_iff.mpr h]; rfl
  · rw [leS_iff.mpr h, Bool.or_true]
theorem leS_anti {a b : Str} (h1 : leS a b = true) (h2 : leS b a = true) : a = b := by
  rw [leS_iff] at *
  have e := List.le_antisymm h1 h2
  obtain ⟨⟨x⟩⟩ := a
  obtain ⟨⟨y⟩⟩ := b
  simp at e
  subst e
  rfl
def sortS (l : List Str) : List Str := l.mergeSort leS
theorem sortS_perm (l : List Str) : (sortS l).Perm l := List.mergeSort_perm l leS
theorem sortS_pairwise (l : List Str) : (sortS l).Pairwise fun a b => leS a b = true := List.pairwise_mergeSort (le := leS) (fun a b c h1 h2 => leS_trans h1 h2) leS_total l
theorem risingS_pairwise : ∀ {l : List Str} {p : Str}, risingS p l = true → (p :: l).Pairwise fun a b => leS a b = true
  | [], p, _ => by simp
  | x :: r, p, h => by
    unfold risingS at h
    rw [Bool.and_eq_true] at h
    have ih := risingS_pairwise h.2
    rw [List.pairwise_cons] at ih ⊢
    refine ⟨fun b hb => ?_, risingS_pairwise h.2⟩
    rcases List.mem_cons.mp hb with rfl | hb
    · exact h.1
    · exact leS_trans h.1 (ih.1 b hb)
theorem sortedS_pairwise {l : List Str} (h : sortedS l = true) : l.Pairwise fun a b => leS a b = true := by
  cases l with
  | nil => simp
  | cons x r => exact risingS_pairwise h
theorem sorted_unique : ∀ {a b : List Str}, a.Perm b → a.Pairwise (fun a b => leS a b = true) → b.Pairwise (fun a b => leS a b = true) → a = b
  | [], b, p, _, _ => by rw [List.Perm.nil_eq p]
  | x :: r, b, p, h1, h2 => by
    cases b with
    | nil => exact absurd p.length_eq (by simp)
    | cons y s =>
      rw [List.pairwise_cons] at h1 h2
      have e : x = y := by
        have hx : x ∈ y :: s := p.mem_iff.mp List.mem_cons_self
        have hy : y ∈ x :: r := p.mem_iff.mpr List.mem_cons_self
        rcases List.mem_cons.mp hx with e | hx
        · exact e
        · rcases List.mem_cons.mp hy with e | hy
          · exact e.symm
          · exact leS_anti (h1.1 y hy) (h2.1 x hx)
      subst e
      rw [sorted_unique ((List.perm_cons x).mp p) h1.2 h2.2]
theorem sortS_of {l ys : List Str} (p : ys.Perm l) (h : sortedS ys = true) : ys = sortS l := sorted_unique (p.trans (sortS_perm l).symm) (sortedS_pairwise h) (sortS_pairwise l)

def strKeys : List (Key × D) → Option (List Str)
  | [] => some []
  | (.inr x, _) :: r => (strKeys r).map (x :: ·)
  | (.inl _, _) :: _ => none
def dDict : List D → C D
  | [x] => (asD x).bind fun l => C.ret (.dic l)
  | _ => C.stuck
def dDictM : List D → C D
  | [x] => (asD x).bind fun l => C.new (.dic l)
  | _ => C.stuck
def dSortedD : List D → C D
  | [x] => (asD x).bind fun l => (ofO (strKeys l)).bind fun ks => if ks.length < 64 ∧ ks.all PyData.strOk = true then C.ret (.lst ((sortS ks).map D.str)) else C.stuck
  | _ => C.stuck
def dLenD : List D → C D
  | [x] => (asD x).bind fun l => C.ret (.int l.length)
  | _ => C.stuck
section
variable {X : Cx} {W : WX} {K : PySem.W.Frag} {F G H : Hp} {m : Mem} {σ : L2.St}
theorem cd_dict : CallD X W dDict (fun xs H Q => ∃ (a : Addr) (kvs : List (Key × V)), xs = [.ref a] ∧ Rd H a (.dK kvs) ∧ ∀ p, H p = none → Q (.ref p) (upd H p (.dK kvs))) := by
  intro F m G H σ xs vs Q r rv h
  match xs, h with
  | [x], h =>
    obtain ⟨v, rfl, rv1⟩ := reps1 rv
    obtain ⟨a, us, l, rfl, h3, h4, h5⟩ := asD_of r rv1 h
    refine ⟨a, us, rfl, h3, fun p hp => ?_⟩
    have ex := Ex.new (o := .dK us) (r.fresh hp).2
    exact h5.retE ex (r.newF hp _) _ (.dic upd_same (h4.mono ex))
  | [], h => exact h.elim
  | _ :: _ :: _, h => exact h.elim
theorem cd_dictM : CallD X W dDictM (fun xs H Q => ∃ (a : Addr) (kvs : List (Key × V)), xs = [.ref a] ∧ Rd H a (.dK kvs) ∧ ∀ p, H p = none → Q (.ref p) (upd H p (.dK kvs))) := by
  intro F m G H σ xs vs Q r rv h
  match xs, h with
  | [x], h =>
    obtain ⟨v, rfl, rv1⟩ := reps1 rv
    obtain ⟨a, us, l, rfl, h3, h4, h5⟩ := asD_of r rv1 h
    refine ⟨a, us, rfl, h3, fun p hp => ?_⟩
    exact h5 p (r.fresh hp).1 F _ (Ex.refl F) (r.put (r.fresh hp).2 (r.freshG hp) ⟨us, upd_same, h4⟩) _ (.ref p)
  | [], h => exact h.elim
  | _ :: _ :: _, h => exact h.elim
theorem strKeys_of : ∀ {vs : List (Key × V)} {ds : List (Key × D)} {ks : List Str}, RepK K F vs ds → strKeys ds = some ks → vs.map (·.1) = ks.map Sum.inr
  | _, _, ks, .nil, h => by cases h; rfl
  | _, _, ks, .cons (n := .inr x) (ds := ds) r t, h => by
    simp only [strKeys] at h
    cases q : strKeys ds with
    | none => rw [q] at h; cases h
    | some zs =>
      rw [q] at h
      cases h
      rw [List.map_cons, List.map_cons, strKeys_of t q]
  | _, _, ks, .cons (n := .inl x) r t, h => by cases h
theorem reps_strs {K : PySem.W.Frag} {F : Hp} : ∀ {ns : List Str}, ns.all PyData.strOk = true → Reps K F (ns.map V.str) (ns.map D.str)
  | [], _ => .nil
  | x :: r, h => by
    rw [List.all_cons, Bool.and_eq_true] at h
    exact .cons (.str x h.1) (reps_strs h.2)
theorem cd_sortedD : CallD X W dSortedD (fun xs H Q => ∃ (a : Addr) (kvs : List (Key × V)) (ks : List Str), xs = [.ref a] ∧ Rd H a (.dK kvs) ∧ kvs.map (·.1) = ks.map Sum.inr ∧ ks.length < 64 ∧
    ∀ ys p, ys.Perm ks → sortedS ys = true → H p = none → Q (.ref p) (upd H p (.lst (ys.map V.str)))) := by
  intro F m G H σ xs vs Q r rv h
  match xs, h with
  | [x], h =>
    obtain ⟨v, rfl, rv1⟩ := reps1 rv
    obtain ⟨a, us, l, rfl, h3, h4, h5⟩ := asD_of r rv1 h
    obtain ⟨ks, e, h6⟩ := h5.ofOb
    obtain ⟨⟨hl, hok⟩, h7⟩ := h6.ite
    refine ⟨a, us, ks, rfl, h3, strKeys_of h4 e, hl, fun ys p hp hs hn => ?_⟩
    rw [sortS_of hp hs]
    have ex := Ex.new (o := .lst ((sortS ks).map V.str)) (r.fresh hn).2
    refine h7.retE ex (r.newF hn _) _ (.lst upd_same (reps_strs ?_))
    rw [List.all_eq_true] at hok ⊢
    exact fun z hz => hok z ((sortS_perm ks).mem_iff.mp hz)
  | [], h => exact h.elim
  | _ :: _ :: _, h => exact h.elim
theorem one_ref {a : Addr} : ∀ {us : List Value}, Vals [V.ref a] us → us = [Value.ref a]
  | _, .cons r .nil => by rw [show _ = Value.ref a from r]
theorem cr_lenD {X : Cx} : CallR X (.builtin "len") (fun xs H Q => ∃ a kvs, xs = [V.ref a] ∧ Rd H a (.dK kvs) ∧ Q (.int kvs.length) H)
  | _, _, _, H, _, _, _, I, r, ⟨a, kvs, e, at_, q⟩ => by
    subst e
    rw [one_ref r]
    exact d_len I at_ fun n _ J => ⟨.int kvs.length, H, J, ⟨n, rfl⟩, q⟩
theorem cd_lenD : CallD X W dLenD (fun xs H Q => ∃ a kvs, xs = [V.ref a] ∧ Rd H a (.dK kvs) ∧ Q (.int kvs.length) H) := by
  intro F m G H σ xs vs Q r rv h
  match xs, h with
  | [x], h =>
    obtain ⟨v, rfl, rv1⟩ := reps1 rv
    obtain ⟨a, us, l, rfl, h3, h4, h5⟩ := asD_of r rv1 h
    refine ⟨a, us, rfl, h3, ?_⟩
    rw [h4.length]
    exact h5.ret r _ (.int _)
  | [], h => exact h.elim
  | _ :: _ :: _, h => exact h.elim
def eNewD : DE := fun _ => C.new (.dic [])
theorem je_dnew {pos : Pos} : JE X W (.Dict [] [] pos) eNewD :=
  pe_dnewK.dimp fun σ H Q ⟨F, m, G, δ, r, s, h⟩ p hp => h p (r.fresh hp).1 F _ (Ex.refl F) (r.put (r.fresh hp).2 (r.freshG hp) ⟨[], upd_same, .nil⟩) _ (.ref p)
def putDF (k : Key) (y : D) : MO → Option (D × MO)
  | .dic l => if l.length < sizeLine then some (.non, .dic (putKD l k y)) else none
  | _ => none
def dPutD (x k y : D) : C D := (ofO (keyD k)).bind fun q => match x with
  | .ref a => C.upd a (putDF q y)
  | _ => C.stuck
def sPutD (o i e : DE) : CS := ⟨fun δ m K => ((e δ).bind fun y => (o δ).bind fun x => (i δ).bind fun j => dPutD x j y).run m (fun _ m' => K.nx δ m') (fun x m' => K.ex x δ m'), fun l h => C.mono _ (fun _ _ q => l.nx _ _ q) (fun _ _ q => l.ex _ _ _ q) h⟩
variable {o i e f : Expr} {co ci ce cf : DE} {pos pos' apos cpos : Pos}
theorem js_dput (hu : X.A.units + 1 < cLine) (he : JE X W e ce) (ho : JE X W o co) (hi : JE X W i ci) (hs : swapsWith e (some (.Subscript o i pos')) pos.line X.env = pure false := by rfl) : JS X W (.Assign [.Subscript o i pos'] e pos) (sPutD co ci ce) :=
  (ps_dput hu ho hi he hs).dimp fun E σ H ⟨F, m, G, δ, r, s, h⟩ => ⟨F, m, G, δ, r, s, by
    have h2 : LR X.K F G ((ce δ).bind fun y => (co δ).bind fun x => (ci δ).bind fun j => dPutD x j y) m (fun F' H' _ => E.nx σ H') W σ := C.mono _ (fun _ m' q F' H' e r' => q F' H' σ e r' (s.mono e)) (fun x m' q => liftX_of s q) h
    refine (LR.bind h2).imp fun F1 H1 _ y e1 _ ⟨m1, r1, h3⟩ z rz => ⟨F1, m1, G, δ, r1, s.mono e1, (LR.bind h3).imp fun F2 H2 _ x e2 _ ⟨m2, r2, h4⟩ v rv => ⟨F2, m2, G, δ, r2, (s.mono e1).mono e2, (LR.bind h4).imp fun F3 H3 _ j e3 _ ⟨m3, r3, h5⟩ w rw => ?_⟩⟩
    obtain ⟨k, ek, h6⟩ := LR.ofOb h5
    have ev := keyD_of rw ek
    subst ev
    cases x with
    | ref a =>
      cases rv
      obtain ⟨o, o', d, q1, q2, q3⟩ := LR.upd h6
      cases o with
      | lst l => cases q2
      | ins c l => cases q2
      | dic l =>
        by_cases hl : l.length < sizeLine
        · have q7 : some (D.non, MO.dic (putKD l k y)) = some (d, o') := (if_pos hl).symm.trans q2
          cases q7
          obtain ⟨⟨vs, q4, q5⟩, q6⟩ := r3.mm _ _ q1
          exact ⟨a, _, rfl, .inl ⟨vs, k, q4, rfl, by rw [q5.length]; exact hl, rfl⟩, q3 F3 _ (Ex.refl F3) (r3.put q6 (r3.gm q1) ⟨_, upd_same, q5.put ((rz.mono e2).mono e3)⟩)⟩
        · have q7 : none = some (d, o') := (if_neg hl).symm.trans q2
          cases q7
    | _ => exact h6.elim⟩
def eGet2 (o i x : DE) : DE := fun δ => (o δ).bind fun d => (asD d).bind fun _ => (i δ).bind fun y => (x δ).bind fun z => (asD d).bind fun l => (ofO (keyD y)).bind fun k => C.ret ((valD l k).getD z)
theorem je_get2 (hu : X.A.units + 1 < cLine) (ho : JE X W o co) (he : JE X W e ce) (hf : JE X W f cf) (m : M2 X o "get" apos e f cpos) : JE X W (.Call (.Attribute o "get" apos) [e, f] [] cpos) (eGet2 co ce cf) :=
  (pe_dget2 hu ho he hf m).dimp fun σ H Q ⟨F, m, G, δ, r, s, h⟩ => ⟨F, m, G, δ, r, s, (LR.bind h).imp fun F1 H1 _ d e1 _ ⟨m1, r1, h1⟩ v rv => by
    obtain ⟨a, vs, l, rfl, h3, h4, h5⟩ := asD_of r1 rv h1
    refine ⟨a, rfl, .inl ⟨vs, h3⟩, F1, m1, G, δ, r1, s.mono e1, (LR.bind h5).imp fun F2 H2 _ y e2 _ ⟨m2, r2, h2⟩ w rw => ⟨F2, m2, G, δ, r2, (s.mono e1).mono e2, (LR.bind h2).imp fun F3 H3 _ z e3 _ ⟨m3, r3, h6⟩ u ru => ?_⟩⟩
    obtain ⟨a', vs', l', ea, h7, h8, h9⟩ := asD_of r3 ((rv.mono e2).mono e3) h6
    cases ea
    obtain ⟨k, ek, h10⟩ := h9.ofOb
    have ev := keyD_of (rw.mono e3) ek
    subst ev
    refine ⟨_, .inl ⟨_, _, h7, rfl, rfl⟩, ?_⟩
    cases q : valD l' k with
    | none =>
      rw [q] at h10
      rw [h8.valN q]
      exact h10.ret r3 _ ru
    | some d' =>
      rw [q] at h10
      obtain ⟨v', e', rv'⟩ := h8.val q
      rw [e']
      exact h10.ret r3 _ rv'⟩

def frzL : D → C D
  | .ref a => ⟨fun m Q _ => match m a with
    | some (.dic l) => Q (.ldc l) (mdel m a)
    | _ => False, fun {m Q Q' E E'} hQ _ h => by
      cases e : m a with
      | none => simp only [e] at h
      | some o =>
        cases o with
        | dic l => simp only [e] at h ⊢; exact hQ _ _ h
        | _ => simp only [e] at h⟩
  | _ => C.stuck
theorem run_frzL {a : Addr} {l : List (Key × D)} {m : Mem} {Q : D → Mem → Prop} {E : Xn → Mem → Prop} (h : m a = some (.dic l)) : (frzL (.ref a)).run m Q E = Q (.ldc l) (mdel m a) := by
  show (match m a with | some (.dic l) => Q (.ldc l) (mdel m a) | _ => False) = _
  rw [h]
theorem Rel.lock {a : Addr} {u v : HO} (r : Rel K F m G H) (h : H a = some u) (hF : F a = none) (hG : G a = none) : Rel K (upd F a v) (mdel m a) G (upd H a v) := by
  refine ⟨fun b w e => ?_, fun b w e => ?_, fun b w e => ?_⟩
  · by_cases hb : b = a
    · subst hb; rw [upd_same] at e ⊢; exact e
    · rw [upd_ne hb] at e ⊢; exact r.ex b w e
  · by_cases hb : b = a
    · subst hb; rw [mdel_same] at e; cases e
    · rw [mdel_ne hb] at e
      obtain ⟨h1, h2⟩ := r.mm b w e
      exact ⟨h1.mono (Ex.new hF) fun _ q => by rw [upd_ne hb]; exact q, by rw [upd_ne hb]; exact h2⟩
  · have hb : b ≠ a := ne_of_none e hG
    obtain ⟨h1, h2, h3⟩ := r.gg b w e
    exact ⟨by rw [upd_ne hb]; exact h1, by rw [upd_ne hb]; exact h2, by rw [mdel_ne hb]; exact h3⟩
theorem je_frzL (he : JE X W e ce) : JE X W e (eUn frzL ce) := by
  refine ⟨fun pins s σ H Q I ⟨F, m, G, δ, r, sr, h⟩ => ?_⟩
  have h2 : tE X.K W ce σ H (fun v H1 => ∃ a vs, v = .ref a ∧ H1 a = some (.dK vs) ∧ ∀ od, Q v (upd H1 a (.frz od (.dK vs)))) :=
    ⟨F, m, G, δ, r, sr, (LR.bind h).imp fun F1 H1 _ x e1 _ ⟨m1, r1, h1⟩ v rv => by
      cases x with
      | ref a =>
        cases rv
        have h3 : (match m1 a with
          | some (.dic l) => (fun (d : D) (m' : Mem) => ∀ F' H', Ex F1 F' → Rel X.K F' m' G H' → ∀ v, Rep X.K F' v d → Q v H') (.ldc l) (mdel m1 a)
          | _ => False) := h1
        cases em : m1 a with
        | none => rw [em] at h3; exact h3.elim
        | some o =>
          cases o with
          | dic l =>
            rw [em] at h3
            obtain ⟨⟨vs, h4, h5⟩, h6⟩ := r1.mm _ _ em
            refine ⟨a, vs, rfl, h4, fun od => ?_⟩
            have ex := Ex.new (o := .frz od (.dK vs)) h6
            exact h3 _ _ ex (r1.lock h4 h6 (r1.gm em)) _ (.ldc upd_same (h5.mono ex))
          | lst l => rw [em] at h3; exact h3.elim
          | ins c l => rw [em] at h3; exact h3.elim
      | _ => exact h1.elim⟩
  refine thn (he.run pins s σ H _ I h2) fun u s1 ⟨x, H1, I1, rx, a, vs, ex, ha, q⟩ => ?_
  subst ex
  obtain ⟨od, I2⟩ := I1.lock ha True.intro
  exact ⟨.ref a, _, I2, rx, q od⟩
def kD : Key → D
  | .inl i => .int i
  | .inr x => .str x
def itemsD (l : List (Key × D)) : List D := l.map fun p => .tup [kD p.1, p.2]
def okKeys (l : List (Key × D)) : Bool := l.all fun p => match p.1 with | .inl _ => true | .inr x => PyData.strOk x
def itemsI : D → C (List D × Option Addr)
  | .ldc l => if okKeys l = true then C.ret (itemsD l, none) else C.stuck
  | _ => C.stuck
def iItemsD (e : DE) : DI := fun δ => (e δ).bind itemsI
theorem RepK.get : ∀ {vs : List (Key × V)} {ds : List (Key × D)} {i : Nat} {k : Key} {v : V}, RepK K F vs ds → vs[i]? = some (k, v) → ∃ d, ds[i]? = some (k, d) ∧ Rep K F v d
  | _, _, _, _, _, .nil, e => by simp at e
  | _, _, 0, _, _, .cons r _, e => by simp at e; obtain ⟨rfl, rfl⟩ := e; exact ⟨_, rfl, r⟩
  | _, _, i + 1, k, v, .cons _ t, e => by
    obtain ⟨d, h1, h2⟩ := RepK.get (i := i) (k := k) (v := v) t (by simpa using e)
    exact ⟨d, by simpa using h1, h2⟩
theorem iti_ok {a : Addr} {ob : Obj} {vs : List (Key × V)} {l : List (Key × D)} (h : F a = some (.frz ob (.dK vs))) (r : RepK K F vs l) (hk : okKeys l = true) : ItOk K F (Iti a ob vs) (itemsD l) none where
  go := fun i F' m G H hi e rl _ => ⟨rl.ex _ _ (e _ _ h), by rw [r.length]; simpa [itemsD] using hi⟩
  yld := by
    rintro i F' m G H x H' d e rl _ ⟨T, k, v, hv, rfl, hT, rfl⟩ hd
    obtain ⟨d', hd', rd⟩ := r.get hv
    have e1 : (itemsD l)[i]? = some (.tup [kD k, d']) := by unfold itemsD; rw [List.getElem?_map, hd']; rfl
    rw [e1] at hd
    cases hd
    have ex := Ex.new (o := .tup [kV k, v]) (rl.fresh hT).2
    refine ⟨_, ex, rl.newF hT _, .tup (.inl (.inl upd_same)) (.cons ?_ (.cons ((rd.mono e).mono ex) .nil))⟩
    cases k with
    | inl i => exact .int i
    | inr z =>
      have h2 := List.all_eq_true.mp hk _ (List.mem_of_getElem? hd')
      exact .str z h2
  stop := fun F' m G H e rl _ => ⟨rl.ex _ _ (e _ _ h), by rw [r.length]; simp [itemsD]⟩
theorem ji_items {elts : List Expr} {kk : Nat} {tpos : Pos} (he : JE X W e ce) (hbase : attributeBase e "items" X.env (eval e X.env) = eval e X.env := by rfl) (hline : (apos.endLine == cpos.line) = true := by rfl) :
    JI X W (.Tuple elts kk tpos) (.Call (.Attribute e "items" apos) [] [] cpos) (iItemsD ce) :=
  (pi_items he hbase hline).dimp fun σ H R ⟨F, m, G, δ, r, s, h⟩ => ⟨F, m, G, δ, r, s, (LR.bind h).imp fun F1 H1 _ x e1 _ ⟨m1, r1, h1⟩ v rv => by
    cases x with
    | ldc l =>
      cases rv with
      | ldc q1 q2 =>
        obtain ⟨hk, h2⟩ := LR.ite h1
        exact ⟨_, _, _, rfl, r1.ex _ _ q1, h2.ret r1 _ (iti_ok q1 q2 hk)⟩
    | _ => exact h1.elim⟩
end
end DL

namespace DL
open PySem PySem.Spec PyProof.Rows L2

section
variable {X : Cx} {W : WX} {o e i : Expr} {co ce ci : DE} {pos pos' : Pos} {f : Str} {cs : List Str}
def gFldT (K : PySem.W.Frag) (ta : TE) (f : Str) : TG := fun v σ H Q => ta σ H fun x H1 => ∃ a C dx fs, x = .ref a ∧ H1 a = some (.ins C dx fs) ∧ Cls K C ∧ NoAttr K C f ∧ fs.length < 1000 ∧ Q σ (upd H1 a (.ins C dx (L2.putF f v fs)))
theorem pg_fld {ta : TE} (ha : PE X o ta) : PG X (.Attribute o f pos) (gFldT X.K ta f) := by
  refine ⟨fun pins s σ H v u Q I r h => ?_⟩
  rw [assign_Attribute]
  refine wpAny_bind (wpAny_holding (thn (ha.run pins s σ H _ I h) fun ov s1 ⟨x, H1, I1, rx, a, C, dx, fs, ex, ea, c, n, l, q⟩ => ?_))
  subst ex
  obtain rfl : ov = Value.ref a := rx
  refine wpAny_bind (wpAny_standAt (wpAny_bind (wpAny_holding ?_)))
  exact setattr_ok I1 ea c n l r fun s3 I3 => wpAny_release ⟨σ, _, I3, q⟩
def gFld (cs : List Str) (f : Str) (co : DE) : DG := fun d δ => (co δ).bind fun x => (dSetFld cs f x d).bind fun _ => C.ret δ
theorem jg_fld (hf : FldOk X.K cs f) (ho : JE X W o co) : JG X W (.Attribute o f pos) (gFld cs f co) :=
  (pg_fld ho).dimp fun v σ H Q ⟨F, m, G, δ, d, r, s, rv, h⟩ => ⟨F, m, G, δ, r, s, (LR.bind h).imp fun F1 H1 _ x e1 _ ⟨m1, r1, h1⟩ w rw => by
    cases x with
    | ref a =>
      cases rw
      have h2 := LR.bind h1
      obtain ⟨o, o', d', q1, q2, q3⟩ := LR.upd h2
      cases o with
      | lst l => cases q2
      | dic l => cases q2
      | ins c fs =>
        by_cases hc : c ∈ cs ∧ fs.length < 1000
        · have q7 : some (D.non, MO.ins c (putD f d fs)) = some (d', o') := (if_pos hc).symm.trans q2
          cases q7
          obtain ⟨⟨dx, vs, q4, q5⟩, q6⟩ := r1.mm _ _ q1
          have r2 := r1.put q6 (r1.gm q1) (o := .ins c (putD f d fs)) ⟨dx, _, upd_same, q5.put (rv.mono e1)⟩
          obtain ⟨m3, r3, h3⟩ := q3 F1 _ (Ex.refl F1) r2
          exact ⟨a, _, dx, vs, rfl, q4, (hf c hc.1).1, (hf c hc.1).2, by rw [q5.length]; exact hc.2, h3.ret r3 _ (s.mono e1)⟩
        · have q7 : none = some (d', o') := (if_neg hc).symm.trans q2
          cases q7
    | _ => exact h1.elim⟩
theorem gs_len2f {g g' : DG} (l : List D) (δ : DSt) (h : l.length ≠ 2) : gsCons g (gsCons g' gsNil) l δ = C.stuck ∨ True := .inr trivial

def dvD : He.Dv → D
  | .int i => .int i
  | .str x => .str x
  | .bl b => .bl b
  | _ => .non
def dvOk : He.Dv → Bool
  | .int _ => true
  | .str x => PyData.strOk x
  | .bl _ => true
  | _ => false
theorem dv_rep {K : PySem.W.Frag} {F : Hp} {v : He.Dv} (h : dvOk v = true) : Rep K F (v.v K) (dvD v) := by
  cases v with
  | int i => exact .int i
  | str x => exact .str x h
  | bl b => exact .bl b
  | _ => cases h
def KTab (K : PySem.W.Frag) (w : World) (mg : Str → Option Value) (x : Str) (tbl : List (Str × He.Dv)) : Prop :=
  ∃ d es n, mg x = some (.ref d) ∧ KDict K w d es n ∧ (tbl.all fun p => dvOk p.2) = true ∧ ∀ z, match tbl.lookup z with
    | none => PySem.W.nsIn K d z = some none
    | some v => ∃ u, PySem.W.nsIn K d z = some (some u) ∧ RelV (v.v K) u
theorem ktab_of {K : PySem.W.Frag} {w : World} {mg : Str → Option Value} {x : Str} {a : Addr} {tbl : List (Str × He.Dv)} (hm : mg x = some (.ref a)) (h : He.dicW K a = some (He.keysIn w.params (tbl.map (·.1)))) (hv : He.valsB K a tbl = true)
    (hok : (tbl.all fun p => dvOk p.2) = true) : KTab K w mg x tbl := by
  obtain ⟨es, n, D⟩ := He.dicW_ok h
  refine ⟨a, es, n, hm, D, hok, fun z => ?_⟩
  have hk : es.toList.map He.keyOf = He.keysIn w.params (tbl.map (·.1)) := by
    unfold He.dicW at h
    rw [D.at_] at h
    have h1 : (match decide (("dict" : String) = "dict") && ((#[] : Array (Option Value)).isEmpty && !(a == sysModules)) with
      | true => some (es.toList.map He.keyOf)
      | false => none) = some (He.keysIn w.params (tbl.map (·.1))) := h
    rw [D.low] at h1
    exact Option.some.inj h1
  cases q : tbl.lookup z with
  | some v =>
    obtain ⟨u, e1, e2⟩ := He.valsB_ok hv (q := (z, v)) (mem_of_lookup q)
    exact ⟨u, e1, e2⟩
  | none =>
    have key : ∀ (l : List DictEntry) (ks : List Str), l.map He.keyOf = He.keysIn w.params ks → z ∉ ks → l.find? (fun e => e.key.isStr z) = none ∧ l.any (fun e => e.refKey) = false := by
      intro l
      induction l with
      | nil => intro ks _ _; exact ⟨rfl, rfl⟩
      | cons e r ih =>
        intro ks h1 hz
        cases ks with
        | nil => cases h1
        | cons k ks =>
          have h2 : He.keyOf e :: r.map He.keyOf = some (k, PyData.keyHash w.params k) :: He.keysIn w.params ks := h1
          injection h2 with h3 h4
          obtain ⟨i1, i2⟩ := ih ks h4 fun hm => hz (List.mem_cons_of_mem _ hm)
          unfold He.keyOf at h3
          split at h3
          · rename_i y t q2
            have e5 : y = k := (Prod.mk.inj (Option.some.inj h3)).1
            subst e5
            have hne : ¬ y = z := fun e => hz (by rw [e]; exact List.mem_cons_self)
            constructor
            · rw [List.find?_cons, q2]
              have : (Value.str y t).isStr z = false := by
                rw [PySem.W.isStr_of]
                simp [Value.isStrOf, hne]
              rw [this]
              exact i1
            · rw [List.any_cons, i2]
              simp [DictEntry.refKey, q2]
          · cases h3
    have hz : z ∉ tbl.map (·.1) := by
      intro hm
      obtain ⟨p, hp, e⟩ := List.mem_map.mp hm
      have key2 : ∀ l : List (Str × He.Dv), p ∈ l → l.lookup z ≠ none := by
        intro l
        induction l with
        | nil => intro h; cases h
        | cons a r ih =>
          intro h hn
          rw [List.lookup_cons] at hn
          cases w1 : z == a.1 with
          | true => rw [w1] at hn; cases hn
          | false =>
            rw [w1] at hn
            rcases List.mem_cons.mp h with rfl | h
            · rw [e, beq_self_eq_true] at w1; cases w1
            · exact ih h hn
      exact key2 tbl hp q
    obtain ⟨k1, k2⟩ := key _ _ hk hz
    show PySem.W.nsIn K a z = some none
    unfold PySem.W.nsIn
    rw [D.at_]
    simp only [k1, k2, Bool.false_eq_true, if_false]
def dInK (tbl : List (Str × He.Dv)) : D → C D
  | .str z => C.ret (.bl (tbl.lookup z).isSome)
  | _ => C.stuck
def dNotInK (tbl : List (Str × He.Dv)) : D → C D
  | .str z => C.ret (.bl (!(tbl.lookup z).isSome))
  | _ => C.stuck
def dGetK (tbl : List (Str × He.Dv)) : D → C D
  | .str z => ofO ((tbl.lookup z).map dvD)
  | _ => C.stuck
variable {x : Str} {tbl : List (Str × He.Dv)} {p : Pos}
theorem ktab_ns {K : PySem.W.Frag} {d : Addr} {z : Str} (h : match tbl.lookup z with
    | none => PySem.W.nsIn K d z = some none
    | some v => ∃ u, PySem.W.nsIn K d z = some (some u) ∧ RelV (v.v K) u) : ∃ r, PySem.W.nsIn K d z = some r ∧ r.isSome = (tbl.lookup z).isSome := by
  cases q : tbl.lookup z with
  | none => rw [q] at h; exact ⟨none, h, rfl⟩
  | some v => rw [q] at h; obtain ⟨u, e, _⟩ := h; exact ⟨some u, e, rfl⟩
theorem je_inK (T : KTab X.K X.w X.mg x tbl) (hi : JE X W i ci) (hg : Gl X x) (hd : (x == ("__debug__" : Str)) = false := by decide) (hm : behindInMarks .In (.Name x p) = false := by rfl) : JE X W (.Compare i [.In] [.Name x p] pos) (eUn (dInK tbl) ci) := by
  obtain ⟨d, es, n, hx, D, hok, hz⟩ := T
  refine (pe_cmpR (op_in_kd D) hi (pe_glob hg hx (v := .ref d) rfl hd) hm).dimp fun σ H Q ⟨F, m, G, δ, r, s, h⟩ => ⟨F, m, G, δ, r, s, (LR.bind h).imp fun F1 H1 _ y e1 _ ⟨m1, r1, h1⟩ v rv => ?_⟩
  cases y with
  | str z =>
    cases rv
    obtain ⟨o, e2, e3⟩ := ktab_ns (hz z)
    refine ⟨z, o, rfl, rfl, e2, ?_⟩
    rw [e3]
    exact h1.ret r1 _ (.bl _)
  | _ => exact h1.elim
theorem je_notinK (T : KTab X.K X.w X.mg x tbl) (hi : JE X W i ci) (hg : Gl X x) (hd : (x == ("__debug__" : Str)) = false := by decide) (hm : behindInMarks .NotIn (.Name x p) = false := by rfl) : JE X W (.Compare i [.NotIn] [.Name x p] pos) (eUn (dNotInK tbl) ci) := by
  obtain ⟨d, es, n, hx, D, hok, hz⟩ := T
  refine (pe_cmpR (op_notIn_kd D) hi (pe_glob hg hx (v := .ref d) rfl hd) hm).dimp fun σ H Q ⟨F, m, G, δ, r, s, h⟩ => ⟨F, m, G, δ, r, s, (LR.bind h).imp fun F1 H1 _ y e1 _ ⟨m1, r1, h1⟩ v rv => ?_⟩
  cases y with
  | str z =>
    cases rv
    obtain ⟨o, e2, e3⟩ := ktab_ns (hz z)
    refine ⟨z, o, rfl, rfl, e2, ?_⟩
    rw [e3]
    exact h1.ret r1 _ (.bl _)
  | _ => exact h1.elim
theorem jt_of {c : DE} {op : CmpOp} {a b : Expr} {r : R2} {ta tb : TE} (ho : OpR X (compareOp op) r) (ha : PE X a ta) (hb : PE X b tb) (hm : behindInMarks op b = false) (h : ∀ σ H Q, tE X.K W c σ H Q → tOp r ta tb σ H Q) : JT X W (.Compare a [op] [b] pos) (tOf c) :=
  (pt_cmpR ho ha hb hm).dimp fun σ H Q q => by
    obtain ⟨F, m, G, δ, rl, s, q⟩ := q
    refine h _ _ _ ⟨F, m, G, δ, rl, s, (LR.bind q).imp fun F1 H1 _ x e1 _ ⟨m1, r1, h1⟩ v rv => ?_⟩
    obtain ⟨b, rfl, h2⟩ := truth_bl (k := C.ret) h1
    cases rv
    exact ⟨b, rfl, h2.ret r1⟩
theorem jt_inK (T : KTab X.K X.w X.mg x tbl) (hi : JE X W i ci) (hg : Gl X x) (hd : (x == ("__debug__" : Str)) = false := by decide) (hm : behindInMarks .In (.Name x p) = false := by rfl) : JT X W (.Compare i [.In] [.Name x p] pos) (tOf (eUn (dInK tbl) ci)) := by
  obtain ⟨d, es, n, hx, D, hok, hz⟩ := T
  refine jt_of (op_in_kd D) hi (pe_glob hg hx (v := .ref d) rfl hd) hm fun σ H Q ⟨F, m, G, δ, r, s, h⟩ => ⟨F, m, G, δ, r, s, (LR.bind h).imp fun F1 H1 _ y e1 _ ⟨m1, r1, h1⟩ v rv => ?_⟩
  cases y with
  | str z =>
    cases rv
    obtain ⟨o, e2, e3⟩ := ktab_ns (hz z)
    refine ⟨z, o, rfl, rfl, e2, ?_⟩
    rw [e3]
    exact h1.ret r1 _ (.bl _)
  | _ => exact h1.elim
theorem jt_notinK (T : KTab X.K X.w X.mg x tbl) (hi : JE X W i ci) (hg : Gl X x) (hd : (x == ("__debug__" : Str)) = false := by decide) (hm : behindInMarks .NotIn (.Name x p) = false := by rfl) : JT X W (.Compare i [.NotIn] [.Name x p] pos) (tOf (eUn (dNotInK tbl) ci)) := by
  obtain ⟨d, es, n, hx, D, hok, hz⟩ := T
  refine jt_of (op_notIn_kd D) hi (pe_glob hg hx (v := .ref d) rfl hd) hm fun σ H Q ⟨F, m, G, δ, r, s, h⟩ => ⟨F, m, G, δ, r, s, (LR.bind h).imp fun F1 H1 _ y e1 _ ⟨m1, r1, h1⟩ v rv => ?_⟩
  cases y with
  | str z =>
    cases rv
    obtain ⟨o, e2, e3⟩ := ktab_ns (hz z)
    refine ⟨z, o, rfl, rfl, e2, ?_⟩
    rw [e3]
    exact h1.ret r1 _ (.bl _)
  | _ => exact h1.elim
theorem je_getK (T : KTab X.K X.w X.mg x tbl) (hi : JE X W i ci) (hg : Gl X x) (hd : (x == ("__debug__" : Str)) = false := by decide) (hs : PlainIx i := by exact fun _ _ => rfl) : JE X W (.Subscript (.Name x p) i pos) (eUn (dGetK tbl) ci) := by
  obtain ⟨d, es, n, hx, D, hok, hz⟩ := T
  refine (pe_ix ix_kdict (pe_glob hg hx (v := .ref d) rfl hd) hi hs).dimp fun σ H Q ⟨F, m, G, δ, r, s, h⟩ => ⟨F, m, G, δ, r, s, (LR.bind h).imp fun F1 H1 _ y e1 _ ⟨m1, r1, h1⟩ v rv => ?_⟩
  cases y with
  | str z =>
    cases rv
    obtain ⟨dd, e2, h2⟩ := LR.ofO h1
    have h3 := hz z
    cases q : tbl.lookup z with
    | none => rw [q] at e2; cases e2
    | some v =>
      rw [q] at e2 h3
      cases e2
      obtain ⟨u, e4, ru⟩ := h3
      exact ⟨d, z, _, rfl, rfl, ⟨es, n, u, D.at_, D.lit, e4, ru⟩, h2.ret r1 _ (dv_rep (List.all_eq_true.mp hok (z, v) (mem_of_lookup q)))⟩
  | _ => exact h1.elim

def sWhile (t : DT) (b : CS) : CS := ⟨fun δ m K => ∃ I : Nat → DSt → Mem → Prop, (∃ n, I n δ m) ∧ ∀ n δ m, I n δ m →
    (t δ).run m (fun c m' => if c = true then b.run δ m' (K.loop fun δ' m'' => ∃ n', n' < n ∧ I n' δ' m'') else K.nx δ m') (fun x m' => K.ex x δ m'),
  fun {δ m A B} l ⟨I, h0, h⟩ => ⟨I, h0, fun n δ m hI => C.mono _ (fun c m' q => by
    cases c with
    | true => exact b.mono (A := A.loop _) (B := B.loop _) ⟨fun _ _ z => z, l.rt, l.nx, fun _ _ z => z, l.ex⟩ q
    | false => exact l.nx _ _ q) (fun _ _ q => l.ex _ _ _ q) (h n δ m hI)⟩⟩
theorem js_while {c : Expr} {body : List Stmt} {t : DT} {b : CS} (hp : PassesOwn (model X.prog X.w) X.A X.env X.xe) (hc : JT X W c t) (hb : JB X W body b) : JS X W (.While c body [] pos) (sWhile t b) :=
  (ps_while hp hc hb).dimp fun E σ H ⟨F, m, G, δ, r, s, I, ⟨n, h0⟩, h⟩ => by
    refine ⟨fun n σ' H' => ∃ F2 m2 δ2, Ex F F2 ∧ Rel X.K F2 m2 G H' ∧ SRel X.K F2 σ' δ2 ∧ I n δ2 m2, ⟨n, F, m, δ, Ex.refl F, r, s, h0⟩, ?_⟩
    rintro n σ' H' ⟨F2, m2, δ2, e2, r2, s2, hI⟩
    refine ⟨F2, m2, G, δ2, r2, s2, C.mono _ (fun c m' q F3 H3 e3 r3 => ?_) (fun x m' q => liftX_of (E := E) s2 fun F3 H3 σ3 c d e3 => q F3 H3 σ3 c d (e2.trans e3)) (h n δ2 m2 hI)⟩
    cases c with
    | false => exact q F3 H3 σ' (e2.trans e3) r3 (s2.mono e3)
    | true =>
      refine ⟨fun σ4 H4 => ∃ n', n' < n ∧ ∃ F4 m4 δ4, Ex F F4 ∧ Rel X.K F4 m4 G H4 ∧ SRel X.K F4 σ4 δ4 ∧ I n' δ4 m4, fun σ4 H4 z => z, F3, m', G, δ2, r3, s2.mono e3, b.mono ⟨?_, ?_, ?_, ?_, ?_⟩ q⟩
      · rintro δ4 m4 ⟨n', hn, hI4⟩ F4 H4 σ4 e4 r4 s4
        exact ⟨n', hn, F4, m4, δ4, (e2.trans e3).trans e4, r4, s4, hI4⟩
      · exact fun d m4 z F4 H4 v e4 => z F4 H4 v ((e2.trans e3).trans e4)
      · exact fun δ4 m4 z F4 H4 σ4 e4 => z F4 H4 σ4 ((e2.trans e3).trans e4)
      · rintro δ4 m4 ⟨n', hn, hI4⟩ F4 H4 σ4 e4 r4 s4
        exact ⟨n', hn, F4, m4, δ4, (e2.trans e3).trans e4, r4, s4, hI4⟩
      · exact fun x δ4 m4 z F4 H4 σ4 c d e4 => z F4 H4 σ4 c d ((e2.trans e3).trans e4)

def sFrzF (i : Nat) (f : Str) : CS := ⟨fun δ m K => match δ[i]? with
    | some (some (.ref a)) => (match m a with
      | some (.ins c fs) => (match fs.lookup f with
        | some (.ref b) => (match m b with
          | some (.lst l) => K.nx δ (mdel (mset m a (.ins c (putD f (.lst l) fs))) b)
          | _ => False)
        | _ => False)
      | _ => False)
    | _ => False, fun {δ m A B} l h => by
    revert h
    split
    · split
      · split
        · split
          · exact l.nx _ _
          · exact id
        · exact id
      · exact id
    · exact id⟩
theorem run_sFrzF {i : Nat} {f c : Str} {δ : DSt} {m : Mem} {K : Kt} {a b : Addr} {fs : List (Str × D)} {l : List D} (h1 : δ[i]? = some (some (.ref a))) (h2 : m a = some (.ins c fs)) (h3 : fs.lookup f = some (.ref b)) (h4 : m b = some (.lst l)) :
    (sFrzF i f).run δ m K = K.nx δ (mdel (mset m a (.ins c (putD f (.lst l) fs))) b) := by
  show (match δ[i]? with
    | some (some (.ref a)) => (match m a with
      | some (.ins c fs) => (match fs.lookup f with
        | some (.ref b) => (match m b with
          | some (.lst l) => K.nx δ (mdel (mset m a (.ins c (putD f (.lst l) fs))) b)
          | _ => False)
        | _ => False)
      | _ => False)
    | _ => False) = _
  rw [h1]
  simp only [h2, h3, h4]
theorem RepF.same {K : PySem.W.Frag} {F : Hp} {f : Str} {d : D} : ∀ {vs : List (Str × V)} {ds : List (Str × D)} {b : Addr}, RepF K F vs ds → ds.lookup f = some (.ref b) → Rep K F (.ref b) d → RepF K F vs (putD f d ds)
  | _, _, _, .nil, e, _ => by simp at e
  | _, _, b, .cons (n := n) r t, e, q => by
    rw [List.lookup_cons] at e
    unfold putD
    by_cases hn : n = f
    · subst hn
      rw [beq_self_eq_true] at e
      simp at e
      subst e
      cases r
      rw [if_pos rfl]
      exact .cons q t
    · rw [if_neg hn]
      have : (f == n) = false := by simpa using fun z => hn z.symm
      rw [this] at e
      exact .cons r (RepF.same t e q)
theorem jb_frzF {sts : List Stmt} {c : CS} {i : Nat} {f : Str} (h : JB X W sts c) : JB X W sts (sSeq (sFrzF i f) c) := by
  refine ⟨fun pins s σ H E I ⟨F, m, G, δ, r, sr, hq⟩ => h.run pins s σ H E I ?_⟩
  have hq : (sFrzF i f).run δ m ((liftK X.K F G W E).seq c) := hq
  cases h1 : δ[i]? with
  | none => simp [sFrzF, h1] at hq
  | some od =>
  cases od with
  | none => simp [sFrzF, h1] at hq
  | some d =>
  cases d with
  | ref a =>
    cases h2 : m a with
    | none => simp [sFrzF, h1, h2] at hq
    | some o =>
    cases o with
    | lst l => simp [sFrzF, h1, h2] at hq
    | dic l => simp [sFrzF, h1, h2] at hq
    | ins cc fs =>
      cases h3 : fs.lookup f with
      | none => simp [sFrzF, h1, h2, h3] at hq
      | some d2 =>
      cases d2 with
      | ref b =>
        cases h4 : m b with
        | none => simp [sFrzF, h1, h2, h3, h4] at hq
        | some o2 =>
        cases o2 with
        | ins _ _ => simp [sFrzF, h1, h2, h3, h4] at hq
        | dic _ => simp [sFrzF, h1, h2, h3, h4] at hq
        | lst l =>
          rw [run_sFrzF h1 h2 h3 h4] at hq
          obtain ⟨⟨vs, q1, q2⟩, q3⟩ := r.mm b _ h4
          have hab : a ≠ b := by intro e; subst e; rw [h2] at h4; cases h4
          have ex := Ex.new (o := .lst vs) q3
          have r1 := r.freeze (a := b) q1 q3 (r.gm h4)
          have ha1 : mdel m b a = some (.ins cc fs) := by rw [mdel_ne hab]; exact h2
          obtain ⟨⟨dx, ws, p1, p2⟩, p3⟩ := r1.mm a _ ha1
          have p4 : RepF X.K (upd F b (.lst vs)) ws (putD f (.lst l) fs) := p2.same h3 (.lst upd_same (q2.mono ex))
          have r2 : Rel X.K (upd F b (.lst vs)) (mset (mdel m b) a (.ins cc (putD f (.lst l) fs))) G H := by
            have r3 := r1.put p3 (r1.gm ha1) (u := .ins (He.ga X.K cc) dx ws) (o := .ins cc (putD f (.lst l) fs)) ⟨dx, ws, upd_same, p4⟩
            rw [upd_self p1] at r3
            exact r3
          have em : mset (mdel m b) a (.ins cc (putD f (.lst l) fs)) = mdel (mset m a (.ins cc (putD f (.lst l) fs))) b := by
            funext z
            unfold mset mdel
            by_cases z1 : z = a
            · subst z1
              rw [if_pos rfl, if_neg hab]
              exact (if_pos rfl).symm
            · rw [if_neg z1]
              by_cases z2 : z = b
              · rw [if_pos z2, if_pos z2]
              · rw [if_neg z2, if_neg z2]
                exact (if_neg z1).symm
          rw [em] at r2
          exact ⟨_, _, G, δ, r2, sr.mono ex, c.mono (liftK.mono ex) hq⟩
      | _ => simp [sFrzF, h1, h2, h3] at hq
  | _ => simp [sFrzF, h1] at hq
end
end DL

namespace DL
open PySem PySem.Spec PyProof.Rows L2

def eDispM (ps : List (DE × DE)) : DE := fun δ => (pairsD ps δ).bind fun l => if l.length ≤ 15 then C.new (.dic (mergeKD [] l)) else C.stuck
section
variable {X : Cx} {W : WX} {e : Expr} {es : List Expr} {pos : Pos}
theorem je_dispM {ks : List (Option Expr)} {vs : List Expr} {ps : List (DE × DE)} (h : JP X W pos ks vs ps) (hall : ks.all (·.isSome) = true := by rfl) (hl : ks.length = vs.length := by rfl) (h0 : ks ≠ [] := by exact fun z => nomatch z) (h15 : ks.length ≤ 15 := by decide) : JE X W (.Dict ks vs pos) (eDispM ps) :=
  (pe_disp h hall hl h0 h15).dimp fun σ H Q ⟨F, m, G, δ, r, s, h⟩ p hp => by
    have hG := r.freshG hp
    have r1 : Rel X.K F m (L2.upd G p (.dK [])) (L2.upd H p (.dK [])) := (r.newH hp (.dK [])).aside (r.fresh hp).2 (r.fresh hp).1 upd_same
    refine pairs_sound r1 s (LR.bindG hG h) fun F2 H2 m2 l vs e2 r2 rk ⟨m3, r3, h3⟩ => ?_
    obtain ⟨hl, h3⟩ := h3.ite
    obtain ⟨g1, g2, g3⟩ := r3.gg p _ upd_same
    refine ⟨g1, vs, rfl, by rw [rk.length]; exact hl, ?_⟩
    exact h3 p g3 F2 _ (Ex.refl F2) ((r3.less hG).put g2 hG ⟨_, upd_same, RepK.merge rk .nil⟩) _ (.ref p)

def gTn (n : Nat) (r : List D → DSt → C DSt) : DG := fun d δ => match d with
  | .tup l => if l.length = n then r l δ else C.stuck
  | _ => C.stuck
theorem jg_tupn {k : Nat} {n : Nat} {gr : List D → DSt → C DSt} (hc : X.calm = true) (h : JGs X W es gr)
    (hn : (assignEach es X.env).length = n := by rfl) (hst : (assignEach es X.env).findIdx? (·.1) = none := by rfl) : JG X W (.Tuple es k pos) (gTn n gr) :=
  (pg_tup hc h hn hst).dimp fun v σ H Q ⟨F, m, G, δ, d, r, s, rv, h⟩ => by
    cases d with
    | tup l =>
      cases rv with
      | tup h1 h2 =>
        obtain ⟨hl, h3⟩ := LR.ite h
        exact ⟨_, _, rfl, r.ex.t h1, by rw [h2.length]; exact hl, F, m, G, δ, l, r, s, h2, h3⟩
    | _ => exact h.elim
end

abbrev TabD : Type := Str × List (Str × He.Dv)
abbrev AlR : Type := AlQ × List (Option (List (Option (Str × Int))))
def obsR (n : Nat) (fa : List He.Fa) (fn : List He.DefD) (pd : List PropD) (xd : List XInD) (ts : List TabD) (file : Str) (ex : PySem.W.Frag → Bool) (g : Addr → Option Obj) : AlR :=
  (obsQ n fa fn pd xd file ex g, ts.map fun t => He.dicW (frQ g n) (He.ga (frQ g n) t.1))
structure SaysR (fa : List He.Fa) (fn : List He.DefD) (pd : List PropD) (xd : List XInD) (ts : List TabD) (file : Str) (ex : PySem.W.Frag → Bool) (w : World) (K : PySem.W.Frag) : Prop extends SaysQ fa fn pd xd file ex K where
  t : ts.map (fun t => He.dicW K (He.ga K t.1)) = ts.map fun t => some (He.keysIn w.params (t.2.map (·.1)))
def hookR (n : Nat) (fa : List He.Fa) (fn : List He.DefD) (pd : List PropD) (xd : List XInD) (ts : List TabD) (file : Str) (ex : PySem.W.Frag → Bool) : PySem.W.Hook where
  α := AlR
  obs := fun s => obsR n fa fn pd xd ts file ex s.heap.get?
  val := fun w => (((He.valD fn, true), pd.map PropD.val, xd.map XInD.val), ts.map fun (t : TabD) => some (He.keysIn w.params (t.2.map (·.1))))
  says := fun w h => ∃ K : PySem.W.Frag, K.In h ∧ SaysR fa fn pd xd ts file ex w K
  of := fun _ _ e => ⟨_, He.frT_in, ⟨⟨congrArg (fun z : AlR => z.1.1.1) e, congrArg (fun z : AlR => z.1.1.2) e, congrArg (fun z : AlR => z.1.2.1) e, congrArg (fun z : AlR => z.1.2.2) e⟩, by exact congrArg (fun z : AlR => z.2) e⟩⟩
  keeps := fun _ _ _ ⟨K, hK, c⟩ k => ⟨K, PySem.W.Frag.In.keeps hK k, c⟩
theorem obsR_eq {n : Nat} {fa : List He.Fa} {fn : List He.DefD} {pd : List PropD} {xd : List XInD} {ts : List TabD} {file : Str} {ex : PySem.W.Frag → Bool} {g : Addr → Option Obj} {s : Shared} (h : ∀ a, g a = s.heap.get? a) : obsR n fa fn pd xd ts file ex g = (hookR n fa fn pd xd ts file ex).obs s := by
  have e : g = s.heap.get? := funext h
  rw [e] <;> rfl
theorem SaysR.tab {fa : List He.Fa} {fn : List He.DefD} {pd : List PropD} {xd : List XInD} {ts : List TabD} {file : Str} {ex : PySem.W.Frag → Bool} {w : World} {K : PySem.W.Frag} (c : SaysR fa fn pd xd ts file ex w K) (i : Nat) {t : TabD} (hi : ts[i]? = some t := by rfl) {mg : Str → Option Value} (hm : mg t.1 = some (.ref (He.ga K t.1)))
    (hv : He.valsB K (He.ga K t.1) t.2 = true) (hok : (t.2.all fun p => dvOk p.2) = true) : KTab K w mg t.1 t.2 := by
  have e2 : (ts.map fun t => He.dicW K (He.ga K t.1))[i]? = (ts.map fun t => some (He.keysIn w.params (t.2.map (·.1))))[i]? := by rw [c.t]
  rw [List.getElem?_map, List.getElem?_map, hi] at e2
  exact ktab_of hm (Option.some.inj e2) hv hok
end DL

namespace DL
open PySem L2
section
variable {m : Mem} {Q : D → Mem → Prop} {QB : Bool → Mem → Prop} {QL : List D → Mem → Prop} {E : Xn → Mem → Prop} {i j : Int} {x y z : D} {a b c : DE} {t u : DT} {al bl : DA} {δ : DSt} {l : List D} {s s' : Str} {K : Kt} {p q : Addr} {n k : Nat}
theorem fn_run {N : Nat} {b : CS} {ds : List D} (h : b.run (startD N ds) m (Kt.fin Q E)) : (fnD N b ds).run m Q E := h
def kF {α β : Type} (f : α → C β) (Q : β → Mem → Prop) (E : Xn → Mem → Prop) : α → Mem → Prop := fun x m => (f x).run m Q E
def kEx (δ : DSt) (K : Kt) : Xn → Mem → Prop := fun x m => K.ex x δ m
def onV (o : Option (Option D)) (m : Mem) (Q : D → Mem → Prop) : Prop := (match o with | some (some d) => C.ret d | _ => C.stuck : C D).run m Q (fun _ _ => True)
def onL (o : Option MO) (k : List D → Prop) : Prop := match o with | some (.lst l) => k l | _ => False
def onO {α : Type} (o : Option α) (k : α → Prop) : Prop := match o with | some a => k a | none => False
def kM {α : Type} (m : Mem) (Q : α → Mem → Prop) : α → Prop := fun d => Q d m
theorem k_F {α β : Type} {f : α → C β} {Q : β → Mem → Prop} {x : α} : kF f Q E x m = (f x).run m Q E := rfl
theorem k_M {α : Type} {Q : α → Mem → Prop} {x : α} : kM m Q x = Q x m := rfl
theorem k_onV {d : D} : onV (some (some d)) m Q = Q d m := rfl
theorem k_onL {k : List D → Prop} : onL (some (.lst l)) k = k l := rfl
theorem k_onO {α : Type} {x : α} {k : α → Prop} : onO (some x) k = k x := rfl
theorem k_onN {α : Type} {k : α → Prop} : onO none k = False := rfl
theorem r_C {d : D} : (eC d δ).run m Q E = Q d m := rfl
theorem r_var : (eVar k δ).run m Q E = onV δ[k]? m Q := by
  show (match δ[k]? with | some (some d) => C.ret d | _ => C.stuck : C D).run m Q E = _
  unfold onV
  split <;> rfl
def kOp2 (f : D → D → C D) (x : D) (Q : D → Mem → Prop) (E : Xn → Mem → Prop) : D → Mem → Prop := fun y m => (f x y).run m Q E
theorem k_Op2 {f : D → D → C D} : kOp2 f x Q E y m = (f x y).run m Q E := rfl
def kOp (f : D → D → C D) (b : DE) (δ : DSt) (Q : D → Mem → Prop) (E : Xn → Mem → Prop) : D → Mem → Prop := fun x m => (b δ).run m (kOp2 f x Q E) E
theorem k_Op {f : D → D → C D} : kOp f b δ Q E x m = (b δ).run m (kOp2 f x Q E) E := rfl
theorem r_op {f : D → D → C D} : (eOp f a b δ).run m Q E = (a δ).run m (kOp f b δ Q E) E := rfl
theorem r_un {f : D → C D} : (eUn f a δ).run m Q E = (a δ).run m (kF f Q E) E := rfl
theorem r_app {f : List D → C D} : (eApp f al δ).run m Q E = (al δ).run m (kF f Q E) E := rfl
def callF (n : Nat) (dds : List D) (f : List D → C D) (l : List D) : C D := if l.length = n then f (l ++ dds) else C.stuck
theorem r_call {dds : List D} {f : List D → C D} : (eCall n dds f al δ).run m Q E = (al δ).run m (kF (callF n dds f) Q E) E := rfl
theorem r_callF {dds : List D} {f : List D → C D} (h : l.length = n) : (callF n dds f l).run m Q E = (f (l ++ dds)).run m Q E := by
  unfold callF; rw [if_pos h]
def callKF (n k : Nat) (f : List D → C D) (l q : List D) : C D := if l.length = n ∧ q.length = k then f (l ++ q) else C.stuck
def kCK2 (n k : Nat) (f : List D → C D) (l : List D) (Q : D → Mem → Prop) (E : Xn → Mem → Prop) : List D → Mem → Prop := fun q m => (callKF n k f l q).run m Q E
theorem k_CK2 {f : List D → C D} {q : List D} : kCK2 n k f l Q E q m = (callKF n k f l q).run m Q E := rfl
def kCK (n k : Nat) (f : List D → C D) (bl : DA) (δ : DSt) (Q : D → Mem → Prop) (E : Xn → Mem → Prop) : List D → Mem → Prop := fun l m => (bl δ).run m (kCK2 n k f l Q E) E
theorem k_CK {f : List D → C D} : kCK n k f bl δ Q E l m = (bl δ).run m (kCK2 n k f l Q E) E := rfl
theorem r_callK {f : List D → C D} : (eCallK n k f al bl δ).run m Q E = (al δ).run m (kCK n k f bl δ Q E) E := rfl
theorem r_callKF {f : List D → C D} {q : List D} (h : l.length = n) (h2 : q.length = k) : (callKF n k f l q).run m Q E = (f (l ++ q)).run m Q E := by
  unfold callKF; rw [if_pos ⟨h, h2⟩]
theorem r_nil : (aNil δ).run m QL E = QL [] m := rfl
def kA2 (x : D) (QL : List D → Mem → Prop) : List D → Mem → Prop := fun l m => QL (x :: l) m
theorem k_A2 : kA2 x QL l m = QL (x :: l) m := rfl
def kA (al : DA) (δ : DSt) (QL : List D → Mem → Prop) (E : Xn → Mem → Prop) : D → Mem → Prop := fun x m => (al δ).run m (kA2 x QL) E
theorem k_A : kA al δ QL E x m = (al δ).run m (kA2 x QL) E := rfl
theorem r_cons : (aCons a al δ).run m QL E = (a δ).run m (kA al δ QL E) E := rfl
def kAnd (b : DE) (δ : DSt) (Q : D → Mem → Prop) (E : Xn → Mem → Prop) : D → Mem → Prop := fun x m => ((truth x).bind fun c => if c = true then b δ else C.ret (.bl false)).run m Q E
theorem k_AndT : kAnd b δ Q E (.bl true) m = (b δ).run m Q E := rfl
theorem k_AndF : kAnd b δ Q E (.bl false) m = Q (.bl false) m := rfl
theorem r_and : (eAnd a b δ).run m Q E = (a δ).run m (kAnd b δ Q E) E := rfl
def kOr (b : DE) (δ : DSt) (Q : D → Mem → Prop) (E : Xn → Mem → Prop) : D → Mem → Prop := fun x m => ((truth x).bind fun c => if c = true then C.ret (.bl true) else b δ).run m Q E
theorem k_OrT : kOr b δ Q E (.bl true) m = Q (.bl true) m := rfl
theorem k_OrF : kOr b δ Q E (.bl false) m = (b δ).run m Q E := rfl
theorem r_or : (eOr a b δ).run m Q E = (a δ).run m (kOr b δ Q E) E := rfl
def kNot (Q : D → Mem → Prop) (E : Xn → Mem → Prop) : D → Mem → Prop := fun x m => ((truth x).bind fun c => C.ret (.bl (!c))).run m Q E
theorem k_Not {k : Bool} : kNot Q E (.bl k) m = Q (.bl (!k)) m := rfl
theorem r_not : (eNot a δ).run m Q E = (a δ).run m (kNot Q E) E := rfl
def kEIf (a b : DE) (δ : DSt) (Q : D → Mem → Prop) (E : Xn → Mem → Prop) : Bool → Mem → Prop := fun k m => (if k = true then a δ else b δ).run m Q E
theorem k_EIfT : kEIf a b δ Q E true m = (a δ).run m Q E := rfl
theorem k_EIfF : kEIf a b δ Q E false m = (b δ).run m Q E := rfl
theorem r_eIf : (eIf t a b δ).run m Q E = (t δ).run m (kEIf a b δ Q E) E := rfl
def kCh3 (g : D → D → C D) (y : D) (c : DE) (δ : DSt) (Q : D → Mem → Prop) (E : Xn → Mem → Prop) : D → Mem → Prop := fun z m => ((truth z).bind fun k => if k = true then (c δ).bind fun w => g y w else C.ret (.bl false)).run m Q E
theorem k_Ch3T {g : D → D → C D} : kCh3 g y c δ Q E (.bl true) m = (c δ).run m (kOp2 g y Q E) E := rfl
theorem k_Ch3F {g : D → D → C D} : kCh3 g y c δ Q E (.bl false) m = Q (.bl false) m := rfl
def kCh2 (f g : D → D → C D) (x : D) (c : DE) (δ : DSt) (Q : D → Mem → Prop) (E : Xn → Mem → Prop) : D → Mem → Prop := fun y m => (f x y).run m (kCh3 g y c δ Q E) E
theorem k_Ch2 {f g : D → D → C D} : kCh2 f g x c δ Q E y m = (f x y).run m (kCh3 g y c δ Q E) E := rfl
def kCh1 (f g : D → D → C D) (b c : DE) (δ : DSt) (Q : D → Mem → Prop) (E : Xn → Mem → Prop) : D → Mem → Prop := fun x m => (b δ).run m (kCh2 f g x c δ Q E) E
theorem k_Ch1 {f g : D → D → C D} : kCh1 f g b c δ Q E x m = (b δ).run m (kCh2 f g x c δ Q E) E := rfl
theorem r_chain {f g : D → D → C D} : (eChain f g a b c δ).run m Q E = (a δ).run m (kCh1 f g b c δ Q E) E := rfl
def kT (QB : Bool → Mem → Prop) (E : Xn → Mem → Prop) : D → Mem → Prop := fun x m => (truth x).run m QB E
theorem k_T {k : Bool} : kT QB E (.bl k) m = QB k m := rfl
theorem r_of : (tOf a δ).run m QB E = (a δ).run m (kT QB E) E := rfl
def kTA (u : DT) (δ : DSt) (QB : Bool → Mem → Prop) (E : Xn → Mem → Prop) : Bool → Mem → Prop := fun k m => (if k = true then u δ else C.ret false).run m QB E
theorem k_TAT : kTA u δ QB E true m = (u δ).run m QB E := rfl
theorem k_TAF : kTA u δ QB E false m = QB false m := rfl
theorem r_tand : (tAndD t u δ).run m QB E = (t δ).run m (kTA u δ QB E) E := rfl
def kTO (u : DT) (δ : DSt) (QB : Bool → Mem → Prop) (E : Xn → Mem → Prop) : Bool → Mem → Prop := fun k m => (if k = true then C.ret true else u δ).run m QB E
theorem k_TOT : kTO u δ QB E true m = QB true m := rfl
theorem k_TOF : kTO u δ QB E false m = (u δ).run m QB E := rfl
theorem r_tor : (tOrD t u δ).run m QB E = (t δ).run m (kTO u δ QB E) E := rfl
def kTN (QB : Bool → Mem → Prop) : Bool → Mem → Prop := fun k m => QB (!k) m
theorem k_TN {k : Bool} : kTN QB k m = QB (!k) m := rfl
theorem r_tnot : (tNotD t δ).run m QB E = (t δ).run m (kTN QB) E := rfl
theorem r_tTrue : (tTrue δ).run m QB E = QB true m := rfl
def kAsg (k : Nat) (δ : DSt) (K : Kt) : D → Mem → Prop := fun d m => K.nx (δ.set k (some d)) m
theorem k_Asg : kAsg k δ K x m = K.nx (δ.set k (some x)) m := rfl
theorem r_asg : (sAsg k a).run δ m K = (a δ).run m (kAsg k δ K) (kEx δ K) := rfl
def kNx (δ : DSt) (K : Kt) : D → Mem → Prop := fun _ m => K.nx δ m
theorem k_Nx : kNx δ K x m = K.nx δ m := rfl
theorem r_expr : (sExpr a).run δ m K = (a δ).run m (kNx δ K) (kEx δ K) := rfl
def kRt (K : Kt) : D → Mem → Prop := fun d m => K.rt d m
theorem k_Rt : kRt K x m = K.rt x m := rfl
theorem r_ret : (sRet a).run δ m K = (a δ).run m (kRt K) (kEx δ K) := rfl
theorem r_retN : sRetN.run δ m K = K.rt .non m := rfl
def kIf (a b : CS) (δ : DSt) (K : Kt) : Bool → Mem → Prop := fun c m => if c = true then a.run δ m K else b.run δ m K
theorem k_IfT {a b : CS} : kIf a b δ K true m = a.run δ m K := if_pos rfl
theorem k_IfF {a b : CS} : kIf a b δ K false m = b.run δ m K := if_neg (by decide)
theorem r_if {a b : CS} : (sIf t a b).run δ m K = (t δ).run m (kIf a b δ K) (kEx δ K) := rfl
theorem r_seq {a b : CS} : (sSeq a b).run δ m K = a.run δ m (K.seq b) := rfl
theorem r_next : sNext.run δ m K = K.nx δ m := rfl
theorem r_break : sBreak.run δ m K = K.bk δ m := rfl
theorem r_cont : sCont.run δ m K = K.ct δ m := rfl
theorem r_stuck : sStuck.run δ m K = False := rfl
def kG (g : DG) (δ : DSt) (K : Kt) : D → Mem → Prop := fun d m => (g d δ).run m K.nx (kEx δ K)
theorem k_G {g : DG} : kG g δ K x m = (g x δ).run m K.nx (kEx δ K) := rfl
theorem r_asgG {g : DG} : (sAsgG a g).run δ m K = (a δ).run m (kG g δ K) (kEx δ K) := rfl
def kFor (g : DG) (b : CS) (δ : DSt) (K : Kt) : List D × Option Addr → Mem → Prop := fun lo m => forD lo.1 lo.2 g b K lo.1 δ m
theorem k_For {g : DG} {b : CS} {o : Option Addr} : kFor g b δ K (l, o) m = forD l o g b K l δ m := rfl
theorem r_for {it : DI} {g : DG} {b : CS} : (sFor it g b).run δ m K = (it δ).run m (kFor g b δ K) (kEx δ K) := rfl
def kSI3 (y x : D) (δ : DSt) (K : Kt) : D → Mem → Prop := fun j m => (dSetItem x j y).run m (kNx δ K) (kEx δ K)
theorem k_SI3 : kSI3 y x δ K z m = (dSetItem x z y).run m (kNx δ K) (kEx δ K) := rfl
def kSI2 (y : D) (b : DE) (δ : DSt) (K : Kt) : D → Mem → Prop := fun x m => (b δ).run m (kSI3 y x δ K) (kEx δ K)
theorem k_SI2 : kSI2 y b δ K x m = (b δ).run m (kSI3 y x δ K) (kEx δ K) := rfl
def kSI (a b : DE) (δ : DSt) (K : Kt) : D → Mem → Prop := fun y m => (a δ).run m (kSI2 y b δ K) (kEx δ K)
theorem k_SI : kSI a b δ K y m = (a δ).run m (kSI2 y b δ K) (kEx δ K) := rfl
theorem r_setItemS : (sSetItem a b c).run δ m K = (c δ).run m (kSI a b δ K) (kEx δ K) := rfl
def kAp3 (x : D) (Q : D → Mem → Prop) (E : Xn → Mem → Prop) : D → Mem → Prop := fun y m => (dAppend x y).run m Q E
theorem k_Ap3 : kAp3 x Q E y m = (dAppend x y).run m Q E := rfl
def kAp2 (x : D) (b : DE) (δ : DSt) (Q : D → Mem → Prop) (E : Xn → Mem → Prop) : List D → Mem → Prop := fun _ m => (b δ).run m (kAp3 x Q E) E
theorem k_Ap2 : kAp2 x b δ Q E l m = (b δ).run m (kAp3 x Q E) E := rfl
def kAp1 (b : DE) (δ : DSt) (Q : D → Mem → Prop) (E : Xn → Mem → Prop) : D → Mem → Prop := fun x m => (asL x).run m (kAp2 x b δ Q E) E
theorem k_Ap1 : kAp1 b δ Q E x m = (asL x).run m (kAp2 x b δ Q E) E := rfl
theorem r_apd : (eApd a b δ).run m Q E = (a δ).run m (kAp1 b δ Q E) E := rfl
theorem r_gN {QS : DSt → Mem → Prop} : (gN k x δ).run m QS E = QS (δ.set k (some x)) m := rfl
theorem r_iSeq {QI : List D × Option Addr → Mem → Prop} : (iSeq a δ).run m QI E = (a δ).run m (kF seqI QI E) E := rfl
theorem r_iApp {QI : List D × Option Addr → Mem → Prop} {f : List D → C (List D × Option Addr)} : (iApp f al δ).run m QI E = (al δ).run m (kF f QI E) E := rfl
def kBody (b : CS) (K : Kt) : DSt → Mem → Prop := fun δ m => b.run δ m K
theorem forD_nil {w : List D} {g : DG} {b : CS} : forD w none g b K [] δ m = K.nx δ m := propext ⟨fun h => h.2, fun h => ⟨trivial, h⟩⟩
theorem forD_cons {w : List D} {g : DG} {b : CS} {r : List D} : forD w none g b K (x :: r) δ m = (g x δ).run m (kBody b (K.loop (forD w none g b K r))) (kEx δ K) := propext ⟨fun h => h.2, fun h => ⟨trivial, h⟩⟩
theorem k_Body {b : CS} : kBody b K δ m = b.run δ m K := rfl
def kSl3 (x : D) (lo : Option Int) (Q : D → Mem → Prop) (E : Xn → Mem → Prop) : Option Int → Mem → Prop := fun hi m => (dSl x lo hi).run m Q E
theorem k_Sl3 {lo hi : Option Int} : kSl3 x lo Q E hi m = (dSl x lo hi).run m Q E := rfl
def kSl2 (x : D) (hi : DO) (δ : DSt) (Q : D → Mem → Prop) (E : Xn → Mem → Prop) : Option Int → Mem → Prop := fun lo m => (hi δ).run m (kSl3 x lo Q E) E
theorem k_Sl2 {hi : DO} {lo : Option Int} : kSl2 x hi δ Q E lo m = (hi δ).run m (kSl3 x lo Q E) E := rfl
def kSl1 (lo hi : DO) (δ : DSt) (Q : D → Mem → Prop) (E : Xn → Mem → Prop) : D → Mem → Prop := fun x m => (lo δ).run m (kSl2 x hi δ Q E) E
theorem k_Sl1 {lo hi : DO} : kSl1 lo hi δ Q E x m = (lo δ).run m (kSl2 x hi δ Q E) E := rfl
theorem r_sl {lo hi : DO} : (eSl a lo hi δ).run m Q E = (a δ).run m (kSl1 lo hi δ Q E) E := rfl
theorem r_oNone {QO : Option Int → Mem → Prop} : (oNone δ).run m QO E = QO none m := rfl
def kOS (QO : Option Int → Mem → Prop) (E : Xn → Mem → Prop) : D → Mem → Prop := fun d m => (match d with | .int i => C.ret (some i) | _ => C.stuck : C (Option Int)).run m QO E
theorem k_OS {QO : Option Int → Mem → Prop} : kOS QO E (.int i) m = QO (some i) m := rfl
theorem r_oSome {QO : Option Int → Mem → Prop} : (oSome a δ).run m QO E = (a δ).run m (kOS QO E) E := by
  show (a δ).run m _ E = _
  congr 1
theorem r_slT {lo hi : Option Int} : (dSl (.tup l) lo hi).run m Q E = Q (.tup (cutD l lo hi)) m := rfl
theorem r_slL {lo hi : Option Int} : (dSl (.lst l) lo hi).run m Q E = Q (.lst (cutD l lo hi)) m := rfl
theorem r_slS {lo hi : Option Int} {ns : List Int} : (dSl (.scr ns) lo hi).run m Q E = Q (.lst (cutD (ns.map D.int) lo hi)) m := rfl
def retL (l : List D) : C D := C.ret (.lst l)
def newL (l : List D) : C D := C.new (.lst l)
theorem r_retL : (retL l).run m Q E = Q (.lst l) m := rfl
theorem r_newL : (newL l).run m Q E = ∀ p, m p = none → Q (.ref p) (mset m p (.lst l)) := rfl
def kLc (kk : List D → C D) (g : DG) (t : DT) (e : DE) (vs : List Nat) (δ : DSt) (Q : D → Mem → Prop) (E : Xn → Mem → Prop) : List D × Option Addr → Mem → Prop := fun lo m => (if lo.1.length ≤ sizeLine then (lcD lo.1 lo.2 g t e (wipeD δ vs) lo.1 []).noX.bind kk else C.stuck).run m Q E
theorem r_lc {it : DI} {g : DG} {vs : List Nat} : (eLc it g t a vs δ).run m Q E = (it δ).run m (kLc retL g t a vs δ Q E) E := rfl
theorem r_lcM {it : DI} {g : DG} {vs : List Nat} : (eLcM it g t a vs δ).run m Q E = (it δ).run m (kLc newL g t a vs δ Q E) E := rfl
theorem lcD_map {w : List D} {g : DG} {t : DT} {e : DE} {δ : DSt} {f : D → D} {pf : D → Bool} {QL : List D → Mem → Prop} {E : Xn → Mem → Prop} {m : Mem} : ∀ (r acc : List D), (∀ x ∈ r, ∀ (Y : D → Mem → Prop) (N : Mem → Prop), (pf x = true → Y (f x) m) → (pf x = false → N m) → (g x δ).run m (fun δ' m' => (t δ').run m' (fun b m'' => if b = true then (e δ').run m'' Y E else N m'') E) E) →
    QL (acc ++ (r.filter pf).map f) m → (lcD w none g t e δ r acc).run m QL E
  | [], acc, _, q => by
    rw [List.filter_nil, List.map_nil, List.append_nil] at q
    exact ⟨trivial, q⟩
  | x :: r, acc, h, q => by
    refine ⟨trivial, ?_⟩
    have h0 := h x (.head _) (fun y m' => (lcD w none g t e δ r (acc ++ [y])).run m' QL E) (fun m' => (lcD w none g t e δ r acc).run m' QL E)
      (fun hp => lcD_map r _ (fun y hy => h y (.tail _ hy)) (by rw [List.filter_cons, if_pos hp, List.map_cons] at q; rw [List.append_assoc]; exact q))
      (fun hp => lcD_map r _ (fun y hy => h y (.tail _ hy)) (by rw [List.filter_cons, if_neg (by rw [hp]; decide)] at q; exact q))
    refine C.mono (g x δ) (fun δ' m' h1 => ?_) (fun _ _ z => z) h0
    refine C.mono (t δ') (fun b m'' h2 => ?_) (fun _ _ z => z) h1
    cases b with
    | true => exact h2
    | false => exact h2
theorem lc_map {kk : List D → C D} {g : DG} {vs : List Nat} {f : D → D} {pf : D → Bool} (hl : l.length ≤ sizeLine) (h : ∀ x ∈ l, ∀ (Y : D → Mem → Prop) (N : Mem → Prop), (pf x = true → Y (f x) m) → (pf x = false → N m) → (g x (wipeD δ vs)).run m (fun δ' m' => (t δ').run m' (fun b m'' => if b = true then (a δ').run m'' Y (fun _ _ => False) else N m'') (fun _ _ => False)) (fun _ _ => False))
    (q : (kk ((l.filter pf).map f)).run m Q E) : kLc kk g t a vs δ Q E (l, none) m := by
  show (ite _ _ _ : C D).run m Q E
  rw [if_pos hl]
  exact lcD_map (QL := fun l m' => (kk l).run m' Q E) l [] h q
theorem filter_t {α : Type} (l : List α) : l.filter (fun _ => true) = l := List.filter_eq_self.mpr fun _ _ => rfl
theorem lc_all {kk : List D → C D} {g : DG} {vs : List Nat} {f : D → D} (hl : l.length ≤ sizeLine) (h : ∀ x ∈ l, ∀ (Y : D → Mem → Prop), Y (f x) m → (g x (wipeD δ vs)).run m (fun δ' m' => (a δ').run m' Y (fun _ _ => False)) (fun _ _ => False))
    (q : (kk (l.map f)).run m Q E) : kLc kk g tTrue a vs δ Q E (l, none) m :=
  lc_map (pf := fun _ => true) hl (fun x hx Y N y _ => C.mono _ (fun δ' m' h1 => h1) (fun _ _ z => z) (h x hx Y (y rfl))) (by rw [filter_t]; exact q)
theorem allInt_map : ∀ l : List Int, allInt (l.map D.int) = some l
  | [] => rfl
  | i :: r => by show (allInt (r.map D.int)).map (i :: ·) = _; rw [allInt_map r]; rfl
theorem r_add : (dAdd (.int i) (.int j)).run m Q E = Q (.int (i + j)) m := rfl
theorem r_sub : (dSub (.int i) (.int j)).run m Q E = Q (.int (i - j)) m := rfl
theorem r_mod (h : 0 < j) : (dMod (.int i) (.int j)).run m Q E = Q (.int (i % j)) m := by show (ite _ _ _ : C D).run m Q E = _; rw [if_pos h]; rfl
theorem r_div (h : 0 < j) (h2 : j < 1073741824) : (dDiv (.int i) (.int j)).run m Q E = Q (.int (i / j)) m := by show (ite _ _ _ : C D).run m Q E = _; rw [if_pos ⟨h, h2⟩]; rfl
theorem r_mulL (h : -(2 ^ 64) < i) (h2 : i < 2 ^ 64) : (dMul (.int i) (.int j)).run m Q E = Q (.int (i * j)) m := by show (ite _ _ _ : C D).run m Q E = _; rw [if_pos (.inl ⟨h, h2⟩)]; rfl
theorem r_mulR (h : -(2 ^ 64) < j) (h2 : j < 2 ^ 64) : (dMul (.int i) (.int j)).run m Q E = Q (.int (i * j)) m := by show (ite _ _ _ : C D).run m Q E = _; rw [if_pos (.inr ⟨h, h2⟩)]; rfl
theorem r_pow1018 : (dPow (.int 10) (.int 18)).run m Q E = Q (.int 1000000000000000000) m := rfl
theorem r_lt : (dLt (.int i) (.int j)).run m Q E = Q (.bl (decide (i < j))) m := rfl
theorem r_le : (dLe (.int i) (.int j)).run m Q E = Q (.bl (decide (i ≤ j))) m := rfl
theorem r_gt : (dGt (.int i) (.int j)).run m Q E = Q (.bl (decide (j < i))) m := rfl
theorem r_ge : (dGe (.int i) (.int j)).run m Q E = Q (.bl (decide (j ≤ i))) m := rfl
theorem r_neg : (dNeg (.int i)).run m Q E = Q (.int (-i)) m := rfl
theorem r_eqII : (dEq (.int i) (.int j)).run m Q E = Q (.bl (i == j)) m := rfl
theorem r_neII : (dNe (.int i) (.int j)).run m Q E = Q (.bl (!(i == j))) m := rfl
theorem r_eqSS : (dEq (.str s) (.str s')).run m Q E = Q (.bl (s == s')) m := rfl
theorem r_neSS : (dNe (.str s) (.str s')).run m Q E = Q (.bl (!(s == s'))) m := rfl
theorem r_eqBB {c d : Bool} : (dEq (.bl c) (.bl d)).run m Q E = Q (.bl (c == d)) m := rfl
theorem r_neBB {c d : Bool} : (dNe (.bl c) (.bl d)).run m Q E = Q (.bl (!(c == d))) m := rfl
theorem r_isN : (dIs x .non).run m Q E = Q (.bl (isD x .non)) m := rfl
theorem r_isB {c : Bool} : (dIs x (.bl c)).run m Q E = Q (.bl (isD x (.bl c))) m := rfl
theorem r_notN : (dIsNot x .non).run m Q E = Q (.bl (!isD x .non)) m := rfl
theorem r_int1 : (dInt [.int i]).run m Q E = Q (.int i) m := rfl
theorem r_intb {c : Bool} : (dInt [.bl c]).run m Q E = Q (.int (if c then 1 else 0)) m := rfl
theorem r_abs : (dAbs [.int i]).run m Q E = Q (.int (if i < 0 then -i else i)) m := rfl
def kGet (i : Int) (m : Mem) (Q : D → Mem → Prop) : List D → Prop := fun l => onO (atI l i) (kM m Q)
theorem ofO_eq {α : Type} {o : Option α} {Q : α → Mem → Prop} : (ofO o).run m Q E = onO o (kM m Q) := by cases o <;> rfl
theorem k_Get : kGet i m Q l = onO (atI l i) (kM m Q) := rfl
theorem r_ixT : (dIx (.tup l) (.int i)).run m Q E = onO (atI l i) (kM m Q) := ofO_eq
theorem r_ixL : (dIx (.lst l) (.int i)).run m Q E = onO (atI l i) (kM m Q) := ofO_eq
theorem r_asLR : (asL (.ref p)).run m QL E = onL (m p) (kM m QL) := by
  show (match m p with | some o => _ | none => False) = _
  cases m p with
  | none => rfl
  | some o => cases o <;> rfl
theorem r_asLL : (asL (.lst l)).run m QL E = QL l m := rfl
theorem r_ixRef : (dIx (.ref p) (.int i)).run m Q E = onL (m p) (kGet i m Q) := by
  refine (r_asLR (QL := fun l m' => (ofO (atI l i)).run m' Q E)).trans ?_
  congr 1; funext l; exact ofO_eq
theorem r_lenT : (dLen [.tup l]).run m Q E = Q (.int l.length) m := rfl
theorem r_lenL : (dLen [.lst l]).run m Q E = Q (.int l.length) m := rfl
def kLen (m : Mem) (Q : D → Mem → Prop) : List D → Prop := fun l => Q (.int l.length) m
theorem k_Len : kLen m Q l = Q (.int l.length) m := rfl
theorem r_lenRef : (dLen [.ref p]).run m Q E = onL (m p) (kLen m Q) := r_asLR (QL := fun l m' => Q (.int l.length) m')
theorem r_sumRef : (dSum [.ref p]).run m Q E = onL (m p) fun l => onO (allInt l) fun ns => Q (.int ns.sum) m := by
  refine (r_asLR (QL := fun l m' => (ofO (allInt l)).run m' (fun ns m' => Q (.int ns.sum) m') E)).trans ?_
  congr 1; funext l; exact ofO_eq
def kSetJ (l : List D) (y : D) (p : Addr) (m : Mem) (Q : D → Mem → Prop) : Nat → Prop := fun j => Q .non (mset m p (.lst (l.set j y)))
theorem k_SetJ : kSetJ l y p m Q k = Q .non (mset m p (.lst (l.set k y))) := rfl
def kSet (i : Int) (y : D) (p : Addr) (m : Mem) (Q : D → Mem → Prop) : List D → Prop := fun l => onO (ixN l.length i) (kSetJ l y p m Q)
theorem k_Set : kSet i y p m Q l = onO (ixN l.length i) (kSetJ l y p m Q) := rfl
theorem r_setRef : (dSetItem (.ref p) (.int i) y).run m Q E = onL (m p) (kSet i y p m Q) := by
  show (match m p with | some o => _ | none => False) = _
  cases m p with
  | none => rfl
  | some o =>
    cases o with
    | lst l =>
      show (match (ixN l.length i).map (fun j => (D.non, MO.lst (l.set j y))) with | some (d, o') => Q d (mset m p o') | none => False) = onO (ixN l.length i) (kSetJ l y p m Q)
      cases ixN l.length i <;> rfl
    | ins c fs => rfl
    | dic l => rfl
def kApp (y : D) (p : Addr) (m : Mem) (Q : D → Mem → Prop) : List D → Prop := fun l => l.length < sizeLine ∧ Q .non (mset m p (.lst (l ++ [y])))
theorem k_App (h : l.length < sizeLine) : kApp y p m Q l = Q .non (mset m p (.lst (l ++ [y]))) := propext ⟨fun q => q.2, fun q => ⟨h, q⟩⟩
theorem r_appRef : (dAppend (.ref p) y).run m Q E = onL (m p) (kApp y p m Q) := by
  show (match m p with | some o => _ | none => False) = _
  cases m p with
  | none => rfl
  | some o =>
    cases o with
    | lst l =>
      show (match (if l.length < sizeLine then some (D.non, MO.lst (l ++ [y])) else none) with | some (d, o') => Q d (mset m p o') | none => False) = (l.length < sizeLine ∧ Q .non (mset m p (.lst (l ++ [y]))))
      by_cases hh : l.length < sizeLine
      · simp only [if_pos hh]; exact propext ⟨fun q => ⟨hh, q⟩, fun q => q.2⟩
      · simp only [if_neg hh]; exact propext ⟨fun q => q.elim, fun q => hh q.1⟩
    | ins c fs => rfl
    | dic l => rfl
theorem r_tupS (h : l.length ≤ sizeLine) : (mkTup l).run m Q E = Q (.tup l) m := by show (ite _ _ _ : C D).run m Q E = _; rw [if_pos h]; rfl
theorem r_tup0 : (mkTup []).run m Q E = Q (.tup []) m := rfl
theorem r_tup1 {d1 : D} : (mkTup [d1]).run m Q E = Q (.tup [d1]) m := r_tupS (show 1 ≤ sizeLine by decide)
theorem r_tup2 {d1 d2 : D} : (mkTup [d1, d2]).run m Q E = Q (.tup [d1, d2]) m := r_tupS (show 2 ≤ sizeLine by decide)
theorem r_tup3 {d1 d2 d3 : D} : (mkTup [d1, d2, d3]).run m Q E = Q (.tup [d1, d2, d3]) m := r_tupS (show 3 ≤ sizeLine by decide)
theorem r_tup4 {d1 d2 d3 d4 : D} : (mkTup [d1, d2, d3, d4]).run m Q E = Q (.tup [d1, d2, d3, d4]) m := r_tupS (show 4 ≤ sizeLine by decide)
theorem r_tup5 {d1 d2 d3 d4 d5 : D} : (mkTup [d1, d2, d3, d4, d5]).run m Q E = Q (.tup [d1, d2, d3, d4, d5]) m := r_tupS (show 5 ≤ sizeLine by decide)
theorem r_tup6 {d1 d2 d3 d4 d5 d6 : D} : (mkTup [d1, d2, d3, d4, d5, d6]).run m Q E = Q (.tup [d1, d2, d3, d4, d5, d6]) m := r_tupS (show 6 ≤ sizeLine by decide)
theorem r_tup7 {d1 d2 d3 d4 d5 d6 d7 : D} : (mkTup [d1, d2, d3, d4, d5, d6, d7]).run m Q E = Q (.tup [d1, d2, d3, d4, d5, d6, d7]) m := r_tupS (show 7 ≤ sizeLine by decide)
theorem r_tup8 {d1 d2 d3 d4 d5 d6 d7 d8 : D} : (mkTup [d1, d2, d3, d4, d5, d6, d7, d8]).run m Q E = Q (.tup [d1, d2, d3, d4, d5, d6, d7, d8]) m := r_tupS (show 8 ≤ sizeLine by decide)
theorem r_lst0 : (mkLst []).run m Q E = Q (.lst []) m := rfl
theorem r_ref (h : l.length ≤ sizeLine) : (mkRef l).run m Q E = ∀ p, m p = none → Q (.ref p) (mset m p (.lst l)) := by show (ite _ _ _ : C D).run m Q E = _; rw [if_pos h]; rfl
theorem r_ref0 : (mkRef []).run m Q E = ∀ p, m p = none → Q (.ref p) (mset m p (.lst [])) := r_ref (show 0 ≤ sizeLine by decide)
theorem r_ref1 {d1 : D} : (mkRef [d1]).run m Q E = ∀ p, m p = none → Q (.ref p) (mset m p (.lst [d1])) := r_ref (show 1 ≤ sizeLine by decide)
theorem r_ref2 {d1 d2 : D} : (mkRef [d1, d2]).run m Q E = ∀ p, m p = none → Q (.ref p) (mset m p (.lst [d1, d2])) := r_ref (show 2 ≤ sizeLine by decide)
theorem r_ref3 {d1 d2 d3 : D} : (mkRef [d1, d2, d3]).run m Q E = ∀ p, m p = none → Q (.ref p) (mset m p (.lst [d1, d2, d3])) := r_ref (show 3 ≤ sizeLine by decide)
theorem r_ref4 {d1 d2 d3 d4 : D} : (mkRef [d1, d2, d3, d4]).run m Q E = ∀ p, m p = none → Q (.ref p) (mset m p (.lst [d1, d2, d3, d4])) := r_ref (show 4 ≤ sizeLine by decide)
theorem r_ref5 {d1 d2 d3 d4 d5 : D} : (mkRef [d1, d2, d3, d4, d5]).run m Q E = ∀ p, m p = none → Q (.ref p) (mset m p (.lst [d1, d2, d3, d4, d5])) := r_ref (show 5 ≤ sizeLine by decide)
theorem r_ref6 {d1 d2 d3 d4 d5 d6 : D} : (mkRef [d1, d2, d3, d4, d5, d6]).run m Q E = ∀ p, m p = none → Q (.ref p) (mset m p (.lst [d1, d2, d3, d4, d5, d6])) := r_ref (show 6 ≤ sizeLine by decide)
theorem r_listL : (dList [.lst l]).run m Q E = Q (.lst l) m := rfl
theorem r_listT : (dList [.tup l]).run m Q E = Q (.lst l) m := rfl
theorem r_tupleL : (dTuple [.lst l]).run m Q E = Q (.tup l) m := rfl
theorem r_seqT {QI : List D × Option Addr → Mem → Prop} : (seqI (.tup l)).run m QI E = QI (l, none) m := rfl
theorem r_seqL {QI : List D × Option Addr → Mem → Prop} : (seqI (.lst l)).run m QI E = QI (l, none) m := rfl
theorem r_range1 {QI : List D × Option Addr → Mem → Prop} (h : small62 j = true) : (rangeI1 [.int j]).run m QI E = QI (rng 0 j, none) m := by show (ite _ _ _ : C _).run m QI E = _; rw [if_pos h]; rfl
theorem r_range2 {QI : List D × Option Addr → Mem → Prop} (h : small62 i = true) (h2 : small62 j = true) : (rangeI2 [.int i, .int j]).run m QI E = QI (rng i j, none) m := by show (ite _ _ _ : C _).run m QI E = _; rw [if_pos (by rw [h, h2]; rfl)]; rfl
theorem ix_last {n : Nat} (h : 0 < n) : ixN n (-1) = some (n - 1) := by
  unfold ixN; rw [if_neg (by omega), if_pos (by omega)]; congr 1; omega
theorem ix_nat {n : Nat} (h : 0 ≤ i) (h2 : i < n) : ixN n i = some i.toNat := by
  unfold ixN; rw [if_pos h, if_pos h2]
theorem if_dec {P : Prop} [Decidable P] {a b : CS} (h1 : P → a.run δ m K) (h2 : ¬P → b.run δ m K) : kIf a b δ K (decide P) m := by
  by_cases h : P
  · rw [decide_eq_true h, k_IfT]; exact h1 h
  · rw [decide_eq_false h, k_IfF]; exact h2 h
theorem tor_dec {P : Prop} [Decidable P] (h1 : P → QB true m) (h2 : ¬P → (u δ).run m QB E) : kTO u δ QB E (decide P) m := by
  by_cases h : P
  · rw [decide_eq_true h, k_TOT]; exact h1 h
  · rw [decide_eq_false h, k_TOF]; exact h2 h
theorem tand_dec {P : Prop} [Decidable P] (h1 : P → (u δ).run m QB E) (h2 : ¬P → QB false m) : kTA u δ QB E (decide P) m := by
  by_cases h : P
  · rw [decide_eq_true h, k_TAT]; exact h1 h
  · rw [decide_eq_false h, k_TAF]; exact h2 h
theorem tor_bool {v : Bool} (h1 : v = true → QB true m) (h2 : v = false → (u δ).run m QB E) : kTO u δ QB E v m := by
  cases v with
  | true => rw [k_TOT]; exact h1 rfl
  | false => rw [k_TOF]; exact h2 rfl
theorem tand_bool {v : Bool} (h1 : v = true → (u δ).run m QB E) (h2 : v = false → QB false m) : kTA u δ QB E v m := by
  cases v with
  | true => rw [k_TAT]; exact h1 rfl
  | false => rw [k_TAF]; exact h2 rfl
theorem if_bool {v : Bool} {a b : CS} (h1 : v = true → a.run δ m K) (h2 : v = false → b.run δ m K) : kIf a b δ K v m := by
  cases v with
  | true => rw [k_IfT]; exact h1 rfl
  | false => rw [k_IfF]; exact h2 rfl
theorem mul_run (h : -(2 ^ 64) < i ∧ i < 2 ^ 64 ∨ -(2 ^ 64) < j ∧ j < 2 ^ 64) (q : Q (.int (i * j)) m) : (dMul (.int i) (.int j)).run m Q E := by
  rcases h with ⟨a, b⟩ | ⟨a, b⟩
  · rw [r_mulL a b]; exact q
  · rw [r_mulR a b]; exact q
end
end DL

namespace DL
open PySem L2
def Ret (c : C D) (d : D) : Prop := ∀ (m : Mem) (Q : D → Mem → Prop) (E : Xn → Mem → Prop), Q d m → c.run m Q E
theorem Kt.loop_le {K : Kt} {N N' : DSt → Mem → Prop} (h : ∀ δ m, N δ m → N' δ m) : (K.loop N).Le (K.loop N') := ⟨h, fun _ _ q => q, fun _ _ q => q, h, fun _ _ _ q => q⟩
theorem for_rule {w : List D} {g : DG} {b : CS} {K : Kt} (I : List D → DSt → Mem → Prop) : ∀ {l : List D} {δ : DSt} {m : Mem}, I l δ m →
    (∀ (x : D) (r : List D) (δ : DSt) (m : Mem), I (x :: r) δ m → (g x δ).run m (kBody b (K.loop (I r))) (kEx δ K)) → (∀ (δ : DSt) (m : Mem), I [] δ m → K.nx δ m) → forD w none g b K l δ m
  | [], δ, m, h, _, e => by rw [forD_nil]; exact e δ m h
  | x :: r, δ, m, h, s, e => by
    rw [forD_cons]
    exact C.mono _ (fun δ' m' q => b.mono (Kt.loop_le fun δ'' m'' q2 => for_rule I q2 s e) q) (fun _ _ q => q) (s x r δ m h)
/-- a loop over a list of data: what holds behind a part of it -/
theorem for_map {α : Type} {enc : α → D} {w : List D} {g : DG} {b : CS} {K : Kt} {xs : List α} {δ : DSt} {m : Mem} (I : List α → DSt → Mem → Prop) (h0 : I [] δ m)
    (hs : ∀ (pre : List α) (x : α) (r : List α) (δ : DSt) (m : Mem), xs = pre ++ x :: r → I pre δ m → (g (enc x) δ).run m (kBody b (K.loop (I (pre ++ [x])))) (kEx δ K))
    (he : ∀ (δ : DSt) (m : Mem), I xs δ m → K.nx δ m) : forD w none g b K (xs.map enc) δ m := by
  refine for_rule (fun r δ m => ∃ pre post, xs = pre ++ post ∧ r = post.map enc ∧ I pre δ m) ⟨[], xs, rfl, rfl, h0⟩ (fun x r δ m ⟨pre, post, e1, e2, hI⟩ => ?_) (fun δ m ⟨pre, post, e1, e2, hI⟩ => ?_)
  · cases post with
    | nil => cases e2
    | cons y post =>
      rw [List.map_cons] at e2
      injection e2 with e3 e4
      subst e3; subst e4
      exact C.mono _ (fun δ' m' q => b.mono (Kt.loop_le fun δ'' m'' q2 => ⟨pre ++ [y], post, by rw [e1, List.append_assoc]; rfl, rfl, q2⟩) q) (fun _ _ q => q) (hs pre y post δ m e1 hI)
  · cases post with
    | nil => rw [List.append_nil] at e1; subst e1; exact he δ m hI
    | cons y post => cases e2
theorem rng_eq {n : Nat} : rng 0 (n : Int) = (List.range n).map fun (i : Nat) => D.int i := by
  unfold rng
  congr 1
  · funext i; congr 1; omega
theorem range_split {n i : Nat} {pre r : List Nat} (h : List.range n = pre ++ i :: r) : pre = List.range i ∧ i < n := by
  have hl : pre.length + (r.length + 1) = n := by have := congrArg List.length h; rw [List.length_range, List.length_append, List.length_cons] at this; omega
  have e1 : (List.range n)[pre.length]? = some i := by rw [h, List.getElem?_append_right (Nat.le_refl _), Nat.sub_self]; rfl
  rw [List.getElem?_range (by omega)] at e1
  injection e1 with e1
  refine ⟨?_, by omega⟩
  have e2 : (List.range n).take pre.length = pre := by rw [h]; exact List.take_left' rfl
  rw [← e2, List.take_range, ← e1]
  congr 1
  rw [e1]
  have := hl
  omega
/-- for i in range(n) -/
theorem for_nat {w : List D} {g : DG} {b : CS} {K : Kt} {n : Nat} {δ : DSt} {m : Mem} (I : Nat → DSt → Mem → Prop) (h0 : I 0 δ m)
    (hs : ∀ (i : Nat) (δ : DSt) (m : Mem), i < n → I i δ m → (g (.int i) δ).run m (kBody b (K.loop (I (i + 1)))) (kEx δ K))
    (he : ∀ (δ : DSt) (m : Mem), I n δ m → K.nx δ m) : forD w none g b K (rng 0 (n : Int)) δ m := by
  rw [rng_eq]
  refine for_map (fun pre => I pre.length) h0 (fun pre i r δ m e hI => ?_) (fun δ m h => he δ m (by rw [List.length_range] at h; exact h))
  obtain ⟨e1, e2⟩ := range_split e
  subst e1
  rw [List.length_range] at hI
  rw [List.length_append, List.length_range]
  exact hs i δ m e2 hI
theorem for_int {w : List D} {g : DG} {b : CS} {K : Kt} {k : Int} {δ : DSt} {m : Mem} (hk : 0 ≤ k) (I : Int → DSt → Mem → Prop) (h0 : I 0 δ m)
    (hs : ∀ (i : Int) (δ : DSt) (m : Mem), 0 ≤ i → i < k → I i δ m → (g (.int i) δ).run m (kBody b (K.loop (I (i + 1)))) (kEx δ K))
    (he : ∀ (δ : DSt) (m : Mem), I k δ m → K.nx δ m) : forD w none g b K (rng 0 k) δ m := by
  obtain ⟨n, rfl⟩ := Int.eq_ofNat_of_zero_le hk
  exact for_nat (fun i => I (i : Int)) h0 (fun i δ m hi h => hs i δ m (by omega) (by omega) h) he
section
variable {m : Mem} {Q : D → Mem → Prop} {QB : Bool → Mem → Prop} {QL : List D → Mem → Prop} {E : Xn → Mem → Prop} {i j : Int} {x y z : D} {a b c : DE} {t u : DT} {al bl : DA} {δ : DSt} {l : List D} {s s' : Str} {K : Kt} {p q : Addr} {n k : Nat}
theorem ofString_inj {a b : String} (h : Str.ofString a = Str.ofString b) : a = b := by
  rw [Str.ofString_eq_toList, Str.ofString_eq_toList] at h
  injection h with h
  have h2 := congrArg Array.toList h
  simp only at h2
  have h3 : a.toList = b.toList := by
    have key : ∀ (x y : List Char), x.map Char.toNat = y.map Char.toNat → x = y := by
      intro x
      induction x with
      | nil => intro y e; cases y with
        | nil => rfl
        | cons _ _ => cases e
      | cons c r ih =>
        intro y e
        cases y with
        | nil => cases e
        | cons d t =>
          rw [List.map_cons, List.map_cons] at e
          injection e with e1 e2
          rw [ih t e2, Char.toNat_inj.mp e1]
    exact key _ _ h2
  exact String.toList_inj.mp h3
theorem r_strEq {a b : String} : (Str.ofString a == Str.ofString b) = decide (a = b) := by
  by_cases h : a = b
  · rw [h, decide_eq_true rfl]; exact beq_self_eq_true _
  · rw [decide_eq_false h]
    exact beq_eq_false_iff_ne.mpr fun e => h (ofString_inj e)
theorem r_strEq2 {a b : String} : (Str.ofString a = Str.ofString b) = (a = b) := propext ⟨ofString_inj, fun h => by rw [h]⟩
theorem r_isT0 : isT "NoneType" "int" = false := by decide
theorem r_isT1 : isT "NoneType" "bool" = false := by decide
theorem r_isT2 : isT "NoneType" "str" = false := by decide
theorem r_isT3 : isT "NoneType" "list" = false := by decide
theorem r_isT4 : isT "NoneType" "tuple" = false := by decide
theorem r_isT5 : isT "NoneType" "dict" = false := by decide
theorem r_isT6 : isT "bool" "int" = true := by decide
theorem r_isT7 : isT "bool" "bool" = true := by decide
theorem r_isT8 : isT "bool" "str" = false := by decide
theorem r_isT9 : isT "bool" "list" = false := by decide
theorem r_isT10 : isT "bool" "tuple" = false := by decide
theorem r_isT11 : isT "bool" "dict" = false := by decide
theorem r_isT12 : isT "int" "int" = true := by decide
theorem r_isT13 : isT "int" "bool" = false := by decide
theorem r_isT14 : isT "int" "str" = false := by decide
theorem r_isT15 : isT "int" "list" = false := by decide
theorem r_isT16 : isT "int" "tuple" = false := by decide
theorem r_isT17 : isT "int" "dict" = false := by decide
theorem r_isT18 : isT "str" "int" = false := by decide
theorem r_isT19 : isT "str" "bool" = false := by decide
theorem r_isT20 : isT "str" "str" = true := by decide
theorem r_isT21 : isT "str" "list" = false := by decide
theorem r_isT22 : isT "str" "tuple" = false := by decide
theorem r_isT23 : isT "str" "dict" = false := by decide
theorem r_isT24 : isT "tuple" "int" = false := by decide
theorem r_isT25 : isT "tuple" "bool" = false := by decide
theorem r_isT26 : isT "tuple" "str" = false := by decide
theorem r_isT27 : isT "tuple" "list" = false := by decide
theorem r_isT28 : isT "tuple" "tuple" = true := by decide
theorem r_isT29 : isT "tuple" "dict" = false := by decide
theorem r_isT30 : isT "list" "int" = false := by decide
theorem r_isT31 : isT "list" "bool" = false := by decide
theorem r_isT32 : isT "list" "str" = false := by decide
theorem r_isT33 : isT "list" "list" = true := by decide
theorem r_isT34 : isT "list" "tuple" = false := by decide
theorem r_isT35 : isT "list" "dict" = false := by decide
theorem r_isiN {T : String}  : (dIsi T .non).run m Q E = Q (.bl (isT "NoneType" T)) m := rfl
theorem r_isi2N {T U : String}  : (dIsi2 T U .non).run m Q E = Q (.bl (isT "NoneType" T || isT "NoneType" U)) m := rfl
theorem r_isiB {T : String} {v : Bool} : (dIsi T (.bl v)).run m Q E = Q (.bl (isT "bool" T)) m := rfl
theorem r_isi2B {T U : String} {v : Bool} : (dIsi2 T U (.bl v)).run m Q E = Q (.bl (isT "bool" T || isT "bool" U)) m := rfl
theorem r_isiI {T : String}  : (dIsi T (.int i)).run m Q E = Q (.bl (isT "int" T)) m := rfl
theorem r_isi2I {T U : String}  : (dIsi2 T U (.int i)).run m Q E = Q (.bl (isT "int" T || isT "int" U)) m := rfl
theorem r_isiS {T : String}  : (dIsi T (.str s)).run m Q E = Q (.bl (isT "str" T)) m := rfl
theorem r_isi2S {T U : String}  : (dIsi2 T U (.str s)).run m Q E = Q (.bl (isT "str" T || isT "str" U)) m := rfl
theorem r_isiT {T : String}  : (dIsi T (.tup l)).run m Q E = Q (.bl (isT "tuple" T)) m := rfl
theorem r_isi2T {T U : String}  : (dIsi2 T U (.tup l)).run m Q E = Q (.bl (isT "tuple" T || isT "tuple" U)) m := rfl
theorem r_isiL {T : String}  : (dIsi T (.lst l)).run m Q E = Q (.bl (isT "list" T)) m := rfl
theorem r_isi2L {T U : String}  : (dIsi2 T U (.lst l)).run m Q E = Q (.bl (isT "list" T || isT "list" U)) m := rfl
theorem flat_ints (ns : List Int) : (ns.map D.int).all flat = true := by rw [List.all_map]; exact List.all_eq_true.mpr fun _ _ => rfl
theorem inD_ints (i : Int) (ns : List Int) : inD (.int i) (ns.map D.int) = decide (i ∈ ns) := by
  unfold inD
  rw [List.any_map]
  induction ns with
  | nil => rfl
  | cons k r ih =>
    rw [List.any_cons, ih]
    show ((k == i) || decide (i ∈ r)) = _
    by_cases h : i = k
    · subst h; simp
    · have h2 : (k == i) = false := beq_eq_false_iff_ne.mpr fun e => h e.symm
      rw [h2]; simp [h]
theorem r_inTI {ns : List Int} : (dIn (.int i) (.tup (ns.map D.int))).run m Q E = Q (.bl (decide (i ∈ ns))) m := by
  show (ite _ _ _ : C D).run m Q E = _
  rw [flat_ints, inD_ints]; rfl
theorem r_ninTI {ns : List Int} : (dNotIn (.int i) (.tup (ns.map D.int))).run m Q E = Q (.bl (!decide (i ∈ ns))) m := by
  show (ite _ _ _ : C D).run m Q E = _
  rw [flat_ints, inD_ints]; rfl
theorem r_inLI {ns : List Int} : (dIn (.int i) (.lst (ns.map D.int))).run m Q E = Q (.bl (decide (i ∈ ns))) m := by
  show (ite _ _ _ : C D).run m Q E = _
  rw [flat_ints, inD_ints]; rfl
theorem r_ninLI {ns : List Int} : (dNotIn (.int i) (.lst (ns.map D.int))).run m Q E = Q (.bl (!decide (i ∈ ns))) m := by
  show (ite _ _ _ : C D).run m Q E = _
  rw [flat_ints, inD_ints]; rfl
theorem r_inTS : (dIn (.str s) (.tup l)).run m Q E = (if l.all flat then C.ret (.bl (inD (.str s) l)) else C.stuck : C D).run m Q E := rfl
theorem r_inD_nil : inD x [] = false := rfl
theorem r_inD_cons : inD x (y :: l) = (eqv y x || inD x l) := rfl
theorem r_flat_nil : ([] : List D).all flat = true := rfl
theorem r_flat_cons : (y :: l).all flat = (flat y && l.all flat) := rfl
theorem r_flatS : flat (.str s) = true := rfl
theorem r_flatI : flat (.int i) = true := rfl
theorem r_eqvSS : eqv (.str s) (.str s') = (s == s') := rfl
theorem r_eqvII : eqv (.int i) (.int j) = (i == j) := rfl
theorem r_addLL {l1 l2 : List D} (h : l1.length + l2.length ≤ sizeLine) : (dAdd (.lst l1) (.lst l2)).run m Q E = Q (.lst (l1 ++ l2)) m := by
  show (ite _ _ _ : C D).run m Q E = _
  rw [if_pos h]; rfl
theorem sset_run {ns : List Int} (h : ns.length < 64) (q : Q (.lst ((sortSet ns).map D.int)) m) : (dSortedSet (.lst (ns.map D.int))).run m Q E := by
  show ((ofO (allInt (ns.map D.int))).bind _).run m Q E
  rw [allInt_map]
  show (ite _ _ _ : C D).run m Q E
  rw [if_pos h]; exact q
theorem atI_of {α : Type} {l : List α} {x : α} (h : 0 ≤ i) (hx : l[i.toNat]? = some x) : atI l i = some x := by
  have hl : i.toNat < l.length := (List.getElem?_eq_some_iff.mp hx).1
  unfold atI ixN
  rw [if_pos h, if_pos (by omega)]
  exact hx
theorem r_atm1 : atI (l ++ [x]) (-1) = some x := by
  unfold atI
  rw [ix_last (by rw [List.length_append]; simp)]
  show (l ++ [x])[(l ++ [x]).length - 1]? = _
  rw [List.length_append, List.getElem?_append_right (by simp)]; simp
theorem r_atm2 : atI [x] (-1) = some x := r_atm1 (l := [])
theorem r_at0 {x0 : D} : atI (x0 :: l) 0 = some x0 := atI_of (by decide) rfl
theorem r_at1 {x0 x1 : D} : atI (x0 :: x1 :: l) 1 = some x1 := atI_of (by decide) rfl
theorem r_at2 {x0 x1 x2 : D} : atI (x0 :: x1 :: x2 :: l) 2 = some x2 := atI_of (by decide) rfl
theorem r_at3 {x0 x1 x2 x3 : D} : atI (x0 :: x1 :: x2 :: x3 :: l) 3 = some x3 := atI_of (by decide) rfl
theorem r_at4 {x0 x1 x2 x3 x4 : D} : atI (x0 :: x1 :: x2 :: x3 :: x4 :: l) 4 = some x4 := atI_of (by decide) rfl
theorem r_at5 {x0 x1 x2 x3 x4 x5 : D} : atI (x0 :: x1 :: x2 :: x3 :: x4 :: x5 :: l) 5 = some x5 := atI_of (by decide) rfl
theorem r_at6 {x0 x1 x2 x3 x4 x5 x6 : D} : atI (x0 :: x1 :: x2 :: x3 :: x4 :: x5 :: x6 :: l) 6 = some x6 := atI_of (by decide) rfl
theorem r_at7 {x0 x1 x2 x3 x4 x5 x6 x7 : D} : atI (x0 :: x1 :: x2 :: x3 :: x4 :: x5 :: x6 :: x7 :: l) 7 = some x7 := atI_of (by decide) rfl
theorem r_at8 {x0 x1 x2 x3 x4 x5 x6 x7 x8 : D} : atI (x0 :: x1 :: x2 :: x3 :: x4 :: x5 :: x6 :: x7 :: x8 :: l) 8 = some x8 := atI_of (by decide) rfl
theorem r_beqI : (i == j) = decide (i = j) := by
  by_cases h : i = j
  · rw [beq_iff_eq.mpr h, decide_eq_true h]
  · rw [beq_eq_false_iff_ne.mpr h, decide_eq_false h]
theorem r_ndec {P : Prop} [Decidable P] : (!decide P) = decide (¬P) := by
  by_cases h : P
  · rw [decide_eq_true h, decide_eq_false (fun q => q h)]; rfl
  · rw [decide_eq_false h, decide_eq_true h]; rfl
theorem eif_dec {P : Prop} [Decidable P] (h1 : P → (a δ).run m Q E) (h2 : ¬P → (b δ).run m Q E) : kEIf a b δ Q E (decide P) m := by
  by_cases h : P
  · rw [decide_eq_true h]; exact h1 h
  · rw [decide_eq_false h]; exact h2 h
theorem eif_bool {v : Bool} (h1 : v = true → (a δ).run m Q E) (h2 : v = false → (b δ).run m Q E) : kEIf a b δ Q E v m := by
  cases v with
  | true => exact h1 rfl
  | false => exact h2 rfl
theorem and_dec {P : Prop} [Decidable P] (h1 : P → (b δ).run m Q E) (h2 : ¬P → Q (.bl false) m) : kAnd b δ Q E (.bl (decide P)) m := by
  by_cases h : P
  · rw [decide_eq_true h]; exact h1 h
  · rw [decide_eq_false h]; exact h2 h
theorem or_dec {P : Prop} [Decidable P] (h1 : P → Q (.bl true) m) (h2 : ¬P → (b δ).run m Q E) : kOr b δ Q E (.bl (decide P)) m := by
  by_cases h : P
  · rw [decide_eq_true h]; exact h1 h
  · rw [decide_eq_false h]; exact h2 h
theorem and_bool {v : Bool} (h1 : v = true → (b δ).run m Q E) (h2 : v = false → Q (.bl false) m) : kAnd b δ Q E (.bl v) m := by
  cases v with
  | true => exact h1 rfl
  | false => exact h2 rfl
theorem or_bool {v : Bool} (h1 : v = true → Q (.bl true) m) (h2 : v = false → (b δ).run m Q E) : kOr b δ Q E (.bl v) m := by
  cases v with
  | true => exact h1 rfl
  | false => exact h2 rfl
theorem ch_dec {P : Prop} [Decidable P] {g : D → D → C D} (h1 : P → (c δ).run m (kOp2 g y Q E) E) (h2 : ¬P → Q (.bl false) m) : kCh3 g y c δ Q E (.bl (decide P)) m := by
  by_cases h : P
  · rw [decide_eq_true h]; exact h1 h
  · rw [decide_eq_false h]; exact h2 h
theorem r_gT {r : List D → DSt → C DSt} {QS : DSt → Mem → Prop} : (gT r (.tup l) δ).run m QS E = (r l δ).run m QS E := rfl
def kGs (r : List D → DSt → C DSt) (l : List D) (QS : DSt → Mem → Prop) (E : Xn → Mem → Prop) : DSt → Mem → Prop := fun δ m => (r l δ).run m QS E
theorem k_Gs {r : List D → DSt → C DSt} {QS : DSt → Mem → Prop} : kGs r l QS E δ m = (r l δ).run m QS E := rfl
theorem r_gsCons {g : DG} {r : List D → DSt → C DSt} {QS : DSt → Mem → Prop} : (gsCons g r (x :: l) δ).run m QS E = (g x δ).run m (kGs r l QS E) E := rfl
theorem r_gsNil {QS : DSt → Mem → Prop} : (gsNil [] δ).run m QS E = QS δ m := rfl
theorem r_isDNN : isD .non .non = true := rfl
theorem r_isDBB {v w : Bool} : isD (.bl v) (.bl w) = (v == w) := rfl
theorem r_isDBN {v : Bool} : isD (.bl v) .non = false := rfl
theorem r_isDNB {v : Bool} : isD .non (.bl v) = false := rfl
theorem r_isDIN : isD (.int i) .non = false := rfl
theorem r_isDIB {v : Bool} : isD (.int i) (.bl v) = false := rfl
theorem r_isDSN : isD (.str s) .non = false := rfl
theorem r_isDSB {v : Bool} : isD (.str s) (.bl v) = false := rfl
theorem r_isDTN : isD (.tup l) .non = false := rfl
theorem r_isDTB {v : Bool} : isD (.tup l) (.bl v) = false := rfl
theorem r_isDLN : isD (.lst l) .non = false := rfl
theorem r_isDLB {v : Bool} : isD (.lst l) (.bl v) = false := rfl
theorem r_isDRN : isD (.ref p) .non = false := rfl
theorem r_isDRB {v : Bool} : isD (.ref p) (.bl v) = false := rfl
theorem r_beqTT : (true == true) = true := rfl
theorem r_beqTF : (true == false) = false := rfl
theorem r_beqFT : (false == true) = false := rfl
theorem r_beqFF : (false == false) = true := rfl
end
end DL

namespace DL
open PySem L2
section
variable {m : Mem} {Q : D → Mem → Prop} {QB : Bool → Mem → Prop} {QL : List D → Mem → Prop} {E : Xn → Mem → Prop} {i j : Int} {x y z : D} {a b c : DE} {t u : DT} {al bl : DA} {δ : DSt} {l : List D} {s s' : Str} {K : Kt} {p q : Addr} {n k : Nat} {f g mt cl : Str} {cs : List Str} {fs : List (Str × D)} {fD : List D → C D} {dds : List D}
def onI (o : Option MO) (k : Str → List (Str × D) → Prop) : Prop := match o with | some (.ins c fs) => k c fs | _ => False
theorem k_onI {k : Str → List (Str × D) → Prop} : onI (some (.ins cl fs)) k = k cl fs := rfl
def kFld2 (cs : List Str) (f : Str) (m : Mem) (Q : D → Mem → Prop) : Str → List (Str × D) → Prop := fun c fs => if c ∈ cs then onO (fs.lookup f) (kM m Q) else False
theorem k_Fld2 : kFld2 cs f m Q cl fs = if cl ∈ cs then onO (fs.lookup f) (kM m Q) else False := rfl
def fldK (cs : List Str) (f : Str) (i : Str × List (Str × D)) : C D := if i.1 ∈ cs then ofO (i.2.lookup f) else C.stuck
def kFld (cs : List Str) (f : Str) (Q : D → Mem → Prop) (E : Xn → Mem → Prop) : D → Mem → Prop := fun x m => ((asI x).bind (fldK cs f)).run m Q E
theorem r_fld : (eFld cs f a δ).run m Q E = (a δ).run m (kFld cs f Q E) E := rfl
theorem fldK_run {i : Str × List (Str × D)} : (fldK cs f i).run m Q E = kFld2 cs f m Q i.1 i.2 := by
  unfold fldK kFld2
  by_cases h : i.1 ∈ cs
  · rw [if_pos h, if_pos h]; exact ofO_eq
  · rw [if_neg h, if_neg h]; rfl
theorem asI_ref {β : Type} {kk : Str × List (Str × D) → C β} {QQ : β → Mem → Prop} : ((asI (.ref p)).bind kk).run m QQ E = onI (m p) (fun c fs => (kk (c, fs)).run m QQ E) := by
  show (match m p with | some o => _ | none => False) = _
  cases m p with
  | none => rfl
  | some o => cases o <;> rfl
theorem k_FldR : kFld cs f Q E (.ref p) m = onI (m p) (kFld2 cs f m Q) := by
  unfold kFld
  rw [asI_ref]
  congr 1
  funext c fs
  exact fldK_run
theorem k_FldO : kFld cs f Q E (.obj cl fs) m = kFld2 cs f m Q cl fs := fldK_run (i := (cl, fs))
theorem r_look {v : D} : List.lookup f ((g, v) :: fs) = if f = g then some v else List.lookup f fs := by
  rw [List.lookup_cons]
  by_cases h : f = g
  · rw [if_pos h, beq_iff_eq.mpr h]
  · rw [if_neg h, beq_eq_false_iff_ne.mpr h]
theorem r_lookN : List.lookup f ([] : List (Str × D)) = none := rfl
theorem r_putD {v : D} : putD f y ((g, v) :: fs) = if g = f then (g, y) :: fs else (g, v) :: putD f y fs := rfl
theorem r_putDN : putD f y [] = [(f, y)] := rfl
def kSF3 (cs : List Str) (f : Str) (y : D) (p : Addr) (m : Mem) (Q : D → Mem → Prop) : Str → List (Str × D) → Prop := fun c fs => if c ∈ cs ∧ fs.length < 1000 then Q .non (mset m p (.ins c (putD f y fs))) else False
theorem k_SF3 : kSF3 cs f y p m Q cl fs = if cl ∈ cs ∧ fs.length < 1000 then Q .non (mset m p (.ins cl (putD f y fs))) else False := rfl
theorem r_setFldR : (dSetFld cs f (.ref p) y).run m Q E = onI (m p) (kSF3 cs f y p m Q) := by
  show (match m p with | some o => _ | none => False) = _
  cases m p with
  | none => rfl
  | some o =>
    cases o with
    | lst l => rfl
    | dic l => rfl
    | ins c fs =>
      show (match (if c ∈ cs ∧ fs.length < 1000 then some (D.non, MO.ins c (putD f y fs)) else none) with | some (d, o') => Q d (mset m p o') | none => False) = if c ∈ cs ∧ fs.length < 1000 then Q .non (mset m p (.ins c (putD f y fs))) else False
      by_cases h : c ∈ cs ∧ fs.length < 1000
      · simp only [if_pos h]
      · simp only [if_neg h]
def kSF2 (cs : List Str) (f : Str) (y : D) (δ : DSt) (K : Kt) : D → Mem → Prop := fun x m => (dSetFld cs f x y).run m (kNx δ K) (kEx δ K)
theorem k_SF2 : kSF2 cs f y δ K x m = (dSetFld cs f x y).run m (kNx δ K) (kEx δ K) := rfl
def kSF1 (cs : List Str) (f : Str) (o : DE) (δ : DSt) (K : Kt) : D → Mem → Prop := fun y m => (o δ).run m (kSF2 cs f y δ K) (kEx δ K)
theorem k_SF1 : kSF1 cs f a δ K y m = (a δ).run m (kSF2 cs f y δ K) (kEx δ K) := rfl
theorem r_setFld : (sSetFld cs f a b).run δ m K = (b δ).run m (kSF1 cs f a δ K) (kEx δ K) := rfl
def methF (x : D) (n : Nat) (dds : List D) (fD : List D → C D) (l : List D) : C D := if l.length = n then fD (x :: (l ++ dds)) else C.stuck
theorem r_methF (h : l.length = n) : (methF x n dds fD l).run m Q E = (fD (x :: (l ++ dds))).run m Q E := by unfold methF; rw [if_pos h]
def kMe2 (c mt : Str) (n : Nat) (dds : List D) (fD : List D → C D) (al : DA) (δ : DSt) (x : D) (m : Mem) (Q : D → Mem → Prop) (E : Xn → Mem → Prop) : Str → List (Str × D) → Prop := fun c' fs => if c' = c ∧ fs.lookup mt = none then (al δ).run m (kF (methF x n dds fD) Q E) E else False
theorem k_Me2 {c' : Str} : kMe2 cl mt n dds fD al δ x m Q E c' fs = if c' = cl ∧ fs.lookup mt = none then (al δ).run m (kF (methF x n dds fD) Q E) E else False := rfl
def kMe1 (c mt : Str) (n : Nat) (dds : List D) (fD : List D → C D) (al : DA) (δ : DSt) (Q : D → Mem → Prop) (E : Xn → Mem → Prop) : D → Mem → Prop := fun x m => ((asI x).bind fun i => if i.1 = c ∧ i.2.lookup mt = none then (al δ).bind (methF x n dds fD) else C.stuck).run m Q E
theorem r_meth : (eMeth cl mt n dds fD a al δ).run m Q E = (a δ).run m (kMe1 cl mt n dds fD al δ Q E) E := rfl
theorem meK_run {c' : Str} : (if c' = cl ∧ fs.lookup mt = none then (al δ).bind (methF x n dds fD) else C.stuck : C D).run m Q E = kMe2 cl mt n dds fD al δ x m Q E c' fs := by
  unfold kMe2
  by_cases h : c' = cl ∧ fs.lookup mt = none
  · rw [if_pos h, if_pos h]; rfl
  · rw [if_neg h, if_neg h]; rfl
theorem k_MeR : kMe1 cl mt n dds fD al δ Q E (.ref p) m = onI (m p) (kMe2 cl mt n dds fD al δ (.ref p) m Q E) := by
  unfold kMe1
  rw [asI_ref]
  congr 1
  funext c fs
  exact meK_run
theorem k_MeO {c' : Str} : kMe1 cl mt n dds fD al δ Q E (.obj c' fs) m = kMe2 cl mt n dds fD al δ (.obj c' fs) m Q E c' fs := meK_run
def makeF (c : Str) (n : Nat) (dds : List D) (fD : List D → C D) (l : List D) : C D := if l.length = n then mkI c fD (l ++ dds) else C.stuck
theorem r_make : (eMake cl n dds fD al δ).run m Q E = (al δ).run m (kF (makeF cl n dds fD) Q E) E := rfl
def kMk (p : Addr) (Q : D → Mem → Prop) (E : Xn → Mem → Prop) : D → Mem → Prop := fun d m => ((isNon d).bind fun _ => C.ret (D.ref p)).run m Q E
theorem k_MkN : kMk p Q E .non m = Q (.ref p) m := rfl
theorem r_makeF (h : l.length = n) : (makeF cl n dds fD l).run m Q E = ∀ p, m p = none → (fD (.ref p :: (l ++ dds))).run (mset m p (.ins cl [])) (kMk p Q E) E := by
  unfold makeF; rw [if_pos h]; rfl
def callGF (n k : Nat) (gD : List D → List D → List D) (fD : List D → C D) (l q : List D) : C D := if l.length = n ∧ q.length = k then fD (gD l q) else C.stuck
def kCG2 (n k : Nat) (gD : List D → List D → List D) (fD : List D → C D) (l : List D) (Q : D → Mem → Prop) (E : Xn → Mem → Prop) : List D → Mem → Prop := fun q m => (callGF n k gD fD l q).run m Q E
theorem k_CG2 {gD : List D → List D → List D} {q : List D} : kCG2 n k gD fD l Q E q m = (callGF n k gD fD l q).run m Q E := rfl
def kCG (n k : Nat) (gD : List D → List D → List D) (fD : List D → C D) (bl : DA) (δ : DSt) (Q : D → Mem → Prop) (E : Xn → Mem → Prop) : List D → Mem → Prop := fun l m => (bl δ).run m (kCG2 n k gD fD l Q E) E
theorem k_CG {gD : List D → List D → List D} : kCG n k gD fD bl δ Q E l m = (bl δ).run m (kCG2 n k gD fD l Q E) E := rfl
theorem r_callG {gD : List D → List D → List D} : (eCallG n k gD fD al bl δ).run m Q E = (al δ).run m (kCG n k gD fD bl δ Q E) E := rfl
theorem r_callGF {gD : List D → List D → List D} {q : List D} (h : l.length = n) (h2 : q.length = k) : (callGF n k gD fD l q).run m Q E = (fD (gD l q)).run m Q E := by
  unfold callGF; rw [if_pos ⟨h, h2⟩]
theorem r_listRg (h : 0 ≤ i) (h2 : i ≤ 1000000) : (dListRg (.int i)).run m Q E = Q (.lst (rng 0 i)) m := by show (ite _ _ _ : C D).run m Q E = _; rw [if_pos ⟨h, h2⟩]; rfl
theorem r_tupRg (h : 0 ≤ i) (h2 : i ≤ 1000000) : (dTupRg (.int i)).run m Q E = Q (.tup (rng 0 i)) m := by show (ite _ _ _ : C D).run m Q E = _; rw [if_pos ⟨h, h2⟩]; rfl
def kSlR (lo hi : Option Int) (m : Mem) (Q : D → Mem → Prop) : List D → Prop := fun l => Q (.lst (cutD l lo hi)) m
theorem k_SlR {lo hi : Option Int} : kSlR lo hi m Q l = Q (.lst (cutD l lo hi)) m := rfl
theorem r_slR {lo hi : Option Int} : (dSl (.ref p) lo hi).run m Q E = onL (m p) (kSlR lo hi m Q) := r_asLR (QL := fun l m' => Q (.lst (cutD l lo hi)) m')
theorem r_enumL {QI : List D × Option Addr → Mem → Prop} : (enumI [.lst l]).run m QI E = QI (enumD l, none) m := rfl
theorem r_max2 : (dMax2 [.int i, .int j]).run m Q E = Q (.int (if j > i then j else i)) m := rfl
theorem r_min2 : (dMin2 [.int i, .int j]).run m Q E = Q (.int (if j < i then j else i)) m := rfl
theorem r_isi2R {T U : String} {l : List D} (h : m p = some (.lst l)) : (dIsi2 T U (.ref p)).run m Q E = Q (.bl (isT "list" T || isT "list" U)) m := by
  show (match m p with | some o => _ | none => False) = _
  rw [h]; rfl
theorem r_isiR {T : String} {l : List D} (h : m p = some (.lst l)) : (dIsi T (.ref p)).run m Q E = Q (.bl (isT "list" T)) m := by
  show (match m p with | some o => _ | none => False) = _
  rw [h]; rfl
theorem enumD_map {α : Type} {enc : α → D} (xs : List α) : enumD (xs.map enc) = (List.range xs.length).zipWith (fun (i : Nat) x => D.tup [.int i, enc x]) xs := by
  unfold enumD
  rw [List.length_map, List.zipWith_map_right]
end
/-- for i, x in enumerate(xs) -/
theorem for_enum {α : Type} {enc : α → D} {w : List D} {g : DG} {b : CS} {K : Kt} {xs : List α} {δ : DSt} {m : Mem} (I : List α → DSt → Mem → Prop) (h0 : I [] δ m)
    (hs : ∀ (pre : List α) (x : α) (r : List α) (δ : DSt) (m : Mem), xs = pre ++ x :: r → I pre δ m → (g (.tup [.int pre.length, enc x]) δ).run m (kBody b (K.loop (I (pre ++ [x])))) (kEx δ K))
    (he : ∀ (δ : DSt) (m : Mem), I xs δ m → K.nx δ m) : forD w none g b K (enumD (xs.map enc)) δ m := by
  have e : enumD (xs.map enc) = xs.zipIdx.map fun q => D.tup [.int q.2, enc q.1] := by
    rw [enumD_map]
    apply List.ext_getElem?
    intro i
    rw [List.getElem?_zipWith, List.getElem?_map, List.getElem?_zipIdx]
    by_cases hi : i < xs.length
    · rw [List.getElem?_range hi, List.getElem?_eq_getElem hi]; simp
    · rw [List.getElem?_eq_none (by rw [List.length_range]; omega), List.getElem?_eq_none (l := xs) (by omega)]; rfl
  rw [e]
  refine for_map (fun pre => I (pre.map (·.1))) h0 (fun pre x r δ m h hI => ?_) (fun δ m h => he δ m (by rw [List.zipIdx_map_fst] at h; exact h))
  have e1 : xs = pre.map (·.1) ++ x.1 :: r.map (·.1) := by
    have := congrArg (List.map (·.1)) h
    rw [List.zipIdx_map_fst, List.map_append, List.map_cons] at this
    exact this
  have e2 : x.2 = (pre.map (·.1)).length := by
    have h3 : xs.zipIdx[pre.length]? = some x := by rw [h, List.getElem?_append_right (Nat.le_refl _), Nat.sub_self]; rfl
    rw [List.getElem?_zipIdx] at h3
    obtain ⟨y, _, h5⟩ := Option.map_eq_some_iff.mp h3
    rw [← h5, List.length_map]; simp
  have := hs (pre.map (·.1)) x.1 (r.map (·.1)) δ m e1 hI
  rw [← e2] at this
  rw [List.map_append]
  exact this
/-- for i in range(a, b) -/
theorem for_range2 {w : List D} {g : DG} {b : CS} {K : Kt} {lo hi : Int} {δ : DSt} {m : Mem} (hk : lo ≤ hi) (I : Int → DSt → Mem → Prop) (h0 : I lo δ m)
    (hs : ∀ (i : Int) (δ : DSt) (m : Mem), lo ≤ i → i < hi → I i δ m → (g (.int i) δ).run m (kBody b (K.loop (I (i + 1)))) (kEx δ K))
    (he : ∀ (δ : DSt) (m : Mem), I hi δ m → K.nx δ m) : forD w none g b K (rng lo hi) δ m := by
  unfold rng
  have e0 : lo + ((hi - lo).toNat : Int) = hi := by omega
  refine for_map (fun pre => I (lo + pre.length)) (by simpa using h0) (fun pre i r δ m e hI => ?_) (fun δ m h => he δ m (by rw [List.length_range, e0] at h; exact h))
  obtain ⟨e1, e2⟩ := range_split e
  subst e1
  rw [List.length_range] at hI
  rw [List.length_append, List.length_range]
  have := hs (lo + i) δ m (by omega) (by omega) hI
  have e3 : lo + ((i + [i].length : Nat) : Int) = lo + i + 1 := by simp; omega
  rw [e3]
  exact this
section
variable {m : Mem} {Q : D → Mem → Prop} {E : Xn → Mem → Prop} {l : List D}
theorem lst_run (h : l.length ≤ sizeLine) : (mkLst l).run m Q E = Q (.lst l) m := by show (ite _ _ _ : C D).run m Q E = _; rw [if_pos h]; rfl
theorem r_lst1 {x0 : D} : (mkLst [x0]).run m Q E = Q (.lst [x0]) m := lst_run (show 1 ≤ sizeLine by decide)
theorem r_lst2 {x0 x1 : D} : (mkLst [x0, x1]).run m Q E = Q (.lst [x0, x1]) m := lst_run (show 2 ≤ sizeLine by decide)
theorem r_lst3 {x0 x1 x2 : D} : (mkLst [x0, x1, x2]).run m Q E = Q (.lst [x0, x1, x2]) m := lst_run (show 3 ≤ sizeLine by decide)
theorem r_lst4 {x0 x1 x2 x3 : D} : (mkLst [x0, x1, x2, x3]).run m Q E = Q (.lst [x0, x1, x2, x3]) m := lst_run (show 4 ≤ sizeLine by decide)
theorem r_lst5 {x0 x1 x2 x3 x4 : D} : (mkLst [x0, x1, x2, x3, x4]).run m Q E = Q (.lst [x0, x1, x2, x3, x4]) m := lst_run (show 5 ≤ sizeLine by decide)
theorem r_lst6 {x0 x1 x2 x3 x4 x5 : D} : (mkLst [x0, x1, x2, x3, x4, x5]).run m Q E = Q (.lst [x0, x1, x2, x3, x4, x5]) m := lst_run (show 6 ≤ sizeLine by decide)
theorem r_lst7 {x0 x1 x2 x3 x4 x5 x6 : D} : (mkLst [x0, x1, x2, x3, x4, x5, x6]).run m Q E = Q (.lst [x0, x1, x2, x3, x4, x5, x6]) m := lst_run (show 7 ≤ sizeLine by decide)
theorem r_lst8 {x0 x1 x2 x3 x4 x5 x6 x7 : D} : (mkLst [x0, x1, x2, x3, x4, x5, x6, x7]).run m Q E = Q (.lst [x0, x1, x2, x3, x4, x5, x6, x7]) m := lst_run (show 8 ≤ sizeLine by decide)
theorem r_lst9 {x0 x1 x2 x3 x4 x5 x6 x7 x8 : D} : (mkLst [x0, x1, x2, x3, x4, x5, x6, x7, x8]).run m Q E = Q (.lst [x0, x1, x2, x3, x4, x5, x6, x7, x8]) m := lst_run (show 9 ≤ sizeLine by decide)
theorem r_lst10 {x0 x1 x2 x3 x4 x5 x6 x7 x8 x9 : D} : (mkLst [x0, x1, x2, x3, x4, x5, x6, x7, x8, x9]).run m Q E = Q (.lst [x0, x1, x2, x3, x4, x5, x6, x7, x8, x9]) m := lst_run (show 10 ≤ sizeLine by decide)
theorem r_lst11 {x0 x1 x2 x3 x4 x5 x6 x7 x8 x9 x10 : D} : (mkLst [x0, x1, x2, x3, x4, x5, x6, x7, x8, x9, x10]).run m Q E = Q (.lst [x0, x1, x2, x3, x4, x5, x6, x7, x8, x9, x10]) m := lst_run (show 11 ≤ sizeLine by decide)
theorem r_lst12 {x0 x1 x2 x3 x4 x5 x6 x7 x8 x9 x10 x11 : D} : (mkLst [x0, x1, x2, x3, x4, x5, x6, x7, x8, x9, x10, x11]).run m Q E = Q (.lst [x0, x1, x2, x3, x4, x5, x6, x7, x8, x9, x10, x11]) m := lst_run (show 12 ≤ sizeLine by decide)
end
theorem if_ndec' {P : Prop} [Decidable P] {δ : DSt} {m : Mem} {K : Kt} {a b : CS} (h1 : ¬P → a.run δ m K) (h2 : P → b.run δ m K) : kIf a b δ K (decide ¬P) m := by
  by_cases h : P
  · rw [decide_eq_false (fun q => q h), k_IfF]; exact h2 h
  · rw [decide_eq_true h, k_IfT]; exact h1 h
/-- a loop over a list that may be changed, and is not -/
theorem for_mapR {α : Type} {enc : α → D} {a : Addr} {g : DG} {b : CS} {K : Kt} {xs : List α} {δ : DSt} {m : Mem} (I : List α → DSt → Mem → Prop) (hst : ∀ pre δ m, I pre δ m → m a = some (.lst (xs.map enc))) (h0 : I [] δ m)
    (hs : ∀ (pre : List α) (x : α) (r : List α) (δ : DSt) (m : Mem), xs = pre ++ x :: r → I pre δ m → (g (enc x) δ).run m (kBody b (K.loop (I (pre ++ [x])))) (kEx δ K))
    (he : ∀ (δ : DSt) (m : Mem), I xs δ m → K.nx δ m) : forD (xs.map enc) (some a) g b K (xs.map enc) δ m := by
  have key : ∀ (post pre : List α) (δ : DSt) (m : Mem), xs = pre ++ post → I pre δ m → forD (xs.map enc) (some a) g b K (post.map enc) δ m := by
    intro post
    induction post with
    | nil =>
      intro pre δ m e h
      rw [List.append_nil] at e
      subst e
      exact ⟨hst _ _ _ h, he δ m h⟩
    | cons x r ih =>
      intro pre δ m e h
      refine ⟨hst _ _ _ h, ?_⟩
      exact C.mono _ (fun δ' m' q => b.mono (Kt.loop_le fun δ'' m'' q2 => ih (pre ++ [x]) δ'' m'' (by rw [e, List.append_assoc]; rfl) q2) q) (fun _ _ q => q) (hs pre x r δ m e h)
  exact key xs [] δ m rfl h0
theorem r_seqR {QI : List D × Option Addr → Mem → Prop} {p : Addr} {m : Mem} {E : Xn → Mem → Prop} : (seqI (.ref p)).run m QI E = onL (m p) (fun l => QI (l, some p) m) := by
  show (match m p with | some o => _ | none => False) = _
  cases m p with
  | none => rfl
  | some o => cases o <;> rfl
theorem k_ForR {g : DG} {b : CS} {δ : DSt} {K : Kt} {l : List D} {p : Addr} {m : Mem} : kFor g b δ K (l, some p) m = forD l (some p) g b K l δ m := rfl
end DL

namespace DL
open PySem L2
section
variable {m : Mem} {Q : D → Mem → Prop} {QL : List D → Mem → Prop} {E : Xn → Mem → Prop} {x y : D} {a b c : DE} {δ : DSt} {l : List D} {K : Kt} {p q : Addr}
theorem r_minL {ns : List Int} : (dMinL [.lst (ns.map D.int)]).run m Q E = onO (minI ns) fun i => Q (.int i) m := by
  show (ofO (allInt (ns.map D.int))).run m (fun ns m' => (ofO (minI ns)).run m' (fun i m'' => Q (.int i) m'') E) E = _
  rw [allInt_map]
  show (ofO (minI ns)).run m (fun i m'' => Q (.int i) m'') E = _
  cases minI ns <;> rfl
def kClr1 (Q : D → Mem → Prop) (E : Xn → Mem → Prop) : D → Mem → Prop := fun x m => (asL x).run m (fun _ m' => (dClear x).run m' Q E) E
theorem r_clr : (eClr a δ).run m Q E = (a δ).run m (kClr1 Q E) E := rfl
def kClr2 (p : Addr) (m : Mem) (Q : D → Mem → Prop) : List D → Prop := fun _ => Q .non (mset m p (.lst []))
theorem k_Clr1R : kClr1 Q E (.ref p) m = onL (m p) (kClr2 p m Q) := by
  refine (r_asLR (QL := fun _ m' => (dClear (.ref p)).run m' Q E)).trans ?_
  cases h : m p with
  | none => rfl
  | some o =>
    cases o with
    | lst l => exact C.run_upd (d := .non) (o' := .lst []) h rfl
    | ins c fs => rfl
    | dic l => rfl
def kLstR (m : Mem) (Q : D → Mem → Prop) : List D → Prop := fun l => Q (.lst l) m
theorem k_LstR : kLstR m Q l = Q (.lst l) m := rfl
theorem r_listRef : (dList [.ref p]).run m Q E = onL (m p) (kLstR m Q) := r_asLR (QL := fun l m' => Q (.lst l) m')
theorem r_enumJL {QI : List D × Option Addr → Mem → Prop} : (enumJ [.lst l]).run m QI E = QI (enumD l, none) m := rfl
theorem r_enumJT {QI : List D × Option Addr → Mem → Prop} : (enumJ [.tup l]).run m QI E = QI (enumD l, none) m := rfl
theorem k_Clr2 : kClr2 p m Q l = Q .non (mset m p (.lst [])) := rfl
theorem lrgM_run {i : Int} (h : 0 ≤ i) (h2 : i ≤ 1000000) (q : ∀ f, m f = none → Q (.ref f) (mset m f (.lst (rng 0 i)))) : (dListRgM (.int i)).run m Q E := by
  show (ite _ _ _ : C D).run m Q E
  rw [if_pos ⟨h, h2⟩]
  exact q
theorem ssetM_run {ns : List Int} (h : ns.length < 64) (q : ∀ f, m f = none → Q (.ref f) (mset m f (.lst ((sortSet ns).map D.int)))) : (dSortedSetM (.lst (ns.map D.int))).run m Q E := by
  show (ofO (allInt (ns.map D.int))).run m (fun ns m' => (if ns.length < 64 then C.new (.lst ((sortSet ns).map D.int)) else C.stuck : C D).run m' Q E) E
  rw [allInt_map]
  show (if ns.length < 64 then C.new (.lst ((sortSet ns).map D.int)) else C.stuck : C D).run m Q E
  rw [if_pos h]
  exact q
theorem ninR {ns : List Int} {i : Int} (h : m p = some (.lst (ns.map D.int))) : (dNotIn (.int i) (.ref p)).run m Q E = Q (.bl (!decide (i ∈ ns))) m := by
  refine (r_asLR (QL := fun l m' => (if flat (.int i) && l.all flat then C.ret (.bl (!inD (.int i) l)) else C.stuck : C D).run m' Q E)).trans ?_
  rw [h]
  exact r_ninLI
end
end DL

namespace DL
open PySem L2
section
variable {m : Mem} {Q : D → Mem → Prop} {QL : List D → Mem → Prop} {E : Xn → Mem → Prop} {x y : D} {a b c : DE} {δ : DSt} {l : List D} {K : Kt} {p q : Addr} {al bl : DA} {n k : Nat} {cl c' : Str} {fs gs : List (Str × D)} {fD : List D → C D}
def makeGF (c : Str) (n k : Nat) (gD : List D → List D → List D) (fD : List D → C D) (l q : List D) : C D := if l.length = n ∧ q.length = k then mkI c fD (gD l q) else C.stuck
def kMG2 (c : Str) (n k : Nat) (gD : List D → List D → List D) (fD : List D → C D) (l : List D) (Q : D → Mem → Prop) (E : Xn → Mem → Prop) : List D → Mem → Prop := fun q m => (makeGF c n k gD fD l q).run m Q E
theorem k_MG2 {gD : List D → List D → List D} {q : List D} : kMG2 cl n k gD fD l Q E q m = (makeGF cl n k gD fD l q).run m Q E := rfl
def kMG (c : Str) (n k : Nat) (gD : List D → List D → List D) (fD : List D → C D) (bl : DA) (δ : DSt) (Q : D → Mem → Prop) (E : Xn → Mem → Prop) : List D → Mem → Prop := fun l m => (bl δ).run m (kMG2 c n k gD fD l Q E) E
theorem k_MG {gD : List D → List D → List D} : kMG cl n k gD fD bl δ Q E l m = (bl δ).run m (kMG2 cl n k gD fD l Q E) E := rfl
theorem r_makeG {gD : List D → List D → List D} : (eMakeG cl n k gD fD al bl δ).run m Q E = (al δ).run m (kMG cl n k gD fD bl δ Q E) E := rfl
theorem r_makeGF {gD : List D → List D → List D} {q : List D} (h : l.length = n) (h2 : q.length = k) : (makeGF cl n k gD fD l q).run m Q E = ∀ p, m p = none → (fD (.ref p :: gD l q)).run (mset m p (.ins cl [])) (kMk p Q E) E := by
  unfold makeGF; rw [if_pos ⟨h, h2⟩]; rfl
def kPr1 (c : Str) (fD : List D → C D) (Q : D → Mem → Prop) (E : Xn → Mem → Prop) : D → Mem → Prop := fun x m => ((asI x).bind fun i => if i.1 = c then (fD [x]).noX else C.stuck).run m Q E
theorem r_prop : (eProp cl fD a δ).run m Q E = (a δ).run m (kPr1 cl fD Q E) E := rfl
def kPr2 (c : Str) (fD : List D → C D) (x : D) (m : Mem) (Q : D → Mem → Prop) : Str → List (Str × D) → Prop := fun c' _ => if c' = c then (fD [x]).run m Q (fun _ _ => False) else False
theorem k_Pr2 : kPr2 cl fD x m Q c' fs = if c' = cl then (fD [x]).run m Q (fun _ _ => False) else False := rfl
theorem prK_run : (if c' = cl then (fD [x]).noX else C.stuck : C D).run m Q E = kPr2 cl fD x m Q c' fs := by
  unfold kPr2
  by_cases h : c' = cl
  · rw [if_pos h, if_pos h]; rfl
  · rw [if_neg h, if_neg h]; rfl
theorem k_PrR : kPr1 cl fD Q E (.ref p) m = onI (m p) (kPr2 cl fD (.ref p) m Q) := by
  unfold kPr1
  rw [asI_ref]
  congr 1
  funext c fs
  exact prK_run
def kEq3 (Q : D → Mem → Prop) : D → Mem → Prop := fun d m => match d with
  | .bl b => Q (.bl b) m
  | _ => False
theorem k_Eq3 {b : Bool} : kEq3 Q (.bl b) m = Q (.bl b) m := rfl
theorem eqI_run (h1 : m p = some (.ins cl fs)) (h2 : m q = some (.ins cl gs)) : (dEqI cl fD (.ref p) (.ref q)).run m Q E = (fD [.ref p, .ref q]).run m (kEq3 Q) (fun _ _ => False) := by
  unfold dEqI
  rw [asI_ref, h1]
  show ((asI (.ref q)).bind _).run m Q E = _
  rw [asI_ref, h2]
  show (if cl = cl ∧ cl = cl then ((fD [D.ref p, D.ref q]).noX.bind boolD) else C.stuck : C D).run m Q E = _
  rw [if_pos ⟨rfl, rfl⟩]
  show (fD [D.ref p, D.ref q]).run m (fun d m' => (boolD d).run m' Q E) (fun _ _ => False) = _
  congr 1
  funext d m'
  cases d <;> rfl
theorem isiC_run (h1 : m p = some (.ins cl fs)) : (dIsiC cl (.ref p)).run m Q E = Q (.bl true) m := by
  show ((asI (.ref p)).bind fun i => if i.1 = cl then C.ret (.bl true) else C.stuck : C D).run m Q E = _
  rw [asI_ref, h1]
  show (if cl = cl then C.ret (.bl true) else C.stuck : C D).run m Q E = _
  rw [if_pos rfl]
  rfl
theorem r_isiCN : (dIsiC cl .non).run m Q E = Q (.bl false) m := rfl
theorem r_isiCS {s : Str} : (dIsiC cl (.str s)).run m Q E = Q (.bl false) m := rfl
theorem r_isiCT : (dIsiC cl (.tup l)).run m Q E = Q (.bl false) m := rfl
def kIx2 (b : DE) (x : D) (δ : DSt) (Q : D → Mem → Prop) (E : Xn → Mem → Prop) : List D → Mem → Prop := fun _ m => (b δ).run m (fun y m' => (dIndex x y).run m' Q E) E
def kIx3 (x : D) (Q : D → Mem → Prop) (E : Xn → Mem → Prop) : D → Mem → Prop := fun y m => (dIndex x y).run m Q E
theorem k_Ix3 : kIx3 x Q E y m = (dIndex x y).run m Q E := rfl
theorem k_Ix2 : kIx2 b x δ Q E l m = (b δ).run m (kIx3 x Q E) E := rfl
def kIx1 (b : DE) (δ : DSt) (Q : D → Mem → Prop) (E : Xn → Mem → Prop) : D → Mem → Prop := fun x m => (asL x).run m (kIx2 b x δ Q E) E
theorem k_Ix1 : kIx1 b δ Q E x m = (asL x).run m (kIx2 b x δ Q E) E := rfl
theorem r_index : (eIndex a b δ).run m Q E = (a δ).run m (kIx1 b δ Q E) E := rfl
theorem r_iStr {QI : List D × Option Addr → Mem → Prop} : (iStrD a δ).run m QI E = (a δ).run m (kF strI QI E) E := rfl
theorem r_strI {QI : List D × Option Addr → Mem → Prop} {s : Str} : (strI (.str s)).run m QI E = QI (signs s, none) m := rfl
end
end DL

namespace DL
open PySem L2
section
variable {m : Mem} {Q : D → Mem → Prop} {E : Xn → Mem → Prop} {x y : D} {a b : DE} {δ : DSt} {s : Str}
def kT2 (f : D → D → C D) (x : D) (Q : D → Mem → Prop) (E : Xn → Mem → Prop) : D → Mem → Prop := fun y m => (f x y).run m Q E
theorem k_T2 {f : D → D → C D} : kT2 f x Q E y m = (f x y).run m Q E := rfl
def kT1 (f : D → D → C D) (b : DE) (δ : DSt) (Q : D → Mem → Prop) (E : Xn → Mem → Prop) : D → Mem → Prop := fun x m => ((isStrD x).bind fun _ => (b δ).bind fun y => f x y).run m Q E
theorem k_T1S {f : D → D → C D} : kT1 f b δ Q E (.str s) m = (b δ).run m (kT2 f (.str s) Q E) E := rfl
theorem r_join : (eJoin a b δ).run m Q E = (a δ).run m (kT1 dJoin b δ Q E) E := rfl
theorem r_sindex : (eSIndex a b δ).run m Q E = (a δ).run m (kT1 dSIndex b δ Q E) E := rfl
end
end DL

namespace DL
open PySem L2
section
variable {m : Mem} {Q : D → Mem → Prop} {E : Xn → Mem → Prop} {x y : D} {ce : DE} {al : DA} {δ : DSt} {K : Kt} {a : Addr} {d : Option Addr} {c cn f : Str} {fs : List Str} {l : List D} {L : List Str} {hs : List Hd} {xs : Option (List (Str × D))} {oi : Option Nat} {i : Nat} {o : Option D} {su : Addr → Option Addr → Str → CS} {b : CS}
def kRz (c : Str) (fs : List Str) (δ : DSt) (K : Kt) : List D → Mem → Prop := fun l m => l.length = fs.length ∧ K.ex (xnOf c fs l) δ m
theorem k_Rz (h : l.length = fs.length) : kRz c fs δ K l m = K.ex ⟨c, some (fs.zip l).reverse⟩ δ m := by
  unfold kRz
  exact propext ⟨fun q => q.2, fun q => ⟨h, q⟩⟩
theorem r_raise : (sRaise c fs al).run δ m K = (al δ).run m (kRz c fs δ K) (kEx δ K) := rfl
theorem r_raise0 : (sRaise0 c).run δ m K = K.ex ⟨c, none⟩ δ m := rfl
theorem k_Ex {x : Xn} : kEx δ K x m = K.ex x δ m := rfl
theorem r_try : (sTry L b hs).run δ m K = b.run δ m (K.tr L hs) := rfl
theorem k_trNx : (K.tr L hs).nx δ m = K.nx δ m := rfl
theorem k_trRt : (K.tr L hs).rt x m = K.rt x m := rfl
theorem k_trBk : (K.tr L hs).bk δ m = K.bk δ m := rfl
theorem k_trCt : (K.tr L hs).ct δ m = K.ct δ m := rfl
theorem k_trEx (h : L.contains c = true) : (K.tr L hs).ex ⟨c, xs⟩ δ m = hdl hs K ⟨c, xs⟩ δ m := propext ⟨fun q => q.2, fun q => ⟨h, q⟩⟩
theorem k_hdlN {x : Xn} : hdl [] K x δ m = K.ex x δ m := rfl
theorem k_hdlT (h : xsub c cn = true) : hdl (⟨cn, oi, su⟩ :: hs) K ⟨c, xs⟩ δ m = ∀ a d, m a = none → (su a d c).run (setSl oi (some (.xc a d c (xs.getD []))) δ) m (endK oi K) := by
  show (if xsub c cn = true then _ else _) = _
  rw [if_pos h]
theorem k_hdlF (h : xsub c cn = false) : hdl (⟨cn, oi, su⟩ :: hs) K ⟨c, xs⟩ δ m = hdl hs K ⟨c, xs⟩ δ m := by
  show (if xsub c cn = true then _ else _) = _
  rw [if_neg (by rw [h]; decide)]
theorem k_setSlN : setSl none o δ = δ := rfl
theorem k_setSlS : setSl (some i) o δ = δ.set i o := rfl
theorem k_endNx : (endK oi K).nx δ m = K.nx (setSl oi none δ) m := rfl
theorem k_endRt : (endK oi K).rt x m = K.rt x m := rfl
theorem k_endBk : (endK oi K).bk δ m = K.bk (setSl oi none δ) m := rfl
theorem k_endCt : (endK oi K).ct δ m = K.ct (setSl oi none δ) m := rfl
theorem r_xf : (eXf a d f ce δ).run m Q E = (ce δ).run m (kF (xfD a d f) Q E) E := rfl
theorem r_xfD {fs : List (Str × D)} : (xfD a d f (.xc a d c fs)).run m Q E = onO (fs.lookup f) (kM m Q) := by
  show (if a = a ∧ d = d then ofO (fs.lookup f) else C.stuck : C D).run m Q E = _
  rw [if_pos ⟨rfl, rfl⟩]
  cases fs.lookup f <;> rfl
theorem r_isE : (eIsE a d c cn ce δ).run m Q E = (ce δ).run m (kF (isE a d c cn) Q E) E := rfl
theorem r_isED {c' : Str} {fs : List (Str × D)} : (isE a d c cn (.xc a d c' fs)).run m Q E = Q (.bl (xsub c cn)) m := by
  show (if a = a ∧ d = d then C.ret (.bl (xsub c cn)) else C.stuck : C D).run m Q E = _
  rw [if_pos ⟨rfl, rfl⟩]
  rfl
theorem r_isiDc {T : String} {l : List (Key × D)} : (dIsi T (.dic l)).run m Q E = Q (.bl (isT "dict" T)) m := rfl
theorem r_isi2Dc {T U : String} {l : List (Key × D)} : (dIsi2 T U (.dic l)).run m Q E = Q (.bl (isT "dict" T || isT "dict" U)) m := rfl
def kIn4 (x j : D) (Q : D → Mem → Prop) (E : Xn → Mem → Prop) : D → Mem → Prop := fun y m => (dInsert x j y).run m Q E
theorem k_In4 {j : D} : kIn4 x j Q E y m = (dInsert x j y).run m Q E := rfl
def kIn3 (x : D) (e : DE) (δ : DSt) (Q : D → Mem → Prop) (E : Xn → Mem → Prop) : D → Mem → Prop := fun j m => (e δ).run m (kIn4 x j Q E) E
theorem k_In3 {j : D} : kIn3 x ce δ Q E j m = (ce δ).run m (kIn4 x j Q E) E := rfl
def kIn2 (x : D) (i e : DE) (δ : DSt) (Q : D → Mem → Prop) (E : Xn → Mem → Prop) : List D → Mem → Prop := fun _ m => (i δ).run m (kIn3 x e δ Q E) E
theorem k_In2 {ci : DE} : kIn2 x ci ce δ Q E l m = (ci δ).run m (kIn3 x ce δ Q E) E := rfl
def kIn1 (i e : DE) (δ : DSt) (Q : D → Mem → Prop) (E : Xn → Mem → Prop) : D → Mem → Prop := fun x m => (asL x).run m (kIn2 x i e δ Q E) E
theorem k_In1 {ci : DE} : kIn1 ci ce δ Q E x m = (asL x).run m (kIn2 x ci ce δ Q E) E := rfl
theorem r_ins {co ci : DE} : (eIns co ci ce δ).run m Q E = (co δ).run m (kIn1 ci ce δ Q E) E := rfl
theorem addM_run {l1 l2 : List D} (h : l1.length + l2.length ≤ sizeLine) : (dAddM (.lst l1) (.lst l2)).run m Q E = ∀ p, m p = none → Q (.ref p) (mset m p (.lst (l1 ++ l2))) := by
  show (if l1.length + l2.length ≤ sizeLine then C.new (.lst (l1 ++ l2)) else C.stuck : C D).run m Q E = _
  rw [if_pos h]
  rfl
end
end DL

namespace DL
open PySem L2
section
variable {m : Mem} {Q : D → Mem → Prop} {E : Xn → Mem → Prop} {x y z : D} {a b e ce : DE} {al : DA} {δ : DSt} {K : Kt} {p q : Addr} {c f : Str} {cs : List Str} {l : List D} {i j : Int} {s : Str} {kv : List (Key × D)} {tbl : List (Str × He.Dv)} {n : Nat} {fs : List (Str × D)} {QS : DSt → Mem → Prop}
theorem r_addI : (dAddI (.int i) (.int j)).run m Q E = Q (.int (i + j)) m := rfl
def kFa4 (c f : Str) (x : D) (δ : DSt) (K : Kt) : D → Mem → Prop := fun z m => (dSetFldC c f x z).run m (fun _ m' => K.nx δ m') (kEx δ K)
theorem k_Fa4 (h : m p = some (.ins c fs)) (hl : fs.length < 1000) : kFa4 c f (.ref p) δ K z m = K.nx δ (mset m p (.ins c (putD f z fs))) := by
  show (C.upd p (fldC c f z)).run m _ _ = _
  exact C.run_upd (d := .non) (o' := .ins c (putD f z fs)) h (if_pos ⟨rfl, hl⟩)
def kFa3 (c f : Str) (x u : D) (δ : DSt) (K : Kt) : D → Mem → Prop := fun y m => (dAddI u y).run m (kFa4 c f x δ K) (kEx δ K)
theorem k_Fa3 {u : D} : kFa3 c f x u δ K y m = (dAddI u y).run m (kFa4 c f x δ K) (kEx δ K) := rfl
def kFa2 (cs : List Str) (f : Str) (x : D) (e : DE) (δ : DSt) (K : Kt) (m : Mem) : Str → List (Str × D) → Prop := fun c fs => if c ∈ cs then onO (fs.lookup f) (fun u => (e δ).run m (kFa3 c f x u δ K) (kEx δ K)) else False
theorem k_Fa2 : kFa2 cs f x e δ K m c fs = if c ∈ cs then onO (fs.lookup f) (fun u => (e δ).run m (kFa3 c f x u δ K) (kEx δ K)) else False := rfl
def kFa1 (cs : List Str) (f : Str) (e : DE) (δ : DSt) (K : Kt) : D → Mem → Prop := fun x m => ((asI x).bind (augF cs f x (e δ))).run m (fun _ m' => K.nx δ m') (kEx δ K)
theorem augF_run {i : Str × List (Str × D)} : (augF cs f x (e δ) i).run m (fun _ m' => K.nx δ m') (kEx δ K) = kFa2 cs f x e δ K m i.1 i.2 := by
  unfold augF kFa2
  by_cases h : i.1 ∈ cs
  · rw [if_pos h, if_pos h]
    cases i.2.lookup f <;> rfl
  · rw [if_neg h, if_neg h]; rfl
theorem k_FaR : kFa1 cs f e δ K (.ref p) m = onI (m p) (kFa2 cs f (.ref p) e δ K m) := by
  unfold kFa1
  rw [asI_ref]
  congr 1
  funext c fs
  exact augF_run (i := (c, fs))
theorem r_fldaug : (sFldAugD cs f a e).run δ m K = (a δ).run m (kFa1 cs f e δ K) (kEx δ K) := rfl
theorem r_dinL : (dDIn (.str s) (.ldc kv)).run m Q E = Q (.bl (valD kv (.inr s)).isSome) m := rfl
theorem r_dinD : (dDIn (.str s) (.dic kv)).run m Q E = Q (.bl (valD kv (.inr s)).isSome) m := rfl
theorem r_dninL : (dDNotIn (.str s) (.ldc kv)).run m Q E = Q (.bl (!(valD kv (.inr s)).isSome)) m := rfl
theorem r_dninD : (dDNotIn (.str s) (.dic kv)).run m Q E = Q (.bl (!(valD kv (.inr s)).isSome)) m := rfl
theorem r_dgetL : (dGet (.ldc kv) (.str s)).run m Q E = onO (valD kv (.inr s)) (kM m Q) := by
  show (ofO (valD kv (.inr s))).run m Q E = _
  cases valD kv (.inr s) <;> rfl
theorem r_dgetD : (dGet (.dic kv) (.str s)).run m Q E = onO (valD kv (.inr s)) (kM m Q) := by
  show (ofO (valD kv (.inr s))).run m Q E = _
  cases valD kv (.inr s) <;> rfl
theorem r_lenDL : (dLenD [.ldc kv]).run m Q E = Q (.int kv.length) m := rfl
theorem r_lenDD : (dLenD [.dic kv]).run m Q E = Q (.int kv.length) m := rfl
theorem r_dictL : (dDict [.ldc kv]).run m Q E = Q (.dic kv) m := rfl
theorem r_dictD : (dDict [.dic kv]).run m Q E = Q (.dic kv) m := rfl
theorem r_isiLc {T : String} : (dIsi T (.ldc kv)).run m Q E = Q (.bl (isT "dict" T)) m := rfl
theorem r_isi2Lc {T U : String} : (dIsi2 T U (.ldc kv)).run m Q E = Q (.bl (isT "dict" T || isT "dict" U)) m := rfl
theorem r_isTd0 : isT "dict" "dict" = true := by decide
theorem r_isTd1 : isT "dict" "str" = false := by decide
theorem r_isTd2 : isT "dict" "int" = false := by decide
theorem r_isTd3 : isT "dict" "list" = false := by decide
theorem r_isTd4 : isT "dict" "tuple" = false := by decide
theorem sortedD_run {ks : List Str} (h1 : strKeys kv = some ks) (h2 : ks.length < 64) (h3 : ks.all PyData.strOk = true) : (dSortedD [.ldc kv]).run m Q E = Q (.lst ((sortS ks).map D.str)) m := by
  show ((ofO (strKeys kv)).bind fun ks => if ks.length < 64 ∧ ks.all PyData.strOk = true then C.ret (.lst ((sortS ks).map D.str)) else C.stuck : C D).run m Q E = _
  rw [h1]
  show (ite _ _ _ : C D).run m Q E = _
  rw [if_pos ⟨h2, h3⟩]
  rfl
theorem r_newD : (eNewD δ).run m Q E = ∀ p, m p = none → Q (.ref p) (mset m p (.dic [])) := rfl
def kFzL : D → (D → Mem → Prop) → Mem → Prop := fun x Q m => (frzL x).run m Q (fun _ _ => True)
theorem frzL_run (h : m p = some (.dic kv)) : (frzL (.ref p)).run m Q E = Q (.ldc kv) (mdel m p) := run_frzL h
theorem r_frzLs : (frzL (.ref p)).run (mset m p (.dic kv)) Q E = Q (.ldc kv) (mdel (mset m p (.dic kv)) p) := run_frzL mset_same
theorem r_items {QI : List D × Option Addr → Mem → Prop} : (iItemsD a δ).run m QI E = (a δ).run m (kF itemsI QI E) E := rfl
theorem items_run {QI : List D × Option Addr → Mem → Prop} (h : okKeys kv = true) : (itemsI (.ldc kv)).run m QI E = QI (itemsD kv, none) m := by
  show (if okKeys kv = true then C.ret (itemsD kv, none) else C.stuck : C (List D × Option Addr)).run m QI E = _
  rw [if_pos h]
  rfl
theorem r_inK : (dInK tbl (.str s)).run m Q E = Q (.bl (tbl.lookup s).isSome) m := rfl
theorem r_ninK : (dNotInK tbl (.str s)).run m Q E = Q (.bl (!(tbl.lookup s).isSome)) m := rfl
theorem r_getK : (dGetK tbl (.str s)).run m Q E = onO ((tbl.lookup s).map dvD) (kM m Q) := by
  show (ofO ((tbl.lookup s).map dvD)).run m Q E = _
  cases (tbl.lookup s).map dvD <;> rfl
def dispF (l : List (Key × D)) : C D := if l.length ≤ 15 then C.new (.dic (mergeKD [] l)) else C.stuck
theorem r_dispM {ps : List (DE × DE)} : (eDispM ps δ).run m Q E = (pairsD ps δ).run m (kF dispF Q E) E := rfl
def kDp3 (k y : D) (QP : List (Key × D) → Mem → Prop) : List (Key × D) → Mem → Prop := fun l m => onO (keyD k) fun q => QP ((q, y) :: l) m
def kDp2 (k : D) (r : List (DE × DE)) (δ : DSt) (QP : List (Key × D) → Mem → Prop) (E : Xn → Mem → Prop) : D → Mem → Prop := fun y m => onO (keyD k) fun q => (pairsD r δ).run m (fun l m' => QP ((q, y) :: l) m') E
theorem k_Dp2 {r : List (DE × DE)} {QP : List (Key × D) → Mem → Prop} : kDp2 (.str s) r δ QP E y m = (pairsD r δ).run m (fun l m' => QP ((.inr s, y) :: l) m') E := rfl
def kDp1 (v : DE) (r : List (DE × DE)) (δ : DSt) (QP : List (Key × D) → Mem → Prop) (E : Xn → Mem → Prop) : D → Mem → Prop := fun k m => (v δ).run m (kDp2 k r δ QP E) E
theorem k_Dp1 {v : DE} {r : List (DE × DE)} {QP : List (Key × D) → Mem → Prop} : kDp1 v r δ QP E x m = (v δ).run m (kDp2 x r δ QP E) E := rfl
theorem r_pairsN {QP : List (Key × D) → Mem → Prop} : (pairsD [] δ).run m QP E = QP [] m := rfl
theorem r_pairsC {k v : DE} {r : List (DE × DE)} {QP : List (Key × D) → Mem → Prop} : (pairsD ((k, v) :: r) δ).run m QP E = (k δ).run m (kDp1 v r δ QP E) E := by
  show ((k δ).bind fun x => (v δ).bind fun y => (ofO (keyD x)).bind fun q => (pairsD r δ).bind fun l => C.ret ((q, y) :: l)).run m QP E = _
  show (k δ).run m (fun x m' => (v δ).run m' (fun y m'' => ((ofO (keyD x)).bind fun q => (pairsD r δ).bind fun l => C.ret ((q, y) :: l)).run m'' QP E) E) E = _
  unfold kDp1 kDp2
  congr 1
  funext x m'
  congr 1
  funext y m''
  cases keyD x <;> rfl
theorem r_dispF1 {k : Key} : (dispF [(k, y)]).run m Q E = ∀ p, m p = none → Q (.ref p) (mset m p (.dic [(k, y)])) := rfl
theorem r_gTn {r : List D → DSt → C DSt} (h : l.length = n) : (gTn n r (.tup l) δ).run m QS E = (r l δ).run m QS E := by
  show (if l.length = n then r l δ else C.stuck : C DSt).run m QS E = _
  rw [if_pos h]
def kGf1 (cs : List Str) (f : Str) (d : D) (δ : DSt) (QS : DSt → Mem → Prop) (E : Xn → Mem → Prop) : D → Mem → Prop := fun x m => (dSetFld cs f x d).run m (fun _ m' => QS δ m') E
theorem k_Gf1 : kGf1 cs f y δ QS E x m = (dSetFld cs f x y).run m (fun _ m' => QS δ m') E := rfl
theorem r_gFld : (gFld cs f a y δ).run m QS E = (a δ).run m (kGf1 cs f y δ QS E) E := rfl
theorem frzF_run {k : Nat} {b : Addr} (h1 : δ[k]? = some (some (.ref p))) (h2 : m p = some (.ins c fs)) (h3 : fs.lookup f = some (.ref b)) (h4 : m b = some (.lst l)) :
    (sFrzF k f).run δ m K = K.nx δ (mdel (mset m p (.ins c (putD f (.lst l) fs))) b) := run_sFrzF h1 h2 h3 h4
theorem while_run {t : DT} {bd : CS} (I : Nat → DSt → Mem → Prop) {n : Nat} (h0 : I n δ m) (h : ∀ n δ m, I n δ m → (t δ).run m (fun c m' => if c = true then bd.run δ m' (K.loop fun δ' m'' => ∃ n', n' < n ∧ I n' δ' m'') else K.nx δ m') (kEx δ K)) : (sWhile t bd).run δ m K :=
  ⟨I, ⟨n, h0⟩, h⟩
end
theorem lcS_go {α : Type} {enc out : α → D} {w : List D} {g : DG} {e : DE} {δ : DSt} {QL : List D → Mem → Prop} {E : Xn → Mem → Prop} (I : List α → Mem → Prop) {xs : List α}
    (hs : ∀ pre x r, xs = pre ++ x :: r → ∀ m, I pre m → (g (enc x) δ).run m (fun δ' m' => (e δ').run m' (fun y m'' => y = out x ∧ I (pre ++ [x]) m'') E) E)
    (hq : ∀ m, I xs m → QL (xs.map out) m) : ∀ (r pre : List α) (m : Mem), xs = pre ++ r → I pre m → (lcD w none g tTrue e δ (r.map enc) (pre.map out)).run m QL E
  | [], pre, m, h, hI => by
    rw [List.append_nil] at h
    subst h
    exact ⟨trivial, hq m hI⟩
  | x :: r, pre, m, h, hI => by
    refine ⟨trivial, ?_⟩
    refine C.mono (g (enc x) δ) (fun δ' m' h1 => ?_) (fun _ _ z => z) (hs pre x r h m hI)
    show (e δ').run m' (fun y m'' => (lcD w none g tTrue e δ (r.map enc) (pre.map out ++ [y])).run m'' QL E) E
    refine C.mono (e δ') (fun y m'' h2 => ?_) (fun _ _ z => z) h1
    obtain ⟨rfl, h2⟩ := h2
    have e2 : pre.map out ++ [out x] = (pre ++ [x]).map out := by rw [List.map_append]; rfl
    rw [e2]
    exact lcS_go I hs hq r (pre ++ [x]) m'' (by rw [h, List.append_assoc]; rfl) h2
theorem lc_st {α : Type} {enc out : α → D} {kk : List D → C D} {g : DG} {vs : List Nat} {a : DE} {δ : DSt} {xs : List α} {m : Mem} {Q : D → Mem → Prop} {E : Xn → Mem → Prop} (I : List α → Mem → Prop) (hl : xs.length ≤ sizeLine) (h0 : I [] m)
    (hs : ∀ pre x r, xs = pre ++ x :: r → ∀ m, I pre m → (g (enc x) (wipeD δ vs)).run m (fun δ' m' => (a δ').run m' (fun y m'' => y = out x ∧ I (pre ++ [x]) m'') (fun _ _ => False)) (fun _ _ => False))
    (q : ∀ m', I xs m' → (kk (xs.map out)).run m' Q E) : kLc kk g tTrue a vs δ Q E (xs.map enc, none) m := by
  show (ite _ _ _ : C D).run m Q E
  rw [if_pos (by rw [List.length_map]; exact hl)]
  exact lcS_go (QL := fun l m' => (kk l).run m' Q E) I hs q xs [] m rfl h0
theorem lc_mp {α : Type} {enc out : α → D} {kk : List D → C D} {g : DG} {vs : List Nat} {a : DE} {δ : DSt} {xs : List α} {m : Mem} {Q : D → Mem → Prop} {E : Xn → Mem → Prop} (hl : xs.length ≤ sizeLine)
    (hs : ∀ x ∈ xs, ∀ Y : D → Mem → Prop, Y (out x) m → (g (enc x) (wipeD δ vs)).run m (fun δ' m' => (a δ').run m' Y (fun _ _ => False)) (fun _ _ => False))
    (q : (kk (xs.map out)).run m Q E) : kLc kk g tTrue a vs δ Q E (xs.map enc, none) m :=
  lc_st (out := out) (fun _ m' => m' = m) hl rfl (fun pre x r h m' hm => by subst hm; exact hs x (by rw [h]; simp) _ ⟨rfl, rfl⟩) (fun m' hm => by subst hm; exact q)
end DL

namespace My
open PySem DL L2
inductive Sm where
  | wr (c : Str) (t : D)
  | gt (l c : Str)
  | st (l : Str) (t : D)
  | ite (l : Str) (t : D) (y n : List Sm)
  | whl (l : Str) (t : D) (b : List Sm)
  | rt (t : D)
def Sm.subs : Sm → List (List Sm)
  | .ite _ _ y n => [y, n]
  | .whl _ _ b => [b]
  | _ => []
mutual
def enc : Sm → D
  | .wr c t => .tup [.str "write", .str c, t]
  | .gt l c => .tup [.str "get", .str l, .str c]
  | .st l t => .tup [.str "set", .str l, t]
  | .ite l t y n => .tup [.str "if", .str l, t, .tup (encs y), .tup (encs n)]
  | .whl l t b => .tup [.str "while", .str l, t, .tup (encs b)]
  | .rt t => .tup [.str "return", t]
def encs : List Sm → List D
  | [] => []
  | s :: r => enc s :: encs r
end
theorem encs_map : ∀ l : List Sm, encs l = l.map enc
  | [] => by simp [encs]
  | s :: r => by rw [encs, encs_map r]; rfl
def blkD (b : List Sm) : D := .tup (b.map enc)
theorem enc_wr {c : Str} {t : D} : enc (.wr c t) = .tup [.str "write", .str c, t] := by simp only [enc]
theorem enc_gt {l c : Str} : enc (.gt l c) = .tup [.str "get", .str l, .str c] := by simp only [enc]
theorem enc_st {l : Str} {t : D} : enc (.st l t) = .tup [.str "set", .str l, t] := by simp only [enc]
theorem enc_ite {l : Str} {t : D} {y n : List Sm} : enc (.ite l t y n) = .tup [.str "if", .str l, t, blkD y, blkD n] := by simp only [enc, encs_map, blkD]
theorem enc_whl {l : Str} {t : D} {b : List Sm} : enc (.whl l t b) = .tup [.str "while", .str l, t, blkD b] := by simp only [enc, encs_map, blkD]
theorem enc_rt {t : D} : enc (.rt t) = .tup [.str "return", t] := by simp only [enc]
mutual
def cnt : Sm → Nat
  | .ite _ _ y n => 1 + (cnts y + cnts n)
  | .whl _ _ b => 1 + cnts b
  | _ => 1
def cnts : List Sm → Nat
  | [] => 0
  | s :: r => cnt s + cnts r
end
mutual
def dep : Sm → Nat
  | .ite _ _ y n => 1 + max (deps y) (deps n)
  | .whl _ _ b => 1 + deps b
  | _ => 0
def deps : List Sm → Nat
  | [] => 0
  | s :: r => max (dep s) (deps r)
end
theorem cnts_nil : cnts [] = 0 := by simp only [cnts]
theorem cnts_cons {s : Sm} {r : List Sm} : cnts (s :: r) = cnt s + cnts r := by simp only [cnts]
theorem cnt_ite {l : Str} {t : D} {y n : List Sm} : cnt (.ite l t y n) = 1 + (cnts y + cnts n) := by simp only [cnt]
theorem cnt_whl {l : Str} {t : D} {b : List Sm} : cnt (.whl l t b) = 1 + cnts b := by simp only [cnt]
theorem cnt_pos (s : Sm) : 1 ≤ cnt s := by cases s <;> simp only [cnt] <;> omega
theorem cnt_subs (s : Sm) : cnt s = 1 + (s.subs.map cnts).sum := by
  cases s <;> simp [cnt, Sm.subs]
theorem cnts_append : ∀ {a b : List Sm}, cnts (a ++ b) = cnts a + cnts b
  | [], b => by simp [cnts]
  | s :: r, b => by rw [List.cons_append, cnts_cons, cnts_cons, cnts_append]; omega
theorem length_cnts : ∀ l : List Sm, l.length ≤ cnts l
  | [] => by simp
  | s :: r => by rw [cnts_cons, List.length_cons]; have := length_cnts r; have := cnt_pos s; omega
theorem cnts_sum : ∀ l : List Sm, cnts l = (l.map cnt).sum
  | [] => by simp [cnts]
  | s :: r => by rw [cnts_cons, cnts_sum r]; simp
theorem deps_mem : ∀ {l : List Sm} {s : Sm}, s ∈ l → dep s ≤ deps l
  | s :: r, x, h => by
    simp only [deps]
    rcases List.mem_cons.mp h with rfl | h
    · omega
    · have := deps_mem h; omega
theorem dep_subs {s : Sm} {b : List Sm} (h : b ∈ s.subs) : deps b + 1 ≤ dep s := by
  cases s <;> simp [Sm.subs] at h
  · rcases h with rfl | rfl <;> simp only [dep] <;> omega
  · subst h; simp only [dep]; omega
theorem cnts_mem : ∀ {l : List Sm} {s : Sm}, s ∈ l → cnt s ≤ cnts l
  | s :: r, x, h => by
    rw [cnts_cons]
    rcases List.mem_cons.mp h with rfl | h
    · omega
    · have := cnts_mem h; omega
mutual
def endsS : Sm → Bool
  | .ite _ _ y n => endsB y && endsB n
  | .rt _ => true
  | _ => false
def endsB : List Sm → Bool
  | [] => false
  | s :: r => if r.isEmpty then endsS s else endsB r
end
theorem endsB_nil : endsB [] = false := by simp only [endsB]
theorem endsB_last : ∀ {l : List Sm} {s : Sm}, endsB (l ++ [s]) = endsS s
  | [], s => by simp [endsB]
  | a :: r, s => by
    rw [List.cons_append, endsB]
    have : (r ++ [s]).isEmpty = false := by cases r <;> rfl
    rw [this, endsB_last]
    rfl
mutual
def bareS : Sm → Bool
  | .ite _ _ y n => bareB y || bareB n
  | .st _ _ => true
  | .whl _ _ _ => true
  | _ => false
def bareB : List Sm → Bool
  | [] => true
  | s :: r => bareS s && bareB r
end
theorem bareB_nil : bareB [] = true := by simp only [bareB]
theorem bareB_cons {s : Sm} {r : List Sm} : bareB (s :: r) = (bareS s && bareB r) := by simp only [bareB]
/-- the place behind, and the first flaw -/
abbrev FR := Nat × Option (Nat × Str)
mutual
def flawS : Sm → Nat → FR
  | .ite _ _ y n, pl => match flawB y (pl + 1) false with
    | (q, some f) => (q, some f)
    | (q, none) => flawB n q false
  | .whl _ _ b, pl => if bareB b = true then (pl + 1, some (pl, "idle")) else flawB b (pl + 1) false
  | .wr _ _, pl => (pl + 1, none)
  | .gt _ _, pl => (pl + 1, none)
  | .st _ _, pl => (pl + 1, none)
  | .rt _, pl => (pl + 1, none)
def flawB : List Sm → Nat → Bool → FR
  | [], pl, _ => (pl, none)
  | s :: r, pl, e => if e = true then (pl + 1, some (pl, "dead")) else match flawS s pl with
    | (q, some f) => (q, some f)
    | (q, none) => flawB r q (endsS s)
end
def frD : FR → D
  | (q, some (p, w)) => .tup [.int q, .tup [.int p, .str w]]
  | (q, none) => .tup [.int q, .non]
mutual
def rowsS : Sm → Int → Int → List D
  | .ite l t y n, pl, af => .tup [.str "if", .str l, t, .int (if y.isEmpty then af else pl + 1), .int (if n.isEmpty then af else pl + 1 + cnts y)] :: (rowsB y (pl + 1) af ++ rowsB n (pl + 1 + cnts y) af)
  | .whl l t b, pl, af => .tup [.str "while", .str l, t, .int (pl + 1), .int af] :: rowsB b (pl + 1) pl
  | .rt t, _, _ => [.tup [.str "return", .str "", t, .int (-1), .int (-1)]]
  | .wr c t, _, af => [.tup [.str "write", .str c, t, .int af, .int af]]
  | .gt l c, _, af => [.tup [.str "get", .str l, .str c, .int af, .int af]]
  | .st l t, _, af => [.tup [.str "set", .str l, t, .int af, .int af]]
def rowsB : List Sm → Int → Int → List D
  | [], _, _ => []
  | s :: r, pl, be => rowsS s pl (if r.isEmpty then be else pl + cnt s) ++ rowsB r (pl + cnt s) be
end
theorem rowsB_cons {s : Sm} {r : List Sm} {pl be : Int} : rowsB (s :: r) pl be = rowsS s pl (if r.isEmpty then be else pl + cnt s) ++ rowsB r (pl + cnt s) be := by rw [rowsB]
theorem rowsB_nil {pl be : Int} : rowsB [] pl be = [] := by rw [rowsB]
/-- a term of the side, over the variables -/
def tmB (sd : Str) (vs : List Str) : D → Bool
  | .int i => decide (0 ≤ i ∧ i ≤ 3)
  | .str x => decide (x ∈ vs) || (decide (x = "new") && decide (sd = "writer"))
  | .tup [.str p, .str x, .int k] => decide (p = "plus") && (decide (x ∈ vs) && decide (0 ≤ k ∧ k ≤ 3))
  | _ => false
def ltrs : Str := "abcdefghijklmnopqrstuvwxyz"
def nmB (n : Str) : Bool := decide (1 ≤ n.length) && (decide (n.length ≤ 8) && n.cps.toList.all fun c => decide (c ∈ ltrs.cps.toList))
mutual
def okSm (sd : Str) (vs : List Str) : Nat → Sm → Bool
  | _, .wr c t => nmB c && tmB sd vs t
  | _, .gt l c => decide (l ∈ vs) && nmB c
  | _, .st l t => decide (l ∈ vs) && tmB sd vs t
  | d, .ite l t y n => decide (l ∈ vs) && (tmB sd vs t && (decide (d < 3) && (okBk sd vs (d + 1) y && okBk sd vs (d + 1) n)))
  | d, .whl l t b => decide (l ∈ vs) && (tmB sd vs t && (decide (d < 3) && okBk sd vs (d + 1) b))
  | _, .rt t => decide (sd = "reader") && tmB sd vs t
def okBk (sd : Str) (vs : List Str) : Nat → List Sm → Bool
  | _, [] => true
  | d, s :: r => okSm sd vs d s && okBk sd vs d r
end
theorem okBk_cons {sd : Str} {vs : List Str} {d : Nat} {s : Sm} {r : List Sm} : okBk sd vs d (s :: r) = (okSm sd vs d s && okBk sd vs d r) := by simp only [okBk]
theorem okBk_nil {sd : Str} {vs : List Str} {d : Nat} : okBk sd vs d [] = true := by simp only [okBk]
theorem okBk_mem {sd : Str} {vs : List Str} {d : Nat} : ∀ {l : List Sm} {s : Sm}, okBk sd vs d l = true → s ∈ l → okSm sd vs d s = true
  | s :: r, x, h, hm => by
    rw [okBk_cons, Bool.and_eq_true] at h
    rcases List.mem_cons.mp hm with rfl | hm
    · exact h.1
    · exact okBk_mem h.2 hm
end My

namespace My
open PySem DL L2
theorem cut3_2 {a b : D} : cutD [a, b] (some 3) none = [] := by simp [cutD, HT.sIx]
theorem cut3_3 {a b c : D} : cutD [a, b, c] (some 3) none = [] := by simp [cutD, HT.sIx]
theorem cut3_4 {a b c d : D} : cutD [a, b, c, d] (some 3) none = [d] := by simp [cutD, HT.sIx]
theorem cut3_5 {a b c d e : D} : cutD [a, b, c, d, e] (some 3) none = [d, e] := by simp [cutD, HT.sIx]
theorem cutr3_2 {a b : D} : cutD [a, b] none (some 3) = [a, b] := by simp [cutD, HT.sIx]
theorem cutr3_3 {a b c : D} : cutD [a, b, c] none (some 3) = [a, b, c] := by simp [cutD, HT.sIx]
theorem cutr3_4 {a b c d : D} : cutD [a, b, c, d] none (some 3) = [a, b, c] := by simp [cutD, HT.sIx]
theorem cutr3_5 {a b c d e : D} : cutD [a, b, c, d, e] none (some 3) = [a, b, c] := by simp [cutD, HT.sIx]
theorem atm1_2 {a b : D} : atI [a, b] (-1) = some b := r_atm1 (l := [a])
end My
namespace My
open PySem DL L2
theorem allInt_map : ∀ ns : List Int, allInt (ns.map D.int) = some ns
  | [] => rfl
  | i :: r => by
    show (allInt (r.map D.int)).map (i :: ·) = _
    rw [allInt_map r]
    rfl
theorem sum_run {ns : List Int} {m : Mem} {Q : D → Mem → Prop} {E : Xn → Mem → Prop} : (dSum [.lst (ns.map D.int)]).run m Q E = Q (.int ns.sum) m := by
  show ((asL (.lst (ns.map D.int))).bind fun l => (ofO (allInt l)).bind fun ns => C.ret (.int ns.sum) : C D).run m Q E = _
  rw [asL_lst]
  show ((ofO (allInt (ns.map D.int))).bind fun ns => C.ret (.int ns.sum) : C D).run m Q E = _
  rw [allInt_map]
  rfl
theorem len_blk (b : List Sm) : (b.map enc).length = b.length := List.length_map ..
section
variable {m : Mem} {Q : D → Mem → Prop} {E : Xn → Mem → Prop} {b : List Sm}
theorem r_seqB {QI : List D × Option Addr → Mem → Prop} : (seqI (blkD b)).run m QI E = QI (b.map enc, none) m := rfl
theorem r_lenB : (dLen [blkD b]).run m Q E = Q (.int b.length) m := by
  show Q (.int (b.map enc).length) m = _
  rw [List.length_map]
theorem r_ixB {i : Int} : (dIx (blkD b) (.int i)).run m Q E = onO (atI (b.map enc) i) (kM m Q) := by
  show (ofO (atI (b.map enc) i)).run m Q E = _
  cases atI (b.map enc) i <;> rfl
theorem r_isB {T : String} : (dIsi T (blkD b)).run m Q E = Q (.bl (isT "tuple" T)) m := rfl
theorem r_is2B {T U : String} : (dIsi2 T U (blkD b)).run m Q E = Q (.bl (isT "tuple" T || isT "tuple" U)) m := rfl
theorem r_sl3 {s : Sm} : (dSl (enc s) (some 3) none).run m Q E = Q (.tup (s.subs.map blkD)) m := by
  cases s <;> simp only [enc_wr, enc_gt, enc_st, enc_ite, enc_whl, enc_rt] <;> (show Q (.tup (cutD _ _ _)) m = _) <;> simp only [cut3_2, cut3_3, cut3_4, cut3_5] <;> rfl
theorem subs_run {f : List D → C D} {out : List Sm → D} {s : Sm} {δ : DSt} {k : Nat} (h : ∀ b ∈ s.subs, Ret (f [blkD b]) (out b)) (hk : k < δ.length)
    (q : Q (.lst (s.subs.map out)) m) : kLc retL (gN k) tTrue (eCall 1 [] f (aCons (eVar k) aNil)) [k] δ Q E (s.subs.map blkD, none) m := by
  refine lc_mp (xs := s.subs) (enc := blkD) (out := out) ?_ (fun b hb Y y => ?_) q
  · cases s <;> simp [Sm.subs, sizeLine_eq]
  · have h2 : ((List.set δ k none).set k (some (blkD b)))[k]? = some (some (blkD b)) := by
      have : k < (List.set δ k none).length := by simp only [List.length_set]; exact hk
      rw [List.getElem?_set_self this]
    show (eCall 1 [] f (aCons (eVar k) aNil) ((List.set δ k none).set k (some (blkD b)))).run m Y (fun _ _ => False)
    rw [r_call, r_cons, r_var, h2, k_onV, k_A, r_nil, k_A2, k_F, r_callF (show [blkD b].length = 1 from rfl)]
    exact h b hb m Y _ y
theorem ints_eq {α : Type} (f : α → Int) (l : List α) : (l.map fun x => D.int (f x)) = (l.map f).map D.int := by rw [List.map_map]; rfl
theorem sumf_run {α : Type} {f : α → Int} {l : List α} : (dSum [.lst (l.map fun x => D.int (f x))]).run m Q E = Q (.int (l.map f).sum) m := by rw [ints_eq, sum_run]
theorem sum_subs (s : Sm) : ((s.subs.map fun b => (cnts b : Int)).sum) = (cnt s : Int) - 1 := by
  rw [cnt_subs]
  cases s <;> simp [Sm.subs] <;> omega
theorem sum_cnt (b : List Sm) : ((b.map fun s => (cnt s : Int)).sum) = (cnts b : Int) := by
  induction b with
  | nil => simp [cnts_nil]
  | cons s r ih => rw [List.map_cons, List.sum_cons, ih, cnts_cons]; omega
theorem r_enumB {QI : List D × Option Addr → Mem → Prop} : (enumJ [blkD b]).run m QI E = QI (enumD (b.map enc), none) m := rfl
end
end My

namespace My
open PySem DL L2
theorem endsS_wr {c : Str} {t : D} : endsS (.wr c t) = false := by simp only [endsS]
theorem endsS_gt {l c : Str} : endsS (.gt l c) = false := by simp only [endsS]
theorem endsS_st {l : Str} {t : D} : endsS (.st l t) = false := by simp only [endsS]
theorem endsS_ite {l : Str} {t : D} {y n : List Sm} : endsS (.ite l t y n) = (endsB y && endsB n) := by simp only [endsS]
theorem endsS_whl {l : Str} {t : D} {b : List Sm} : endsS (.whl l t b) = false := by simp only [endsS]
theorem endsS_rt {t : D} : endsS (.rt t) = true := by simp only [endsS]
theorem bareS_wr {c : Str} {t : D} : bareS (.wr c t) = false := by simp only [bareS]
theorem bareS_gt {l c : Str} : bareS (.gt l c) = false := by simp only [bareS]
theorem bareS_st {l : Str} {t : D} : bareS (.st l t) = true := by simp only [bareS]
theorem bareS_ite {l : Str} {t : D} {y n : List Sm} : bareS (.ite l t y n) = (bareB y || bareB n) := by simp only [bareS]
theorem bareS_whl {l : Str} {t : D} {b : List Sm} : bareS (.whl l t b) = true := by simp only [bareS]
theorem bareS_rt {t : D} : bareS (.rt t) = false := by simp only [bareS]
theorem bareB_append : ∀ {a b : List Sm}, bareB (a ++ b) = (bareB a && bareB b)
  | [], b => by simp [bareB_nil]
  | s :: r, b => by rw [List.cons_append, bareB_cons, bareB_cons, bareB_append, Bool.and_assoc]
theorem bareB_split {pre r : List Sm} {s : Sm} (h : bareS s = false) : bareB (pre ++ s :: r) = false := by
  rw [bareB_append, bareB_cons, h, Bool.false_and, Bool.and_false]
theorem dep_ite1 {l : Str} {t : D} {y n : List Sm} : deps y + 1 ≤ dep (.ite l t y n) := dep_subs (by simp [Sm.subs])
theorem dep_ite2 {l : Str} {t : D} {y n : List Sm} : deps n + 1 ≤ dep (.ite l t y n) := dep_subs (by simp [Sm.subs])
theorem dep_whl1 {l : Str} {t : D} {b : List Sm} : deps b + 1 ≤ dep (.whl l t b) := dep_subs (by simp [Sm.subs])
theorem enc_last (l : List Sm) (s : Sm) : atI ((l ++ [s]).map enc) (-1) = some (enc s) := by
  rw [List.map_append]
  exact r_atm1
end My

namespace My
open PySem DL L2
theorem for_suf {α : Type} {enc : α → D} {w : List D} {g : DG} {b : CS} {K : Kt} {xs : List α} {δ : DSt} {m : Mem} (I : List α → DSt → Mem → Prop) (h0 : I xs δ m)
    (hs : ∀ (x : α) (r : List α) (δ : DSt) (m : Mem), (∃ pre, xs = pre ++ x :: r) → I (x :: r) δ m → (g (enc x) δ).run m (kBody b (K.loop (I r))) (kEx δ K))
    (he : ∀ (δ : DSt) (m : Mem), I [] δ m → K.nx δ m) : forD w none g b K (xs.map enc) δ m := by
  refine for_map (enc := enc) (xs := xs) (fun pre δ m => ∃ r, xs = pre ++ r ∧ I r δ m) ⟨xs, rfl, h0⟩ ?_ ?_
  · rintro pre x r δ m hsp ⟨r', h1, hI⟩
    have e : r' = x :: r := by rw [hsp] at h1; exact (List.append_cancel_left h1).symm
    subst e
    refine C.mono _ (fun δ' m' h => ?_) (fun _ _ z => z) (hs x r δ m ⟨pre, hsp⟩ hI)
    exact CS.mono _ (Kt.loop_le fun δ m h => ⟨r, by rw [hsp, List.append_assoc]; rfl, h⟩) h
  · rintro δ m ⟨r, h1, hI⟩
    have e : r = [] := by
      have := congrArg List.length h1
      rw [List.length_append] at this
      exact List.length_eq_zero_iff.mp (by omega)
    subst e
    exact he δ m hI
def flawL : List (List Sm) → Nat → FR
  | [], q => (q, none)
  | b :: r, q => match flawB b q false with
    | (q', some f) => (q', some f)
    | (q', none) => flawL r q'
theorem flawB_nil {pl : Nat} {e : Bool} : flawB [] pl e = (pl, none) := by rw [flawB]
theorem flawB_dead {s : Sm} {r : List Sm} {pl : Nat} : flawB (s :: r) pl true = (pl + 1, some (pl, ("dead" : Str))) := by rw [flawB]; rfl
theorem flawB_some {s : Sm} {r : List Sm} {pl q : Nat} {f : Nat × Str} (h : flawS s pl = (q, some f)) : flawB (s :: r) pl false = (q, some f) := by rw [flawB, h]; rfl
theorem flawB_none {s : Sm} {r : List Sm} {pl q : Nat} (h : flawS s pl = (q, none)) : flawB (s :: r) pl false = flawB r q (endsS s) := by rw [flawB, h]; rfl
def idleS : Sm → Bool
  | .whl _ _ b => bareB b
  | _ => false
theorem flawS_idle {s : Sm} {pl : Nat} (h : idleS s = true) : flawS s pl = (pl + 1, some (pl, ("idle" : Str))) := by
  cases s <;> simp only [idleS] at h <;> first | cases h | skip
  rw [flawS, if_pos h]
theorem flawL_cons {b : List Sm} {r : List (List Sm)} {q q' : Nat} (h : flawB b q false = (q', none)) : flawL (b :: r) q = flawL r q' := by rw [flawL, h]
theorem flawL_some {b : List Sm} {r : List (List Sm)} {q q' : Nat} {f : Nat × Str} (h : flawB b q false = (q', some f)) : flawL (b :: r) q = (q', some f) := by rw [flawL, h]
theorem flawS_subs {s : Sm} {pl : Nat} (h : idleS s = false) : flawS s pl = flawL s.subs (pl + 1) := by
  cases s with
  | ite l t y n =>
    rw [flawS]
    simp only [Sm.subs]
    rw [flawL]
    cases flawB y (pl + 1) false with
    | mk q o =>
      cases o with
      | some f => rfl
      | none =>
        simp only []
        rw [flawL]
        cases flawB n q false with
        | mk q2 o2 => cases o2 <;> rfl
  | whl l t b =>
    simp only [idleS] at h
    rw [flawS, if_neg (by rw [h]; decide)]
    simp only [Sm.subs]
    rw [flawL]
    cases flawB b (pl + 1) false with
    | mk q o => cases o <;> rfl
  | wr c t => rw [flawS]; rfl
  | gt c t => rw [flawS]; rfl
  | st c t => rw [flawS]; rfl
  | rt t => rw [flawS]; rfl
theorem frD_some {q p : Nat} {w : Str} : frD (q, some (p, w)) = .tup [.int q, .tup [.int p, .str w]] := rfl
theorem frD_none {q : Nat} : frD (q, none) = .tup [.int q, .non] := rfl
end My
namespace My
open PySem DL L2
theorem mset_id {m : Mem} {a : Addr} {o : MO} (h : m a = some o) : mset m a o = m := by
  funext b
  unfold mset
  split
  · rename_i e; rw [e, h]
  · rfl
theorem rows_len : ∀ n : Nat, (∀ b : List Sm, cnts b ≤ n → ∀ pl be : Int, (rowsB b pl be).length = cnts b) ∧ ∀ s : Sm, cnt s ≤ n → ∀ pl af : Int, (rowsS s pl af).length = cnt s := by
  intro n
  induction n with
  | zero =>
    refine ⟨fun b h pl be => ?_, fun s h => ?_⟩
    · cases b with
      | nil => simp [rowsB, cnts]
      | cons s r => rw [cnts_cons] at h; have := cnt_pos s; omega
    · have := cnt_pos s; omega
  | succ n ih =>
    have hS : ∀ s : Sm, cnt s ≤ n + 1 → ∀ pl af : Int, (rowsS s pl af).length = cnt s := by
      intro s h pl af
      cases s with
      | ite l t y k =>
        rw [cnt_ite] at h
        rw [rowsS, cnt_ite, List.length_cons, List.length_append, ih.1 y (by omega), ih.1 k (by omega)]
        omega
      | whl l t b =>
        rw [cnt_whl] at h
        rw [rowsS, cnt_whl, List.length_cons, ih.1 b (by omega)]
        omega
      | _ => simp [rowsS, cnt]
    refine ⟨fun b => ?_, hS⟩
    induction b with
    | nil => intro h pl be; simp [rowsB, cnts]
    | cons s r ihr =>
      intro h pl be
      rw [cnts_cons] at h
      have := cnt_pos s
      rw [rowsB_cons, List.length_append, cnts_cons, hS s (by omega), ihr (by omega)]
theorem rowsB_len (b : List Sm) (pl be : Int) : (rowsB b pl be).length = cnts b := (rows_len (cnts b)).1 b (Nat.le_refl _) pl be
theorem rowsS_len (s : Sm) (pl af : Int) : (rowsS s pl af).length = cnt s := (rows_len (cnt s)).2 s (Nat.le_refl _) pl af
end My
namespace My
open PySem DL L2
theorem eif_int {a b : DE} {δ : DSt} {Q : D → Mem → Prop} {E : Xn → Mem → Prop} {c : Bool} {m : Mem} {i j : Int} (h1 : (a δ).run m Q E = Q (.int i) m) (h2 : (b δ).run m Q E = Q (.int j) m) : kEIf a b δ Q E c m = Q (.int (if c = true then i else j)) m := by
  cases c with
  | true => exact h1
  | false => exact h2
end My
namespace My
open PySem DL L2
theorem r_addTT {l1 l2 : List D} {m : Mem} {Q : D → Mem → Prop} {E : Xn → Mem → Prop} (h : l1.length + l2.length ≤ sizeLine) : (dAdd (.tup l1) (.tup l2)).run m Q E = Q (.tup (l1 ++ l2)) m := by
  show (ite _ _ _ : C D).run m Q E = _
  rw [if_pos h]
  rfl
end My
namespace My
open PySem DL L2
theorem app_run {y : D} {p : Addr} {m : Mem} {Q : D → Mem → Prop} {l : List D} (h : l.length < sizeLine) : kApp y p m Q l = Q .non (mset m p (.lst (l ++ [y]))) := by
  unfold kApp
  first | rw [if_pos h] | simp [h]
end My
namespace My
open PySem DL L2
theorem dvD_int {i : Int} : dvD (.int i) = .int i := rfl
theorem dvD_str {s : Str} : dvD (.str s) = .str s := rfl
end My

namespace My
open PySem DL L2
abbrev Sto := List (Str × Int × Int)
def nmsOf (st : Sto) : List Str := st.map (·.1)
def kvOf (st : Sto) : List (Key × D) := st.map fun p => (.inr p.1, .tup [.int p.2.1, .int p.2.2])
structure StOk (st : Sto) : Prop where
  four : st.length ≤ 4
  nm : ∀ p ∈ st, nmB p.1 = true
  new : ∀ p ∈ st, p.1 ≠ "new"
  sz : ∀ p ∈ st, 2 ≤ p.2.1 ∧ p.2.1 ≤ 4
  sa : ∀ p ∈ st, 0 ≤ p.2.2 ∧ p.2.2 ≤ p.2.1 - 1
def szOf (st : Sto) (n : Str) : Int := ((st.lookup n).getD (0, 0)).1
def saOf (st : Sto) (n : Str) : Int := ((st.lookup n).getD (0, 0)).2
def snms (st : Sto) : List Str := sortS (nmsOf st)
def namesD (st : Sto) : D := .lst ((snms st).map D.str)
def sizesD (st : Sto) : D := .lst ((snms st).map fun n => .int (szOf st n))
def rowD (st : Sto) (n : Str) : D := .tup [.str n, .int (szOf st n), .int (saOf st n)]
def storeD (st : Sto) : D := .tup ((snms st).map (rowD st))
theorem valD_kvOf : ∀ (st : Sto) (n : Str), valD (kvOf st) (.inr n) = (st.lookup n).map fun p => .tup [.int p.1, .int p.2]
  | [], n => rfl
  | (k, s, a) :: r, n => by
    unfold valD kvOf
    rw [List.map_cons, List.find?_cons, List.lookup_cons]
    by_cases h : k = n
    · subst h
      simp
    · have h1 : decide ((Sum.inr k : Key) = Sum.inr n) = false := decide_eq_false fun z => h (Sum.inr.inj z)
      have h2 : (n == k) = false := by simpa using fun z => h z.symm
      simp only [h1, h2]
      exact valD_kvOf r n
theorem lookup_mem : ∀ (st : Sto) (n : Str), (st.lookup n).isSome = decide (n ∈ nmsOf st)
  | [], n => rfl
  | (k, s, a) :: r, n => by
    rw [List.lookup_cons]
    unfold nmsOf
    rw [List.map_cons]
    by_cases h : n = k
    · subst h
      simp
    · have h2 : (n == k) = false := by simpa using h
      rw [h2]
      simp only []
      rw [lookup_mem r n]
      unfold nmsOf
      simp [h]
theorem lookup_in {st : Sto} {n : Str} {p : Int × Int} (h : st.lookup n = some p) : (n, p) ∈ st := PySem.mem_of_lookup h
theorem strKeys_kvOf : ∀ st : Sto, strKeys (kvOf st) = some (nmsOf st)
  | [] => rfl
  | (k, s, a) :: r => by
    show (strKeys (kvOf r)).map (k :: ·) = _
    rw [strKeys_kvOf r]
    rfl
theorem nmB_ok {s : Str} (h : nmB s = true) : PyData.strOk s = true := by
  unfold nmB at h
  rw [Bool.and_eq_true, Bool.and_eq_true] at h
  have h2 := List.all_eq_true.mp h.2.2
  have hl : ∀ c ∈ ltrs.cps.toList, c < 128 := by decide +kernel
  unfold PyData.strOk
  first
    | (rw [Array.all_eq_true']; intro c hc; have := hl c (of_decide_eq_true (h2 c (by simpa using hc))); simp; omega)
    | (simp only [Array.all_eq_true_iff_forall_mem, List.all_eq_true]; intro c hc; have := hl c (of_decide_eq_true (h2 c (by simpa using hc))); simp; omega)
theorem szOf_in {st : Sto} (h : StOk st) {n : Str} (hn : n ∈ nmsOf st) : ∃ s a, st.lookup n = some (s, a) ∧ szOf st n = s ∧ saOf st n = a ∧ 2 ≤ s ∧ s ≤ 4 ∧ 0 ≤ a ∧ a ≤ s - 1 := by
  have h1 := lookup_mem st n
  rw [decide_eq_true hn] at h1
  obtain ⟨p, hp⟩ := Option.isSome_iff_exists.mp h1
  obtain ⟨s, a⟩ := p
  have hm := lookup_in hp
  refine ⟨s, a, hp, by simp [szOf, hp], by simp [saOf, hp], ?_⟩
  have h2 := h.sz _ hm
  have h3 := h.sa _ hm
  exact ⟨h2.1, h2.2, h3.1, h3.2⟩
def PF (sd : Str) (st : Sto) (b : List Sm) : List (Str × D) :=
  [("side", .str sd), ("names", namesD st), ("sizes", sizesD st), ("store", storeD st), ("block", blkD b), ("count", .int (cnts b)), ("code", .lst (rowsB b 0 (-1)))]
/-- what stood stands -/
def Keeps (m m' : Mem) : Prop := ∀ a o, m a = some o → m' a = some o
theorem Keeps.rfl {m : Mem} : Keeps m m := fun _ _ h => h
theorem Keeps.trans {m m' m'' : Mem} (h : Keeps m m') (h' : Keeps m' m'') : Keeps m m'' := fun a o e => h' a o (h a o e)
theorem Keeps.new {m m' : Mem} {a : Addr} {o : MO} (h : Keeps m m') (ha : m a = none) : Keeps m (mset m' a o) := fun b u e => by rw [mset_ne (mem_ne e ha)]; exact h b u e
theorem Keeps.del {m m' : Mem} {a : Addr} (h : Keeps m m') (ha : m a = none) : Keeps m (mdel m' a) := fun b u e => by rw [mdel_ne (mem_ne e ha)]; exact h b u e
theorem flaw_cnt : ∀ n : Nat, (∀ b : List Sm, cnts b ≤ n → ∀ pl q e, flawB b pl e = (q, none) → q = pl + cnts b) ∧ ∀ s : Sm, cnt s ≤ n → ∀ pl q, flawS s pl = (q, none) → q = pl + cnt s := by
  intro n
  induction n with
  | zero =>
    refine ⟨fun b h pl q e hf => ?_, fun s h => by have := cnt_pos s; omega⟩
    cases b with
    | nil => rw [flawB_nil] at hf; injection hf with h1 h2; rw [cnts_nil, ← h1]; rfl
    | cons s r => rw [cnts_cons] at h; have := cnt_pos s; omega
  | succ n ih =>
    have hS : ∀ s : Sm, cnt s ≤ n + 1 → ∀ pl q, flawS s pl = (q, none) → q = pl + cnt s := by
      intro s h pl q hf
      cases s with
      | ite l t y k =>
        rw [cnt_ite] at h ⊢
        rw [flawS] at hf
        cases h1 : flawB y (pl + 1) false with
        | mk q1 o1 =>
          rw [h1] at hf
          cases o1 with
          | some f => simp at hf
          | none =>
            have e1 := ih.1 y (by omega) _ _ _ h1
            have e2 := ih.1 k (by omega) _ _ _ hf
            omega
      | whl l t b =>
        rw [cnt_whl] at h ⊢
        rw [flawS] at hf
        split at hf
        · simp at hf
        · have e2 := ih.1 b (by omega) _ _ _ hf
          omega
      | _ => rw [flawS] at hf; injection hf with h1 h2; simp only [cnt]; omega
    refine ⟨fun b => ?_, hS⟩
    induction b with
    | nil => intro h pl q e hf; rw [flawB_nil] at hf; injection hf with h1 h2; rw [cnts_nil, ← h1]; rfl
    | cons s r ihr =>
      intro h pl q e hf
      rw [cnts_cons] at h ⊢
      have := cnt_pos s
      rw [flawB] at hf
      split at hf
      · simp at hf
      · cases h1 : flawS s pl with
        | mk q1 o1 =>
          rw [h1] at hf
          cases o1 with
          | some f => simp at hf
          | none =>
            have e1 := hS s (by omega) _ _ h1
            have e2 := ihr (by omega) _ _ _ hf
            omega
theorem flawB_cnt {b : List Sm} {pl q : Nat} {e : Bool} (h : flawB b pl e = (q, none)) : q = pl + cnts b := (flaw_cnt (cnts b)).1 b (Nat.le_refl _) _ _ _ h
end My

namespace My
open PySem DL
def k_LETTERS : D := (D.str "abcdefghijklmnopqrstuvwxyz")
def k_MOST_DEPTH : D := (D.int 3)
def k_MOST_STATEMENTS : D := (D.int 16)
def k_MOST_VARIABLES : D := (D.int 4)
def cs_block : List Str := ["Program"]
def cs_code : List Str := ["Program"]
def cs_count : List Str := ["Program"]
def cs_names : List Str := ["Program"]
def cs_place : List Str := ["Checker"]
def cs_side : List Str := ["Checker", "Program"]
def cs_sizes : List Str := ["Checker", "Program"]
def cs_store : List Str := ["Program"]
def tab_LENGTHS : List (Str × He.Dv) := [("write", .int 3), ("get", .int 3), ("set", .int 3), ("if", .int 5), ("while", .int 4), ("return", .int 2)]
theorem r_tb_LENGTHS_0 : List.lookup (Str.ofString "write") tab_LENGTHS = some (.int 3) := by rfl
theorem r_tb_LENGTHS_1 : List.lookup (Str.ofString "get") tab_LENGTHS = some (.int 3) := by rfl
theorem r_tb_LENGTHS_2 : List.lookup (Str.ofString "set") tab_LENGTHS = some (.int 3) := by rfl
theorem r_tb_LENGTHS_3 : List.lookup (Str.ofString "if") tab_LENGTHS = some (.int 5) := by rfl
theorem r_tb_LENGTHS_4 : List.lookup (Str.ofString "while") tab_LENGTHS = some (.int 4) := by rfl
theorem r_tb_LENGTHS_5 : List.lookup (Str.ofString "return") tab_LENGTHS = some (.int 2) := by rfl
def errL : List Str := ["BadProgram"]
def errC : List Str := ["BadProgram"]
def errF : List Str := ["place", "why"]
theorem r_in_BadProgram : errL.contains "BadProgram" = true := by decide +kernel
theorem r_xs_BadProgram_BadProgram : xsub "BadProgram" "BadProgram" = true := by decide +kernel
@[irreducible] def p_Checker___init__ : CS :=
  sSeq (sSetFld cs_side "side" (eVar 0) (eVar 1)) (sSeq (sSetFld cs_sizes "sizes" (eVar 0) (eVar 2)) (sSetFld cs_place "place" (eVar 0) (eC (D.int 0))))
@[irreducible] def d_Checker___init__ : List D → C D := fnD 3 p_Checker___init__
@[irreducible] def p_Checker_is_local : CS :=
  sRet (eAnd (eUn (dIsi "str") (eVar 1)) (eOp dDIn (eVar 1) (eFld cs_sizes "sizes" (eVar 0))))
@[irreducible] def d_Checker_is_local : List D → C D := fnD 2 p_Checker_is_local
@[irreducible] def p_is_integer : CS :=
  sRet (eAnd (eUn (dIsi "int") (eVar 0)) (eNot (eUn (dIsi "bool") (eVar 0))))
@[irreducible] def d_is_integer : List D → C D := fnD 1 p_is_integer
@[irreducible] def p_is_between : CS :=
  sRet (eAnd (eCall 1 [] (d_is_integer) (aCons (eVar 0) (aNil))) (eChain dLe dLe (eVar 1) (eVar 0) (eVar 2)))
@[irreducible] def d_is_between : List D → C D := fnD 3 p_is_between
@[irreducible] def p_is_row : CS :=
  sRet (eUn (dIsi2 "list" "tuple") (eVar 0))
@[irreducible] def d_is_row : List D → C D := fnD 1 p_is_row
@[irreducible] def p_is_word_row : CS :=
  sSeq (sIf (tOrD (tNotD (tOf (eCall 1 [] (d_is_row) (aCons (eVar 0) (aNil))))) (tOf (eOp dNe (eApp dLen (aCons (eVar 0) (aNil))) (eVar 2)))) (sRet (eC (D.bl false))) (sNext)) (sRet (eAnd (eUn (dIsi "str") (eOp dIx (eVar 0) (eC (D.int 0)))) (eOp dEq (eOp dIx (eVar 0) (eC (D.int 0))) (eVar 1))))
@[irreducible] def d_is_word_row : List D → C D := fnD 3 p_is_word_row
@[irreducible] def p_Checker_term_form : CS :=
  sSeq (sIf (tOrD (tOf (eCall 3 [] (d_is_between) (aCons (eVar 1) (aCons (eC (D.int 0)) (aCons (eC (D.int 3)) (aNil)))))) (tOf (eMeth "Checker" "is_local" 1 [] (d_Checker_is_local) (eVar 0) (aCons (eVar 1) (aNil))))) (sRet (eVar 1)) (sNext)) (sSeq (sIf (tAndD (tOf (eUn (dIsi "str") (eVar 1))) (tAndD (tOf (eOp dEq (eVar 1) (eC (D.str "new")))) (tOf (eOp dEq (eFld cs_side "side" (eVar 0)) (eC (D.str "writer")))))) (sRet (eVar 1)) (sNext)) (sSeq (sIf (tAndD (tOf (eCall 3 [] (d_is_word_row) (aCons (eVar 1) (aCons (eC (D.str "plus")) (aCons (eC (D.int 3)) (aNil)))))) (tAndD (tOf (eMeth "Checker" "is_local" 1 [] (d_Checker_is_local) (eVar 0) (aCons (eOp dIx (eVar 1) (eC (D.int 1))) (aNil)))) (tOf (eCall 3 [] (d_is_between) (aCons (eOp dIx (eVar 1) (eC (D.int 2))) (aCons (eC (D.int 0)) (aCons (eC (D.int 3)) (aNil)))))))) (sRet (eApp dTuple (aCons (eVar 1) (aNil)))) (sNext)) (sRet (eC D.non))))
@[irreducible] def d_Checker_term_form : List D → C D := fnD 2 p_Checker_term_form
@[irreducible] def p_is_name_b0 : CS :=
  sIf (tOf (eOp dNotIn (eVar 1) (eC k_LETTERS))) (sRet (eC (D.bl false))) (sNext)
@[irreducible] def p_is_name : CS :=
  sSeq (sIf (tOrD (tNotD (tOf (eUn (dIsi "str") (eVar 0)))) (tNotD (tOf (eChain dLe dLe (eC (D.int 1)) (eApp dLen (aCons (eVar 0) (aNil))) (eC (D.int 8)))))) (sRet (eC (D.bl false))) (sNext)) (sSeq (sFor (iStrD (eVar 0)) (gN 1) (p_is_name_b0)) (sRet (eC (D.bl true))))
@[irreducible] def d_is_name : List D → C D := fnD 2 p_is_name
@[irreducible] def p_Checker_part_reason_b0 : CS :=
  sIf (tNotD (tOf (eCall 1 [] (d_is_row) (aCons (eVar 4) (aNil))))) (sRet (eC (D.str "block"))) (sNext)
@[irreducible] def p_Checker_part_reason : CS :=
  sSeq (sAsg 3 (eOp dIx (eVar 1) (eC (D.int 0)))) (sSeq (sIf (tAndD (tOf (eOp dEq (eVar 3) (eC (D.str "return")))) (tOf (eOp dEq (eFld cs_side "side" (eVar 0)) (eC (D.str "writer"))))) (sRet (eC (D.str "side"))) (sNext)) (sSeq (sIf (tAndD (tOf (eOp dIn (eVar 3) (eApp mkTup (aCons (eC (D.str "get")) (aCons (eC (D.str "set")) (aCons (eC (D.str "if")) (aCons (eC (D.str "while")) (aNil)))))))) (tNotD (tOf (eMeth "Checker" "is_local" 1 [] (d_Checker_is_local) (eVar 0) (aCons (eOp dIx (eVar 1) (eC (D.int 1))) (aNil)))))) (sRet (eC (D.str "local"))) (sNext)) (sSeq (sIf (tOrD (tAndD (tOf (eOp dEq (eVar 3) (eC (D.str "write")))) (tNotD (tOf (eCall 1 [] (d_is_name) (aCons (eOp dIx (eVar 1) (eC (D.int 1))) (aNil)))))) (tAndD (tOf (eOp dEq (eVar 3) (eC (D.str "get")))) (tNotD (tOf (eCall 1 [] (d_is_name) (aCons (eOp dIx (eVar 1) (eC (D.int 2))) (aNil))))))) (sRet (eC (D.str "cell"))) (sNext)) (sSeq (sIf (tAndD (tOf (eOp dNe (eVar 3) (eC (D.str "get")))) (tOf (eOp dIs (eMeth "Checker" "term_form" 1 [] (d_Checker_term_form) (eVar 0) (aCons (eOp dIx (eVar 1) (eIf (tOf (eOp dEq (eVar 3) (eC (D.str "return")))) (eC (D.int 1)) (eC (D.int 2)))) (aNil))) (eC D.non)))) (sRet (eC (D.str "term"))) (sNext)) (sSeq (sFor (iSeq (eSl (eVar 1) (oSome (eC (D.int 3))) (oNone))) (gN 4) (p_Checker_part_reason_b0)) (sSeq (sIf (tAndD (tOf (eOp dGt (eApp dLen (aCons (eVar 1) (aNil))) (eC (D.int 3)))) (tOf (eOp dEq (eVar 2) (eC k_MOST_DEPTH)))) (sRet (eC (D.str "deep"))) (sNext)) (sRet (eC D.non))))))))
@[irreducible] def d_Checker_part_reason : List D → C D := fnD 5 p_Checker_part_reason
@[irreducible] def p_Checker_block_form (rc_Checker_block_form rc_Checker_statement_form : List D → C D) : CS :=
  sRet (eApp dTuple (aCons (eLc (iSeq (eVar 1)) (gN 3) (tTrue) (eMeth "Checker" "statement_form" 2 [] (rc_Checker_statement_form) (eVar 0) (aCons (eVar 3) (aCons (eVar 2) (aNil)))) [3]) (aNil)))
@[irreducible] def p_Checker_statement_form_b0 (rc_Checker_block_form rc_Checker_statement_form : List D → C D) : CS :=
  sAsg 5 (eOp dAdd (eVar 5) (eApp mkTup (aCons (eMeth "Checker" "block_form" 2 [] (rc_Checker_block_form) (eVar 0) (aCons (eVar 6) (aCons (eOp dAdd (eVar 2) (eC (D.int 1))) (aNil)))) (aNil))))
@[irreducible] def p_Checker_statement_form (rc_Checker_block_form rc_Checker_statement_form : List D → C D) : CS :=
  sSeq (sAsg 3 (eFld cs_place "place" (eVar 0))) (sSeq (sFldAugD cs_place "place" (eVar 0) (eC (D.int 1))) (sSeq (sIf (tOf (eOp dEq (eVar 3) (eC k_MOST_STATEMENTS))) (sRaise "BadProgram" ["place", "why"] (aCons (eVar 3) (aCons (eC (D.str "many")) (aNil)))) (sNext)) (sSeq (sIf (tOrD (tNotD (tOf (eCall 1 [] (d_is_row) (aCons (eVar 1) (aNil))))) (tOrD (tOf (eOp dEq (eApp dLen (aCons (eVar 1) (aNil))) (eC (D.int 0)))) (tNotD (tOf (eUn (dIsi "str") (eOp dIx (eVar 1) (eC (D.int 0)))))))) (sRaise "BadProgram" ["place", "why"] (aCons (eVar 3) (aCons (eC (D.str "statement")) (aNil)))) (sNext)) (sSeq (sIf (tOrD (tOf (eUn (dNotInK tab_LENGTHS) (eOp dIx (eVar 1) (eC (D.int 0))))) (tOf (eOp dNe (eApp dLen (aCons (eVar 1) (aNil))) (eUn (dGetK tab_LENGTHS) (eOp dIx (eVar 1) (eC (D.int 0))))))) (sRaise "BadProgram" ["place", "why"] (aCons (eVar 3) (aCons (eC (D.str "statement")) (aNil)))) (sNext)) (sSeq (sAsg 4 (eMeth "Checker" "part_reason" 2 [] (d_Checker_part_reason) (eVar 0) (aCons (eVar 1) (aCons (eVar 2) (aNil))))) (sSeq (sIf (tOf (eOp dIsNot (eVar 4) (eC D.non))) (sRaise "BadProgram" ["place", "why"] (aCons (eVar 3) (aCons (eVar 4) (aNil)))) (sNext)) (sSeq (sIf (tOf (eOp dEq (eOp dIx (eVar 1) (eC (D.int 0))) (eC (D.str "return")))) (sRet (eApp mkTup (aCons (eC (D.str "return")) (aCons (eMeth "Checker" "term_form" 1 [] (d_Checker_term_form) (eVar 0) (aCons (eOp dIx (eVar 1) (eC (D.int 1))) (aNil))) (aNil))))) (sNext)) (sSeq (sIf (tOf (eOp dEq (eOp dIx (eVar 1) (eC (D.int 0))) (eC (D.str "get")))) (sRet (eApp dTuple (aCons (eVar 1) (aNil)))) (sNext)) (sSeq (sAsg 5 (eApp mkTup (aCons (eOp dIx (eVar 1) (eC (D.int 0))) (aCons (eOp dIx (eVar 1) (eC (D.int 1))) (aCons (eMeth "Checker" "term_form" 1 [] (d_Checker_term_form) (eVar 0) (aCons (eOp dIx (eVar 1) (eC (D.int 2))) (aNil))) (aNil)))))) (sSeq (sFor (iSeq (eSl (eVar 1) (oSome (eC (D.int 3))) (oNone))) (gN 6) ((p_Checker_statement_form_b0 rc_Checker_block_form rc_Checker_statement_form))) (sRet (eVar 5))))))))))))
def grp_Checker_block_form : Nat → (List D → C D) × (List D → C D)
  | 0 => (fun _ => C.stuck, fun _ => C.stuck)
  | n + 1 => (fnD 4 (p_Checker_block_form (grp_Checker_block_form n).1 (grp_Checker_block_form n).2), fnD 7 (p_Checker_statement_form (grp_Checker_block_form n).1 (grp_Checker_block_form n).2))
def d_Checker_block_form (n : Nat) : List D → C D := (grp_Checker_block_form n).1
def d_Checker_statement_form (n : Nat) : List D → C D := (grp_Checker_block_form n).2
theorem d_Checker_block_form_s {n : Nat} : d_Checker_block_form (n + 1) = fnD 4 (p_Checker_block_form (d_Checker_block_form n) (d_Checker_statement_form n)) := rfl
theorem d_Checker_block_form_0 {l : List D} : d_Checker_block_form 0 l = C.stuck := rfl
theorem d_Checker_statement_form_s {n : Nat} : d_Checker_statement_form (n + 1) = fnD 7 (p_Checker_statement_form (d_Checker_block_form n) (d_Checker_statement_form n)) := rfl
theorem d_Checker_statement_form_0 {l : List D} : d_Checker_statement_form 0 l = C.stuck := rfl
@[irreducible] def p_check_store_b0 : CS :=
  sSeq (sIf (tOrD (tNotD (tOf (eCall 1 [] (d_is_name) (aCons (eVar 1) (aNil))))) (tOrD (tOf (eOp dEq (eVar 1) (eC (D.str "new")))) (tOrD (tNotD (tOf (eCall 1 [] (d_is_row) (aCons (eVar 2) (aNil))))) (tOf (eOp dNe (eApp dLen (aCons (eVar 2) (aNil))) (eC (D.int 2))))))) (sRaise "BadProgram" ["place", "why"] (aCons (eUn dNeg (eC (D.int 1))) (aCons (eC (D.str "store")) (aNil)))) (sNext)) (sIf (tOrD (tNotD (tOf (eCall 3 [] (d_is_between) (aCons (eOp dIx (eVar 2) (eC (D.int 0))) (aCons (eC (D.int 2)) (aCons (eC (D.int 4)) (aNil))))))) (tNotD (tOf (eCall 3 [] (d_is_between) (aCons (eOp dIx (eVar 2) (eC (D.int 1))) (aCons (eC (D.int 0)) (aCons (eOp dSub (eOp dIx (eVar 2) (eC (D.int 0))) (eC (D.int 1))) (aNil)))))))) (sRaise "BadProgram" ["place", "why"] (aCons (eUn dNeg (eC (D.int 1))) (aCons (eC (D.str "store")) (aNil)))) (sNext))
@[irreducible] def p_check_store : CS :=
  sSeq (sIf (tOrD (tNotD (tOf (eUn (dIsi "dict") (eVar 0)))) (tOf (eOp dGt (eApp dLenD (aCons (eVar 0) (aNil))) (eC k_MOST_VARIABLES)))) (sRaise "BadProgram" ["place", "why"] (aCons (eUn dNeg (eC (D.int 1))) (aCons (eC (D.str "store")) (aNil)))) (sNext)) (sFor (iItemsD (eVar 0)) (gT (gsCons (gN 1) (gsCons (gN 2) (gsNil)))) (p_check_store_b0))
@[irreducible] def d_check_store : List D → C D := fnD 3 p_check_store
@[irreducible] def p_has_bare_way_b0 (rc_has_bare_way : List D → C D) : CS :=
  sSeq (sIf (tOf (eOp dIn (eOp dIx (eVar 1) (eC (D.int 0))) (eApp mkTup (aCons (eC (D.str "get")) (aCons (eC (D.str "write")) (aCons (eC (D.str "return")) (aNil))))))) (sRet (eC (D.bl false))) (sNext)) (sIf (tAndD (tOf (eOp dEq (eOp dIx (eVar 1) (eC (D.int 0))) (eC (D.str "if")))) (tAndD (tNotD (tOf (eCall 1 [] (rc_has_bare_way) (aCons (eOp dIx (eVar 1) (eC (D.int 3))) (aNil))))) (tNotD (tOf (eCall 1 [] (rc_has_bare_way) (aCons (eOp dIx (eVar 1) (eC (D.int 4))) (aNil))))))) (sRet (eC (D.bl false))) (sNext))
@[irreducible] def p_has_bare_way (rc_has_bare_way : List D → C D) : CS :=
  sSeq (sFor (iSeq (eVar 0)) (gN 1) ((p_has_bare_way_b0 rc_has_bare_way))) (sRet (eC (D.bl true)))
def d_has_bare_way : Nat → List D → C D
  | 0 => fun _ => C.stuck
  | n + 1 => fnD 2 (p_has_bare_way (d_has_bare_way n))
theorem d_has_bare_way_s {n : Nat} : d_has_bare_way (n + 1) = fnD 2 (p_has_bare_way (d_has_bare_way n)) := rfl
@[irreducible] def p_block_ends (rc_block_ends rc_statement_ends : List D → C D) : CS :=
  sRet (eAnd (eOp dGt (eApp dLen (aCons (eVar 0) (aNil))) (eC (D.int 0))) (eCall 1 [] (rc_statement_ends) (aCons (eOp dIx (eVar 0) (eUn dNeg (eC (D.int 1)))) (aNil))))
@[irreducible] def p_statement_ends (rc_block_ends rc_statement_ends : List D → C D) : CS :=
  sSeq (sIf (tOf (eOp dEq (eOp dIx (eVar 0) (eC (D.int 0))) (eC (D.str "if")))) (sRet (eAnd (eCall 1 [] (rc_block_ends) (aCons (eOp dIx (eVar 0) (eC (D.int 3))) (aNil))) (eCall 1 [] (rc_block_ends) (aCons (eOp dIx (eVar 0) (eC (D.int 4))) (aNil))))) (sNext)) (sRet (eOp dEq (eOp dIx (eVar 0) (eC (D.int 0))) (eC (D.str "return"))))
def grp_block_ends : Nat → (List D → C D) × (List D → C D)
  | 0 => (fun _ => C.stuck, fun _ => C.stuck)
  | n + 1 => (fnD 1 (p_block_ends (grp_block_ends n).1 (grp_block_ends n).2), fnD 1 (p_statement_ends (grp_block_ends n).1 (grp_block_ends n).2))
def d_block_ends (n : Nat) : List D → C D := (grp_block_ends n).1
def d_statement_ends (n : Nat) : List D → C D := (grp_block_ends n).2
theorem d_block_ends_s {n : Nat} : d_block_ends (n + 1) = fnD 1 (p_block_ends (d_block_ends n) (d_statement_ends n)) := rfl
theorem d_block_ends_0 {l : List D} : d_block_ends 0 l = C.stuck := rfl
theorem d_statement_ends_s {n : Nat} : d_statement_ends (n + 1) = fnD 1 (p_statement_ends (d_block_ends n) (d_statement_ends n)) := rfl
theorem d_statement_ends_0 {l : List D} : d_statement_ends 0 l = C.stuck := rfl
@[irreducible] def p_first_flaw_b0 (rc_first_flaw : List D → C D) : CS :=
  sSeq (sAsgG (eCall 2 [] (rc_first_flaw) (aCons (eVar 5) (aCons (eVar 1) (aNil)))) (gT (gsCons (gN 1) (gsCons (gN 6) (gsNil))))) (sIf (tOf (eOp dIsNot (eVar 6) (eC D.non))) (sRet (eApp mkTup (aCons (eVar 1) (aCons (eVar 6) (aNil))))) (sNext))
@[irreducible] def p_first_flaw_b1 (rc_first_flaw : List D → C D) : CS :=
  sSeq (sAsg 4 (eVar 1)) (sSeq (sAsg 1 (eOp dAddI (eVar 1) (eC (D.int 1)))) (sSeq (sIf (tOf (eVar 2)) (sRet (eApp mkTup (aCons (eVar 1) (aCons (eApp mkTup (aCons (eVar 4) (aCons (eC (D.str "dead")) (aNil)))) (aNil))))) (sNext)) (sSeq (sIf (tAndD (tOf (eOp dEq (eOp dIx (eVar 3) (eC (D.int 0))) (eC (D.str "while")))) (tOf (eCall 1 [] (d_has_bare_way 7) (aCons (eOp dIx (eVar 3) (eC (D.int 3))) (aNil))))) (sRet (eApp mkTup (aCons (eVar 1) (aCons (eApp mkTup (aCons (eVar 4) (aCons (eC (D.str "idle")) (aNil)))) (aNil))))) (sNext)) (sSeq (sFor (iSeq (eSl (eVar 3) (oSome (eC (D.int 3))) (oNone))) (gN 5) ((p_first_flaw_b0 rc_first_flaw))) (sAsg 2 (eCall 1 [] (d_statement_ends 14) (aCons (eVar 3) (aNil))))))))
@[irreducible] def p_first_flaw (rc_first_flaw : List D → C D) : CS :=
  sSeq (sAsg 2 (eC (D.bl false))) (sSeq (sFor (iSeq (eVar 0)) (gN 3) ((p_first_flaw_b1 rc_first_flaw))) (sRet (eApp mkTup (aCons (eVar 1) (aCons (eC D.non) (aNil))))))
def d_first_flaw : Nat → List D → C D
  | 0 => fun _ => C.stuck
  | n + 1 => fnD 7 (p_first_flaw (d_first_flaw n))
theorem d_first_flaw_s {n : Nat} : d_first_flaw (n + 1) = fnD 7 (p_first_flaw (d_first_flaw n)) := rfl
@[irreducible] def p_is_side : CS :=
  sRet (eAnd (eUn (dIsi "str") (eVar 0)) (eOp dIn (eVar 0) (eApp mkTup (aCons (eC (D.str "writer")) (aCons (eC (D.str "reader")) (aNil))))))
@[irreducible] def d_is_side : List D → C D := fnD 1 p_is_side
@[irreducible] def p_width (rc_width : List D → C D) : CS :=
  sRet (eApp dSum (aCons (eLc (iSeq (eVar 0)) (gN 1) (tTrue) (eOp dAdd (eC (D.int 1)) (eApp dSum (aCons (eLc (iSeq (eSl (eVar 1) (oSome (eC (D.int 3))) (oNone))) (gN 2) (tTrue) (eCall 1 [] (rc_width) (aCons (eVar 2) (aNil))) [2]) (aNil)))) [1]) (aNil)))
def d_width : Nat → List D → C D
  | 0 => fun _ => C.stuck
  | n + 1 => fnD 3 (p_width (d_width n))
theorem d_width_s {n : Nat} : d_width (n + 1) = fnD 3 (p_width (d_width n)) := rfl
@[irreducible] def p_lay_out_b0 (rc_lay_out : List D → C D) : CS :=
  sSeq (sAsg 6 (eOp dAdd (eOp dAdd (eVar 1) (eC (D.int 1))) (eApp dSum (aCons (eLc (iSeq (eSl (eVar 5) (oSome (eC (D.int 3))) (oNone))) (gN 11) (tTrue) (eCall 1 [] (d_width 7) (aCons (eVar 11) (aNil))) [11]) (aNil))))) (sSeq (sAsg 7 (eIf (tOf (eOp dLt (eOp dAdd (eVar 4) (eC (D.int 1))) (eApp dLen (aCons (eVar 0) (aNil))))) (eVar 6) (eVar 2))) (sSeq (sIf (tOf (eOp dEq (eOp dIx (eVar 5) (eC (D.int 0))) (eC (D.str "if")))) (sSeq (sAsg 8 (eOp dAdd (eOp dAdd (eVar 1) (eC (D.int 1))) (eCall 1 [] (d_width 7) (aCons (eOp dIx (eVar 5) (eC (D.int 3))) (aNil))))) (sSeq (sAsg 9 (eIf (tOf (eOp dGt (eApp dLen (aCons (eOp dIx (eVar 5) (eC (D.int 3))) (aNil))) (eC (D.int 0)))) (eOp dAdd (eVar 1) (eC (D.int 1))) (eVar 7))) (sSeq (sAsg 10 (eIf (tOf (eOp dGt (eApp dLen (aCons (eOp dIx (eVar 5) (eC (D.int 4))) (aNil))) (eC (D.int 0)))) (eVar 8) (eVar 7))) (sSeq (sExpr (eApd (eVar 3) (eOp dAdd (eSl (eVar 5) (oNone) (oSome (eC (D.int 3)))) (eApp mkTup (aCons (eVar 9) (aCons (eVar 10) (aNil))))))) (sSeq (sExpr (eCall 4 [] (rc_lay_out) (aCons (eOp dIx (eVar 5) (eC (D.int 3))) (aCons (eOp dAdd (eVar 1) (eC (D.int 1))) (aCons (eVar 7) (aCons (eVar 3) (aNil))))))) (sExpr (eCall 4 [] (rc_lay_out) (aCons (eOp dIx (eVar 5) (eC (D.int 4))) (aCons (eVar 8) (aCons (eVar 7) (aCons (eVar 3) (aNil)))))))))))) (sIf (tOf (eOp dEq (eOp dIx (eVar 5) (eC (D.int 0))) (eC (D.str "while")))) (sSeq (sExpr (eApd (eVar 3) (eOp dAdd (eSl (eVar 5) (oNone) (oSome (eC (D.int 3)))) (eApp mkTup (aCons (eOp dAdd (eVar 1) (eC (D.int 1))) (aCons (eVar 7) (aNil))))))) (sExpr (eCall 4 [] (rc_lay_out) (aCons (eOp dIx (eVar 5) (eC (D.int 3))) (aCons (eOp dAdd (eVar 1) (eC (D.int 1))) (aCons (eVar 1) (aCons (eVar 3) (aNil)))))))) (sIf (tOf (eOp dEq (eOp dIx (eVar 5) (eC (D.int 0))) (eC (D.str "return")))) (sExpr (eApd (eVar 3) (eApp mkTup (aCons (eC (D.str "return")) (aCons (eC (D.str "")) (aCons (eOp dIx (eVar 5) (eC (D.int 1))) (aCons (eUn dNeg (eC (D.int 1))) (aCons (eUn dNeg (eC (D.int 1))) (aNil))))))))) (sExpr (eApd (eVar 3) (eOp dAdd (eVar 5) (eApp mkTup (aCons (eVar 7) (aCons (eVar 7) (aNil)))))))))) (sAsg 1 (eVar 6))))
@[irreducible] def p_lay_out (rc_lay_out : List D → C D) : CS :=
  sFor (iApp enumJ (aCons (eVar 0) (aNil))) (gT (gsCons (gN 4) (gsCons (gN 5) (gsNil)))) ((p_lay_out_b0 rc_lay_out))
def d_lay_out : Nat → List D → C D
  | 0 => fun _ => C.stuck
  | n + 1 => fnD 12 (p_lay_out (d_lay_out n))
theorem d_lay_out_s {n : Nat} : d_lay_out (n + 1) = fnD 12 (p_lay_out (d_lay_out n)) := rfl
@[irreducible] def p_Program___init__ : CS :=
  sSeq (sIf (tNotD (tOf (eCall 1 [] (d_is_side) (aCons (eVar 1) (aNil))))) (sRaise "BadProgram" ["place", "why"] (aCons (eUn dNeg (eC (D.int 1))) (aCons (eC (D.str "side")) (aNil)))) (sNext)) (sSeq (sExpr (eCall 1 [] (d_check_store) (aCons (eVar 2) (aNil)))) (sSeq (sIf (tNotD (tOf (eCall 1 [] (d_is_row) (aCons (eVar 3) (aNil))))) (sRaise "BadProgram" ["place", "why"] (aCons (eUn dNeg (eC (D.int 1))) (aCons (eC (D.str "block")) (aNil)))) (sNext)) (sSeq (sSetFld cs_side "side" (eVar 0) (eVar 1)) (sSeq (sSetFld cs_names "names" (eVar 0) (eApp dSortedD (aCons (eVar 2) (aNil)))) (sSeq (sSetFld cs_sizes "sizes" (eVar 0) (eLc (iSeq (eFld cs_names "names" (eVar 0))) (gN 5) (tTrue) (eOp dIx (eOp dGet (eVar 2) (eVar 5)) (eC (D.int 0))) [5])) (sSeq (sSetFld cs_store "store" (eVar 0) (eApp dTuple (aCons (eLc (iSeq (eFld cs_names "names" (eVar 0))) (gN 5) (tTrue) (eApp mkTup (aCons (eVar 5) (aCons (eOp dIx (eOp dGet (eVar 2) (eVar 5)) (eC (D.int 0))) (aCons (eOp dIx (eOp dGet (eVar 2) (eVar 5)) (eC (D.int 1))) (aNil))))) [5]) (aNil)))) (sSeq (sSetFld cs_block "block" (eVar 0) (eMeth "Checker" "block_form" 2 [] (d_Checker_block_form 14) (eMake "Checker" 2 [] (d_Checker___init__) (aCons (eVar 1) (aCons (eApp dDict (aCons (eVar 2) (aNil))) (aNil)))) (aCons (eVar 3) (aCons (eC (D.int 0)) (aNil))))) (sSeq (sAsgG (eCall 2 [] (d_first_flaw 7) (aCons (eFld cs_block "block" (eVar 0)) (aCons (eC (D.int 0)) (aNil)))) (gTn 2 (gsCons (gFld cs_count "count" (eVar 0)) (gsCons (gN 4) (gsNil))))) (sSeq (sIf (tOf (eOp dIsNot (eVar 4) (eC D.non))) (sRaise "BadProgram" ["place", "why"] (aCons (eOp dIx (eVar 4) (eC (D.int 0))) (aCons (eOp dIx (eVar 4) (eC (D.int 1))) (aNil)))) (sNext)) (sSeq (sSetFld cs_code "code" (eVar 0) (eApp mkRef (aNil))) (sSeq (sExpr (eCall 4 [] (d_lay_out 7) (aCons (eFld cs_block "block" (eVar 0)) (aCons (eC (D.int 0)) (aCons (eUn dNeg (eC (D.int 1))) (aCons (eFld cs_code "code" (eVar 0)) (aNil))))))) (sSeq (sFrzF 0 "code") (sNext)))))))))))))
@[irreducible] def d_Program___init__ : List D → C D := fnD 6 p_Program___init__
@[irreducible] def p__law_mixed : CS :=
  sSeq (sAsg 2 (eOp dAdd (eOp dMod (eOp dMul (eOp dMul (eOp dAdd (eOp dMod (eApp dInt (aCons (eVar 0) (aNil))) (eOp dPow (eC (D.int 10)) (eC (D.int 18)))) (eC (D.int 17))) (eOp dAdd (eVar 1) (eC (D.int 3)))) (eC (D.int 48271))) (eC (D.int 2147483647))) (eOp dMul (eC (D.int 7919)) (eVar 1)))) (sSeq (sAsg 2 (eOp dMod (eOp dMul (eVar 2) (eOp dAdd (eOp dDiv (eVar 2) (eC (D.int 1009))) (eC (D.int 69621)))) (eC (D.int 2147483629)))) (sSeq (sAsg 2 (eOp dMod (eOp dMul (eVar 2) (eOp dAdd (eOp dDiv (eVar 2) (eC (D.int 2003))) (eC (D.int 40692)))) (eC (D.int 2147483399)))) (sRet (eOp dDiv (eVar 2) (eC (D.int 8))))))
@[irreducible] def d__law_mixed : List D → C D := fnD 3 p__law_mixed
@[irreducible] def p__law_draw : CS :=
  sSeq (sAsg 2 (eOp dIx (eVar 0) (eC (D.int 0)))) (sSeq (sAsg 3 (eOp dIx (eVar 0) (eC (D.int 1)))) (sSeq (sSetItem (eVar 0) (eC (D.int 3)) (eOp dAdd (eOp dIx (eVar 0) (eC (D.int 3))) (eC (D.int 1)))) (sSeq (sIf (tOf (eOp dGe (eVar 3) (eApp dLen (aCons (eVar 2) (aNil))))) (sRet (eOp dMod (eApp dInt (aCons (eCall 2 [] (d__law_mixed) (aCons (eOp dAdd (eOp dIx (eVar 0) (eC (D.int 4))) (eC (D.int 1))) (aCons (eOp dIx (eVar 0) (eC (D.int 3))) (aNil)))) (aNil))) (eVar 1))) (sNext)) (sSeq (sAsg 4 (eOp dIx (eVar 2) (eVar 3))) (sSeq (sIf (tOrD (tOf (eOp dGe (eVar 4) (eOp dPow (eC (D.int 10)) (eC (D.int 18))))) (tOf (eOp dLt (eOp dIx (eVar 0) (eC (D.int 2))) (eC (D.int 0))))) (sSeq (sSetItem (eVar 2) (eVar 3) (eOp dDiv (eVar 4) (eVar 1))) (sSeq (sSetItem (eVar 0) (eC (D.int 2)) (eUn dNeg (eC (D.int 1)))) (sSeq (sIf (tOf (eOp dEq (eOp dIx (eVar 2) (eVar 3)) (eC (D.int 0)))) (sSeq (sSetItem (eVar 0) (eC (D.int 1)) (eOp dAdd (eVar 3) (eC (D.int 1)))) (sSetItem (eVar 0) (eC (D.int 2)) (eC (D.int 0)))) (sNext)) (sRet (eOp dMod (eApp dInt (aCons (eVar 4) (aNil))) (eVar 1)))))) (sNext)) (sSeq (sSetItem (eVar 0) (eC (D.int 2)) (eOp dAdd (eOp dIx (eVar 0) (eC (D.int 2))) (eC (D.int 1)))) (sSeq (sAsg 5 (eCall 2 [] (d__law_mixed) (aCons (eVar 4) (aCons (eOp dIx (eVar 0) (eC (D.int 2))) (aNil))))) (sSeq (sIf (tOf (eOp dEq (eOp dIx (eVar 0) (eC (D.int 2))) (eC (D.int 8)))) (sSeq (sSetItem (eVar 0) (eC (D.int 1)) (eOp dAdd (eVar 3) (eC (D.int 1)))) (sSetItem (eVar 0) (eC (D.int 2)) (eC (D.int 0)))) (sNext)) (sRet (eOp dMod (eApp dInt (aCons (eVar 5) (aNil))) (eVar 1)))))))))))
@[irreducible] def d__law_draw : List D → C D := fnD 6 p__law_draw
@[irreducible] def p__law_bare_ways_b0 (rc__law_bare_ways : List D → C D) : CS :=
  sSeq (sIf (tOrD (tOf (eOp dEq (eOp dIx (eVar 2) (eC (D.int 0))) (eC (D.str "get")))) (tOf (eOp dEq (eOp dIx (eVar 2) (eC (D.int 0))) (eC (D.str "return"))))) (sAsg 1 (eC (D.int 0))) (sNext)) (sIf (tOf (eOp dEq (eOp dIx (eVar 2) (eC (D.int 0))) (eC (D.str "if")))) (sAsg 1 (eOp dMul (eVar 1) (eApp dMin2 (aCons (eC (D.int 1)) (aCons (eOp dAdd (eCall 1 [] (rc__law_bare_ways) (aCons (eOp dIx (eVar 2) (eC (D.int 3))) (aNil))) (eCall 1 [] (rc__law_bare_ways) (aCons (eOp dIx (eVar 2) (eC (D.int 4))) (aNil)))) (aNil)))))) (sNext))
@[irreducible] def p__law_bare_ways (rc__law_bare_ways : List D → C D) : CS :=
  sSeq (sAsg 1 (eC (D.int 1))) (sSeq (sFor (iSeq (eVar 0)) (gN 2) ((p__law_bare_ways_b0 rc__law_bare_ways))) (sRet (eVar 1)))
def d__law_bare_ways : Nat → List D → C D
  | 0 => fun _ => C.stuck
  | n + 1 => fnD 3 (p__law_bare_ways (d__law_bare_ways n))
theorem d__law_bare_ways_s {n : Nat} : d__law_bare_ways (n + 1) = fnD 3 (p__law_bare_ways (d__law_bare_ways n)) := rfl
@[irreducible] def p__law_open_end_b0 (rc__law_open_end : List D → C D) : CS :=
  sSeq (sIf (tOf (eOp dEq (eOp dIx (eVar 1) (eC (D.int 0))) (eC (D.str "return")))) (sRet (eC (D.bl false))) (sNext)) (sIf (tAndD (tOf (eOp dEq (eOp dIx (eVar 1) (eC (D.int 0))) (eC (D.str "if")))) (tAndD (tNotD (tOf (eCall 1 [] (rc__law_open_end) (aCons (eOp dIx (eVar 1) (eC (D.int 3))) (aNil))))) (tNotD (tOf (eCall 1 [] (rc__law_open_end) (aCons (eOp dIx (eVar 1) (eC (D.int 4))) (aNil))))))) (sRet (eC (D.bl false))) (sNext))
@[irreducible] def p__law_open_end (rc__law_open_end : List D → C D) : CS :=
  sSeq (sFor (iSeq (eVar 0)) (gN 1) ((p__law_open_end_b0 rc__law_open_end))) (sRet (eC (D.bl true)))
def d__law_open_end : Nat → List D → C D
  | 0 => fun _ => C.stuck
  | n + 1 => fnD 2 (p__law_open_end (d__law_open_end n))
theorem d__law_open_end_s {n : Nat} : d__law_open_end (n + 1) = fnD 2 (p__law_open_end (d__law_open_end n)) := rfl
@[irreducible] def p__law_list_b0 (rc__law_list : List D → C D) : CS :=
  sExpr (eCall 2 [] (rc__law_list) (aCons (eVar 5) (aCons (eVar 1) (aNil))))
@[irreducible] def p__law_list_b1 (rc__law_list : List D → C D) : CS :=
  sSeq (sAsg 3 (eOp dIx (eVar 0) (eVar 2))) (sSeq (sAsg 4 (eC (D.str ""))) (sSeq (sIf (tNotD (tOf (eCall 1 [] (d__law_open_end 5) (aCons (eSl (eVar 0) (oNone) (oSome (eVar 2))) (aNil))))) (sAsg 4 (eC (D.str "dead"))) (sIf (tAndD (tOf (eOp dEq (eOp dIx (eVar 3) (eC (D.int 0))) (eC (D.str "while")))) (tOf (eOp dGt (eCall 1 [] (d__law_bare_ways 5) (aCons (eOp dIx (eVar 3) (eC (D.int 3))) (aNil))) (eC (D.int 0))))) (sAsg 4 (eC (D.str "idle"))) (sNext))) (sSeq (sExpr (eApd (eVar 1) (eVar 4))) (sFor (iSeq (eSl (eVar 3) (oSome (eC (D.int 3))) (oNone))) (gN 5) ((p__law_list_b0 rc__law_list))))))
@[irreducible] def p__law_list (rc__law_list : List D → C D) : CS :=
  sSeq (sFor (iApp rangeI1 (aCons (eApp dLen (aCons (eVar 0) (aNil))) (aNil))) (gN 2) ((p__law_list_b1 rc__law_list))) (sRet (eVar 1))
def d__law_list : Nat → List D → C D
  | 0 => fun _ => C.stuck
  | n + 1 => fnD 6 (p__law_list (d__law_list n))
theorem d__law_list_s {n : Nat} : d__law_list (n + 1) = fnD 6 (p__law_list (d__law_list n)) := rfl
@[irreducible] def p__law_pool : CS :=
  sSeq (sAsg 1 (eLcM (iSeq (eSl (eVar 0) (oNone) (oSome (eC (D.int 63))))) (gN 2) (tTrue) (eApp dAbs (aCons (eApp dInt (aCons (eVar 2) (aNil))) (aNil))) [2])) (sRet (eApp mkRef (aCons (eVar 1) (aCons (eC (D.int 0)) (aCons (eC (D.int 0)) (aCons (eC (D.int 0)) (aCons (eOp dMod (eApp dSum (aCons (eVar 1) (aNil))) (eC (D.int 1000000007))) (aNil))))))))
@[irreducible] def d__law_pool : List D → C D := fnD 3 p__law_pool
@[irreducible] def p__law_int : CS :=
  sRet (eAnd (eUn (dIsi "int") (eVar 0)) (eNot (eUn (dIsi "bool") (eVar 0))))
@[irreducible] def d__law_int : List D → C D := fnD 1 p__law_int
@[irreducible] def p__law_same_b0 (rc__law_same : List D → C D) : CS :=
  sIf (tNotD (tOf (eCall 2 [] (rc__law_same) (aCons (eOp dIx (eVar 0) (eVar 2)) (aCons (eOp dIx (eVar 1) (eVar 2)) (aNil)))))) (sRet (eC (D.bl false))) (sNext)
@[irreducible] def p__law_same (rc__law_same : List D → C D) : CS :=
  sSeq (sIf (tOrD (tOf (eUn (dIsi "tuple") (eVar 1))) (tOf (eUn (dIsi "list") (eVar 1)))) (sSeq (sIf (tOrD (tOf (eOp dNe (eUn (dIsi "tuple") (eVar 1)) (eUn (dIsi "tuple") (eVar 0)))) (tOf (eOp dNe (eUn (dIsi "list") (eVar 1)) (eUn (dIsi "list") (eVar 0))))) (sRet (eC (D.bl false))) (sNext)) (sSeq (sIf (tOf (eOp dNe (eApp dLen (aCons (eVar 0) (aNil))) (eApp dLen (aCons (eVar 1) (aNil))))) (sRet (eC (D.bl false))) (sNext)) (sSeq (sFor (iApp rangeI1 (aCons (eApp dLen (aCons (eVar 1) (aNil))) (aNil))) (gN 2) ((p__law_same_b0 rc__law_same))) (sRet (eC (D.bl true)))))) (sNext)) (sSeq (sIf (tOf (eOp dIs (eVar 1) (eC D.non))) (sRet (eOp dIs (eVar 0) (eC D.non))) (sNext)) (sSeq (sIf (tOf (eOp dIs (eVar 1) (eC (D.bl true)))) (sRet (eOp dIs (eVar 0) (eC (D.bl true)))) (sNext)) (sSeq (sIf (tOf (eOp dIs (eVar 1) (eC (D.bl false)))) (sRet (eOp dIs (eVar 0) (eC (D.bl false)))) (sNext)) (sSeq (sIf (tOf (eUn (dIsi "str") (eVar 1))) (sRet (eAnd (eUn (dIsi "str") (eVar 0)) (eOp dEq (eVar 0) (eVar 1)))) (sNext)) (sRet (eAnd (eCall 1 [] (d__law_int) (aCons (eVar 0) (aNil))) (eOp dEq (eVar 0) (eVar 1))))))))
def d__law_same : Nat → List D → C D
  | 0 => fun _ => C.stuck
  | n + 1 => fnD 3 (p__law_same (d__law_same n))
theorem d__law_same_s {n : Nat} : d__law_same (n + 1) = fnD 3 (p__law_same (d__law_same n)) := rfl
@[irreducible] def p__law_wild_b0 (rc__law_wild : List D → C D) : CS :=
  sIf (tOf (eOp dGt (eOp dIx (eVar 3) (eC (D.int 0))) (eC (D.int 0)))) (sSeq (sSetItem (eVar 3) (eC (D.int 0)) (eOp dSub (eOp dIx (eVar 3) (eC (D.int 0))) (eC (D.int 1)))) (sSeq (sAsg 6 (eCall 2 [] (d__law_draw) (aCons (eVar 0) (aCons (eC (D.int 8)) (aNil))))) (sIf (tAndD (tOf (eOp dLt (eVar 6) (eC (D.int 2)))) (tOf (eOp dEq (eVar 1) (eC (D.str "reader"))))) (sAsg 4 (eOp dAdd (eVar 4) (eApp mkTup (aCons (eApp mkTup (aCons (eC (D.str "return")) (aCons (eCall 2 [] (d__law_draw) (aCons (eVar 0) (aCons (eC (D.int 4)) (aNil)))) (aNil)))) (aNil))))) (sIf (tOf (eOp dLt (eVar 6) (eC (D.int 4)))) (sAsg 4 (eOp dAdd (eVar 4) (eApp mkTup (aCons (eApp mkTup (aCons (eC (D.str "set")) (aCons (eC (D.str "x")) (aCons (eApp mkTup (aCons (eC (D.str "plus")) (aCons (eC (D.str "x")) (aCons (eC (D.int 1)) (aNil))))) (aNil))))) (aNil))))) (sIf (tOrD (tOf (eOp dEq (eVar 6) (eC (D.int 4)))) (tOf (eOp dEq (eVar 2) (eC (D.int 3))))) (sAsg 4 (eOp dAdd (eVar 4) (eApp mkTup (aCons (eApp mkTup (aCons (eC (D.str "get")) (aCons (eC (D.str "x")) (aCons (eC (D.str "a")) (aNil))))) (aNil))))) (sIf (tOf (eOp dEq (eVar 6) (eC (D.int 5)))) (sAsg 4 (eOp dAdd (eVar 4) (eApp mkTup (aCons (eApp mkTup (aCons (eC (D.str "while")) (aCons (eC (D.str "x")) (aCons (eC (D.int 1)) (aCons (eCall 4 [] (rc__law_wild) (aCons (eVar 0) (aCons (eVar 1) (aCons (eOp dAdd (eVar 2) (eC (D.int 1))) (aCons (eVar 3) (aNil)))))) (aNil)))))) (aNil))))) (sSeq (sAsg 7 (eCall 4 [] (rc__law_wild) (aCons (eVar 0) (aCons (eVar 1) (aCons (eOp dAdd (eVar 2) (eC (D.int 1))) (aCons (eVar 3) (aNil))))))) (sAsg 4 (eOp dAdd (eVar 4) (eApp mkTup (aCons (eApp mkTup (aCons (eC (D.str "if")) (aCons (eC (D.str "x")) (aCons (eC (D.int 0)) (aCons (eVar 7) (aCons (eCall 4 [] (rc__law_wild) (aCons (eVar 0) (aCons (eVar 1) (aCons (eOp dAdd (eVar 2) (eC (D.int 1))) (aCons (eVar 3) (aNil)))))) (aNil))))))) (aNil)))))))))))) (sNext)
@[irreducible] def p__law_wild (rc__law_wild : List D → C D) : CS :=
  sSeq (sAsg 4 (eApp mkTup (aNil))) (sSeq (sFor (iApp rangeI1 (aCons (eCall 2 [] (d__law_draw) (aCons (eVar 0) (aCons (eC (D.int 4)) (aNil)))) (aNil))) (gN 5) ((p__law_wild_b0 rc__law_wild))) (sRet (eVar 4)))
def d__law_wild : Nat → List D → C D
  | 0 => fun _ => C.stuck
  | n + 1 => fnD 8 (p__law_wild (d__law_wild n))
theorem d__law_wild_s {n : Nat} : d__law_wild (n + 1) = fnD 8 (p__law_wild (d__law_wild n)) := rfl
@[irreducible] def p_law_b0 : CS :=
  sIf (tAndD (tOf (eOp dIs (eVar 4) (eC D.non))) (tOf (eOp dNe (eOp dIx (eVar 5) (eVar 6)) (eC (D.str ""))))) (sAsg 4 (eApp mkTup (aCons (eVar 6) (aCons (eOp dIx (eVar 5) (eVar 6)) (aNil))))) (sNext)
@[irreducible] def p_law_s1 (a : Addr) (d : Option Addr) (c : Str) : CS :=
  sAsg 7 (eApp mkTup (aCons (eXf a d "place" (eVar 9)) (aCons (eXf a d "why" (eVar 9)) (aNil))))
@[irreducible] def p_law : CS :=
  sSeq (sAsg 1 (eCall 1 [] (d__law_pool) (aCons (eVar 0) (aNil)))) (sSeq (sAsg 2 (eOp dIx (eApp mkLst (aCons (eC (D.str "writer")) (aCons (eC (D.str "reader")) (aNil)))) (eCall 2 [] (d__law_draw) (aCons (eVar 1) (aCons (eC (D.int 2)) (aNil)))))) (sSeq (sAsg 3 (eCall 4 [] (d__law_wild 5) (aCons (eVar 1) (aCons (eVar 2) (aCons (eC (D.int 0)) (aCons (eApp mkRef (aCons (eC (D.int 14)) (aNil))) (aNil))))))) (sSeq (sAsg 4 (eC D.non)) (sSeq (sAsg 5 (eCall 2 [] (d__law_list 5) (aCons (eVar 3) (aCons (eApp mkRef (aNil)) (aNil))))) (sSeq (sFor (iApp rangeI1 (aCons (eApp dLen (aCons (eVar 5) (aNil))) (aNil))) (gN 6) (p_law_b0)) (sSeq (sAsg 7 (eC D.non)) (sSeq (sAsg 8 (eUn dNeg (eC (D.int 1)))) (sSeq (sTry errL (sAsg 8 (eFld cs_count "count" (eMake "Program" 3 [] (d_Program___init__) (aCons (eVar 2) (aCons (eUn frzL (eDispM [(eC (D.str "x"), eApp mkTup (aCons (eC (D.int 2)) (aCons (eC (D.int 0)) (aNil))))])) (aCons (eVar 3) (aNil))))))) [⟨"BadProgram", (some 9), p_law_s1⟩]) (sSeq (sIf (tOf (eOp dIs (eVar 4) (eC D.non))) (sRet (eAnd (eOp dIs (eVar 7) (eC D.non)) (eCall 2 [] (d__law_same 12) (aCons (eVar 8) (aCons (eApp dLen (aCons (eVar 5) (aNil))) (aNil)))))) (sNext)) (sRet (eCall 2 [] (d__law_same 12) (aCons (eVar 7) (aCons (eVar 4) (aNil))))))))))))))
@[irreducible] def d_law : List D → C D := fnD 10 p_law
end My

namespace My
open PySem DL L2
local macro_rules | `(tactic| walk_at "d") => `(tactic| simp -implicitDefEqProofs only [↓DL.k_F, ↓DL.k_M, ↓DL.k_onV, ↓DL.k_onL, ↓DL.k_onO, ↓DL.k_onN, ↓DL.r_C, ↓DL.r_var, ↓DL.k_Op2, ↓DL.k_Op, ↓DL.r_op, ↓DL.r_un, ↓DL.r_app, ↓DL.r_call, ↓DL.r_callF, ↓DL.k_CK2, ↓DL.k_CK, ↓DL.r_callK, ↓DL.r_callKF, ↓DL.r_nil, ↓DL.k_A2, ↓DL.k_A, ↓DL.r_cons, ↓DL.k_AndT, ↓DL.k_AndF, ↓DL.r_and, ↓DL.k_OrT, ↓DL.k_OrF, ↓DL.r_or, ↓DL.k_Not, ↓DL.r_not, ↓DL.k_EIfT, ↓DL.k_EIfF, ↓DL.r_eIf, ↓DL.k_Ch3T, ↓DL.k_Ch3F, ↓DL.k_Ch2, ↓DL.k_Ch1, ↓DL.r_chain, ↓DL.k_T, ↓DL.r_of, ↓DL.k_TAT, ↓DL.k_TAF, ↓DL.r_tand, ↓DL.k_TOT, ↓DL.k_TOF, ↓DL.r_tor, ↓DL.k_TN, ↓DL.r_tnot, ↓DL.r_tTrue, ↓DL.k_Asg, ↓DL.r_asg, ↓DL.k_Nx, ↓DL.r_expr, ↓DL.k_Rt, ↓DL.r_ret, ↓DL.r_retN, ↓DL.k_IfT, ↓DL.k_IfF, ↓DL.r_if, ↓DL.r_seq, ↓DL.r_next, ↓DL.r_break, ↓DL.r_cont, ↓DL.r_stuck, ↓DL.k_G, ↓DL.r_asgG, ↓DL.k_For, ↓DL.r_for, ↓DL.k_SI3, ↓DL.k_SI2, ↓DL.k_SI, ↓DL.r_setItemS, ↓DL.k_Ap3, ↓DL.k_Ap2, ↓DL.k_Ap1, ↓DL.r_apd, ↓DL.r_gN, ↓DL.r_iSeq, ↓DL.r_iApp, ↓DL.k_Body, ↓DL.k_Sl3, ↓DL.k_Sl2, ↓DL.k_Sl1, ↓DL.r_sl, ↓DL.r_oNone, ↓DL.k_OS, ↓DL.r_oSome, ↓DL.r_slT, ↓DL.r_slL, ↓DL.r_slS, ↓DL.r_retL, ↓DL.r_newL, ↓DL.r_lc, ↓DL.r_lcM, ↓DL.r_add, ↓DL.r_sub, ↓DL.r_mod, ↓DL.r_div, ↓DL.r_pow1018, ↓DL.r_lt, ↓DL.r_le, ↓DL.r_gt, ↓DL.r_ge, ↓DL.r_neg, ↓DL.r_eqII, ↓DL.r_neII, ↓DL.r_eqSS, ↓DL.r_neSS, ↓DL.r_eqBB, ↓DL.r_neBB, ↓DL.r_isN, ↓DL.r_isB, ↓DL.r_notN, ↓DL.r_int1, ↓DL.r_intb, ↓DL.r_abs, ↓DL.k_Get, ↓DL.r_ixT, ↓DL.r_ixL, ↓DL.r_asLR, ↓DL.r_asLL, ↓DL.r_ixRef, ↓DL.r_lenT, ↓DL.r_lenL, ↓DL.k_Len, ↓DL.r_lenRef, ↓DL.r_sumRef, ↓DL.k_SetJ, ↓DL.k_Set, ↓DL.r_setRef, ↓DL.k_App, ↓DL.r_appRef, ↓DL.r_tup0, ↓DL.r_tup1, ↓DL.r_tup2, ↓DL.r_tup3, ↓DL.r_tup4, ↓DL.r_tup5, ↓DL.r_tup6, ↓DL.r_tup7, ↓DL.r_tup8, ↓DL.r_lst0, ↓DL.r_ref0, ↓DL.r_ref1, ↓DL.r_ref2, ↓DL.r_ref3, ↓DL.r_ref4, ↓DL.r_ref5, ↓DL.r_ref6, ↓DL.r_listL, ↓DL.r_listT, ↓DL.r_tupleL, ↓DL.r_seqT, ↓DL.r_seqL, ↓DL.r_range1, ↓DL.r_range2, ↓DL.r_strEq, ↓DL.r_strEq2, ↓DL.r_isT0, ↓DL.r_isT1, ↓DL.r_isT2, ↓DL.r_isT3, ↓DL.r_isT4, ↓DL.r_isT5, ↓DL.r_isT6, ↓DL.r_isT7, ↓DL.r_isT8, ↓DL.r_isT9, ↓DL.r_isT10, ↓DL.r_isT11, ↓DL.r_isT12, ↓DL.r_isT13, ↓DL.r_isT14, ↓DL.r_isT15, ↓DL.r_isT16, ↓DL.r_isT17, ↓DL.r_isT18, ↓DL.r_isT19, ↓DL.r_isT20, ↓DL.r_isT21, ↓DL.r_isT22, ↓DL.r_isT23, ↓DL.r_isT24, ↓DL.r_isT25, ↓DL.r_isT26, ↓DL.r_isT27, ↓DL.r_isT28, ↓DL.r_isT29, ↓DL.r_isT30, ↓DL.r_isT31, ↓DL.r_isT32, ↓DL.r_isT33, ↓DL.r_isT34, ↓DL.r_isT35, ↓DL.r_isiN, ↓DL.r_isi2N, ↓DL.r_isiB, ↓DL.r_isi2B, ↓DL.r_isiI, ↓DL.r_isi2I, ↓DL.r_isiS, ↓DL.r_isi2S, ↓DL.r_isiT, ↓DL.r_isi2T, ↓DL.r_isiL, ↓DL.r_isi2L, ↓DL.r_inTI, ↓DL.r_ninTI, ↓DL.r_inLI, ↓DL.r_ninLI, ↓DL.r_inTS, ↓DL.r_inD_nil, ↓DL.r_inD_cons, ↓DL.r_flat_nil, ↓DL.r_flat_cons, ↓DL.r_flatS, ↓DL.r_flatI, ↓DL.r_eqvSS, ↓DL.r_eqvII, ↓DL.r_addLL, ↓DL.r_atm1, ↓DL.r_atm2, ↓DL.r_at0, ↓DL.r_at1, ↓DL.r_at2, ↓DL.r_at3, ↓DL.r_at4, ↓DL.r_at5, ↓DL.r_at6, ↓DL.r_at7, ↓DL.r_at8, ↓DL.r_beqI, ↓DL.r_ndec, ↓DL.r_gT, ↓DL.k_Gs, ↓DL.r_gsCons, ↓DL.r_gsNil, ↓DL.r_isDNN, ↓DL.r_isDBB, ↓DL.r_isDBN, ↓DL.r_isDNB, ↓DL.r_isDIN, ↓DL.r_isDIB, ↓DL.r_isDSN, ↓DL.r_isDSB, ↓DL.r_isDTN, ↓DL.r_isDTB, ↓DL.r_isDLN, ↓DL.r_isDLB, ↓DL.r_isDRN, ↓DL.r_isDRB, ↓DL.r_beqTT, ↓DL.r_beqTF, ↓DL.r_beqFT, ↓DL.r_beqFF, ↓DL.k_onI, ↓DL.k_Fld2, ↓DL.r_fld, ↓DL.k_FldR, ↓DL.k_FldO, ↓DL.r_look, ↓DL.r_lookN, ↓DL.r_putD, ↓DL.r_putDN, ↓DL.k_SF3, ↓DL.r_setFldR, ↓DL.k_SF2, ↓DL.k_SF1, ↓DL.r_setFld, ↓DL.r_methF, ↓DL.k_Me2, ↓DL.r_meth, ↓DL.k_MeR, ↓DL.k_MeO, ↓DL.r_make, ↓DL.k_MkN, ↓DL.r_makeF, ↓DL.k_CG2, ↓DL.k_CG, ↓DL.r_callG, ↓DL.r_callGF, ↓DL.r_listRg, ↓DL.r_tupRg, ↓DL.k_SlR, ↓DL.r_slR, ↓DL.r_enumL, ↓DL.r_max2, ↓DL.r_min2, ↓DL.r_isi2R, ↓DL.r_isiR, ↓DL.r_lst1, ↓DL.r_lst2, ↓DL.r_lst3, ↓DL.r_lst4, ↓DL.r_lst5, ↓DL.r_lst6, ↓DL.r_lst7, ↓DL.r_lst8, ↓DL.r_lst9, ↓DL.r_lst10, ↓DL.r_lst11, ↓DL.r_lst12, ↓DL.r_seqR, ↓DL.k_ForR, ↓DL.r_minL, ↓DL.r_clr, ↓DL.k_Clr1R, ↓DL.k_LstR, ↓DL.r_listRef, ↓DL.r_enumJL, ↓DL.r_enumJT, ↓DL.k_Clr2, ↓DL.k_MG2, ↓DL.k_MG, ↓DL.r_makeG, ↓DL.r_makeGF, ↓DL.r_prop, ↓DL.k_Pr2, ↓DL.k_PrR, ↓DL.k_Eq3, ↓DL.r_isiCN, ↓DL.r_isiCS, ↓DL.r_isiCT, ↓DL.k_Ix3, ↓DL.k_Ix2, ↓DL.k_Ix1, ↓DL.r_index, ↓DL.r_iStr, ↓DL.r_strI, ↓DL.k_T2, ↓DL.k_T1S, ↓DL.r_join, ↓DL.r_sindex, ↓DL.k_Rz, ↓DL.r_raise, ↓DL.r_raise0, ↓DL.k_Ex, ↓DL.r_try, ↓DL.k_trNx, ↓DL.k_trRt, ↓DL.k_trBk, ↓DL.k_trCt, ↓DL.k_trEx, ↓DL.k_hdlN, ↓DL.k_hdlT, ↓DL.k_hdlF, ↓DL.k_setSlN, ↓DL.k_setSlS, ↓DL.k_endNx, ↓DL.k_endRt, ↓DL.k_endBk, ↓DL.k_endCt, ↓DL.r_xf, ↓DL.r_xfD, ↓DL.r_isE, ↓DL.r_isED, ↓DL.r_isiDc, ↓DL.r_isi2Dc, ↓DL.k_In4, ↓DL.k_In3, ↓DL.k_In2, ↓DL.k_In1, ↓DL.r_ins, ↓DL.r_addI, ↓DL.k_Fa4, ↓DL.k_Fa3, ↓DL.k_Fa2, ↓DL.k_FaR, ↓DL.r_fldaug, ↓DL.r_dinL, ↓DL.r_dinD, ↓DL.r_dninL, ↓DL.r_dninD, ↓DL.r_dgetL, ↓DL.r_dgetD, ↓DL.r_lenDL, ↓DL.r_lenDD, ↓DL.r_dictL, ↓DL.r_dictD, ↓DL.r_isiLc, ↓DL.r_isi2Lc, ↓DL.r_isTd0, ↓DL.r_isTd1, ↓DL.r_isTd2, ↓DL.r_isTd3, ↓DL.r_isTd4, ↓DL.r_newD, ↓DL.r_frzLs, ↓DL.r_items, ↓DL.r_inK, ↓DL.r_ninK, ↓DL.r_getK, ↓DL.r_dispM, ↓DL.k_Dp2, ↓DL.k_Dp1, ↓DL.r_pairsN, ↓DL.r_pairsC, ↓DL.r_dispF1, ↓DL.r_gTn, ↓DL.k_Gf1, ↓DL.r_gFld, ↓DL.Kt.seq_nx, ↓DL.Kt.seq_rt, ↓DL.Kt.seq_bk, ↓DL.Kt.seq_ct, ↓DL.Kt.seq_ex, ↓DL.Kt.fin_nx, ↓DL.Kt.fin_rt, ↓DL.Kt.fin_ex, ↓DL.Kt.loop_nx, ↓DL.Kt.loop_rt, ↓DL.Kt.loop_bk, ↓DL.Kt.loop_ct, ↓DL.Kt.loop_ex, ↓DL.C.run_ret, ↓DL.mset_same, ↓DL.mset_mset, startD, ixN, Option.bind_some, Option.map_some, List.map_cons, List.map_nil, List.length_cons, List.length_nil, List.length_set, List.replicate, List.cons_append, List.nil_append, List.append_nil, List.set_cons_zero, List.set_cons_succ, List.getElem?_cons_zero, List.getElem?_cons_succ, Nat.reduceAdd, Nat.reduceSub, Nat.zero_add, if_true, if_false, decide_eq_true_eq, reduceIte, Bool.not_true, Bool.not_false, beq_self_eq_true, Bool.false_eq_true, Int.reduceLT, Int.reduceLE, Int.reduceNeg, Int.reduceToNat, Int.reduceAdd, Int.reduceSub, Nat.reduceLT, Nat.reduceLeDiff, Int.cast_ofNat_Int, Int.reduceEq, Int.reduceBEq, DL.wipeD, decide_true, decide_false, not_true_eq_false, not_false_eq_true, String.reduceEq, Bool.or_true, Bool.or_false, Bool.true_or, Bool.false_or, Bool.and_true, Bool.and_false, Bool.true_and, Bool.false_and, Bool.not_not, Nat.reduceEqDiff, Int.toNat_natCast, Decidable.not_not, List.mem_cons, List.not_mem_nil, or_false, or_true, true_or, false_or, and_true, true_and, and_self, and_false, false_and, reduceCtorEq, Option.isNone_some, Option.isNone_none, Option.isSome_some, Option.isSome_none, List.zip_cons_cons, List.zip_nil_right, List.zip_nil_left, List.reverse_cons, List.reverse_nil, Option.getD_some, Option.getD_none, r_tb_LENGTHS_0, r_tb_LENGTHS_1, r_tb_LENGTHS_2, r_tb_LENGTHS_3, r_tb_LENGTHS_4, r_tb_LENGTHS_5, r_in_BadProgram, r_xs_BadProgram_BadProgram])
local macro_rules | `(tactic| walk_at "h") => `(tactic| simp -implicitDefEqProofs only [↓DL.k_F, ↓DL.k_M, ↓DL.k_onV, ↓DL.k_onL, ↓DL.k_onO, ↓DL.k_onN, ↓DL.r_C, ↓DL.r_var, ↓DL.k_Op2, ↓DL.k_Op, ↓DL.r_op, ↓DL.r_un, ↓DL.r_app, ↓DL.r_call, ↓DL.r_callF, ↓DL.k_CK2, ↓DL.k_CK, ↓DL.r_callK, ↓DL.r_callKF, ↓DL.r_nil, ↓DL.k_A2, ↓DL.k_A, ↓DL.r_cons, ↓DL.k_AndT, ↓DL.k_AndF, ↓DL.r_and, ↓DL.k_OrT, ↓DL.k_OrF, ↓DL.r_or, ↓DL.k_Not, ↓DL.r_not, ↓DL.k_EIfT, ↓DL.k_EIfF, ↓DL.r_eIf, ↓DL.k_Ch3T, ↓DL.k_Ch3F, ↓DL.k_Ch2, ↓DL.k_Ch1, ↓DL.r_chain, ↓DL.k_T, ↓DL.r_of, ↓DL.k_TAT, ↓DL.k_TAF, ↓DL.r_tand, ↓DL.k_TOT, ↓DL.k_TOF, ↓DL.r_tor, ↓DL.k_TN, ↓DL.r_tnot, ↓DL.r_tTrue, ↓DL.k_Asg, ↓DL.r_asg, ↓DL.k_Nx, ↓DL.r_expr, ↓DL.k_Rt, ↓DL.r_ret, ↓DL.r_retN, ↓DL.k_IfT, ↓DL.k_IfF, ↓DL.r_if, ↓DL.r_seq, ↓DL.r_next, ↓DL.r_break, ↓DL.r_cont, ↓DL.r_stuck, ↓DL.k_G, ↓DL.r_asgG, ↓DL.k_For, ↓DL.r_for, ↓DL.k_SI3, ↓DL.k_SI2, ↓DL.k_SI, ↓DL.r_setItemS, ↓DL.k_Ap3, ↓DL.k_Ap2, ↓DL.k_Ap1, ↓DL.r_apd, ↓DL.r_gN, ↓DL.r_iSeq, ↓DL.r_iApp, ↓DL.k_Body, ↓DL.k_Sl3, ↓DL.k_Sl2, ↓DL.k_Sl1, ↓DL.r_sl, ↓DL.r_oNone, ↓DL.k_OS, ↓DL.r_oSome, ↓DL.r_slT, ↓DL.r_slL, ↓DL.r_slS, ↓DL.r_retL, ↓DL.r_newL, ↓DL.r_lc, ↓DL.r_lcM, ↓DL.r_add, ↓DL.r_sub, ↓DL.r_mod, ↓DL.r_div, ↓DL.r_pow1018, ↓DL.r_lt, ↓DL.r_le, ↓DL.r_gt, ↓DL.r_ge, ↓DL.r_neg, ↓DL.r_eqII, ↓DL.r_neII, ↓DL.r_eqSS, ↓DL.r_neSS, ↓DL.r_eqBB, ↓DL.r_neBB, ↓DL.r_isN, ↓DL.r_isB, ↓DL.r_notN, ↓DL.r_int1, ↓DL.r_intb, ↓DL.r_abs, ↓DL.k_Get, ↓DL.r_ixT, ↓DL.r_ixL, ↓DL.r_asLR, ↓DL.r_asLL, ↓DL.r_ixRef, ↓DL.r_lenT, ↓DL.r_lenL, ↓DL.k_Len, ↓DL.r_lenRef, ↓DL.r_sumRef, ↓DL.k_SetJ, ↓DL.k_Set, ↓DL.r_setRef, ↓DL.k_App, ↓DL.r_appRef, ↓DL.r_tup0, ↓DL.r_tup1, ↓DL.r_tup2, ↓DL.r_tup3, ↓DL.r_tup4, ↓DL.r_tup5, ↓DL.r_tup6, ↓DL.r_tup7, ↓DL.r_tup8, ↓DL.r_lst0, ↓DL.r_ref0, ↓DL.r_ref1, ↓DL.r_ref2, ↓DL.r_ref3, ↓DL.r_ref4, ↓DL.r_ref5, ↓DL.r_ref6, ↓DL.r_listL, ↓DL.r_listT, ↓DL.r_tupleL, ↓DL.r_seqT, ↓DL.r_seqL, ↓DL.r_range1, ↓DL.r_range2, ↓DL.r_strEq, ↓DL.r_strEq2, ↓DL.r_isT0, ↓DL.r_isT1, ↓DL.r_isT2, ↓DL.r_isT3, ↓DL.r_isT4, ↓DL.r_isT5, ↓DL.r_isT6, ↓DL.r_isT7, ↓DL.r_isT8, ↓DL.r_isT9, ↓DL.r_isT10, ↓DL.r_isT11, ↓DL.r_isT12, ↓DL.r_isT13, ↓DL.r_isT14, ↓DL.r_isT15, ↓DL.r_isT16, ↓DL.r_isT17, ↓DL.r_isT18, ↓DL.r_isT19, ↓DL.r_isT20, ↓DL.r_isT21, ↓DL.r_isT22, ↓DL.r_isT23, ↓DL.r_isT24, ↓DL.r_isT25, ↓DL.r_isT26, ↓DL.r_isT27, ↓DL.r_isT28, ↓DL.r_isT29, ↓DL.r_isT30, ↓DL.r_isT31, ↓DL.r_isT32, ↓DL.r_isT33, ↓DL.r_isT34, ↓DL.r_isT35, ↓DL.r_isiN, ↓DL.r_isi2N, ↓DL.r_isiB, ↓DL.r_isi2B, ↓DL.r_isiI, ↓DL.r_isi2I, ↓DL.r_isiS, ↓DL.r_isi2S, ↓DL.r_isiT, ↓DL.r_isi2T, ↓DL.r_isiL, ↓DL.r_isi2L, ↓DL.r_inTI, ↓DL.r_ninTI, ↓DL.r_inLI, ↓DL.r_ninLI, ↓DL.r_inTS, ↓DL.r_inD_nil, ↓DL.r_inD_cons, ↓DL.r_flat_nil, ↓DL.r_flat_cons, ↓DL.r_flatS, ↓DL.r_flatI, ↓DL.r_eqvSS, ↓DL.r_eqvII, ↓DL.r_addLL, ↓DL.r_atm1, ↓DL.r_atm2, ↓DL.r_at0, ↓DL.r_at1, ↓DL.r_at2, ↓DL.r_at3, ↓DL.r_at4, ↓DL.r_at5, ↓DL.r_at6, ↓DL.r_at7, ↓DL.r_at8, ↓DL.r_beqI, ↓DL.r_ndec, ↓DL.r_gT, ↓DL.k_Gs, ↓DL.r_gsCons, ↓DL.r_gsNil, ↓DL.r_isDNN, ↓DL.r_isDBB, ↓DL.r_isDBN, ↓DL.r_isDNB, ↓DL.r_isDIN, ↓DL.r_isDIB, ↓DL.r_isDSN, ↓DL.r_isDSB, ↓DL.r_isDTN, ↓DL.r_isDTB, ↓DL.r_isDLN, ↓DL.r_isDLB, ↓DL.r_isDRN, ↓DL.r_isDRB, ↓DL.r_beqTT, ↓DL.r_beqTF, ↓DL.r_beqFT, ↓DL.r_beqFF, ↓DL.k_onI, ↓DL.k_Fld2, ↓DL.r_fld, ↓DL.k_FldR, ↓DL.k_FldO, ↓DL.r_look, ↓DL.r_lookN, ↓DL.r_putD, ↓DL.r_putDN, ↓DL.k_SF3, ↓DL.r_setFldR, ↓DL.k_SF2, ↓DL.k_SF1, ↓DL.r_setFld, ↓DL.r_methF, ↓DL.k_Me2, ↓DL.r_meth, ↓DL.k_MeR, ↓DL.k_MeO, ↓DL.r_make, ↓DL.k_MkN, ↓DL.r_makeF, ↓DL.k_CG2, ↓DL.k_CG, ↓DL.r_callG, ↓DL.r_callGF, ↓DL.r_listRg, ↓DL.r_tupRg, ↓DL.k_SlR, ↓DL.r_slR, ↓DL.r_enumL, ↓DL.r_max2, ↓DL.r_min2, ↓DL.r_isi2R, ↓DL.r_isiR, ↓DL.r_lst1, ↓DL.r_lst2, ↓DL.r_lst3, ↓DL.r_lst4, ↓DL.r_lst5, ↓DL.r_lst6, ↓DL.r_lst7, ↓DL.r_lst8, ↓DL.r_lst9, ↓DL.r_lst10, ↓DL.r_lst11, ↓DL.r_lst12, ↓DL.r_seqR, ↓DL.k_ForR, ↓DL.r_minL, ↓DL.r_clr, ↓DL.k_Clr1R, ↓DL.k_LstR, ↓DL.r_listRef, ↓DL.r_enumJL, ↓DL.r_enumJT, ↓DL.k_Clr2, ↓DL.k_MG2, ↓DL.k_MG, ↓DL.r_makeG, ↓DL.r_makeGF, ↓DL.r_prop, ↓DL.k_Pr2, ↓DL.k_PrR, ↓DL.k_Eq3, ↓DL.r_isiCN, ↓DL.r_isiCS, ↓DL.r_isiCT, ↓DL.k_Ix3, ↓DL.k_Ix2, ↓DL.k_Ix1, ↓DL.r_index, ↓DL.r_iStr, ↓DL.r_strI, ↓DL.k_T2, ↓DL.k_T1S, ↓DL.r_join, ↓DL.r_sindex, ↓DL.k_Rz, ↓DL.r_raise, ↓DL.r_raise0, ↓DL.k_Ex, ↓DL.r_try, ↓DL.k_trNx, ↓DL.k_trRt, ↓DL.k_trBk, ↓DL.k_trCt, ↓DL.k_trEx, ↓DL.k_hdlN, ↓DL.k_hdlT, ↓DL.k_hdlF, ↓DL.k_setSlN, ↓DL.k_setSlS, ↓DL.k_endNx, ↓DL.k_endRt, ↓DL.k_endBk, ↓DL.k_endCt, ↓DL.r_xf, ↓DL.r_xfD, ↓DL.r_isE, ↓DL.r_isED, ↓DL.r_isiDc, ↓DL.r_isi2Dc, ↓DL.k_In4, ↓DL.k_In3, ↓DL.k_In2, ↓DL.k_In1, ↓DL.r_ins, ↓DL.r_addI, ↓DL.k_Fa4, ↓DL.k_Fa3, ↓DL.k_Fa2, ↓DL.k_FaR, ↓DL.r_fldaug, ↓DL.r_dinL, ↓DL.r_dinD, ↓DL.r_dninL, ↓DL.r_dninD, ↓DL.r_dgetL, ↓DL.r_dgetD, ↓DL.r_lenDL, ↓DL.r_lenDD, ↓DL.r_dictL, ↓DL.r_dictD, ↓DL.r_isiLc, ↓DL.r_isi2Lc, ↓DL.r_isTd0, ↓DL.r_isTd1, ↓DL.r_isTd2, ↓DL.r_isTd3, ↓DL.r_isTd4, ↓DL.r_newD, ↓DL.r_frzLs, ↓DL.r_items, ↓DL.r_inK, ↓DL.r_ninK, ↓DL.r_getK, ↓DL.r_dispM, ↓DL.k_Dp2, ↓DL.k_Dp1, ↓DL.r_pairsN, ↓DL.r_pairsC, ↓DL.r_dispF1, ↓DL.r_gTn, ↓DL.k_Gf1, ↓DL.r_gFld, ↓DL.Kt.seq_nx, ↓DL.Kt.seq_rt, ↓DL.Kt.seq_bk, ↓DL.Kt.seq_ct, ↓DL.Kt.seq_ex, ↓DL.Kt.fin_nx, ↓DL.Kt.fin_rt, ↓DL.Kt.fin_ex, ↓DL.Kt.loop_nx, ↓DL.Kt.loop_rt, ↓DL.Kt.loop_bk, ↓DL.Kt.loop_ct, ↓DL.Kt.loop_ex, ↓DL.C.run_ret, ↓DL.mset_same, ↓DL.mset_mset, startD, ixN, Option.bind_some, Option.map_some, List.map_cons, List.map_nil, List.length_cons, List.length_nil, List.length_set, List.replicate, List.cons_append, List.nil_append, List.append_nil, List.set_cons_zero, List.set_cons_succ, List.getElem?_cons_zero, List.getElem?_cons_succ, Nat.reduceAdd, Nat.reduceSub, Nat.zero_add, if_true, if_false, decide_eq_true_eq, reduceIte, Bool.not_true, Bool.not_false, beq_self_eq_true, Bool.false_eq_true, Int.reduceLT, Int.reduceLE, Int.reduceNeg, Int.reduceToNat, Int.reduceAdd, Int.reduceSub, Nat.reduceLT, Nat.reduceLeDiff, Int.cast_ofNat_Int, Int.reduceEq, Int.reduceBEq, DL.wipeD, decide_true, decide_false, not_true_eq_false, not_false_eq_true, String.reduceEq, Bool.or_true, Bool.or_false, Bool.true_or, Bool.false_or, Bool.and_true, Bool.and_false, Bool.true_and, Bool.false_and, Bool.not_not, Nat.reduceEqDiff, Int.toNat_natCast, Decidable.not_not, List.mem_cons, List.not_mem_nil, or_false, or_true, true_or, false_or, and_true, true_and, and_self, and_false, false_and, reduceCtorEq, Option.isNone_some, Option.isNone_none, Option.isSome_some, Option.isSome_none, List.zip_cons_cons, List.zip_nil_right, List.zip_nil_left, List.reverse_cons, List.reverse_nil, Option.getD_some, Option.getD_none, r_tb_LENGTHS_0, r_tb_LENGTHS_1, r_tb_LENGTHS_2, r_tb_LENGTHS_3, r_tb_LENGTHS_4, r_tb_LENGTHS_5, r_in_BadProgram, r_xs_BadProgram_BadProgram, *])
local macro_rules | `(tactic| walk_at "s") => `(tactic| ((try walk_at "h"); repeat' ((first | with_reducible refine if_dec (fun _ => ?_) (fun _ => ?_) | with_reducible refine eif_dec (fun _ => ?_) (fun _ => ?_) | with_reducible refine tor_dec (fun _ => ?_) (fun _ => ?_) | with_reducible refine tand_dec (fun _ => ?_) (fun _ => ?_) | with_reducible refine and_dec (fun _ => ?_) (fun _ => ?_) | with_reducible refine or_dec (fun _ => ?_) (fun _ => ?_) | with_reducible refine ch_dec (fun _ => ?_) (fun _ => ?_)) <;> (try walk_at "h"))))
theorem mixed_spec {c k : Int} {m : Mem} {Q : D → Mem → Prop} {E : Xn → Mem → Prop} (hk : 0 ≤ k) (hk2 : k < 2 ^ 40) (h : ∀ r : Int, 0 ≤ r → Q (.int r) m) : (d__law_mixed [.int c, .int k]).run m Q E := by
  unfold d__law_mixed
  refine fn_run ?_
  unfold p__law_mixed
  have hk3 : k < 1099511627776 := hk2
  walk_at "d"
  refine mul_run (.inl ⟨by omega, by omega⟩) ?_
  refine mul_run (.inr ⟨by omega, by omega⟩) ?_
  walk_at "d"
  refine mul_run (.inl ⟨by omega, by omega⟩) ?_
  walk_at "d"
  generalize hv : (c % 1000000000000000000 + 17) * (k + 3) * 48271 % 2147483647 + 7919 * k = v
  have hv1 : 0 ≤ v := by have := Int.emod_nonneg ((c % 1000000000000000000 + 17) * (k + 3) * 48271) (show (2147483647 : Int) ≠ 0 by decide); omega
  have hv2 : v < 2 ^ 62 := by have := Int.emod_lt_of_pos ((c % 1000000000000000000 + 17) * (k + 3) * 48271) (show (0 : Int) < 2147483647 by decide); omega
  refine mul_run (.inl ⟨by omega, by omega⟩) ?_
  walk_at "d"
  generalize hu : v * (v / 1009 + 69621) % 2147483629 = u
  have hu1 : 0 ≤ u := by have := Int.emod_nonneg (v * (v / 1009 + 69621)) (show (2147483629 : Int) ≠ 0 by decide); omega
  have hu2 : u < 2 ^ 62 := by have := Int.emod_lt_of_pos (v * (v / 1009 + 69621)) (show (0 : Int) < 2147483629 by decide); omega
  refine mul_run (.inl ⟨by omega, by omega⟩) ?_
  walk_at "d"
  refine h _ ?_
  have := Int.emod_nonneg (u * (u / 2003 + 40692)) (show (2147483399 : Int) ≠ 0 by decide)
  omega
structure PoolAt (m : Mem) (p c : Addr) (N : Int) : Prop where
  ne : c ≠ p
  ex : ∃ (at' sub cnt sum : Int) (cells : List Int), m p = some (.lst [.ref c, .int at', .int sub, .int cnt, .int sum]) ∧ m c = some (.lst (cells.map D.int)) ∧ 0 ≤ at' ∧ -1 ≤ sub ∧ sub ≤ 7 ∧ 0 ≤ cnt ∧ cnt ≤ N ∧ 0 ≤ sum ∧ (∀ x ∈ cells, 0 ≤ x)
def Same (p c : Addr) (m m' : Mem) : Prop := ∀ a, a ≠ p → a ≠ c → m' a = m a
theorem Same.rfl {p c : Addr} {m : Mem} : Same p c m m := fun _ _ _ => Eq.refl _
theorem Same.trans {p c : Addr} {m m' m'' : Mem} (h : Same p c m m') (h' : Same p c m' m'') : Same p c m m'' := fun a x y => (h' a x y).trans (h a x y)
theorem Same.setp {p c : Addr} {m m' : Mem} {o : MO} (h : Same p c m m') : Same p c m (mset m' p o) := fun a x y => (mset_ne x).trans (h a x y)
theorem Same.setc {p c : Addr} {m m' : Mem} {o : MO} (h : Same p c m m') : Same p c m (mset m' c o) := fun a x y => (mset_ne y).trans (h a x y)
theorem PoolAt.up {m m' : Mem} {p c : Addr} {N N' : Int} (h : PoolAt m p c N) (hN : N ≤ N') (hp : m' p = m p) (hc : m' c = m c) : PoolAt m' p c N' := by
  obtain ⟨ne, a, s, k, u, l, e1, e2, r1, r2, r3, r4, r5, r6, r7⟩ := h
  exact ⟨ne, a, s, k, u, l, hp.trans e1, hc.trans e2, r1, r2, r3, r4, by omega, r6, r7⟩
theorem draw_spec {m : Mem} {p c : Addr} {N n : Int} {Q : D → Mem → Prop} {E : Xn → Mem → Prop} (hP : PoolAt m p c N) (hN : N < 2 ^ 39) (hn : 0 < n) (hn2 : n < 1073741824)
    (h : ∀ (r : Int) (m' : Mem), 0 ≤ r → r < n → PoolAt m' p c (N + 1) → Same p c m m' → Q (.int r) m') : (d__law_draw [.ref p, .int n]).run m Q E := by
  obtain ⟨ne, a, s, k, u, l, e1, e2, r1, r2, r3, r4, r5, r6, r7⟩ := hP
  have hN' : N < 549755813888 := hN
  have hm : ∀ x : Int, 0 ≤ x % n ∧ x % n < n := fun x => ⟨Int.emod_nonneg x (by omega), Int.emod_lt_of_pos x hn⟩
  have ne' : p ≠ c := fun q => ne q.symm
  unfold d__law_draw
  refine fn_run ?_
  unfold p__law_draw
  have f1 : ∀ (m : Mem) (o : MO), mset m p o c = m c := fun m o => mset_ne ne
  have f2 : ∀ (m : Mem) (o : MO), mset m c o p = m p := fun m o => mset_ne ne'
  have hl0 : (List.map D.int l).length = l.length := List.length_map _
  have fin : ∀ (m' : Mem) (a' s' k' : Int) (l' : List Int) (r : Int), m' p = some (.lst [.ref c, .int a', .int s', .int k', .int u]) → m' c = some (.lst (l'.map D.int)) → 0 ≤ a' → -1 ≤ s' → s' ≤ 7 → 0 ≤ k' → k' ≤ N + 1 → (∀ x ∈ l', 0 ≤ x) → Same p c m m' → Q (.int (r % n)) m' := fun m' a' s' k' l' r g1 g2 g3 g4 g5 g6 g7 g8 g9 => h _ _ (hm r).1 (hm r).2 ⟨ne, a', s', k', u, l', g1, g2, g3, g4, g5, g6, g7, r6, g8⟩ g9
  walk_at "h"
  refine if_dec (fun h1 => ?_) (fun h1 => ?_)
  · walk_at "h"
    refine mixed_spec (by omega) (by omega) fun r hr => ?_
    walk_at "d"
    rw [r_mod hn]
    exact fin _ _ _ _ l _ mset_same (by simp only [mset_same, f1, e2]) r1 r2 r3 (by omega) (by omega) r7 (fun z z1 z2 => by simp only [mset_ne z1, mset_ne z2])
  · have h2 : a < ↑l.length := by omega
    have hlt : a.toNat < l.length := by omega
    generalize hv : l[a.toNat] = v
    have hv0 : 0 ≤ v := r7 v (hv ▸ List.getElem_mem _)
    have f3 : atI (List.map D.int l) a = some (.int v) := atI_of r1 (by rw [List.getElem?_map, List.getElem?_eq_getElem hlt, hv]; rfl)
    have f4 : ∀ x, atI ((List.map D.int l).set a.toNat x) a = some x := fun x => atI_of r1 (List.getElem?_set_self (by omega))
    have f5 : (l.set a.toNat (v / n)).map D.int = (l.map D.int).set a.toNat (.int (v / n)) := List.map_set
    have f6 : ∀ x ∈ l.set a.toNat (v / n), 0 ≤ x := fun x hx => (List.mem_or_eq_of_mem_set hx).elim (r7 x) (fun e => e ▸ Int.ediv_nonneg hv0 (by omega))
    walk_at "h"
    refine tor_dec (fun g => ?_) (fun g => ?_)
    · walk_at "h"
      refine if_dec (fun g3 => ?_) (fun g3 => ?_)
      · clear g3
        walk_at "h"
        exact fin _ _ _ _ (l.set a.toNat (v / n)) _ mset_same (by simp only [mset_same, f1, e2, f5]) (by omega) (by omega) (by omega) (by omega) (by omega) f6 (fun z z1 z2 => by simp only [mset_ne z1, mset_ne z2])
      · clear g3
        walk_at "h"
        exact fin _ _ _ _ (l.set a.toNat (v / n)) _ mset_same (by simp only [mset_same, f1, e2, f5]) (by omega) (by omega) (by omega) (by omega) (by omega) f6 (fun z z1 z2 => by simp only [mset_ne z1, mset_ne z2])
    · walk_at "h"
      refine if_dec (fun g2 => ?_) (fun g2 => ?_)
      · walk_at "h"
        refine if_dec (fun g3 => ?_) (fun g3 => ?_)
        · clear g3
          walk_at "h"
          exact fin _ _ _ _ (l.set a.toNat (v / n)) _ mset_same (by simp only [mset_same, f1, e2, f5]) (by omega) (by omega) (by omega) (by omega) (by omega) f6 (fun z z1 z2 => by simp only [mset_ne z1, mset_ne z2])
        · clear g3
          walk_at "h"
          exact fin _ _ _ _ (l.set a.toNat (v / n)) _ mset_same (by simp only [mset_same, f1, e2, f5]) (by omega) (by omega) (by omega) (by omega) (by omega) f6 (fun z z1 z2 => by simp only [mset_ne z1, mset_ne z2])
      · walk_at "h"
        refine mixed_spec (by omega) (by omega) fun r hr => ?_
        walk_at "h"
        refine if_dec (fun g3 => ?_) (fun g3 => ?_)
        · walk_at "h"
          exact fin _ _ _ _ l _ mset_same (by simp only [mset_same, f1, e2]) (by omega) (by omega) (by omega) (by omega) (by omega) r7 (fun z z1 z2 => by simp only [mset_ne z1, mset_ne z2])
        · walk_at "h"
          exact fin _ _ _ _ l _ mset_same (by simp only [mset_same, f1, e2]) (by omega) (by omega) (by omega) (by omega) (by omega) r7 (fun z z1 z2 => by simp only [mset_ne z1, mset_ne z2])
theorem cut_map {ns : List Int} {lo hi : Option Int} : ∃ l : List Int, cutD (ns.map D.int) lo hi = l.map D.int ∧ l.length ≤ ns.length := by
  unfold cutD
  rw [← List.map_drop, ← List.map_take]
  exact ⟨_, rfl, by rw [List.length_take, List.length_drop]; omega⟩
theorem pool_spec {m : Mem} {ns : List Int} {Q : D → Mem → Prop} {E : Xn → Mem → Prop} (hn : ns.length ≤ 63)
    (h : ∀ (p c : Addr) (m' : Mem), m p = none → m c = none → PoolAt m' p c 0 → Same p c m m' → Q (.ref p) m') : (d__law_pool [.scr ns]).run m Q E := by
  unfold d__law_pool
  refine fn_run ?_
  unfold p__law_pool
  walk_at "d"
  obtain ⟨l, e, hl⟩ := cut_map (ns := ns) (lo := none) (hi := some 63)
  rw [e]
  refine lc_all (f := fun d => match d with | .int i => .int (if i < 0 then -i else i) | d => d) (by rw [List.length_map]; exact Nat.le_trans hl (Nat.le_trans hn (by decide))) (fun x hx Y y => ?_) ?_
  · obtain ⟨i, _, rfl⟩ := List.mem_map.mp hx
    walk_at "d"
    exact y
  · rw [List.map_map]
    have e2 : (l.map ((fun d => match d with | D.int i => D.int (if i < 0 then -i else i) | d => d) ∘ D.int)) = (l.map fun i => if i < 0 then -i else i).map D.int := by rw [List.map_map]; rfl
    rw [e2]
    have hc : ∀ x ∈ (l.map fun i : Int => if i < 0 then -i else i), (0 : Int) ≤ x := fun x hx => by
      obtain ⟨i, _, rfl⟩ := List.mem_map.mp hx
      split <;> omega
    generalize (l.map fun i : Int => if i < 0 then -i else i) = cs at hc
    have hs : ∀ cs : List Int, (∀ x ∈ cs, 0 ≤ x) → 0 ≤ cs.sum := fun cs => by
      induction cs with
      | nil => intro _; exact Int.le_refl _
      | cons i r ih => intro q; rw [List.sum_cons]; have := q i (.head _); have := ih fun x hx => q x (.tail _ hx); omega
    rw [r_newL]
    intro c hc0
    walk_at "d"
    rw [allInt_map]
    walk_at "d"
    intro p hp0
    have ne : p ≠ c := fun q => by rw [q, mset_same] at hp0; cases hp0
    refine h p c _ (by rw [mset_ne ne] at hp0; exact hp0) hc0 ⟨fun q => ne q.symm, 0, 0, 0, _, cs, mset_same, (mset_ne fun q => ne q.symm).trans mset_same, by omega, by omega, by omega, by omega, by omega, Int.emod_nonneg _ (by decide), hc⟩ Same.rfl.setc.setp

def okS : Nat → D → Bool
  | 0, _ => false
  | n + 1, .tup l => l.all (okS n) && decide (l.length < 1000000)
  | n + 1, .lst l => l.all (okS n) && decide (l.length < 1000000)
  | _ + 1, .non => true
  | _ + 1, .bl _ => true
  | _ + 1, .int _ => true
  | _ + 1, .str _ => true
  | _, _ => false
theorem c_int_I {i : Int} {m : Mem} {Q : D → Mem → Prop} {E : Xn → Mem → Prop} : (d__law_int [.int i]).run m Q E = Q (.bl true) m := by
  unfold d__law_int
  rw [run_fnD]
  unfold p__law_int
  walk_at "d"
theorem small_len {n : Nat} (h : n < 1000000) : small62 (n : Int) = true := by rw [small62_iff]; omega
theorem same_seq {n : Nat} {l : List D} (ih : ∀ x : D, okS n x = true → Ret (d__law_same n [x, x]) (.bl true)) (h1 : l.all (okS n) = true) (h3 : l.length < 1000000) (m : Mem) (K : Kt) (X Y : D) (hX : (∀ (i : Int) (Q : D → Mem → Prop) (E : Xn → Mem → Prop), (dIx X (.int i)).run m Q E = onO (atI l i) (kM m Q))) (hY : (∀ (i : Int) (Q : D → Mem → Prop) (E : Xn → Mem → Prop), (dIx Y (.int i)).run m Q E = onO (atI l i) (kM m Q)))
    (hK : ∀ y, K.nx [some X, some Y, y] m) : forD (rng 0 (l.length : Int)) none (gN 2) (p__law_same_b0 (d__law_same n)) K (rng 0 (l.length : Int)) [some X, some Y, none] m := by
  refine for_nat (fun i δ m' => m' = m ∧ ∃ y, δ = [some X, some Y, y]) ⟨rfl, _, rfl⟩ (fun i δ m' hi ⟨e1, y, e2⟩ => ?_) (fun δ m' ⟨e1, y, e2⟩ => ?_)
  · subst e1 e2
    have hx : l[i]? = some l[i] := List.getElem?_eq_getElem hi
    have h5 : (↑i : Int) < ↑l.length := by omega
    have h6 : (0 : Int) ≤ ↑i := by omega
    have h7 : onO (atI l (i : Int)) = onO (some l[i]) := by simp only [atI, ixN, if_pos h6, if_pos h5, Option.bind_some, Int.toNat_natCast, hx]
    clear hx h5 h6
    have hi0 := ih l[i] (List.all_eq_true.mp h1 _ (List.getElem_mem hi))
    clear ih h1 h3 hK
    walk_at "d"
    unfold p__law_same_b0
    walk_at "d"
    rw [hX, h7]
    walk_at "d"
    rw [hY, h7]
    walk_at "d"
    refine hi0 _ _ _ ?_
    walk_at "d"
    exact ⟨_, rfl⟩
  · subst e1 e2
    exact hK y
theorem same_step (n : Nat) (ih : ∀ x : D, okS n x = true → Ret (d__law_same n [x, x]) (.bl true)) (x : D) (h : okS (n + 1) x = true) : Ret (d__law_same (n + 1) [x, x]) (.bl true) := by
  intro m Q E q
  unfold d__law_same
  refine fn_run ?_
  unfold p__law_same
  cases x with
  | non => walk_at "d"; exact q
  | bl b =>
    cases b
    · walk_at "d"; exact q
    · walk_at "d"; exact q
  | int i => walk_at "d"; rw [c_int_I]; walk_at "d"; exact q
  | str s => walk_at "d"; exact q
  | tup l =>
    obtain ⟨h1, h2⟩ := Bool.and_eq_true_iff.mp h
    have h3 := of_decide_eq_true h2
    walk_at "d"
    rw [r_range1 (small_len h3)]
    walk_at "d"
    refine same_seq ih h1 h3 m _ _ _ (fun _ _ _ => r_ixT) (fun _ _ _ => r_ixT) fun y => ?_
    walk_at "d"
    exact q
  | lst l =>
    obtain ⟨h1, h2⟩ := Bool.and_eq_true_iff.mp h
    have h3 := of_decide_eq_true h2
    walk_at "d"
    rw [r_range1 (small_len h3)]
    walk_at "d"
    refine same_seq ih h1 h3 m _ _ _ (fun _ _ _ => r_ixL) (fun _ _ _ => r_ixL) fun y => ?_
    walk_at "d"
    exact q
  | _ => cases h
theorem same_refl (n : Nat) (x : D) (h : okS n x = true) : Ret (d__law_same n [x, x]) (.bl true) := by
  induction n generalizing x with
  | zero => cases h
  | succ n ih => exact same_step n ih x h
theorem okS_tup {n : Nat} {l : List D} : okS (n + 1) (.tup l) = (l.all (okS n) && decide (l.length < 1000000)) := rfl
theorem okS_lst {n : Nat} {l : List D} : okS (n + 1) (.lst l) = (l.all (okS n) && decide (l.length < 1000000)) := rfl
theorem okS_int {n : Nat} {i : Int} : okS (n + 1) (.int i) = true := rfl
theorem okS_str {n : Nat} {s : Str} : okS (n + 1) (.str s) = true := rfl
theorem okS_non {n : Nat} : okS (n + 1) .non = true := rfl
theorem okS_bl {n : Nat} {b : Bool} : okS (n + 1) (.bl b) = true := rfl
theorem okS_ints {n : Nat} {l : List Int} (h : l.length < 1000000) : okS (n + 2) (.tup (l.map D.int)) = true := by
  show ((l.map D.int).all (okS (n + 1)) && decide ((l.map D.int).length < 1000000)) = true
  rw [List.length_map, decide_eq_true h, Bool.and_true, List.all_map]
  exact List.all_eq_true.mpr fun _ _ => rfl
theorem okS_intsL {n : Nat} {l : List Int} (h : l.length < 1000000) : okS (n + 2) (.lst (l.map D.int)) = true := by
  rw [okS_lst, List.length_map, decide_eq_true h, Bool.and_true, List.all_map]
  exact List.all_eq_true.mpr fun _ _ => rfl

local macro_rules | `(tactic| walk_at "d") => `(tactic| simp -implicitDefEqProofs only [↓DL.k_F, ↓DL.k_M, ↓DL.k_onV, ↓DL.k_onL, ↓DL.k_onO, ↓DL.k_onN, ↓DL.r_C, ↓DL.r_var, ↓DL.k_Op2, ↓DL.k_Op, ↓DL.r_op, ↓DL.r_un, ↓DL.r_app, ↓DL.r_call, ↓DL.r_callF, ↓DL.k_CK2, ↓DL.k_CK, ↓DL.r_callK, ↓DL.r_callKF, ↓DL.r_nil, ↓DL.k_A2, ↓DL.k_A, ↓DL.r_cons, ↓DL.k_AndT, ↓DL.k_AndF, ↓DL.r_and, ↓DL.k_OrT, ↓DL.k_OrF, ↓DL.r_or, ↓DL.k_Not, ↓DL.r_not, ↓DL.k_EIfT, ↓DL.k_EIfF, ↓DL.r_eIf, ↓DL.k_Ch3T, ↓DL.k_Ch3F, ↓DL.k_Ch2, ↓DL.k_Ch1, ↓DL.r_chain, ↓DL.k_T, ↓DL.r_of, ↓DL.k_TAT, ↓DL.k_TAF, ↓DL.r_tand, ↓DL.k_TOT, ↓DL.k_TOF, ↓DL.r_tor, ↓DL.k_TN, ↓DL.r_tnot, ↓DL.r_tTrue, ↓DL.k_Asg, ↓DL.r_asg, ↓DL.k_Nx, ↓DL.r_expr, ↓DL.k_Rt, ↓DL.r_ret, ↓DL.r_retN, ↓DL.k_IfT, ↓DL.k_IfF, ↓DL.r_if, ↓DL.r_seq, ↓DL.r_next, ↓DL.r_break, ↓DL.r_cont, ↓DL.r_stuck, ↓DL.k_G, ↓DL.r_asgG, ↓DL.k_For, ↓DL.r_for, ↓DL.k_SI3, ↓DL.k_SI2, ↓DL.k_SI, ↓DL.r_setItemS, ↓DL.k_Ap3, ↓DL.k_Ap2, ↓DL.k_Ap1, ↓DL.r_apd, ↓DL.r_gN, ↓DL.r_iSeq, ↓DL.r_iApp, ↓DL.k_Body, ↓DL.k_Sl3, ↓DL.k_Sl2, ↓DL.k_Sl1, ↓DL.r_sl, ↓DL.r_oNone, ↓DL.k_OS, ↓DL.r_oSome, ↓DL.r_slT, ↓DL.r_slL, ↓DL.r_slS, ↓DL.r_retL, ↓DL.r_newL, ↓DL.r_lc, ↓DL.r_lcM, ↓DL.r_add, ↓DL.r_sub, ↓DL.r_mod, ↓DL.r_div, ↓DL.r_pow1018, ↓DL.r_lt, ↓DL.r_le, ↓DL.r_gt, ↓DL.r_ge, ↓DL.r_neg, ↓DL.r_eqII, ↓DL.r_neII, ↓DL.r_eqSS, ↓DL.r_neSS, ↓DL.r_eqBB, ↓DL.r_neBB, ↓DL.r_isN, ↓DL.r_isB, ↓DL.r_notN, ↓DL.r_int1, ↓DL.r_intb, ↓DL.r_abs, ↓DL.k_Get, ↓DL.r_ixT, ↓DL.r_ixL, ↓DL.r_asLR, ↓DL.r_asLL, ↓DL.r_ixRef, ↓DL.r_lenT, ↓DL.r_lenL, ↓DL.k_Len, ↓DL.r_lenRef, ↓DL.r_sumRef, ↓DL.k_SetJ, ↓DL.k_Set, ↓DL.r_setRef, ↓DL.k_App, ↓DL.r_appRef, ↓DL.r_tup0, ↓DL.r_tup1, ↓DL.r_tup2, ↓DL.r_tup3, ↓DL.r_tup4, ↓DL.r_tup5, ↓DL.r_tup6, ↓DL.r_tup7, ↓DL.r_tup8, ↓DL.r_lst0, ↓DL.r_ref0, ↓DL.r_ref1, ↓DL.r_ref2, ↓DL.r_ref3, ↓DL.r_ref4, ↓DL.r_ref5, ↓DL.r_ref6, ↓DL.r_listL, ↓DL.r_listT, ↓DL.r_tupleL, ↓DL.r_seqT, ↓DL.r_seqL, ↓DL.r_range1, ↓DL.r_range2, ↓DL.r_strEq, ↓DL.r_strEq2, ↓DL.r_isT0, ↓DL.r_isT1, ↓DL.r_isT2, ↓DL.r_isT3, ↓DL.r_isT4, ↓DL.r_isT5, ↓DL.r_isT6, ↓DL.r_isT7, ↓DL.r_isT8, ↓DL.r_isT9, ↓DL.r_isT10, ↓DL.r_isT11, ↓DL.r_isT12, ↓DL.r_isT13, ↓DL.r_isT14, ↓DL.r_isT15, ↓DL.r_isT16, ↓DL.r_isT17, ↓DL.r_isT18, ↓DL.r_isT19, ↓DL.r_isT20, ↓DL.r_isT21, ↓DL.r_isT22, ↓DL.r_isT23, ↓DL.r_isT24, ↓DL.r_isT25, ↓DL.r_isT26, ↓DL.r_isT27, ↓DL.r_isT28, ↓DL.r_isT29, ↓DL.r_isT30, ↓DL.r_isT31, ↓DL.r_isT32, ↓DL.r_isT33, ↓DL.r_isT34, ↓DL.r_isT35, ↓DL.r_isiN, ↓DL.r_isi2N, ↓DL.r_isiB, ↓DL.r_isi2B, ↓DL.r_isiI, ↓DL.r_isi2I, ↓DL.r_isiS, ↓DL.r_isi2S, ↓DL.r_isiT, ↓DL.r_isi2T, ↓DL.r_isiL, ↓DL.r_isi2L, ↓DL.r_inTI, ↓DL.r_ninTI, ↓DL.r_inLI, ↓DL.r_ninLI, ↓DL.r_inTS, ↓DL.r_inD_nil, ↓DL.r_inD_cons, ↓DL.r_flat_nil, ↓DL.r_flat_cons, ↓DL.r_flatS, ↓DL.r_flatI, ↓DL.r_eqvSS, ↓DL.r_eqvII, ↓DL.r_addLL, ↓DL.r_atm1, ↓DL.r_atm2, ↓DL.r_at0, ↓DL.r_at1, ↓DL.r_at2, ↓DL.r_at3, ↓DL.r_at4, ↓DL.r_at5, ↓DL.r_at6, ↓DL.r_at7, ↓DL.r_at8, ↓DL.r_beqI, ↓DL.r_ndec, ↓DL.r_gT, ↓DL.k_Gs, ↓DL.r_gsCons, ↓DL.r_gsNil, ↓DL.r_isDNN, ↓DL.r_isDBB, ↓DL.r_isDBN, ↓DL.r_isDNB, ↓DL.r_isDIN, ↓DL.r_isDIB, ↓DL.r_isDSN, ↓DL.r_isDSB, ↓DL.r_isDTN, ↓DL.r_isDTB, ↓DL.r_isDLN, ↓DL.r_isDLB, ↓DL.r_isDRN, ↓DL.r_isDRB, ↓DL.r_beqTT, ↓DL.r_beqTF, ↓DL.r_beqFT, ↓DL.r_beqFF, ↓DL.k_onI, ↓DL.k_Fld2, ↓DL.r_fld, ↓DL.k_FldR, ↓DL.k_FldO, ↓DL.r_look, ↓DL.r_lookN, ↓DL.r_putD, ↓DL.r_putDN, ↓DL.k_SF3, ↓DL.r_setFldR, ↓DL.k_SF2, ↓DL.k_SF1, ↓DL.r_setFld, ↓DL.r_methF, ↓DL.k_Me2, ↓DL.r_meth, ↓DL.k_MeR, ↓DL.k_MeO, ↓DL.r_make, ↓DL.k_MkN, ↓DL.r_makeF, ↓DL.k_CG2, ↓DL.k_CG, ↓DL.r_callG, ↓DL.r_callGF, ↓DL.r_listRg, ↓DL.r_tupRg, ↓DL.k_SlR, ↓DL.r_slR, ↓DL.r_enumL, ↓DL.r_max2, ↓DL.r_min2, ↓DL.r_isi2R, ↓DL.r_isiR, ↓DL.r_lst1, ↓DL.r_lst2, ↓DL.r_lst3, ↓DL.r_lst4, ↓DL.r_lst5, ↓DL.r_lst6, ↓DL.r_lst7, ↓DL.r_lst8, ↓DL.r_lst9, ↓DL.r_lst10, ↓DL.r_lst11, ↓DL.r_lst12, ↓DL.r_seqR, ↓DL.k_ForR, ↓DL.r_minL, ↓DL.r_clr, ↓DL.k_Clr1R, ↓DL.k_LstR, ↓DL.r_listRef, ↓DL.r_enumJL, ↓DL.r_enumJT, ↓DL.k_Clr2, ↓DL.k_MG2, ↓DL.k_MG, ↓DL.r_makeG, ↓DL.r_makeGF, ↓DL.r_prop, ↓DL.k_Pr2, ↓DL.k_PrR, ↓DL.k_Eq3, ↓DL.r_isiCN, ↓DL.r_isiCS, ↓DL.r_isiCT, ↓DL.k_Ix3, ↓DL.k_Ix2, ↓DL.k_Ix1, ↓DL.r_index, ↓DL.r_iStr, ↓DL.r_strI, ↓DL.k_T2, ↓DL.k_T1S, ↓DL.r_join, ↓DL.r_sindex, ↓DL.k_Rz, ↓DL.r_raise, ↓DL.r_raise0, ↓DL.k_Ex, ↓DL.r_try, ↓DL.k_trNx, ↓DL.k_trRt, ↓DL.k_trBk, ↓DL.k_trCt, ↓DL.k_trEx, ↓DL.k_hdlN, ↓DL.k_hdlT, ↓DL.k_hdlF, ↓DL.k_setSlN, ↓DL.k_setSlS, ↓DL.k_endNx, ↓DL.k_endRt, ↓DL.k_endBk, ↓DL.k_endCt, ↓DL.r_xf, ↓DL.r_xfD, ↓DL.r_isE, ↓DL.r_isED, ↓DL.r_isiDc, ↓DL.r_isi2Dc, ↓DL.k_In4, ↓DL.k_In3, ↓DL.k_In2, ↓DL.k_In1, ↓DL.r_ins, ↓DL.r_addI, ↓DL.k_Fa4, ↓DL.k_Fa3, ↓DL.k_Fa2, ↓DL.k_FaR, ↓DL.r_fldaug, ↓DL.r_dinL, ↓DL.r_dinD, ↓DL.r_dninL, ↓DL.r_dninD, ↓DL.r_dgetL, ↓DL.r_dgetD, ↓DL.r_lenDL, ↓DL.r_lenDD, ↓DL.r_dictL, ↓DL.r_dictD, ↓DL.r_isiLc, ↓DL.r_isi2Lc, ↓DL.r_isTd0, ↓DL.r_isTd1, ↓DL.r_isTd2, ↓DL.r_isTd3, ↓DL.r_isTd4, ↓DL.r_newD, ↓DL.r_frzLs, ↓DL.r_items, ↓DL.r_inK, ↓DL.r_ninK, ↓DL.r_getK, ↓DL.r_dispM, ↓DL.k_Dp2, ↓DL.k_Dp1, ↓DL.r_pairsN, ↓DL.r_pairsC, ↓DL.r_dispF1, ↓DL.r_gTn, ↓DL.k_Gf1, ↓DL.r_gFld, ↓DL.Kt.seq_nx, ↓DL.Kt.seq_rt, ↓DL.Kt.seq_bk, ↓DL.Kt.seq_ct, ↓DL.Kt.seq_ex, ↓DL.Kt.fin_nx, ↓DL.Kt.fin_rt, ↓DL.Kt.fin_ex, ↓DL.Kt.loop_nx, ↓DL.Kt.loop_rt, ↓DL.Kt.loop_bk, ↓DL.Kt.loop_ct, ↓DL.Kt.loop_ex, ↓DL.C.run_ret, ↓DL.mset_same, ↓DL.mset_mset, startD, ixN, Option.bind_some, Option.map_some, List.map_cons, List.map_nil, List.length_cons, List.length_nil, List.length_set, List.replicate, List.cons_append, List.nil_append, List.append_nil, List.set_cons_zero, List.set_cons_succ, List.getElem?_cons_zero, List.getElem?_cons_succ, Nat.reduceAdd, Nat.reduceSub, Nat.zero_add, if_true, if_false, decide_eq_true_eq, reduceIte, Bool.not_true, Bool.not_false, beq_self_eq_true, Bool.false_eq_true, Int.reduceLT, Int.reduceLE, Int.reduceNeg, Int.reduceToNat, Int.reduceAdd, Int.reduceSub, Nat.reduceLT, Nat.reduceLeDiff, Int.cast_ofNat_Int, Int.reduceEq, Int.reduceBEq, DL.wipeD, decide_true, decide_false, not_true_eq_false, not_false_eq_true, String.reduceEq, Bool.or_true, Bool.or_false, Bool.true_or, Bool.false_or, Bool.and_true, Bool.and_false, Bool.true_and, Bool.false_and, Bool.not_not, Nat.reduceEqDiff, Int.toNat_natCast, Decidable.not_not, List.mem_cons, List.not_mem_nil, or_false, or_true, true_or, false_or, and_true, true_and, and_self, and_false, false_and, reduceCtorEq, Option.isNone_some, Option.isNone_none, Option.isSome_some, Option.isSome_none, List.zip_cons_cons, List.zip_nil_right, List.zip_nil_left, List.reverse_cons, List.reverse_nil, Option.getD_some, Option.getD_none, r_tb_LENGTHS_0, r_tb_LENGTHS_1, r_tb_LENGTHS_2, r_tb_LENGTHS_3, r_tb_LENGTHS_4, r_tb_LENGTHS_5, r_in_BadProgram, r_xs_BadProgram_BadProgram, sizeLine_eq])
local macro_rules | `(tactic| walk_at "h") => `(tactic| simp -implicitDefEqProofs only [↓DL.k_F, ↓DL.k_M, ↓DL.k_onV, ↓DL.k_onL, ↓DL.k_onO, ↓DL.k_onN, ↓DL.r_C, ↓DL.r_var, ↓DL.k_Op2, ↓DL.k_Op, ↓DL.r_op, ↓DL.r_un, ↓DL.r_app, ↓DL.r_call, ↓DL.r_callF, ↓DL.k_CK2, ↓DL.k_CK, ↓DL.r_callK, ↓DL.r_callKF, ↓DL.r_nil, ↓DL.k_A2, ↓DL.k_A, ↓DL.r_cons, ↓DL.k_AndT, ↓DL.k_AndF, ↓DL.r_and, ↓DL.k_OrT, ↓DL.k_OrF, ↓DL.r_or, ↓DL.k_Not, ↓DL.r_not, ↓DL.k_EIfT, ↓DL.k_EIfF, ↓DL.r_eIf, ↓DL.k_Ch3T, ↓DL.k_Ch3F, ↓DL.k_Ch2, ↓DL.k_Ch1, ↓DL.r_chain, ↓DL.k_T, ↓DL.r_of, ↓DL.k_TAT, ↓DL.k_TAF, ↓DL.r_tand, ↓DL.k_TOT, ↓DL.k_TOF, ↓DL.r_tor, ↓DL.k_TN, ↓DL.r_tnot, ↓DL.r_tTrue, ↓DL.k_Asg, ↓DL.r_asg, ↓DL.k_Nx, ↓DL.r_expr, ↓DL.k_Rt, ↓DL.r_ret, ↓DL.r_retN, ↓DL.k_IfT, ↓DL.k_IfF, ↓DL.r_if, ↓DL.r_seq, ↓DL.r_next, ↓DL.r_break, ↓DL.r_cont, ↓DL.r_stuck, ↓DL.k_G, ↓DL.r_asgG, ↓DL.k_For, ↓DL.r_for, ↓DL.k_SI3, ↓DL.k_SI2, ↓DL.k_SI, ↓DL.r_setItemS, ↓DL.k_Ap3, ↓DL.k_Ap2, ↓DL.k_Ap1, ↓DL.r_apd, ↓DL.r_gN, ↓DL.r_iSeq, ↓DL.r_iApp, ↓DL.k_Body, ↓DL.k_Sl3, ↓DL.k_Sl2, ↓DL.k_Sl1, ↓DL.r_sl, ↓DL.r_oNone, ↓DL.k_OS, ↓DL.r_oSome, ↓DL.r_slT, ↓DL.r_slL, ↓DL.r_slS, ↓DL.r_retL, ↓DL.r_newL, ↓DL.r_lc, ↓DL.r_lcM, ↓DL.r_add, ↓DL.r_sub, ↓DL.r_mod, ↓DL.r_div, ↓DL.r_pow1018, ↓DL.r_lt, ↓DL.r_le, ↓DL.r_gt, ↓DL.r_ge, ↓DL.r_neg, ↓DL.r_eqII, ↓DL.r_neII, ↓DL.r_eqSS, ↓DL.r_neSS, ↓DL.r_eqBB, ↓DL.r_neBB, ↓DL.r_isN, ↓DL.r_isB, ↓DL.r_notN, ↓DL.r_int1, ↓DL.r_intb, ↓DL.r_abs, ↓DL.k_Get, ↓DL.r_ixT, ↓DL.r_ixL, ↓DL.r_asLR, ↓DL.r_asLL, ↓DL.r_ixRef, ↓DL.r_lenT, ↓DL.r_lenL, ↓DL.k_Len, ↓DL.r_lenRef, ↓DL.r_sumRef, ↓DL.k_SetJ, ↓DL.k_Set, ↓DL.r_setRef, ↓DL.k_App, ↓DL.r_appRef, ↓DL.r_tup0, ↓DL.r_tup1, ↓DL.r_tup2, ↓DL.r_tup3, ↓DL.r_tup4, ↓DL.r_tup5, ↓DL.r_tup6, ↓DL.r_tup7, ↓DL.r_tup8, ↓DL.r_lst0, ↓DL.r_ref0, ↓DL.r_ref1, ↓DL.r_ref2, ↓DL.r_ref3, ↓DL.r_ref4, ↓DL.r_ref5, ↓DL.r_ref6, ↓DL.r_listL, ↓DL.r_listT, ↓DL.r_tupleL, ↓DL.r_seqT, ↓DL.r_seqL, ↓DL.r_range1, ↓DL.r_range2, ↓DL.r_strEq, ↓DL.r_strEq2, ↓DL.r_isT0, ↓DL.r_isT1, ↓DL.r_isT2, ↓DL.r_isT3, ↓DL.r_isT4, ↓DL.r_isT5, ↓DL.r_isT6, ↓DL.r_isT7, ↓DL.r_isT8, ↓DL.r_isT9, ↓DL.r_isT10, ↓DL.r_isT11, ↓DL.r_isT12, ↓DL.r_isT13, ↓DL.r_isT14, ↓DL.r_isT15, ↓DL.r_isT16, ↓DL.r_isT17, ↓DL.r_isT18, ↓DL.r_isT19, ↓DL.r_isT20, ↓DL.r_isT21, ↓DL.r_isT22, ↓DL.r_isT23, ↓DL.r_isT24, ↓DL.r_isT25, ↓DL.r_isT26, ↓DL.r_isT27, ↓DL.r_isT28, ↓DL.r_isT29, ↓DL.r_isT30, ↓DL.r_isT31, ↓DL.r_isT32, ↓DL.r_isT33, ↓DL.r_isT34, ↓DL.r_isT35, ↓DL.r_isiN, ↓DL.r_isi2N, ↓DL.r_isiB, ↓DL.r_isi2B, ↓DL.r_isiI, ↓DL.r_isi2I, ↓DL.r_isiS, ↓DL.r_isi2S, ↓DL.r_isiT, ↓DL.r_isi2T, ↓DL.r_isiL, ↓DL.r_isi2L, ↓DL.r_inTI, ↓DL.r_ninTI, ↓DL.r_inLI, ↓DL.r_ninLI, ↓DL.r_inTS, ↓DL.r_inD_nil, ↓DL.r_inD_cons, ↓DL.r_flat_nil, ↓DL.r_flat_cons, ↓DL.r_flatS, ↓DL.r_flatI, ↓DL.r_eqvSS, ↓DL.r_eqvII, ↓DL.r_addLL, ↓DL.r_atm1, ↓DL.r_atm2, ↓DL.r_at0, ↓DL.r_at1, ↓DL.r_at2, ↓DL.r_at3, ↓DL.r_at4, ↓DL.r_at5, ↓DL.r_at6, ↓DL.r_at7, ↓DL.r_at8, ↓DL.r_beqI, ↓DL.r_ndec, ↓DL.r_gT, ↓DL.k_Gs, ↓DL.r_gsCons, ↓DL.r_gsNil, ↓DL.r_isDNN, ↓DL.r_isDBB, ↓DL.r_isDBN, ↓DL.r_isDNB, ↓DL.r_isDIN, ↓DL.r_isDIB, ↓DL.r_isDSN, ↓DL.r_isDSB, ↓DL.r_isDTN, ↓DL.r_isDTB, ↓DL.r_isDLN, ↓DL.r_isDLB, ↓DL.r_isDRN, ↓DL.r_isDRB, ↓DL.r_beqTT, ↓DL.r_beqTF, ↓DL.r_beqFT, ↓DL.r_beqFF, ↓DL.k_onI, ↓DL.k_Fld2, ↓DL.r_fld, ↓DL.k_FldR, ↓DL.k_FldO, ↓DL.r_look, ↓DL.r_lookN, ↓DL.r_putD, ↓DL.r_putDN, ↓DL.k_SF3, ↓DL.r_setFldR, ↓DL.k_SF2, ↓DL.k_SF1, ↓DL.r_setFld, ↓DL.r_methF, ↓DL.k_Me2, ↓DL.r_meth, ↓DL.k_MeR, ↓DL.k_MeO, ↓DL.r_make, ↓DL.k_MkN, ↓DL.r_makeF, ↓DL.k_CG2, ↓DL.k_CG, ↓DL.r_callG, ↓DL.r_callGF, ↓DL.r_listRg, ↓DL.r_tupRg, ↓DL.k_SlR, ↓DL.r_slR, ↓DL.r_enumL, ↓DL.r_max2, ↓DL.r_min2, ↓DL.r_isi2R, ↓DL.r_isiR, ↓DL.r_lst1, ↓DL.r_lst2, ↓DL.r_lst3, ↓DL.r_lst4, ↓DL.r_lst5, ↓DL.r_lst6, ↓DL.r_lst7, ↓DL.r_lst8, ↓DL.r_lst9, ↓DL.r_lst10, ↓DL.r_lst11, ↓DL.r_lst12, ↓DL.r_seqR, ↓DL.k_ForR, ↓DL.r_minL, ↓DL.r_clr, ↓DL.k_Clr1R, ↓DL.k_LstR, ↓DL.r_listRef, ↓DL.r_enumJL, ↓DL.r_enumJT, ↓DL.k_Clr2, ↓DL.k_MG2, ↓DL.k_MG, ↓DL.r_makeG, ↓DL.r_makeGF, ↓DL.r_prop, ↓DL.k_Pr2, ↓DL.k_PrR, ↓DL.k_Eq3, ↓DL.r_isiCN, ↓DL.r_isiCS, ↓DL.r_isiCT, ↓DL.k_Ix3, ↓DL.k_Ix2, ↓DL.k_Ix1, ↓DL.r_index, ↓DL.r_iStr, ↓DL.r_strI, ↓DL.k_T2, ↓DL.k_T1S, ↓DL.r_join, ↓DL.r_sindex, ↓DL.k_Rz, ↓DL.r_raise, ↓DL.r_raise0, ↓DL.k_Ex, ↓DL.r_try, ↓DL.k_trNx, ↓DL.k_trRt, ↓DL.k_trBk, ↓DL.k_trCt, ↓DL.k_trEx, ↓DL.k_hdlN, ↓DL.k_hdlT, ↓DL.k_hdlF, ↓DL.k_setSlN, ↓DL.k_setSlS, ↓DL.k_endNx, ↓DL.k_endRt, ↓DL.k_endBk, ↓DL.k_endCt, ↓DL.r_xf, ↓DL.r_xfD, ↓DL.r_isE, ↓DL.r_isED, ↓DL.r_isiDc, ↓DL.r_isi2Dc, ↓DL.k_In4, ↓DL.k_In3, ↓DL.k_In2, ↓DL.k_In1, ↓DL.r_ins, ↓DL.r_addI, ↓DL.k_Fa4, ↓DL.k_Fa3, ↓DL.k_Fa2, ↓DL.k_FaR, ↓DL.r_fldaug, ↓DL.r_dinL, ↓DL.r_dinD, ↓DL.r_dninL, ↓DL.r_dninD, ↓DL.r_dgetL, ↓DL.r_dgetD, ↓DL.r_lenDL, ↓DL.r_lenDD, ↓DL.r_dictL, ↓DL.r_dictD, ↓DL.r_isiLc, ↓DL.r_isi2Lc, ↓DL.r_isTd0, ↓DL.r_isTd1, ↓DL.r_isTd2, ↓DL.r_isTd3, ↓DL.r_isTd4, ↓DL.r_newD, ↓DL.r_frzLs, ↓DL.r_items, ↓DL.r_inK, ↓DL.r_ninK, ↓DL.r_getK, ↓DL.r_dispM, ↓DL.k_Dp2, ↓DL.k_Dp1, ↓DL.r_pairsN, ↓DL.r_pairsC, ↓DL.r_dispF1, ↓DL.r_gTn, ↓DL.k_Gf1, ↓DL.r_gFld, ↓DL.Kt.seq_nx, ↓DL.Kt.seq_rt, ↓DL.Kt.seq_bk, ↓DL.Kt.seq_ct, ↓DL.Kt.seq_ex, ↓DL.Kt.fin_nx, ↓DL.Kt.fin_rt, ↓DL.Kt.fin_ex, ↓DL.Kt.loop_nx, ↓DL.Kt.loop_rt, ↓DL.Kt.loop_bk, ↓DL.Kt.loop_ct, ↓DL.Kt.loop_ex, ↓DL.C.run_ret, ↓DL.mset_same, ↓DL.mset_mset, startD, ixN, Option.bind_some, Option.map_some, List.map_cons, List.map_nil, List.length_cons, List.length_nil, List.length_set, List.replicate, List.cons_append, List.nil_append, List.append_nil, List.set_cons_zero, List.set_cons_succ, List.getElem?_cons_zero, List.getElem?_cons_succ, Nat.reduceAdd, Nat.reduceSub, Nat.zero_add, if_true, if_false, decide_eq_true_eq, reduceIte, Bool.not_true, Bool.not_false, beq_self_eq_true, Bool.false_eq_true, Int.reduceLT, Int.reduceLE, Int.reduceNeg, Int.reduceToNat, Int.reduceAdd, Int.reduceSub, Nat.reduceLT, Nat.reduceLeDiff, Int.cast_ofNat_Int, Int.reduceEq, Int.reduceBEq, DL.wipeD, decide_true, decide_false, not_true_eq_false, not_false_eq_true, String.reduceEq, Bool.or_true, Bool.or_false, Bool.true_or, Bool.false_or, Bool.and_true, Bool.and_false, Bool.true_and, Bool.false_and, Bool.not_not, Nat.reduceEqDiff, Int.toNat_natCast, Decidable.not_not, List.mem_cons, List.not_mem_nil, or_false, or_true, true_or, false_or, and_true, true_and, and_self, and_false, false_and, reduceCtorEq, Option.isNone_some, Option.isNone_none, Option.isSome_some, Option.isSome_none, List.zip_cons_cons, List.zip_nil_right, List.zip_nil_left, List.reverse_cons, List.reverse_nil, Option.getD_some, Option.getD_none, r_tb_LENGTHS_0, r_tb_LENGTHS_1, r_tb_LENGTHS_2, r_tb_LENGTHS_3, r_tb_LENGTHS_4, r_tb_LENGTHS_5, r_in_BadProgram, r_xs_BadProgram_BadProgram, sizeLine_eq, *])
local macro_rules | `(tactic| walk_at "s") => `(tactic| ((try walk_at "h"); repeat' ((first | with_reducible refine if_dec (fun _ => ?_) (fun _ => ?_) | with_reducible refine eif_dec (fun _ => ?_) (fun _ => ?_) | with_reducible refine tor_dec (fun _ => ?_) (fun _ => ?_) | with_reducible refine tand_dec (fun _ => ?_) (fun _ => ?_) | with_reducible refine and_dec (fun _ => ?_) (fun _ => ?_) | with_reducible refine or_dec (fun _ => ?_) (fun _ => ?_) | with_reducible refine ch_dec (fun _ => ?_) (fun _ => ?_)) <;> (try walk_at "h"))))
def isP : D → Prop
  | .non => True
  | .bl _ => True
  | .int _ => True
  | .tup _ => True
  | .lst _ => True
  | .str s => s.length ≤ 1000
  | _ => False
theorem isP.cs {x : D} (h : isP x) : x = .non ∨ (∃ b, x = .bl b) ∨ (∃ i, x = .int i) ∨ (∃ l, x = .tup l) ∨ (∃ l, x = .lst l) ∨ ∃ s, x = .str s ∧ s.length ≤ 1000 := by
  cases x with
  | non => exact .inl rfl
  | bl b => exact .inr (.inl ⟨b, rfl⟩)
  | int i => exact .inr (.inr (.inl ⟨i, rfl⟩))
  | tup l => exact .inr (.inr (.inr (.inl ⟨l, rfl⟩)))
  | lst l => exact .inr (.inr (.inr (.inr (.inl ⟨l, rfl⟩))))
  | str s => exact .inr (.inr (.inr (.inr (.inr ⟨s, rfl, h⟩))))
  | _ => exact h.elim
def nameB : D → Bool
  | .str s => nmB s
  | _ => false
def kdB (s : Str) : Bool := "safe" == s || ("regular" == s || "atomic" == s)
def kindB : D → Bool
  | .str s => kdB s
  | _ => false
def owB (s : Str) : Bool := "writer" == s || "reader" == s
def ownB : D → Bool
  | .str s => owB s
  | _ => false
def btB : D → Int → Int → Bool
  | .int i, lo, hi => decide (lo ≤ i) && decide (i ≤ hi)
  | _, _, _ => false
section
variable {m : Mem} {Q : D → Mem → Prop} {E : Xn → Mem → Prop} {x : D} {s : Str}
theorem lenS_run {z : Str} (h : z.length ≤ 1000) : (dLen [.str z]).run m Q E = Q (.int z.length) m := by
  show (ite _ _ _ : C D).run m Q E = _
  rw [if_pos (Nat.le_trans h (by decide))]
  rfl
theorem notin_sgn {k : Nat} {z : Str} : (dNotIn (.str ⟨#[k]⟩) (.str z)).run m Q E = Q (.bl (!decide (k ∈ z.cps.toList))) m := rfl
def isI : D → Bool
  | .int _ => true
  | _ => false
theorem isint_spec (h : isP x) (q : Q (.bl (isI x)) m) : (d_is_integer [x]).run m Q E := by
  unfold d_is_integer; refine fn_run ?_; unfold p_is_integer
  rcases h.cs with rfl | ⟨b, rfl⟩ | ⟨i, rfl⟩ | ⟨l, rfl⟩ | ⟨l, rfl⟩ | ⟨s, rfl, hs⟩ <;> (walk_at "d"; exact q)
theorem lint_spec (h : isP x) (q : Q (.bl (isI x)) m) : (d__law_int [x]).run m Q E := by
  unfold d__law_int; refine fn_run ?_; unfold p__law_int
  rcases h.cs with rfl | ⟨b, rfl⟩ | ⟨i, rfl⟩ | ⟨l, rfl⟩ | ⟨l, rfl⟩ | ⟨s, rfl, hs⟩ <;> (walk_at "d"; exact q)
theorem btw_spec {lo hi : Int} (h : isP x) (q : Q (.bl (btB x lo hi)) m) : (d_is_between [x, .int lo, .int hi]).run m Q E := by
  unfold d_is_between; refine fn_run ?_; unfold p_is_between
  walk_at "d"
  refine isint_spec h ?_
  rcases h.cs with rfl | ⟨b, rfl⟩ | ⟨i, rfl⟩ | ⟨l, rfl⟩ | ⟨l, rfl⟩ | ⟨s, rfl, hs⟩
  · unfold isI; walk_at "d"; exact q
  · unfold isI; walk_at "d"; exact q
  · unfold isI
    walk_at "d"
    simp only [btB] at q
    refine ch_dec (fun z => ?_) (fun z => ?_)
    · rw [decide_eq_true z, Bool.true_and] at q
      walk_at "d"
      exact q
    · rw [decide_eq_false z, Bool.false_and] at q
      exact q
  · unfold isI; walk_at "d"; exact q
  · unfold isI; walk_at "d"; exact q
  · unfold isI; walk_at "d"; exact q
theorem side_spec (h : isP x) (q : Q (.bl (ownB x)) m) : (d_is_side [x]).run m Q E := by
  unfold d_is_side; refine fn_run ?_; unfold p_is_side
  rcases h.cs with rfl | ⟨b, rfl⟩ | ⟨i, rfl⟩ | ⟨l, rfl⟩ | ⟨l, rfl⟩ | ⟨s, rfl, hs⟩ <;> (walk_at "d"; try exact q)
theorem name_spec (h : isP x) (q : Q (.bl (nameB x)) m) : (d_is_name [x]).run m Q E := by
  unfold d_is_name
  refine fn_run ?_
  unfold p_is_name
  rcases h.cs with rfl | ⟨b, rfl⟩ | ⟨i, rfl⟩ | ⟨l, rfl⟩ | ⟨l, rfl⟩ | ⟨n, rfl, hs⟩
  · walk_at "d"; exact q
  · walk_at "d"; exact q
  · walk_at "d"; exact q
  · walk_at "d"; exact q
  · walk_at "d"; exact q
  have q : Q (.bl (nmB n)) m := q
  unfold nmB at q
  walk_at "d"
  rw [lenS_run hs]
  walk_at "d"
  by_cases g1 : 1 ≤ n.length
  · rw [decide_eq_true (show (1 : Int) ≤ n.length by omega)]
    rw [decide_eq_true g1, Bool.true_and] at q
    walk_at "d"
    by_cases g2 : n.length ≤ 8
    · rw [decide_eq_false (not_not_intro (show (n.length : Int) ≤ 8 by omega))]
      rw [decide_eq_true g2, Bool.true_and] at q
      walk_at "d"
      refine for_map (enc := fun c => D.str ⟨#[c]⟩) (xs := n.cps.toList) (fun pre δ m' => m' = m ∧ (∀ c ∈ pre, c ∈ ltrs.cps.toList) ∧ ∃ y, δ = [some (.str n), y]) ⟨rfl, by simp, _, rfl⟩ ?_ ?_
      · rintro pre c r δ m1 hsp ⟨rfl, hpre, y, rfl⟩
        walk_at "d"
        unfold p_is_name_b0 k_LETTERS
        walk_at "d"
        rw [notin_sgn]
        by_cases hc : c ∈ ltrs.cps.toList
        · have hc' : c ∈ (Str.cps (Str.ofString "abcdefghijklmnopqrstuvwxyz")).toList := hc
          rw [decide_eq_true hc']
          walk_at "d"
          refine ⟨fun z hz => ?_, _, rfl⟩
          rcases List.mem_append.mp hz with hz | hz
          · exact hpre z hz
          · rw [List.mem_singleton.mp hz]; exact hc
        · have hc' : ¬ c ∈ (Str.cps (Str.ofString "abcdefghijklmnopqrstuvwxyz")).toList := hc
          rw [decide_eq_false hc']
          have e : (n.cps.toList.all fun c => decide (c ∈ ltrs.cps.toList)) = false := by
            rw [List.all_eq_false]
            exact ⟨c, by rw [hsp]; simp, by simpa using hc⟩
          rw [e] at q
          walk_at "d"
          exact q
      · rintro δ m1 ⟨rfl, hall, y, rfl⟩
        have e : (n.cps.toList.all fun c => decide (c ∈ ltrs.cps.toList)) = true := List.all_eq_true.mpr fun c hc => decide_eq_true (hall c hc)
        rw [e] at q
        walk_at "d"
        exact q
    · rw [decide_eq_true (show ¬ (n.length : Int) ≤ 8 by omega)]
      rw [decide_eq_false g2, Bool.false_and] at q
      walk_at "d"
      exact q
  · rw [decide_eq_false (show ¬ (1 : Int) ≤ n.length by omega)]
    rw [decide_eq_false g1, Bool.false_and] at q
    walk_at "d"
    exact q
end

local macro_rules | `(tactic| walk_at "d") => `(tactic| simp -implicitDefEqProofs only [↓DL.k_F, ↓DL.k_M, ↓DL.k_onV, ↓DL.k_onL, ↓DL.k_onO, ↓DL.k_onN, ↓DL.r_C, ↓DL.r_var, ↓DL.k_Op2, ↓DL.k_Op, ↓DL.r_op, ↓DL.r_un, ↓DL.r_app, ↓DL.r_call, ↓DL.r_callF, ↓DL.k_CK2, ↓DL.k_CK, ↓DL.r_callK, ↓DL.r_callKF, ↓DL.r_nil, ↓DL.k_A2, ↓DL.k_A, ↓DL.r_cons, ↓DL.k_AndT, ↓DL.k_AndF, ↓DL.r_and, ↓DL.k_OrT, ↓DL.k_OrF, ↓DL.r_or, ↓DL.k_Not, ↓DL.r_not, ↓DL.k_EIfT, ↓DL.k_EIfF, ↓DL.r_eIf, ↓DL.k_Ch3T, ↓DL.k_Ch3F, ↓DL.k_Ch2, ↓DL.k_Ch1, ↓DL.r_chain, ↓DL.k_T, ↓DL.r_of, ↓DL.k_TAT, ↓DL.k_TAF, ↓DL.r_tand, ↓DL.k_TOT, ↓DL.k_TOF, ↓DL.r_tor, ↓DL.k_TN, ↓DL.r_tnot, ↓DL.r_tTrue, ↓DL.k_Asg, ↓DL.r_asg, ↓DL.k_Nx, ↓DL.r_expr, ↓DL.k_Rt, ↓DL.r_ret, ↓DL.r_retN, ↓DL.k_IfT, ↓DL.k_IfF, ↓DL.r_if, ↓DL.r_seq, ↓DL.r_next, ↓DL.r_break, ↓DL.r_cont, ↓DL.r_stuck, ↓DL.k_G, ↓DL.r_asgG, ↓DL.k_For, ↓DL.r_for, ↓DL.k_SI3, ↓DL.k_SI2, ↓DL.k_SI, ↓DL.r_setItemS, ↓DL.k_Ap3, ↓DL.k_Ap2, ↓DL.k_Ap1, ↓DL.r_apd, ↓DL.r_gN, ↓DL.r_iSeq, ↓DL.r_iApp, ↓DL.k_Body, ↓DL.k_Sl3, ↓DL.k_Sl2, ↓DL.k_Sl1, ↓DL.r_sl, ↓DL.r_oNone, ↓DL.k_OS, ↓DL.r_oSome, ↓DL.r_slT, ↓DL.r_slL, ↓DL.r_slS, ↓DL.r_retL, ↓DL.r_newL, ↓DL.r_lc, ↓DL.r_lcM, ↓DL.r_add, ↓DL.r_sub, ↓DL.r_mod, ↓DL.r_div, ↓DL.r_pow1018, ↓DL.r_lt, ↓DL.r_le, ↓DL.r_gt, ↓DL.r_ge, ↓DL.r_neg, ↓DL.r_eqII, ↓DL.r_neII, ↓DL.r_eqSS, ↓DL.r_neSS, ↓DL.r_eqBB, ↓DL.r_neBB, ↓DL.r_isN, ↓DL.r_isB, ↓DL.r_notN, ↓DL.r_int1, ↓DL.r_intb, ↓DL.r_abs, ↓DL.k_Get, ↓DL.r_ixT, ↓DL.r_ixL, ↓DL.r_asLR, ↓DL.r_asLL, ↓DL.r_ixRef, ↓DL.r_lenT, ↓DL.r_lenL, ↓DL.k_Len, ↓DL.r_lenRef, ↓DL.r_sumRef, ↓DL.k_SetJ, ↓DL.k_Set, ↓DL.r_setRef, ↓DL.k_App, ↓DL.r_appRef, ↓DL.r_tup0, ↓DL.r_tup1, ↓DL.r_tup2, ↓DL.r_tup3, ↓DL.r_tup4, ↓DL.r_tup5, ↓DL.r_tup6, ↓DL.r_tup7, ↓DL.r_tup8, ↓DL.r_lst0, ↓DL.r_ref0, ↓DL.r_ref1, ↓DL.r_ref2, ↓DL.r_ref3, ↓DL.r_ref4, ↓DL.r_ref5, ↓DL.r_ref6, ↓DL.r_listL, ↓DL.r_listT, ↓DL.r_tupleL, ↓DL.r_seqT, ↓DL.r_seqL, ↓DL.r_range1, ↓DL.r_range2, ↓DL.r_strEq, ↓DL.r_strEq2, ↓DL.r_isT0, ↓DL.r_isT1, ↓DL.r_isT2, ↓DL.r_isT3, ↓DL.r_isT4, ↓DL.r_isT5, ↓DL.r_isT6, ↓DL.r_isT7, ↓DL.r_isT8, ↓DL.r_isT9, ↓DL.r_isT10, ↓DL.r_isT11, ↓DL.r_isT12, ↓DL.r_isT13, ↓DL.r_isT14, ↓DL.r_isT15, ↓DL.r_isT16, ↓DL.r_isT17, ↓DL.r_isT18, ↓DL.r_isT19, ↓DL.r_isT20, ↓DL.r_isT21, ↓DL.r_isT22, ↓DL.r_isT23, ↓DL.r_isT24, ↓DL.r_isT25, ↓DL.r_isT26, ↓DL.r_isT27, ↓DL.r_isT28, ↓DL.r_isT29, ↓DL.r_isT30, ↓DL.r_isT31, ↓DL.r_isT32, ↓DL.r_isT33, ↓DL.r_isT34, ↓DL.r_isT35, ↓DL.r_isiN, ↓DL.r_isi2N, ↓DL.r_isiB, ↓DL.r_isi2B, ↓DL.r_isiI, ↓DL.r_isi2I, ↓DL.r_isiS, ↓DL.r_isi2S, ↓DL.r_isiT, ↓DL.r_isi2T, ↓DL.r_isiL, ↓DL.r_isi2L, ↓DL.r_inTI, ↓DL.r_ninTI, ↓DL.r_inLI, ↓DL.r_ninLI, ↓DL.r_inTS, ↓DL.r_inD_nil, ↓DL.r_inD_cons, ↓DL.r_flat_nil, ↓DL.r_flat_cons, ↓DL.r_flatS, ↓DL.r_flatI, ↓DL.r_eqvSS, ↓DL.r_eqvII, ↓DL.r_addLL, ↓DL.r_atm1, ↓DL.r_atm2, ↓DL.r_at0, ↓DL.r_at1, ↓DL.r_at2, ↓DL.r_at3, ↓DL.r_at4, ↓DL.r_at5, ↓DL.r_at6, ↓DL.r_at7, ↓DL.r_at8, ↓DL.r_beqI, ↓DL.r_ndec, ↓DL.r_gT, ↓DL.k_Gs, ↓DL.r_gsCons, ↓DL.r_gsNil, ↓DL.r_isDNN, ↓DL.r_isDBB, ↓DL.r_isDBN, ↓DL.r_isDNB, ↓DL.r_isDIN, ↓DL.r_isDIB, ↓DL.r_isDSN, ↓DL.r_isDSB, ↓DL.r_isDTN, ↓DL.r_isDTB, ↓DL.r_isDLN, ↓DL.r_isDLB, ↓DL.r_isDRN, ↓DL.r_isDRB, ↓DL.r_beqTT, ↓DL.r_beqTF, ↓DL.r_beqFT, ↓DL.r_beqFF, ↓DL.k_onI, ↓DL.k_Fld2, ↓DL.r_fld, ↓DL.k_FldR, ↓DL.k_FldO, ↓DL.r_look, ↓DL.r_lookN, ↓DL.r_putD, ↓DL.r_putDN, ↓DL.k_SF3, ↓DL.r_setFldR, ↓DL.k_SF2, ↓DL.k_SF1, ↓DL.r_setFld, ↓DL.r_methF, ↓DL.k_Me2, ↓DL.r_meth, ↓DL.k_MeR, ↓DL.k_MeO, ↓DL.r_make, ↓DL.k_MkN, ↓DL.r_makeF, ↓DL.k_CG2, ↓DL.k_CG, ↓DL.r_callG, ↓DL.r_callGF, ↓DL.r_listRg, ↓DL.r_tupRg, ↓DL.k_SlR, ↓DL.r_slR, ↓DL.r_enumL, ↓DL.r_max2, ↓DL.r_min2, ↓DL.r_isi2R, ↓DL.r_isiR, ↓DL.r_lst1, ↓DL.r_lst2, ↓DL.r_lst3, ↓DL.r_lst4, ↓DL.r_lst5, ↓DL.r_lst6, ↓DL.r_lst7, ↓DL.r_lst8, ↓DL.r_lst9, ↓DL.r_lst10, ↓DL.r_lst11, ↓DL.r_lst12, ↓DL.r_seqR, ↓DL.k_ForR, ↓DL.r_minL, ↓DL.r_clr, ↓DL.k_Clr1R, ↓DL.k_LstR, ↓DL.r_listRef, ↓DL.r_enumJL, ↓DL.r_enumJT, ↓DL.k_Clr2, ↓DL.k_MG2, ↓DL.k_MG, ↓DL.r_makeG, ↓DL.r_makeGF, ↓DL.r_prop, ↓DL.k_Pr2, ↓DL.k_PrR, ↓DL.k_Eq3, ↓DL.r_isiCN, ↓DL.r_isiCS, ↓DL.r_isiCT, ↓DL.k_Ix3, ↓DL.k_Ix2, ↓DL.k_Ix1, ↓DL.r_index, ↓DL.r_iStr, ↓DL.r_strI, ↓DL.k_T2, ↓DL.k_T1S, ↓DL.r_join, ↓DL.r_sindex, ↓DL.k_Rz, ↓DL.r_raise, ↓DL.r_raise0, ↓DL.k_Ex, ↓DL.r_try, ↓DL.k_trNx, ↓DL.k_trRt, ↓DL.k_trBk, ↓DL.k_trCt, ↓DL.k_trEx, ↓DL.k_hdlN, ↓DL.k_hdlT, ↓DL.k_hdlF, ↓DL.k_setSlN, ↓DL.k_setSlS, ↓DL.k_endNx, ↓DL.k_endRt, ↓DL.k_endBk, ↓DL.k_endCt, ↓DL.r_xf, ↓DL.r_xfD, ↓DL.r_isE, ↓DL.r_isED, ↓DL.r_isiDc, ↓DL.r_isi2Dc, ↓DL.k_In4, ↓DL.k_In3, ↓DL.k_In2, ↓DL.k_In1, ↓DL.r_ins, ↓DL.r_addI, ↓DL.k_Fa4, ↓DL.k_Fa3, ↓DL.k_Fa2, ↓DL.k_FaR, ↓DL.r_fldaug, ↓DL.r_dinL, ↓DL.r_dinD, ↓DL.r_dninL, ↓DL.r_dninD, ↓DL.r_dgetL, ↓DL.r_dgetD, ↓DL.r_lenDL, ↓DL.r_lenDD, ↓DL.r_dictL, ↓DL.r_dictD, ↓DL.r_isiLc, ↓DL.r_isi2Lc, ↓DL.r_isTd0, ↓DL.r_isTd1, ↓DL.r_isTd2, ↓DL.r_isTd3, ↓DL.r_isTd4, ↓DL.r_newD, ↓DL.r_frzLs, ↓DL.r_items, ↓DL.r_inK, ↓DL.r_ninK, ↓DL.r_getK, ↓DL.r_dispM, ↓DL.k_Dp2, ↓DL.k_Dp1, ↓DL.r_pairsN, ↓DL.r_pairsC, ↓DL.r_dispF1, ↓DL.r_gTn, ↓DL.k_Gf1, ↓DL.r_gFld, ↓DL.Kt.seq_nx, ↓DL.Kt.seq_rt, ↓DL.Kt.seq_bk, ↓DL.Kt.seq_ct, ↓DL.Kt.seq_ex, ↓DL.Kt.fin_nx, ↓DL.Kt.fin_rt, ↓DL.Kt.fin_ex, ↓DL.Kt.loop_nx, ↓DL.Kt.loop_rt, ↓DL.Kt.loop_bk, ↓DL.Kt.loop_ct, ↓DL.Kt.loop_ex, ↓DL.C.run_ret, ↓DL.mset_same, ↓DL.mset_mset, startD, ixN, Option.bind_some, Option.map_some, List.map_cons, List.map_nil, List.length_cons, List.length_nil, List.length_set, List.replicate, List.cons_append, List.nil_append, List.append_nil, List.set_cons_zero, List.set_cons_succ, List.getElem?_cons_zero, List.getElem?_cons_succ, Nat.reduceAdd, Nat.reduceSub, Nat.zero_add, if_true, if_false, decide_eq_true_eq, reduceIte, Bool.not_true, Bool.not_false, beq_self_eq_true, Bool.false_eq_true, Int.reduceLT, Int.reduceLE, Int.reduceNeg, Int.reduceToNat, Int.reduceAdd, Int.reduceSub, Nat.reduceLT, Nat.reduceLeDiff, Int.cast_ofNat_Int, Int.reduceEq, Int.reduceBEq, DL.wipeD, decide_true, decide_false, not_true_eq_false, not_false_eq_true, String.reduceEq, Bool.or_true, Bool.or_false, Bool.true_or, Bool.false_or, Bool.and_true, Bool.and_false, Bool.true_and, Bool.false_and, Bool.not_not, Nat.reduceEqDiff, Int.toNat_natCast, Decidable.not_not, List.mem_cons, List.not_mem_nil, or_false, or_true, true_or, false_or, and_true, true_and, and_self, and_false, false_and, reduceCtorEq, Option.isNone_some, Option.isNone_none, Option.isSome_some, Option.isSome_none, List.zip_cons_cons, List.zip_nil_right, List.zip_nil_left, List.reverse_cons, List.reverse_nil, Option.getD_some, Option.getD_none, r_tb_LENGTHS_0, r_tb_LENGTHS_1, r_tb_LENGTHS_2, r_tb_LENGTHS_3, r_tb_LENGTHS_4, r_tb_LENGTHS_5, r_in_BadProgram, r_xs_BadProgram_BadProgram, sizeLine_eq, r_sl3, r_seqB, r_lenB, r_ixB, r_isB, r_is2B, r_enumB, sumf_run])
local macro_rules | `(tactic| walk_at "h") => `(tactic| simp -implicitDefEqProofs only [↓DL.k_F, ↓DL.k_M, ↓DL.k_onV, ↓DL.k_onL, ↓DL.k_onO, ↓DL.k_onN, ↓DL.r_C, ↓DL.r_var, ↓DL.k_Op2, ↓DL.k_Op, ↓DL.r_op, ↓DL.r_un, ↓DL.r_app, ↓DL.r_call, ↓DL.r_callF, ↓DL.k_CK2, ↓DL.k_CK, ↓DL.r_callK, ↓DL.r_callKF, ↓DL.r_nil, ↓DL.k_A2, ↓DL.k_A, ↓DL.r_cons, ↓DL.k_AndT, ↓DL.k_AndF, ↓DL.r_and, ↓DL.k_OrT, ↓DL.k_OrF, ↓DL.r_or, ↓DL.k_Not, ↓DL.r_not, ↓DL.k_EIfT, ↓DL.k_EIfF, ↓DL.r_eIf, ↓DL.k_Ch3T, ↓DL.k_Ch3F, ↓DL.k_Ch2, ↓DL.k_Ch1, ↓DL.r_chain, ↓DL.k_T, ↓DL.r_of, ↓DL.k_TAT, ↓DL.k_TAF, ↓DL.r_tand, ↓DL.k_TOT, ↓DL.k_TOF, ↓DL.r_tor, ↓DL.k_TN, ↓DL.r_tnot, ↓DL.r_tTrue, ↓DL.k_Asg, ↓DL.r_asg, ↓DL.k_Nx, ↓DL.r_expr, ↓DL.k_Rt, ↓DL.r_ret, ↓DL.r_retN, ↓DL.k_IfT, ↓DL.k_IfF, ↓DL.r_if, ↓DL.r_seq, ↓DL.r_next, ↓DL.r_break, ↓DL.r_cont, ↓DL.r_stuck, ↓DL.k_G, ↓DL.r_asgG, ↓DL.k_For, ↓DL.r_for, ↓DL.k_SI3, ↓DL.k_SI2, ↓DL.k_SI, ↓DL.r_setItemS, ↓DL.k_Ap3, ↓DL.k_Ap2, ↓DL.k_Ap1, ↓DL.r_apd, ↓DL.r_gN, ↓DL.r_iSeq, ↓DL.r_iApp, ↓DL.k_Body, ↓DL.k_Sl3, ↓DL.k_Sl2, ↓DL.k_Sl1, ↓DL.r_sl, ↓DL.r_oNone, ↓DL.k_OS, ↓DL.r_oSome, ↓DL.r_slT, ↓DL.r_slL, ↓DL.r_slS, ↓DL.r_retL, ↓DL.r_newL, ↓DL.r_lc, ↓DL.r_lcM, ↓DL.r_add, ↓DL.r_sub, ↓DL.r_mod, ↓DL.r_div, ↓DL.r_pow1018, ↓DL.r_lt, ↓DL.r_le, ↓DL.r_gt, ↓DL.r_ge, ↓DL.r_neg, ↓DL.r_eqII, ↓DL.r_neII, ↓DL.r_eqSS, ↓DL.r_neSS, ↓DL.r_eqBB, ↓DL.r_neBB, ↓DL.r_isN, ↓DL.r_isB, ↓DL.r_notN, ↓DL.r_int1, ↓DL.r_intb, ↓DL.r_abs, ↓DL.k_Get, ↓DL.r_ixT, ↓DL.r_ixL, ↓DL.r_asLR, ↓DL.r_asLL, ↓DL.r_ixRef, ↓DL.r_lenT, ↓DL.r_lenL, ↓DL.k_Len, ↓DL.r_lenRef, ↓DL.r_sumRef, ↓DL.k_SetJ, ↓DL.k_Set, ↓DL.r_setRef, ↓DL.k_App, ↓DL.r_appRef, ↓DL.r_tup0, ↓DL.r_tup1, ↓DL.r_tup2, ↓DL.r_tup3, ↓DL.r_tup4, ↓DL.r_tup5, ↓DL.r_tup6, ↓DL.r_tup7, ↓DL.r_tup8, ↓DL.r_lst0, ↓DL.r_ref0, ↓DL.r_ref1, ↓DL.r_ref2, ↓DL.r_ref3, ↓DL.r_ref4, ↓DL.r_ref5, ↓DL.r_ref6, ↓DL.r_listL, ↓DL.r_listT, ↓DL.r_tupleL, ↓DL.r_seqT, ↓DL.r_seqL, ↓DL.r_range1, ↓DL.r_range2, ↓DL.r_strEq, ↓DL.r_strEq2, ↓DL.r_isT0, ↓DL.r_isT1, ↓DL.r_isT2, ↓DL.r_isT3, ↓DL.r_isT4, ↓DL.r_isT5, ↓DL.r_isT6, ↓DL.r_isT7, ↓DL.r_isT8, ↓DL.r_isT9, ↓DL.r_isT10, ↓DL.r_isT11, ↓DL.r_isT12, ↓DL.r_isT13, ↓DL.r_isT14, ↓DL.r_isT15, ↓DL.r_isT16, ↓DL.r_isT17, ↓DL.r_isT18, ↓DL.r_isT19, ↓DL.r_isT20, ↓DL.r_isT21, ↓DL.r_isT22, ↓DL.r_isT23, ↓DL.r_isT24, ↓DL.r_isT25, ↓DL.r_isT26, ↓DL.r_isT27, ↓DL.r_isT28, ↓DL.r_isT29, ↓DL.r_isT30, ↓DL.r_isT31, ↓DL.r_isT32, ↓DL.r_isT33, ↓DL.r_isT34, ↓DL.r_isT35, ↓DL.r_isiN, ↓DL.r_isi2N, ↓DL.r_isiB, ↓DL.r_isi2B, ↓DL.r_isiI, ↓DL.r_isi2I, ↓DL.r_isiS, ↓DL.r_isi2S, ↓DL.r_isiT, ↓DL.r_isi2T, ↓DL.r_isiL, ↓DL.r_isi2L, ↓DL.r_inTI, ↓DL.r_ninTI, ↓DL.r_inLI, ↓DL.r_ninLI, ↓DL.r_inTS, ↓DL.r_inD_nil, ↓DL.r_inD_cons, ↓DL.r_flat_nil, ↓DL.r_flat_cons, ↓DL.r_flatS, ↓DL.r_flatI, ↓DL.r_eqvSS, ↓DL.r_eqvII, ↓DL.r_addLL, ↓DL.r_atm1, ↓DL.r_atm2, ↓DL.r_at0, ↓DL.r_at1, ↓DL.r_at2, ↓DL.r_at3, ↓DL.r_at4, ↓DL.r_at5, ↓DL.r_at6, ↓DL.r_at7, ↓DL.r_at8, ↓DL.r_beqI, ↓DL.r_ndec, ↓DL.r_gT, ↓DL.k_Gs, ↓DL.r_gsCons, ↓DL.r_gsNil, ↓DL.r_isDNN, ↓DL.r_isDBB, ↓DL.r_isDBN, ↓DL.r_isDNB, ↓DL.r_isDIN, ↓DL.r_isDIB, ↓DL.r_isDSN, ↓DL.r_isDSB, ↓DL.r_isDTN, ↓DL.r_isDTB, ↓DL.r_isDLN, ↓DL.r_isDLB, ↓DL.r_isDRN, ↓DL.r_isDRB, ↓DL.r_beqTT, ↓DL.r_beqTF, ↓DL.r_beqFT, ↓DL.r_beqFF, ↓DL.k_onI, ↓DL.k_Fld2, ↓DL.r_fld, ↓DL.k_FldR, ↓DL.k_FldO, ↓DL.r_look, ↓DL.r_lookN, ↓DL.r_putD, ↓DL.r_putDN, ↓DL.k_SF3, ↓DL.r_setFldR, ↓DL.k_SF2, ↓DL.k_SF1, ↓DL.r_setFld, ↓DL.r_methF, ↓DL.k_Me2, ↓DL.r_meth, ↓DL.k_MeR, ↓DL.k_MeO, ↓DL.r_make, ↓DL.k_MkN, ↓DL.r_makeF, ↓DL.k_CG2, ↓DL.k_CG, ↓DL.r_callG, ↓DL.r_callGF, ↓DL.r_listRg, ↓DL.r_tupRg, ↓DL.k_SlR, ↓DL.r_slR, ↓DL.r_enumL, ↓DL.r_max2, ↓DL.r_min2, ↓DL.r_isi2R, ↓DL.r_isiR, ↓DL.r_lst1, ↓DL.r_lst2, ↓DL.r_lst3, ↓DL.r_lst4, ↓DL.r_lst5, ↓DL.r_lst6, ↓DL.r_lst7, ↓DL.r_lst8, ↓DL.r_lst9, ↓DL.r_lst10, ↓DL.r_lst11, ↓DL.r_lst12, ↓DL.r_seqR, ↓DL.k_ForR, ↓DL.r_minL, ↓DL.r_clr, ↓DL.k_Clr1R, ↓DL.k_LstR, ↓DL.r_listRef, ↓DL.r_enumJL, ↓DL.r_enumJT, ↓DL.k_Clr2, ↓DL.k_MG2, ↓DL.k_MG, ↓DL.r_makeG, ↓DL.r_makeGF, ↓DL.r_prop, ↓DL.k_Pr2, ↓DL.k_PrR, ↓DL.k_Eq3, ↓DL.r_isiCN, ↓DL.r_isiCS, ↓DL.r_isiCT, ↓DL.k_Ix3, ↓DL.k_Ix2, ↓DL.k_Ix1, ↓DL.r_index, ↓DL.r_iStr, ↓DL.r_strI, ↓DL.k_T2, ↓DL.k_T1S, ↓DL.r_join, ↓DL.r_sindex, ↓DL.k_Rz, ↓DL.r_raise, ↓DL.r_raise0, ↓DL.k_Ex, ↓DL.r_try, ↓DL.k_trNx, ↓DL.k_trRt, ↓DL.k_trBk, ↓DL.k_trCt, ↓DL.k_trEx, ↓DL.k_hdlN, ↓DL.k_hdlT, ↓DL.k_hdlF, ↓DL.k_setSlN, ↓DL.k_setSlS, ↓DL.k_endNx, ↓DL.k_endRt, ↓DL.k_endBk, ↓DL.k_endCt, ↓DL.r_xf, ↓DL.r_xfD, ↓DL.r_isE, ↓DL.r_isED, ↓DL.r_isiDc, ↓DL.r_isi2Dc, ↓DL.k_In4, ↓DL.k_In3, ↓DL.k_In2, ↓DL.k_In1, ↓DL.r_ins, ↓DL.r_addI, ↓DL.k_Fa4, ↓DL.k_Fa3, ↓DL.k_Fa2, ↓DL.k_FaR, ↓DL.r_fldaug, ↓DL.r_dinL, ↓DL.r_dinD, ↓DL.r_dninL, ↓DL.r_dninD, ↓DL.r_dgetL, ↓DL.r_dgetD, ↓DL.r_lenDL, ↓DL.r_lenDD, ↓DL.r_dictL, ↓DL.r_dictD, ↓DL.r_isiLc, ↓DL.r_isi2Lc, ↓DL.r_isTd0, ↓DL.r_isTd1, ↓DL.r_isTd2, ↓DL.r_isTd3, ↓DL.r_isTd4, ↓DL.r_newD, ↓DL.r_frzLs, ↓DL.r_items, ↓DL.r_inK, ↓DL.r_ninK, ↓DL.r_getK, ↓DL.r_dispM, ↓DL.k_Dp2, ↓DL.k_Dp1, ↓DL.r_pairsN, ↓DL.r_pairsC, ↓DL.r_dispF1, ↓DL.r_gTn, ↓DL.k_Gf1, ↓DL.r_gFld, ↓DL.Kt.seq_nx, ↓DL.Kt.seq_rt, ↓DL.Kt.seq_bk, ↓DL.Kt.seq_ct, ↓DL.Kt.seq_ex, ↓DL.Kt.fin_nx, ↓DL.Kt.fin_rt, ↓DL.Kt.fin_ex, ↓DL.Kt.loop_nx, ↓DL.Kt.loop_rt, ↓DL.Kt.loop_bk, ↓DL.Kt.loop_ct, ↓DL.Kt.loop_ex, ↓DL.C.run_ret, ↓DL.mset_same, ↓DL.mset_mset, startD, ixN, Option.bind_some, Option.map_some, List.map_cons, List.map_nil, List.length_cons, List.length_nil, List.length_set, List.replicate, List.cons_append, List.nil_append, List.append_nil, List.set_cons_zero, List.set_cons_succ, List.getElem?_cons_zero, List.getElem?_cons_succ, Nat.reduceAdd, Nat.reduceSub, Nat.zero_add, if_true, if_false, decide_eq_true_eq, reduceIte, Bool.not_true, Bool.not_false, beq_self_eq_true, Bool.false_eq_true, Int.reduceLT, Int.reduceLE, Int.reduceNeg, Int.reduceToNat, Int.reduceAdd, Int.reduceSub, Nat.reduceLT, Nat.reduceLeDiff, Int.cast_ofNat_Int, Int.reduceEq, Int.reduceBEq, DL.wipeD, decide_true, decide_false, not_true_eq_false, not_false_eq_true, String.reduceEq, Bool.or_true, Bool.or_false, Bool.true_or, Bool.false_or, Bool.and_true, Bool.and_false, Bool.true_and, Bool.false_and, Bool.not_not, Nat.reduceEqDiff, Int.toNat_natCast, Decidable.not_not, List.mem_cons, List.not_mem_nil, or_false, or_true, true_or, false_or, and_true, true_and, and_self, and_false, false_and, reduceCtorEq, Option.isNone_some, Option.isNone_none, Option.isSome_some, Option.isSome_none, List.zip_cons_cons, List.zip_nil_right, List.zip_nil_left, List.reverse_cons, List.reverse_nil, Option.getD_some, Option.getD_none, r_tb_LENGTHS_0, r_tb_LENGTHS_1, r_tb_LENGTHS_2, r_tb_LENGTHS_3, r_tb_LENGTHS_4, r_tb_LENGTHS_5, r_in_BadProgram, r_xs_BadProgram_BadProgram, sizeLine_eq, r_sl3, r_seqB, r_lenB, r_ixB, r_isB, r_is2B, r_enumB, sumf_run, *])
local macro_rules | `(tactic| walk_at "s") => `(tactic| ((try walk_at "h"); repeat' ((first | with_reducible refine if_dec (fun _ => ?_) (fun _ => ?_) | with_reducible refine eif_dec (fun _ => ?_) (fun _ => ?_) | with_reducible refine tor_dec (fun _ => ?_) (fun _ => ?_) | with_reducible refine tand_dec (fun _ => ?_) (fun _ => ?_) | with_reducible refine and_dec (fun _ => ?_) (fun _ => ?_) | with_reducible refine or_dec (fun _ => ?_) (fun _ => ?_) | with_reducible refine ch_dec (fun _ => ?_) (fun _ => ?_)) <;> (try walk_at "h"))))
theorem width_ret : ∀ (n : Nat) (b : List Sm), deps b < n → cnts b ≤ 1000 → Ret (d_width n [blkD b]) (.int (cnts b)) := by
  intro n
  induction n with
  | zero => intro b h; omega
  | succ n ih =>
    intro b h hc m Q E q
    rw [d_width_s]
    refine fn_run ?_
    unfold p_width
    walk_at "d"
    refine lc_mp (out := fun s => .int (cnt s)) (Nat.le_trans (length_cnts b) (Nat.le_trans hc (by decide))) (fun s hs Y y => ?_) ?_
    · walk_at "d"
      refine subs_run (out := fun b => .int (cnts b)) (fun b' hb' => ?_) (by simp) ?_
      · have h1 := deps_mem hs
        have h2 := dep_subs hb'
        have h3 := cnts_mem hs
        have h4 := cnt_subs s
        have h5 : cnts b' ≤ (s.subs.map cnts).sum := by
          revert hb'
          cases s <;> simp [Sm.subs]
          · rintro (rfl | rfl) <;> omega
          · rintro rfl; omega
        exact ih b' (by omega) (by omega)
      · walk_at "d"
        rw [sum_subs]
        have e : (1 : Int) + ((cnt s : Int) - 1) = cnt s := by omega
        rw [e]
        exact y
    · walk_at "d"
      rw [sum_cnt]
      exact q

local macro_rules | `(tactic| walk_at "d") => `(tactic| simp -implicitDefEqProofs only [↓DL.k_F, ↓DL.k_M, ↓DL.k_onV, ↓DL.k_onL, ↓DL.k_onO, ↓DL.k_onN, ↓DL.r_C, ↓DL.r_var, ↓DL.k_Op2, ↓DL.k_Op, ↓DL.r_op, ↓DL.r_un, ↓DL.r_app, ↓DL.r_call, ↓DL.r_callF, ↓DL.k_CK2, ↓DL.k_CK, ↓DL.r_callK, ↓DL.r_callKF, ↓DL.r_nil, ↓DL.k_A2, ↓DL.k_A, ↓DL.r_cons, ↓DL.k_AndT, ↓DL.k_AndF, ↓DL.r_and, ↓DL.k_OrT, ↓DL.k_OrF, ↓DL.r_or, ↓DL.k_Not, ↓DL.r_not, ↓DL.k_EIfT, ↓DL.k_EIfF, ↓DL.r_eIf, ↓DL.k_Ch3T, ↓DL.k_Ch3F, ↓DL.k_Ch2, ↓DL.k_Ch1, ↓DL.r_chain, ↓DL.k_T, ↓DL.r_of, ↓DL.k_TAT, ↓DL.k_TAF, ↓DL.r_tand, ↓DL.k_TOT, ↓DL.k_TOF, ↓DL.r_tor, ↓DL.k_TN, ↓DL.r_tnot, ↓DL.r_tTrue, ↓DL.k_Asg, ↓DL.r_asg, ↓DL.k_Nx, ↓DL.r_expr, ↓DL.k_Rt, ↓DL.r_ret, ↓DL.r_retN, ↓DL.k_IfT, ↓DL.k_IfF, ↓DL.r_if, ↓DL.r_seq, ↓DL.r_next, ↓DL.r_break, ↓DL.r_cont, ↓DL.r_stuck, ↓DL.k_G, ↓DL.r_asgG, ↓DL.k_For, ↓DL.r_for, ↓DL.k_SI3, ↓DL.k_SI2, ↓DL.k_SI, ↓DL.r_setItemS, ↓DL.k_Ap3, ↓DL.k_Ap2, ↓DL.k_Ap1, ↓DL.r_apd, ↓DL.r_gN, ↓DL.r_iSeq, ↓DL.r_iApp, ↓DL.k_Body, ↓DL.k_Sl3, ↓DL.k_Sl2, ↓DL.k_Sl1, ↓DL.r_sl, ↓DL.r_oNone, ↓DL.k_OS, ↓DL.r_oSome, ↓DL.r_slT, ↓DL.r_slL, ↓DL.r_slS, ↓DL.r_retL, ↓DL.r_newL, ↓DL.r_lc, ↓DL.r_lcM, ↓DL.r_add, ↓DL.r_sub, ↓DL.r_mod, ↓DL.r_div, ↓DL.r_pow1018, ↓DL.r_lt, ↓DL.r_le, ↓DL.r_gt, ↓DL.r_ge, ↓DL.r_neg, ↓DL.r_eqII, ↓DL.r_neII, ↓DL.r_eqSS, ↓DL.r_neSS, ↓DL.r_eqBB, ↓DL.r_neBB, ↓DL.r_isN, ↓DL.r_isB, ↓DL.r_notN, ↓DL.r_int1, ↓DL.r_intb, ↓DL.r_abs, ↓DL.k_Get, ↓DL.r_ixT, ↓DL.r_ixL, ↓DL.r_asLR, ↓DL.r_asLL, ↓DL.r_ixRef, ↓DL.r_lenT, ↓DL.r_lenL, ↓DL.k_Len, ↓DL.r_lenRef, ↓DL.r_sumRef, ↓DL.k_SetJ, ↓DL.k_Set, ↓DL.r_setRef, ↓DL.k_App, ↓DL.r_appRef, ↓DL.r_tup0, ↓DL.r_tup1, ↓DL.r_tup2, ↓DL.r_tup3, ↓DL.r_tup4, ↓DL.r_tup5, ↓DL.r_tup6, ↓DL.r_tup7, ↓DL.r_tup8, ↓DL.r_lst0, ↓DL.r_ref0, ↓DL.r_ref1, ↓DL.r_ref2, ↓DL.r_ref3, ↓DL.r_ref4, ↓DL.r_ref5, ↓DL.r_ref6, ↓DL.r_listL, ↓DL.r_listT, ↓DL.r_tupleL, ↓DL.r_seqT, ↓DL.r_seqL, ↓DL.r_range1, ↓DL.r_range2, ↓DL.r_strEq, ↓DL.r_strEq2, ↓DL.r_isT0, ↓DL.r_isT1, ↓DL.r_isT2, ↓DL.r_isT3, ↓DL.r_isT4, ↓DL.r_isT5, ↓DL.r_isT6, ↓DL.r_isT7, ↓DL.r_isT8, ↓DL.r_isT9, ↓DL.r_isT10, ↓DL.r_isT11, ↓DL.r_isT12, ↓DL.r_isT13, ↓DL.r_isT14, ↓DL.r_isT15, ↓DL.r_isT16, ↓DL.r_isT17, ↓DL.r_isT18, ↓DL.r_isT19, ↓DL.r_isT20, ↓DL.r_isT21, ↓DL.r_isT22, ↓DL.r_isT23, ↓DL.r_isT24, ↓DL.r_isT25, ↓DL.r_isT26, ↓DL.r_isT27, ↓DL.r_isT28, ↓DL.r_isT29, ↓DL.r_isT30, ↓DL.r_isT31, ↓DL.r_isT32, ↓DL.r_isT33, ↓DL.r_isT34, ↓DL.r_isT35, ↓DL.r_isiN, ↓DL.r_isi2N, ↓DL.r_isiB, ↓DL.r_isi2B, ↓DL.r_isiI, ↓DL.r_isi2I, ↓DL.r_isiS, ↓DL.r_isi2S, ↓DL.r_isiT, ↓DL.r_isi2T, ↓DL.r_isiL, ↓DL.r_isi2L, ↓DL.r_inTI, ↓DL.r_ninTI, ↓DL.r_inLI, ↓DL.r_ninLI, ↓DL.r_inTS, ↓DL.r_inD_nil, ↓DL.r_inD_cons, ↓DL.r_flat_nil, ↓DL.r_flat_cons, ↓DL.r_flatS, ↓DL.r_flatI, ↓DL.r_eqvSS, ↓DL.r_eqvII, ↓DL.r_addLL, ↓DL.r_atm1, ↓DL.r_atm2, ↓DL.r_at0, ↓DL.r_at1, ↓DL.r_at2, ↓DL.r_at3, ↓DL.r_at4, ↓DL.r_at5, ↓DL.r_at6, ↓DL.r_at7, ↓DL.r_at8, ↓DL.r_beqI, ↓DL.r_ndec, ↓DL.r_gT, ↓DL.k_Gs, ↓DL.r_gsCons, ↓DL.r_gsNil, ↓DL.r_isDNN, ↓DL.r_isDBB, ↓DL.r_isDBN, ↓DL.r_isDNB, ↓DL.r_isDIN, ↓DL.r_isDIB, ↓DL.r_isDSN, ↓DL.r_isDSB, ↓DL.r_isDTN, ↓DL.r_isDTB, ↓DL.r_isDLN, ↓DL.r_isDLB, ↓DL.r_isDRN, ↓DL.r_isDRB, ↓DL.r_beqTT, ↓DL.r_beqTF, ↓DL.r_beqFT, ↓DL.r_beqFF, ↓DL.k_onI, ↓DL.k_Fld2, ↓DL.r_fld, ↓DL.k_FldR, ↓DL.k_FldO, ↓DL.r_look, ↓DL.r_lookN, ↓DL.r_putD, ↓DL.r_putDN, ↓DL.k_SF3, ↓DL.r_setFldR, ↓DL.k_SF2, ↓DL.k_SF1, ↓DL.r_setFld, ↓DL.r_methF, ↓DL.k_Me2, ↓DL.r_meth, ↓DL.k_MeR, ↓DL.k_MeO, ↓DL.r_make, ↓DL.k_MkN, ↓DL.r_makeF, ↓DL.k_CG2, ↓DL.k_CG, ↓DL.r_callG, ↓DL.r_callGF, ↓DL.r_listRg, ↓DL.r_tupRg, ↓DL.k_SlR, ↓DL.r_slR, ↓DL.r_enumL, ↓DL.r_max2, ↓DL.r_min2, ↓DL.r_isi2R, ↓DL.r_isiR, ↓DL.r_lst1, ↓DL.r_lst2, ↓DL.r_lst3, ↓DL.r_lst4, ↓DL.r_lst5, ↓DL.r_lst6, ↓DL.r_lst7, ↓DL.r_lst8, ↓DL.r_lst9, ↓DL.r_lst10, ↓DL.r_lst11, ↓DL.r_lst12, ↓DL.r_seqR, ↓DL.k_ForR, ↓DL.r_minL, ↓DL.r_clr, ↓DL.k_Clr1R, ↓DL.k_LstR, ↓DL.r_listRef, ↓DL.r_enumJL, ↓DL.r_enumJT, ↓DL.k_Clr2, ↓DL.k_MG2, ↓DL.k_MG, ↓DL.r_makeG, ↓DL.r_makeGF, ↓DL.r_prop, ↓DL.k_Pr2, ↓DL.k_PrR, ↓DL.k_Eq3, ↓DL.r_isiCN, ↓DL.r_isiCS, ↓DL.r_isiCT, ↓DL.k_Ix3, ↓DL.k_Ix2, ↓DL.k_Ix1, ↓DL.r_index, ↓DL.r_iStr, ↓DL.r_strI, ↓DL.k_T2, ↓DL.k_T1S, ↓DL.r_join, ↓DL.r_sindex, ↓DL.k_Rz, ↓DL.r_raise, ↓DL.r_raise0, ↓DL.k_Ex, ↓DL.r_try, ↓DL.k_trNx, ↓DL.k_trRt, ↓DL.k_trBk, ↓DL.k_trCt, ↓DL.k_trEx, ↓DL.k_hdlN, ↓DL.k_hdlT, ↓DL.k_hdlF, ↓DL.k_setSlN, ↓DL.k_setSlS, ↓DL.k_endNx, ↓DL.k_endRt, ↓DL.k_endBk, ↓DL.k_endCt, ↓DL.r_xf, ↓DL.r_xfD, ↓DL.r_isE, ↓DL.r_isED, ↓DL.r_isiDc, ↓DL.r_isi2Dc, ↓DL.k_In4, ↓DL.k_In3, ↓DL.k_In2, ↓DL.k_In1, ↓DL.r_ins, ↓DL.r_addI, ↓DL.k_Fa4, ↓DL.k_Fa3, ↓DL.k_Fa2, ↓DL.k_FaR, ↓DL.r_fldaug, ↓DL.r_dinL, ↓DL.r_dinD, ↓DL.r_dninL, ↓DL.r_dninD, ↓DL.r_dgetL, ↓DL.r_dgetD, ↓DL.r_lenDL, ↓DL.r_lenDD, ↓DL.r_dictL, ↓DL.r_dictD, ↓DL.r_isiLc, ↓DL.r_isi2Lc, ↓DL.r_isTd0, ↓DL.r_isTd1, ↓DL.r_isTd2, ↓DL.r_isTd3, ↓DL.r_isTd4, ↓DL.r_newD, ↓DL.r_frzLs, ↓DL.r_items, ↓DL.r_inK, ↓DL.r_ninK, ↓DL.r_getK, ↓DL.r_dispM, ↓DL.k_Dp2, ↓DL.k_Dp1, ↓DL.r_pairsN, ↓DL.r_pairsC, ↓DL.r_dispF1, ↓DL.r_gTn, ↓DL.k_Gf1, ↓DL.r_gFld, ↓DL.Kt.seq_nx, ↓DL.Kt.seq_rt, ↓DL.Kt.seq_bk, ↓DL.Kt.seq_ct, ↓DL.Kt.seq_ex, ↓DL.Kt.fin_nx, ↓DL.Kt.fin_rt, ↓DL.Kt.fin_ex, ↓DL.Kt.loop_nx, ↓DL.Kt.loop_rt, ↓DL.Kt.loop_bk, ↓DL.Kt.loop_ct, ↓DL.Kt.loop_ex, ↓DL.C.run_ret, ↓DL.mset_same, ↓DL.mset_mset, startD, ixN, Option.bind_some, Option.map_some, List.map_cons, List.map_nil, List.length_cons, List.length_nil, List.length_set, List.replicate, List.cons_append, List.nil_append, List.append_nil, List.set_cons_zero, List.set_cons_succ, List.getElem?_cons_zero, List.getElem?_cons_succ, Nat.reduceAdd, Nat.reduceSub, Nat.zero_add, if_true, if_false, decide_eq_true_eq, reduceIte, Bool.not_true, Bool.not_false, beq_self_eq_true, Bool.false_eq_true, Int.reduceLT, Int.reduceLE, Int.reduceNeg, Int.reduceToNat, Int.reduceAdd, Int.reduceSub, Nat.reduceLT, Nat.reduceLeDiff, Int.cast_ofNat_Int, Int.reduceEq, Int.reduceBEq, DL.wipeD, decide_true, decide_false, not_true_eq_false, not_false_eq_true, String.reduceEq, Bool.or_true, Bool.or_false, Bool.true_or, Bool.false_or, Bool.and_true, Bool.and_false, Bool.true_and, Bool.false_and, Bool.not_not, Nat.reduceEqDiff, Int.toNat_natCast, Decidable.not_not, List.mem_cons, List.not_mem_nil, or_false, or_true, true_or, false_or, and_true, true_and, and_self, and_false, false_and, reduceCtorEq, Option.isNone_some, Option.isNone_none, Option.isSome_some, Option.isSome_none, List.zip_cons_cons, List.zip_nil_right, List.zip_nil_left, List.reverse_cons, List.reverse_nil, Option.getD_some, Option.getD_none, r_tb_LENGTHS_0, r_tb_LENGTHS_1, r_tb_LENGTHS_2, r_tb_LENGTHS_3, r_tb_LENGTHS_4, r_tb_LENGTHS_5, r_in_BadProgram, r_xs_BadProgram_BadProgram, sizeLine_eq, r_sl3, r_seqB, r_lenB, r_ixB, r_isB, r_is2B, r_enumB, sumf_run, enc_wr, enc_gt, enc_st, enc_ite, enc_whl, enc_rt, endsS_wr, endsS_gt, endsS_st, endsS_ite, endsS_whl, endsS_rt, bareS_wr, bareS_gt, bareS_st, bareS_ite, bareS_whl, bareS_rt])
local macro_rules | `(tactic| walk_at "h") => `(tactic| simp -implicitDefEqProofs only [↓DL.k_F, ↓DL.k_M, ↓DL.k_onV, ↓DL.k_onL, ↓DL.k_onO, ↓DL.k_onN, ↓DL.r_C, ↓DL.r_var, ↓DL.k_Op2, ↓DL.k_Op, ↓DL.r_op, ↓DL.r_un, ↓DL.r_app, ↓DL.r_call, ↓DL.r_callF, ↓DL.k_CK2, ↓DL.k_CK, ↓DL.r_callK, ↓DL.r_callKF, ↓DL.r_nil, ↓DL.k_A2, ↓DL.k_A, ↓DL.r_cons, ↓DL.k_AndT, ↓DL.k_AndF, ↓DL.r_and, ↓DL.k_OrT, ↓DL.k_OrF, ↓DL.r_or, ↓DL.k_Not, ↓DL.r_not, ↓DL.k_EIfT, ↓DL.k_EIfF, ↓DL.r_eIf, ↓DL.k_Ch3T, ↓DL.k_Ch3F, ↓DL.k_Ch2, ↓DL.k_Ch1, ↓DL.r_chain, ↓DL.k_T, ↓DL.r_of, ↓DL.k_TAT, ↓DL.k_TAF, ↓DL.r_tand, ↓DL.k_TOT, ↓DL.k_TOF, ↓DL.r_tor, ↓DL.k_TN, ↓DL.r_tnot, ↓DL.r_tTrue, ↓DL.k_Asg, ↓DL.r_asg, ↓DL.k_Nx, ↓DL.r_expr, ↓DL.k_Rt, ↓DL.r_ret, ↓DL.r_retN, ↓DL.k_IfT, ↓DL.k_IfF, ↓DL.r_if, ↓DL.r_seq, ↓DL.r_next, ↓DL.r_break, ↓DL.r_cont, ↓DL.r_stuck, ↓DL.k_G, ↓DL.r_asgG, ↓DL.k_For, ↓DL.r_for, ↓DL.k_SI3, ↓DL.k_SI2, ↓DL.k_SI, ↓DL.r_setItemS, ↓DL.k_Ap3, ↓DL.k_Ap2, ↓DL.k_Ap1, ↓DL.r_apd, ↓DL.r_gN, ↓DL.r_iSeq, ↓DL.r_iApp, ↓DL.k_Body, ↓DL.k_Sl3, ↓DL.k_Sl2, ↓DL.k_Sl1, ↓DL.r_sl, ↓DL.r_oNone, ↓DL.k_OS, ↓DL.r_oSome, ↓DL.r_slT, ↓DL.r_slL, ↓DL.r_slS, ↓DL.r_retL, ↓DL.r_newL, ↓DL.r_lc, ↓DL.r_lcM, ↓DL.r_add, ↓DL.r_sub, ↓DL.r_mod, ↓DL.r_div, ↓DL.r_pow1018, ↓DL.r_lt, ↓DL.r_le, ↓DL.r_gt, ↓DL.r_ge, ↓DL.r_neg, ↓DL.r_eqII, ↓DL.r_neII, ↓DL.r_eqSS, ↓DL.r_neSS, ↓DL.r_eqBB, ↓DL.r_neBB, ↓DL.r_isN, ↓DL.r_isB, ↓DL.r_notN, ↓DL.r_int1, ↓DL.r_intb, ↓DL.r_abs, ↓DL.k_Get, ↓DL.r_ixT, ↓DL.r_ixL, ↓DL.r_asLR, ↓DL.r_asLL, ↓DL.r_ixRef, ↓DL.r_lenT, ↓DL.r_lenL, ↓DL.k_Len, ↓DL.r_lenRef, ↓DL.r_sumRef, ↓DL.k_SetJ, ↓DL.k_Set, ↓DL.r_setRef, ↓DL.k_App, ↓DL.r_appRef, ↓DL.r_tup0, ↓DL.r_tup1, ↓DL.r_tup2, ↓DL.r_tup3, ↓DL.r_tup4, ↓DL.r_tup5, ↓DL.r_tup6, ↓DL.r_tup7, ↓DL.r_tup8, ↓DL.r_lst0, ↓DL.r_ref0, ↓DL.r_ref1, ↓DL.r_ref2, ↓DL.r_ref3, ↓DL.r_ref4, ↓DL.r_ref5, ↓DL.r_ref6, ↓DL.r_listL, ↓DL.r_listT, ↓DL.r_tupleL, ↓DL.r_seqT, ↓DL.r_seqL, ↓DL.r_range1, ↓DL.r_range2, ↓DL.r_strEq, ↓DL.r_strEq2, ↓DL.r_isT0, ↓DL.r_isT1, ↓DL.r_isT2, ↓DL.r_isT3, ↓DL.r_isT4, ↓DL.r_isT5, ↓DL.r_isT6, ↓DL.r_isT7, ↓DL.r_isT8, ↓DL.r_isT9, ↓DL.r_isT10, ↓DL.r_isT11, ↓DL.r_isT12, ↓DL.r_isT13, ↓DL.r_isT14, ↓DL.r_isT15, ↓DL.r_isT16, ↓DL.r_isT17, ↓DL.r_isT18, ↓DL.r_isT19, ↓DL.r_isT20, ↓DL.r_isT21, ↓DL.r_isT22, ↓DL.r_isT23, ↓DL.r_isT24, ↓DL.r_isT25, ↓DL.r_isT26, ↓DL.r_isT27, ↓DL.r_isT28, ↓DL.r_isT29, ↓DL.r_isT30, ↓DL.r_isT31, ↓DL.r_isT32, ↓DL.r_isT33, ↓DL.r_isT34, ↓DL.r_isT35, ↓DL.r_isiN, ↓DL.r_isi2N, ↓DL.r_isiB, ↓DL.r_isi2B, ↓DL.r_isiI, ↓DL.r_isi2I, ↓DL.r_isiS, ↓DL.r_isi2S, ↓DL.r_isiT, ↓DL.r_isi2T, ↓DL.r_isiL, ↓DL.r_isi2L, ↓DL.r_inTI, ↓DL.r_ninTI, ↓DL.r_inLI, ↓DL.r_ninLI, ↓DL.r_inTS, ↓DL.r_inD_nil, ↓DL.r_inD_cons, ↓DL.r_flat_nil, ↓DL.r_flat_cons, ↓DL.r_flatS, ↓DL.r_flatI, ↓DL.r_eqvSS, ↓DL.r_eqvII, ↓DL.r_addLL, ↓DL.r_atm1, ↓DL.r_atm2, ↓DL.r_at0, ↓DL.r_at1, ↓DL.r_at2, ↓DL.r_at3, ↓DL.r_at4, ↓DL.r_at5, ↓DL.r_at6, ↓DL.r_at7, ↓DL.r_at8, ↓DL.r_beqI, ↓DL.r_ndec, ↓DL.r_gT, ↓DL.k_Gs, ↓DL.r_gsCons, ↓DL.r_gsNil, ↓DL.r_isDNN, ↓DL.r_isDBB, ↓DL.r_isDBN, ↓DL.r_isDNB, ↓DL.r_isDIN, ↓DL.r_isDIB, ↓DL.r_isDSN, ↓DL.r_isDSB, ↓DL.r_isDTN, ↓DL.r_isDTB, ↓DL.r_isDLN, ↓DL.r_isDLB, ↓DL.r_isDRN, ↓DL.r_isDRB, ↓DL.r_beqTT, ↓DL.r_beqTF, ↓DL.r_beqFT, ↓DL.r_beqFF, ↓DL.k_onI, ↓DL.k_Fld2, ↓DL.r_fld, ↓DL.k_FldR, ↓DL.k_FldO, ↓DL.r_look, ↓DL.r_lookN, ↓DL.r_putD, ↓DL.r_putDN, ↓DL.k_SF3, ↓DL.r_setFldR, ↓DL.k_SF2, ↓DL.k_SF1, ↓DL.r_setFld, ↓DL.r_methF, ↓DL.k_Me2, ↓DL.r_meth, ↓DL.k_MeR, ↓DL.k_MeO, ↓DL.r_make, ↓DL.k_MkN, ↓DL.r_makeF, ↓DL.k_CG2, ↓DL.k_CG, ↓DL.r_callG, ↓DL.r_callGF, ↓DL.r_listRg, ↓DL.r_tupRg, ↓DL.k_SlR, ↓DL.r_slR, ↓DL.r_enumL, ↓DL.r_max2, ↓DL.r_min2, ↓DL.r_isi2R, ↓DL.r_isiR, ↓DL.r_lst1, ↓DL.r_lst2, ↓DL.r_lst3, ↓DL.r_lst4, ↓DL.r_lst5, ↓DL.r_lst6, ↓DL.r_lst7, ↓DL.r_lst8, ↓DL.r_lst9, ↓DL.r_lst10, ↓DL.r_lst11, ↓DL.r_lst12, ↓DL.r_seqR, ↓DL.k_ForR, ↓DL.r_minL, ↓DL.r_clr, ↓DL.k_Clr1R, ↓DL.k_LstR, ↓DL.r_listRef, ↓DL.r_enumJL, ↓DL.r_enumJT, ↓DL.k_Clr2, ↓DL.k_MG2, ↓DL.k_MG, ↓DL.r_makeG, ↓DL.r_makeGF, ↓DL.r_prop, ↓DL.k_Pr2, ↓DL.k_PrR, ↓DL.k_Eq3, ↓DL.r_isiCN, ↓DL.r_isiCS, ↓DL.r_isiCT, ↓DL.k_Ix3, ↓DL.k_Ix2, ↓DL.k_Ix1, ↓DL.r_index, ↓DL.r_iStr, ↓DL.r_strI, ↓DL.k_T2, ↓DL.k_T1S, ↓DL.r_join, ↓DL.r_sindex, ↓DL.k_Rz, ↓DL.r_raise, ↓DL.r_raise0, ↓DL.k_Ex, ↓DL.r_try, ↓DL.k_trNx, ↓DL.k_trRt, ↓DL.k_trBk, ↓DL.k_trCt, ↓DL.k_trEx, ↓DL.k_hdlN, ↓DL.k_hdlT, ↓DL.k_hdlF, ↓DL.k_setSlN, ↓DL.k_setSlS, ↓DL.k_endNx, ↓DL.k_endRt, ↓DL.k_endBk, ↓DL.k_endCt, ↓DL.r_xf, ↓DL.r_xfD, ↓DL.r_isE, ↓DL.r_isED, ↓DL.r_isiDc, ↓DL.r_isi2Dc, ↓DL.k_In4, ↓DL.k_In3, ↓DL.k_In2, ↓DL.k_In1, ↓DL.r_ins, ↓DL.r_addI, ↓DL.k_Fa4, ↓DL.k_Fa3, ↓DL.k_Fa2, ↓DL.k_FaR, ↓DL.r_fldaug, ↓DL.r_dinL, ↓DL.r_dinD, ↓DL.r_dninL, ↓DL.r_dninD, ↓DL.r_dgetL, ↓DL.r_dgetD, ↓DL.r_lenDL, ↓DL.r_lenDD, ↓DL.r_dictL, ↓DL.r_dictD, ↓DL.r_isiLc, ↓DL.r_isi2Lc, ↓DL.r_isTd0, ↓DL.r_isTd1, ↓DL.r_isTd2, ↓DL.r_isTd3, ↓DL.r_isTd4, ↓DL.r_newD, ↓DL.r_frzLs, ↓DL.r_items, ↓DL.r_inK, ↓DL.r_ninK, ↓DL.r_getK, ↓DL.r_dispM, ↓DL.k_Dp2, ↓DL.k_Dp1, ↓DL.r_pairsN, ↓DL.r_pairsC, ↓DL.r_dispF1, ↓DL.r_gTn, ↓DL.k_Gf1, ↓DL.r_gFld, ↓DL.Kt.seq_nx, ↓DL.Kt.seq_rt, ↓DL.Kt.seq_bk, ↓DL.Kt.seq_ct, ↓DL.Kt.seq_ex, ↓DL.Kt.fin_nx, ↓DL.Kt.fin_rt, ↓DL.Kt.fin_ex, ↓DL.Kt.loop_nx, ↓DL.Kt.loop_rt, ↓DL.Kt.loop_bk, ↓DL.Kt.loop_ct, ↓DL.Kt.loop_ex, ↓DL.C.run_ret, ↓DL.mset_same, ↓DL.mset_mset, startD, ixN, Option.bind_some, Option.map_some, List.map_cons, List.map_nil, List.length_cons, List.length_nil, List.length_set, List.replicate, List.cons_append, List.nil_append, List.append_nil, List.set_cons_zero, List.set_cons_succ, List.getElem?_cons_zero, List.getElem?_cons_succ, Nat.reduceAdd, Nat.reduceSub, Nat.zero_add, if_true, if_false, decide_eq_true_eq, reduceIte, Bool.not_true, Bool.not_false, beq_self_eq_true, Bool.false_eq_true, Int.reduceLT, Int.reduceLE, Int.reduceNeg, Int.reduceToNat, Int.reduceAdd, Int.reduceSub, Nat.reduceLT, Nat.reduceLeDiff, Int.cast_ofNat_Int, Int.reduceEq, Int.reduceBEq, DL.wipeD, decide_true, decide_false, not_true_eq_false, not_false_eq_true, String.reduceEq, Bool.or_true, Bool.or_false, Bool.true_or, Bool.false_or, Bool.and_true, Bool.and_false, Bool.true_and, Bool.false_and, Bool.not_not, Nat.reduceEqDiff, Int.toNat_natCast, Decidable.not_not, List.mem_cons, List.not_mem_nil, or_false, or_true, true_or, false_or, and_true, true_and, and_self, and_false, false_and, reduceCtorEq, Option.isNone_some, Option.isNone_none, Option.isSome_some, Option.isSome_none, List.zip_cons_cons, List.zip_nil_right, List.zip_nil_left, List.reverse_cons, List.reverse_nil, Option.getD_some, Option.getD_none, r_tb_LENGTHS_0, r_tb_LENGTHS_1, r_tb_LENGTHS_2, r_tb_LENGTHS_3, r_tb_LENGTHS_4, r_tb_LENGTHS_5, r_in_BadProgram, r_xs_BadProgram_BadProgram, sizeLine_eq, r_sl3, r_seqB, r_lenB, r_ixB, r_isB, r_is2B, r_enumB, sumf_run, enc_wr, enc_gt, enc_st, enc_ite, enc_whl, enc_rt, endsS_wr, endsS_gt, endsS_st, endsS_ite, endsS_whl, endsS_rt, bareS_wr, bareS_gt, bareS_st, bareS_ite, bareS_whl, bareS_rt, *])
local macro_rules | `(tactic| walk_at "s") => `(tactic| ((try walk_at "h"); repeat' ((first | with_reducible refine if_dec (fun _ => ?_) (fun _ => ?_) | with_reducible refine eif_dec (fun _ => ?_) (fun _ => ?_) | with_reducible refine tor_dec (fun _ => ?_) (fun _ => ?_) | with_reducible refine tand_dec (fun _ => ?_) (fun _ => ?_) | with_reducible refine and_dec (fun _ => ?_) (fun _ => ?_) | with_reducible refine or_dec (fun _ => ?_) (fun _ => ?_) | with_reducible refine ch_dec (fun _ => ?_) (fun _ => ?_)) <;> (try walk_at "h"))))
theorem ends_ret : ∀ n : Nat, (∀ b : List Sm, 2 * deps b + 2 ≤ n → Ret (d_block_ends n [blkD b]) (.bl (endsB b))) ∧ (∀ s : Sm, 2 * dep s + 1 ≤ n → Ret (d_statement_ends n [enc s]) (.bl (endsS s))) := by
  intro n
  induction n with
  | zero => exact ⟨fun b h => by omega, fun s h => by omega⟩
  | succ n ih =>
    refine ⟨fun b h m Q E q => ?_, fun s h m Q E q => ?_⟩
    · rw [d_block_ends_s]
      refine fn_run ?_
      unfold p_block_ends
      walk_at "d"
      rcases List.eq_nil_or_concat b with rfl | ⟨l, s, rfl⟩
      · rw [endsB_nil] at q
        walk_at "d"
        exact q
      · rw [List.concat_eq_append] at h q ⊢
        rw [endsB_last] at q
        have e : ((0 : Int) < ((l ++ [s]).length : Nat)) = True := by
          rw [List.length_append]
          simp
        simp only [e]
        walk_at "d"
        rw [enc_last]
        walk_at "d"
        have h1 := deps_mem (l := l ++ [s]) (s := s) (by simp)
        exact ih.2 s (by omega) m _ _ q
    · rw [d_statement_ends_s]
      refine fn_run ?_
      unfold p_statement_ends
      cases s with
      | ite l t y k =>
        walk_at "d"
        have h1 := dep_ite1 (l := l) (t := t) (y := y) (n := k)
        have h2 := dep_ite2 (l := l) (t := t) (y := y) (n := k)
        refine ih.1 y (by omega) m _ _ ?_
        rw [endsS_ite] at q
        cases h3 : endsB y with
        | false =>
          rw [h3] at q
          walk_at "d"
          exact q
        | true =>
          rw [h3] at q
          walk_at "d"
          exact ih.1 k (by omega) m _ _ q
      | wr c t => rw [endsS_wr] at q; walk_at "d"; exact q
      | gt l c => rw [endsS_gt] at q; walk_at "d"; exact q
      | st l t => rw [endsS_st] at q; walk_at "d"; exact q
      | whl l t b => rw [endsS_whl] at q; walk_at "d"; exact q
      | rt t => rw [endsS_rt] at q; walk_at "d"; exact q
theorem bare_ret : ∀ (n : Nat) (b : List Sm), deps b < n → Ret (d_has_bare_way n [blkD b]) (.bl (bareB b)) := by
  intro n
  induction n with
  | zero => intro b h; omega
  | succ n ih =>
    intro b h m Q E q
    rw [d_has_bare_way_s]
    refine fn_run ?_
    unfold p_has_bare_way
    walk_at "d"
    refine for_map (enc := enc) (xs := b) (fun pre δ m' => m' = m ∧ bareB pre = true ∧ ∃ y, δ = [some (blkD b), y]) ⟨rfl, bareB_nil, _, rfl⟩ ?_ ?_
    · rintro pre s r δ m1 hsp ⟨rfl, hpre, y, rfl⟩
      walk_at "d"
      unfold p_has_bare_way_b0
      have hm : s ∈ b := by rw [hsp]; simp
      have hd := deps_mem hm
      cases s with
      | ite l t yy nn =>
        walk_at "d"
        have h1 := dep_ite1 (l := l) (t := t) (y := yy) (n := nn)
        have h2 := dep_ite2 (l := l) (t := t) (y := yy) (n := nn)
        refine ih yy (by omega) _ _ _ ?_
        cases h3 : bareB yy with
        | true =>
          walk_at "d"
          exact ⟨by rw [bareB_append, hpre, bareB_cons, bareS_ite, h3, bareB_nil]; rfl, _, rfl⟩
        | false =>
          walk_at "d"
          refine ih nn (by omega) _ _ _ ?_
          cases h4 : bareB nn with
          | true =>
            walk_at "d"
            exact ⟨by rw [bareB_append, hpre, bareB_cons, bareS_ite, h3, h4, bareB_nil]; rfl, _, rfl⟩
          | false =>
            walk_at "d"
            rw [hsp, bareB_split (by rw [bareS_ite, h3, h4]; rfl)] at q
            exact q
      | wr c t => walk_at "d"; rw [hsp, bareB_split bareS_wr] at q; exact q
      | gt l c => walk_at "d"; rw [hsp, bareB_split bareS_gt] at q; exact q
      | rt t => walk_at "d"; rw [hsp, bareB_split bareS_rt] at q; exact q
      | st l t => walk_at "d"; exact ⟨by rw [bareB_append, hpre, bareB_cons, bareS_st, bareB_nil]; rfl, _, rfl⟩
      | whl l t b => walk_at "d"; exact ⟨by rw [bareB_append, hpre, bareB_cons, bareS_whl, bareB_nil]; rfl, _, rfl⟩
    · rintro δ m1 ⟨rfl, hall, y, rfl⟩
      walk_at "d"
      rw [hall] at q
      exact q

local macro_rules | `(tactic| walk_at "d") => `(tactic| simp -implicitDefEqProofs only [↓DL.k_F, ↓DL.k_M, ↓DL.k_onV, ↓DL.k_onL, ↓DL.k_onO, ↓DL.k_onN, ↓DL.r_C, ↓DL.r_var, ↓DL.k_Op2, ↓DL.k_Op, ↓DL.r_op, ↓DL.r_un, ↓DL.r_app, ↓DL.r_call, ↓DL.r_callF, ↓DL.k_CK2, ↓DL.k_CK, ↓DL.r_callK, ↓DL.r_callKF, ↓DL.r_nil, ↓DL.k_A2, ↓DL.k_A, ↓DL.r_cons, ↓DL.k_AndT, ↓DL.k_AndF, ↓DL.r_and, ↓DL.k_OrT, ↓DL.k_OrF, ↓DL.r_or, ↓DL.k_Not, ↓DL.r_not, ↓DL.k_EIfT, ↓DL.k_EIfF, ↓DL.r_eIf, ↓DL.k_Ch3T, ↓DL.k_Ch3F, ↓DL.k_Ch2, ↓DL.k_Ch1, ↓DL.r_chain, ↓DL.k_T, ↓DL.r_of, ↓DL.k_TAT, ↓DL.k_TAF, ↓DL.r_tand, ↓DL.k_TOT, ↓DL.k_TOF, ↓DL.r_tor, ↓DL.k_TN, ↓DL.r_tnot, ↓DL.r_tTrue, ↓DL.k_Asg, ↓DL.r_asg, ↓DL.k_Nx, ↓DL.r_expr, ↓DL.k_Rt, ↓DL.r_ret, ↓DL.r_retN, ↓DL.k_IfT, ↓DL.k_IfF, ↓DL.r_if, ↓DL.r_seq, ↓DL.r_next, ↓DL.r_break, ↓DL.r_cont, ↓DL.r_stuck, ↓DL.k_G, ↓DL.r_asgG, ↓DL.k_For, ↓DL.r_for, ↓DL.k_SI3, ↓DL.k_SI2, ↓DL.k_SI, ↓DL.r_setItemS, ↓DL.k_Ap3, ↓DL.k_Ap2, ↓DL.k_Ap1, ↓DL.r_apd, ↓DL.r_gN, ↓DL.r_iSeq, ↓DL.r_iApp, ↓DL.k_Body, ↓DL.k_Sl3, ↓DL.k_Sl2, ↓DL.k_Sl1, ↓DL.r_sl, ↓DL.r_oNone, ↓DL.k_OS, ↓DL.r_oSome, ↓DL.r_slT, ↓DL.r_slL, ↓DL.r_slS, ↓DL.r_retL, ↓DL.r_newL, ↓DL.r_lc, ↓DL.r_lcM, ↓DL.r_add, ↓DL.r_sub, ↓DL.r_mod, ↓DL.r_div, ↓DL.r_pow1018, ↓DL.r_lt, ↓DL.r_le, ↓DL.r_gt, ↓DL.r_ge, ↓DL.r_neg, ↓DL.r_eqII, ↓DL.r_neII, ↓DL.r_eqSS, ↓DL.r_neSS, ↓DL.r_eqBB, ↓DL.r_neBB, ↓DL.r_isN, ↓DL.r_isB, ↓DL.r_notN, ↓DL.r_int1, ↓DL.r_intb, ↓DL.r_abs, ↓DL.k_Get, ↓DL.r_ixT, ↓DL.r_ixL, ↓DL.r_asLR, ↓DL.r_asLL, ↓DL.r_ixRef, ↓DL.r_lenT, ↓DL.r_lenL, ↓DL.k_Len, ↓DL.r_lenRef, ↓DL.r_sumRef, ↓DL.k_SetJ, ↓DL.k_Set, ↓DL.r_setRef, ↓DL.k_App, ↓DL.r_appRef, ↓DL.r_tup0, ↓DL.r_tup1, ↓DL.r_tup2, ↓DL.r_tup3, ↓DL.r_tup4, ↓DL.r_tup5, ↓DL.r_tup6, ↓DL.r_tup7, ↓DL.r_tup8, ↓DL.r_lst0, ↓DL.r_ref0, ↓DL.r_ref1, ↓DL.r_ref2, ↓DL.r_ref3, ↓DL.r_ref4, ↓DL.r_ref5, ↓DL.r_ref6, ↓DL.r_listL, ↓DL.r_listT, ↓DL.r_tupleL, ↓DL.r_seqT, ↓DL.r_seqL, ↓DL.r_range1, ↓DL.r_range2, ↓DL.r_strEq, ↓DL.r_strEq2, ↓DL.r_isT0, ↓DL.r_isT1, ↓DL.r_isT2, ↓DL.r_isT3, ↓DL.r_isT4, ↓DL.r_isT5, ↓DL.r_isT6, ↓DL.r_isT7, ↓DL.r_isT8, ↓DL.r_isT9, ↓DL.r_isT10, ↓DL.r_isT11, ↓DL.r_isT12, ↓DL.r_isT13, ↓DL.r_isT14, ↓DL.r_isT15, ↓DL.r_isT16, ↓DL.r_isT17, ↓DL.r_isT18, ↓DL.r_isT19, ↓DL.r_isT20, ↓DL.r_isT21, ↓DL.r_isT22, ↓DL.r_isT23, ↓DL.r_isT24, ↓DL.r_isT25, ↓DL.r_isT26, ↓DL.r_isT27, ↓DL.r_isT28, ↓DL.r_isT29, ↓DL.r_isT30, ↓DL.r_isT31, ↓DL.r_isT32, ↓DL.r_isT33, ↓DL.r_isT34, ↓DL.r_isT35, ↓DL.r_isiN, ↓DL.r_isi2N, ↓DL.r_isiB, ↓DL.r_isi2B, ↓DL.r_isiI, ↓DL.r_isi2I, ↓DL.r_isiS, ↓DL.r_isi2S, ↓DL.r_isiT, ↓DL.r_isi2T, ↓DL.r_isiL, ↓DL.r_isi2L, ↓DL.r_inTI, ↓DL.r_ninTI, ↓DL.r_inLI, ↓DL.r_ninLI, ↓DL.r_inTS, ↓DL.r_inD_nil, ↓DL.r_inD_cons, ↓DL.r_flat_nil, ↓DL.r_flat_cons, ↓DL.r_flatS, ↓DL.r_flatI, ↓DL.r_eqvSS, ↓DL.r_eqvII, ↓DL.r_addLL, ↓DL.r_atm1, ↓DL.r_atm2, ↓DL.r_at0, ↓DL.r_at1, ↓DL.r_at2, ↓DL.r_at3, ↓DL.r_at4, ↓DL.r_at5, ↓DL.r_at6, ↓DL.r_at7, ↓DL.r_at8, ↓DL.r_beqI, ↓DL.r_ndec, ↓DL.r_gT, ↓DL.k_Gs, ↓DL.r_gsCons, ↓DL.r_gsNil, ↓DL.r_isDNN, ↓DL.r_isDBB, ↓DL.r_isDBN, ↓DL.r_isDNB, ↓DL.r_isDIN, ↓DL.r_isDIB, ↓DL.r_isDSN, ↓DL.r_isDSB, ↓DL.r_isDTN, ↓DL.r_isDTB, ↓DL.r_isDLN, ↓DL.r_isDLB, ↓DL.r_isDRN, ↓DL.r_isDRB, ↓DL.r_beqTT, ↓DL.r_beqTF, ↓DL.r_beqFT, ↓DL.r_beqFF, ↓DL.k_onI, ↓DL.k_Fld2, ↓DL.r_fld, ↓DL.k_FldR, ↓DL.k_FldO, ↓DL.r_look, ↓DL.r_lookN, ↓DL.r_putD, ↓DL.r_putDN, ↓DL.k_SF3, ↓DL.r_setFldR, ↓DL.k_SF2, ↓DL.k_SF1, ↓DL.r_setFld, ↓DL.r_methF, ↓DL.k_Me2, ↓DL.r_meth, ↓DL.k_MeR, ↓DL.k_MeO, ↓DL.r_make, ↓DL.k_MkN, ↓DL.r_makeF, ↓DL.k_CG2, ↓DL.k_CG, ↓DL.r_callG, ↓DL.r_callGF, ↓DL.r_listRg, ↓DL.r_tupRg, ↓DL.k_SlR, ↓DL.r_slR, ↓DL.r_enumL, ↓DL.r_max2, ↓DL.r_min2, ↓DL.r_isi2R, ↓DL.r_isiR, ↓DL.r_lst1, ↓DL.r_lst2, ↓DL.r_lst3, ↓DL.r_lst4, ↓DL.r_lst5, ↓DL.r_lst6, ↓DL.r_lst7, ↓DL.r_lst8, ↓DL.r_lst9, ↓DL.r_lst10, ↓DL.r_lst11, ↓DL.r_lst12, ↓DL.r_seqR, ↓DL.k_ForR, ↓DL.r_minL, ↓DL.r_clr, ↓DL.k_Clr1R, ↓DL.k_LstR, ↓DL.r_listRef, ↓DL.r_enumJL, ↓DL.r_enumJT, ↓DL.k_Clr2, ↓DL.k_MG2, ↓DL.k_MG, ↓DL.r_makeG, ↓DL.r_makeGF, ↓DL.r_prop, ↓DL.k_Pr2, ↓DL.k_PrR, ↓DL.k_Eq3, ↓DL.r_isiCN, ↓DL.r_isiCS, ↓DL.r_isiCT, ↓DL.k_Ix3, ↓DL.k_Ix2, ↓DL.k_Ix1, ↓DL.r_index, ↓DL.r_iStr, ↓DL.r_strI, ↓DL.k_T2, ↓DL.k_T1S, ↓DL.r_join, ↓DL.r_sindex, ↓DL.k_Rz, ↓DL.r_raise, ↓DL.r_raise0, ↓DL.k_Ex, ↓DL.r_try, ↓DL.k_trNx, ↓DL.k_trRt, ↓DL.k_trBk, ↓DL.k_trCt, ↓DL.k_trEx, ↓DL.k_hdlN, ↓DL.k_hdlT, ↓DL.k_hdlF, ↓DL.k_setSlN, ↓DL.k_setSlS, ↓DL.k_endNx, ↓DL.k_endRt, ↓DL.k_endBk, ↓DL.k_endCt, ↓DL.r_xf, ↓DL.r_xfD, ↓DL.r_isE, ↓DL.r_isED, ↓DL.r_isiDc, ↓DL.r_isi2Dc, ↓DL.k_In4, ↓DL.k_In3, ↓DL.k_In2, ↓DL.k_In1, ↓DL.r_ins, ↓DL.r_addI, ↓DL.k_Fa4, ↓DL.k_Fa3, ↓DL.k_Fa2, ↓DL.k_FaR, ↓DL.r_fldaug, ↓DL.r_dinL, ↓DL.r_dinD, ↓DL.r_dninL, ↓DL.r_dninD, ↓DL.r_dgetL, ↓DL.r_dgetD, ↓DL.r_lenDL, ↓DL.r_lenDD, ↓DL.r_dictL, ↓DL.r_dictD, ↓DL.r_isiLc, ↓DL.r_isi2Lc, ↓DL.r_isTd0, ↓DL.r_isTd1, ↓DL.r_isTd2, ↓DL.r_isTd3, ↓DL.r_isTd4, ↓DL.r_newD, ↓DL.r_frzLs, ↓DL.r_items, ↓DL.r_inK, ↓DL.r_ninK, ↓DL.r_getK, ↓DL.r_dispM, ↓DL.k_Dp2, ↓DL.k_Dp1, ↓DL.r_pairsN, ↓DL.r_pairsC, ↓DL.r_dispF1, ↓DL.r_gTn, ↓DL.k_Gf1, ↓DL.r_gFld, ↓DL.Kt.seq_nx, ↓DL.Kt.seq_rt, ↓DL.Kt.seq_bk, ↓DL.Kt.seq_ct, ↓DL.Kt.seq_ex, ↓DL.Kt.fin_nx, ↓DL.Kt.fin_rt, ↓DL.Kt.fin_ex, ↓DL.Kt.loop_nx, ↓DL.Kt.loop_rt, ↓DL.Kt.loop_bk, ↓DL.Kt.loop_ct, ↓DL.Kt.loop_ex, ↓DL.C.run_ret, ↓DL.mset_same, ↓DL.mset_mset, startD, ixN, Option.bind_some, Option.map_some, List.map_cons, List.map_nil, List.length_cons, List.length_nil, List.length_set, List.replicate, List.cons_append, List.nil_append, List.append_nil, List.set_cons_zero, List.set_cons_succ, List.getElem?_cons_zero, List.getElem?_cons_succ, Nat.reduceAdd, Nat.reduceSub, Nat.zero_add, if_true, if_false, decide_eq_true_eq, reduceIte, Bool.not_true, Bool.not_false, beq_self_eq_true, Bool.false_eq_true, Int.reduceLT, Int.reduceLE, Int.reduceNeg, Int.reduceToNat, Int.reduceAdd, Int.reduceSub, Nat.reduceLT, Nat.reduceLeDiff, Int.cast_ofNat_Int, Int.reduceEq, Int.reduceBEq, DL.wipeD, decide_true, decide_false, not_true_eq_false, not_false_eq_true, String.reduceEq, Bool.or_true, Bool.or_false, Bool.true_or, Bool.false_or, Bool.and_true, Bool.and_false, Bool.true_and, Bool.false_and, Bool.not_not, Nat.reduceEqDiff, Int.toNat_natCast, Decidable.not_not, List.mem_cons, List.not_mem_nil, or_false, or_true, true_or, false_or, and_true, true_and, and_self, and_false, false_and, reduceCtorEq, Option.isNone_some, Option.isNone_none, Option.isSome_some, Option.isSome_none, List.zip_cons_cons, List.zip_nil_right, List.zip_nil_left, List.reverse_cons, List.reverse_nil, Option.getD_some, Option.getD_none, r_tb_LENGTHS_0, r_tb_LENGTHS_1, r_tb_LENGTHS_2, r_tb_LENGTHS_3, r_tb_LENGTHS_4, r_tb_LENGTHS_5, r_in_BadProgram, r_xs_BadProgram_BadProgram, sizeLine_eq, r_sl3, r_seqB, r_lenB, r_ixB, r_isB, r_is2B, r_enumB, sumf_run, enc_wr, enc_gt, enc_st, enc_ite, enc_whl, enc_rt, endsS_wr, endsS_gt, endsS_st, endsS_ite, endsS_whl, endsS_rt, bareS_wr, bareS_gt, bareS_st, bareS_ite, bareS_whl, bareS_rt])
local macro_rules | `(tactic| walk_at "h") => `(tactic| simp -implicitDefEqProofs only [↓DL.k_F, ↓DL.k_M, ↓DL.k_onV, ↓DL.k_onL, ↓DL.k_onO, ↓DL.k_onN, ↓DL.r_C, ↓DL.r_var, ↓DL.k_Op2, ↓DL.k_Op, ↓DL.r_op, ↓DL.r_un, ↓DL.r_app, ↓DL.r_call, ↓DL.r_callF, ↓DL.k_CK2, ↓DL.k_CK, ↓DL.r_callK, ↓DL.r_callKF, ↓DL.r_nil, ↓DL.k_A2, ↓DL.k_A, ↓DL.r_cons, ↓DL.k_AndT, ↓DL.k_AndF, ↓DL.r_and, ↓DL.k_OrT, ↓DL.k_OrF, ↓DL.r_or, ↓DL.k_Not, ↓DL.r_not, ↓DL.k_EIfT, ↓DL.k_EIfF, ↓DL.r_eIf, ↓DL.k_Ch3T, ↓DL.k_Ch3F, ↓DL.k_Ch2, ↓DL.k_Ch1, ↓DL.r_chain, ↓DL.k_T, ↓DL.r_of, ↓DL.k_TAT, ↓DL.k_TAF, ↓DL.r_tand, ↓DL.k_TOT, ↓DL.k_TOF, ↓DL.r_tor, ↓DL.k_TN, ↓DL.r_tnot, ↓DL.r_tTrue, ↓DL.k_Asg, ↓DL.r_asg, ↓DL.k_Nx, ↓DL.r_expr, ↓DL.k_Rt, ↓DL.r_ret, ↓DL.r_retN, ↓DL.k_IfT, ↓DL.k_IfF, ↓DL.r_if, ↓DL.r_seq, ↓DL.r_next, ↓DL.r_break, ↓DL.r_cont, ↓DL.r_stuck, ↓DL.k_G, ↓DL.r_asgG, ↓DL.k_For, ↓DL.r_for, ↓DL.k_SI3, ↓DL.k_SI2, ↓DL.k_SI, ↓DL.r_setItemS, ↓DL.k_Ap3, ↓DL.k_Ap2, ↓DL.k_Ap1, ↓DL.r_apd, ↓DL.r_gN, ↓DL.r_iSeq, ↓DL.r_iApp, ↓DL.k_Body, ↓DL.k_Sl3, ↓DL.k_Sl2, ↓DL.k_Sl1, ↓DL.r_sl, ↓DL.r_oNone, ↓DL.k_OS, ↓DL.r_oSome, ↓DL.r_slT, ↓DL.r_slL, ↓DL.r_slS, ↓DL.r_retL, ↓DL.r_newL, ↓DL.r_lc, ↓DL.r_lcM, ↓DL.r_add, ↓DL.r_sub, ↓DL.r_mod, ↓DL.r_div, ↓DL.r_pow1018, ↓DL.r_lt, ↓DL.r_le, ↓DL.r_gt, ↓DL.r_ge, ↓DL.r_neg, ↓DL.r_eqII, ↓DL.r_neII, ↓DL.r_eqSS, ↓DL.r_neSS, ↓DL.r_eqBB, ↓DL.r_neBB, ↓DL.r_isN, ↓DL.r_isB, ↓DL.r_notN, ↓DL.r_int1, ↓DL.r_intb, ↓DL.r_abs, ↓DL.k_Get, ↓DL.r_ixT, ↓DL.r_ixL, ↓DL.r_asLR, ↓DL.r_asLL, ↓DL.r_ixRef, ↓DL.r_lenT, ↓DL.r_lenL, ↓DL.k_Len, ↓DL.r_lenRef, ↓DL.r_sumRef, ↓DL.k_SetJ, ↓DL.k_Set, ↓DL.r_setRef, ↓DL.k_App, ↓DL.r_appRef, ↓DL.r_tup0, ↓DL.r_tup1, ↓DL.r_tup2, ↓DL.r_tup3, ↓DL.r_tup4, ↓DL.r_tup5, ↓DL.r_tup6, ↓DL.r_tup7, ↓DL.r_tup8, ↓DL.r_lst0, ↓DL.r_ref0, ↓DL.r_ref1, ↓DL.r_ref2, ↓DL.r_ref3, ↓DL.r_ref4, ↓DL.r_ref5, ↓DL.r_ref6, ↓DL.r_listL, ↓DL.r_listT, ↓DL.r_tupleL, ↓DL.r_seqT, ↓DL.r_seqL, ↓DL.r_range1, ↓DL.r_range2, ↓DL.r_strEq, ↓DL.r_strEq2, ↓DL.r_isT0, ↓DL.r_isT1, ↓DL.r_isT2, ↓DL.r_isT3, ↓DL.r_isT4, ↓DL.r_isT5, ↓DL.r_isT6, ↓DL.r_isT7, ↓DL.r_isT8, ↓DL.r_isT9, ↓DL.r_isT10, ↓DL.r_isT11, ↓DL.r_isT12, ↓DL.r_isT13, ↓DL.r_isT14, ↓DL.r_isT15, ↓DL.r_isT16, ↓DL.r_isT17, ↓DL.r_isT18, ↓DL.r_isT19, ↓DL.r_isT20, ↓DL.r_isT21, ↓DL.r_isT22, ↓DL.r_isT23, ↓DL.r_isT24, ↓DL.r_isT25, ↓DL.r_isT26, ↓DL.r_isT27, ↓DL.r_isT28, ↓DL.r_isT29, ↓DL.r_isT30, ↓DL.r_isT31, ↓DL.r_isT32, ↓DL.r_isT33, ↓DL.r_isT34, ↓DL.r_isT35, ↓DL.r_isiN, ↓DL.r_isi2N, ↓DL.r_isiB, ↓DL.r_isi2B, ↓DL.r_isiI, ↓DL.r_isi2I, ↓DL.r_isiS, ↓DL.r_isi2S, ↓DL.r_isiT, ↓DL.r_isi2T, ↓DL.r_isiL, ↓DL.r_isi2L, ↓DL.r_inTI, ↓DL.r_ninTI, ↓DL.r_inLI, ↓DL.r_ninLI, ↓DL.r_inTS, ↓DL.r_inD_nil, ↓DL.r_inD_cons, ↓DL.r_flat_nil, ↓DL.r_flat_cons, ↓DL.r_flatS, ↓DL.r_flatI, ↓DL.r_eqvSS, ↓DL.r_eqvII, ↓DL.r_addLL, ↓DL.r_atm1, ↓DL.r_atm2, ↓DL.r_at0, ↓DL.r_at1, ↓DL.r_at2, ↓DL.r_at3, ↓DL.r_at4, ↓DL.r_at5, ↓DL.r_at6, ↓DL.r_at7, ↓DL.r_at8, ↓DL.r_beqI, ↓DL.r_ndec, ↓DL.r_gT, ↓DL.k_Gs, ↓DL.r_gsCons, ↓DL.r_gsNil, ↓DL.r_isDNN, ↓DL.r_isDBB, ↓DL.r_isDBN, ↓DL.r_isDNB, ↓DL.r_isDIN, ↓DL.r_isDIB, ↓DL.r_isDSN, ↓DL.r_isDSB, ↓DL.r_isDTN, ↓DL.r_isDTB, ↓DL.r_isDLN, ↓DL.r_isDLB, ↓DL.r_isDRN, ↓DL.r_isDRB, ↓DL.r_beqTT, ↓DL.r_beqTF, ↓DL.r_beqFT, ↓DL.r_beqFF, ↓DL.k_onI, ↓DL.k_Fld2, ↓DL.r_fld, ↓DL.k_FldR, ↓DL.k_FldO, ↓DL.r_look, ↓DL.r_lookN, ↓DL.r_putD, ↓DL.r_putDN, ↓DL.k_SF3, ↓DL.r_setFldR, ↓DL.k_SF2, ↓DL.k_SF1, ↓DL.r_setFld, ↓DL.r_methF, ↓DL.k_Me2, ↓DL.r_meth, ↓DL.k_MeR, ↓DL.k_MeO, ↓DL.r_make, ↓DL.k_MkN, ↓DL.r_makeF, ↓DL.k_CG2, ↓DL.k_CG, ↓DL.r_callG, ↓DL.r_callGF, ↓DL.r_listRg, ↓DL.r_tupRg, ↓DL.k_SlR, ↓DL.r_slR, ↓DL.r_enumL, ↓DL.r_max2, ↓DL.r_min2, ↓DL.r_isi2R, ↓DL.r_isiR, ↓DL.r_lst1, ↓DL.r_lst2, ↓DL.r_lst3, ↓DL.r_lst4, ↓DL.r_lst5, ↓DL.r_lst6, ↓DL.r_lst7, ↓DL.r_lst8, ↓DL.r_lst9, ↓DL.r_lst10, ↓DL.r_lst11, ↓DL.r_lst12, ↓DL.r_seqR, ↓DL.k_ForR, ↓DL.r_minL, ↓DL.r_clr, ↓DL.k_Clr1R, ↓DL.k_LstR, ↓DL.r_listRef, ↓DL.r_enumJL, ↓DL.r_enumJT, ↓DL.k_Clr2, ↓DL.k_MG2, ↓DL.k_MG, ↓DL.r_makeG, ↓DL.r_makeGF, ↓DL.r_prop, ↓DL.k_Pr2, ↓DL.k_PrR, ↓DL.k_Eq3, ↓DL.r_isiCN, ↓DL.r_isiCS, ↓DL.r_isiCT, ↓DL.k_Ix3, ↓DL.k_Ix2, ↓DL.k_Ix1, ↓DL.r_index, ↓DL.r_iStr, ↓DL.r_strI, ↓DL.k_T2, ↓DL.k_T1S, ↓DL.r_join, ↓DL.r_sindex, ↓DL.k_Rz, ↓DL.r_raise, ↓DL.r_raise0, ↓DL.k_Ex, ↓DL.r_try, ↓DL.k_trNx, ↓DL.k_trRt, ↓DL.k_trBk, ↓DL.k_trCt, ↓DL.k_trEx, ↓DL.k_hdlN, ↓DL.k_hdlT, ↓DL.k_hdlF, ↓DL.k_setSlN, ↓DL.k_setSlS, ↓DL.k_endNx, ↓DL.k_endRt, ↓DL.k_endBk, ↓DL.k_endCt, ↓DL.r_xf, ↓DL.r_xfD, ↓DL.r_isE, ↓DL.r_isED, ↓DL.r_isiDc, ↓DL.r_isi2Dc, ↓DL.k_In4, ↓DL.k_In3, ↓DL.k_In2, ↓DL.k_In1, ↓DL.r_ins, ↓DL.r_addI, ↓DL.k_Fa4, ↓DL.k_Fa3, ↓DL.k_Fa2, ↓DL.k_FaR, ↓DL.r_fldaug, ↓DL.r_dinL, ↓DL.r_dinD, ↓DL.r_dninL, ↓DL.r_dninD, ↓DL.r_dgetL, ↓DL.r_dgetD, ↓DL.r_lenDL, ↓DL.r_lenDD, ↓DL.r_dictL, ↓DL.r_dictD, ↓DL.r_isiLc, ↓DL.r_isi2Lc, ↓DL.r_isTd0, ↓DL.r_isTd1, ↓DL.r_isTd2, ↓DL.r_isTd3, ↓DL.r_isTd4, ↓DL.r_newD, ↓DL.r_frzLs, ↓DL.r_items, ↓DL.r_inK, ↓DL.r_ninK, ↓DL.r_getK, ↓DL.r_dispM, ↓DL.k_Dp2, ↓DL.k_Dp1, ↓DL.r_pairsN, ↓DL.r_pairsC, ↓DL.r_dispF1, ↓DL.r_gTn, ↓DL.k_Gf1, ↓DL.r_gFld, ↓DL.Kt.seq_nx, ↓DL.Kt.seq_rt, ↓DL.Kt.seq_bk, ↓DL.Kt.seq_ct, ↓DL.Kt.seq_ex, ↓DL.Kt.fin_nx, ↓DL.Kt.fin_rt, ↓DL.Kt.fin_ex, ↓DL.Kt.loop_nx, ↓DL.Kt.loop_rt, ↓DL.Kt.loop_bk, ↓DL.Kt.loop_ct, ↓DL.Kt.loop_ex, ↓DL.C.run_ret, ↓DL.mset_same, ↓DL.mset_mset, startD, ixN, Option.bind_some, Option.map_some, List.map_cons, List.map_nil, List.length_cons, List.length_nil, List.length_set, List.replicate, List.cons_append, List.nil_append, List.append_nil, List.set_cons_zero, List.set_cons_succ, List.getElem?_cons_zero, List.getElem?_cons_succ, Nat.reduceAdd, Nat.reduceSub, Nat.zero_add, if_true, if_false, decide_eq_true_eq, reduceIte, Bool.not_true, Bool.not_false, beq_self_eq_true, Bool.false_eq_true, Int.reduceLT, Int.reduceLE, Int.reduceNeg, Int.reduceToNat, Int.reduceAdd, Int.reduceSub, Nat.reduceLT, Nat.reduceLeDiff, Int.cast_ofNat_Int, Int.reduceEq, Int.reduceBEq, DL.wipeD, decide_true, decide_false, not_true_eq_false, not_false_eq_true, String.reduceEq, Bool.or_true, Bool.or_false, Bool.true_or, Bool.false_or, Bool.and_true, Bool.and_false, Bool.true_and, Bool.false_and, Bool.not_not, Nat.reduceEqDiff, Int.toNat_natCast, Decidable.not_not, List.mem_cons, List.not_mem_nil, or_false, or_true, true_or, false_or, and_true, true_and, and_self, and_false, false_and, reduceCtorEq, Option.isNone_some, Option.isNone_none, Option.isSome_some, Option.isSome_none, List.zip_cons_cons, List.zip_nil_right, List.zip_nil_left, List.reverse_cons, List.reverse_nil, Option.getD_some, Option.getD_none, r_tb_LENGTHS_0, r_tb_LENGTHS_1, r_tb_LENGTHS_2, r_tb_LENGTHS_3, r_tb_LENGTHS_4, r_tb_LENGTHS_5, r_in_BadProgram, r_xs_BadProgram_BadProgram, sizeLine_eq, r_sl3, r_seqB, r_lenB, r_ixB, r_isB, r_is2B, r_enumB, sumf_run, enc_wr, enc_gt, enc_st, enc_ite, enc_whl, enc_rt, endsS_wr, endsS_gt, endsS_st, endsS_ite, endsS_whl, endsS_rt, bareS_wr, bareS_gt, bareS_st, bareS_ite, bareS_whl, bareS_rt, *])
local macro_rules | `(tactic| walk_at "s") => `(tactic| ((try walk_at "h"); repeat' ((first | with_reducible refine if_dec (fun _ => ?_) (fun _ => ?_) | with_reducible refine eif_dec (fun _ => ?_) (fun _ => ?_) | with_reducible refine tor_dec (fun _ => ?_) (fun _ => ?_) | with_reducible refine tand_dec (fun _ => ?_) (fun _ => ?_) | with_reducible refine and_dec (fun _ => ?_) (fun _ => ?_) | with_reducible refine or_dec (fun _ => ?_) (fun _ => ?_) | with_reducible refine ch_dec (fun _ => ?_) (fun _ => ?_)) <;> (try walk_at "h"))))
theorem flaw_ret : ∀ (n : Nat) (b : List Sm), deps b < n → deps b ≤ 5 → ∀ pl : Nat, Ret (d_first_flaw n [blkD b, .int pl]) (frD (flawB b pl false)) := by
  intro n
  induction n with
  | zero => intro b h; omega
  | succ n ih =>
    intro b h hb5 pl m Q E q
    rw [d_first_flaw_s]
    refine fn_run ?_
    unfold p_first_flaw
    walk_at "d"
    refine for_suf (enc := enc) (xs := b) (fun r δ m' => m' = m ∧ ∃ (k : Nat) (e : Bool) (y3 y4 y5 y6 : Option D), flawB b pl false = flawB r k e ∧ δ = [some (blkD b), some (.int k), some (.bl e), y3, y4, y5, y6]) ⟨rfl, pl, false, _, _, _, _, rfl, rfl⟩ ?_ ?_
    · rintro s r δ m1 ⟨pre, hsp⟩ ⟨rfl, k, e, y3, y4, y5, y6, hf, rfl⟩
      walk_at "d"
      unfold p_first_flaw_b1
      have hm : s ∈ b := by rw [hsp]; simp
      have hd := deps_mem hm
      have ek : ((k : Int) + 1) = ((k + 1 : Nat) : Int) := by omega
      cases e with
      | true =>
        rw [flawB_dead] at hf
        rw [hf, frD_some] at q
        walk_at "d"
        rw [ek]
        exact q
      | false =>
        walk_at "d"
        have key : idleS s = false → (sFor (iSeq (eSl (eVar 3) (oSome (eC (D.int 3))) oNone)) (gN 5) (p_first_flaw_b0 (d_first_flaw n))).run [some (blkD b), some (.int ((k : Int) + 1)), some (.bl false), some (enc s), some (.int k), y5, y6] m1
            ((Kt.loop (Kt.fin Q E |>.seq (sRet (eApp mkTup (aCons (eVar 1) (aCons (eC D.non) aNil))))) fun δ m' => m' = m1 ∧ ∃ (k : Nat) (e : Bool) (y3 y4 y5 y6 : Option D), flawB b pl false = flawB r k e ∧ δ = [some (blkD b), some (.int k), some (.bl e), y3, y4, y5, y6]).seq (sAsg 2 (eCall 1 [] (d_statement_ends 14) (aCons (eVar 3) aNil)))) := by
          intro hi
          have hs := flawS_subs (pl := k) hi
          walk_at "d"
          rw [ek]
          refine for_suf (enc := blkD) (xs := s.subs) (fun rr δ m' => m' = m1 ∧ ∃ (k2 : Nat) (z5 z6 : Option D), flawL s.subs (k + 1) = flawL rr k2 ∧ δ = [some (blkD b), some (.int k2), some (.bl false), some (enc s), some (.int k), z5, z6]) ⟨rfl, k + 1, _, _, rfl, rfl⟩ ?_ ?_
          · rintro bb rr δ m2 ⟨pr, hspb⟩ ⟨rfl, k2, z5, z6, hl, rfl⟩
            walk_at "d"
            unfold p_first_flaw_b0
            walk_at "d"
            have hbm : bb ∈ s.subs := by rw [hspb]; simp
            have hbd := dep_subs hbm
            refine ih bb (by omega) (by omega) k2 _ _ _ ?_
            cases hbb : flawB bb k2 false with
            | mk q3 o =>
              cases o with
              | some f =>
                obtain ⟨fp, fw⟩ := f
                rw [frD_some]
                walk_at "d"
                rw [hf, flawB_some (q := q3) (f := (fp, fw)) (by rw [hs, hl, flawL_some hbb]), frD_some] at q
                exact q
              | none =>
                rw [frD_none]
                walk_at "d"
                exact ⟨q3, _, _, by rw [hl, flawL_cons hbb], rfl⟩
          · rintro δ m2 ⟨rfl, k2, z5, z6, hl, rfl⟩
            walk_at "d"
            refine (ends_ret 14).2 s (by omega) _ _ _ ?_
            walk_at "d"
            refine ⟨k2, endsS s, _, _, _, _, ?_, rfl⟩
            rw [hf, flawB_none (q := k2)]
            rw [hs, hl]
            rfl
        cases s with
        | whl l t bb =>
          walk_at "d"
          have hbd := dep_whl1 (l := l) (t := t) (b := bb)
          refine bare_ret 7 bb (by omega) _ _ _ ?_
          cases hi : bareB bb with
          | true =>
            walk_at "d"
            rw [hf, flawB_some (q := k + 1) (f := (k, ("idle" : Str))) (flawS_idle (s := .whl l t bb) hi), frD_some] at q
            rw [ek]
            exact q
          | false =>
            have key := key hi
            walk_at "d"
            rw [enc_whl] at key
            exact key
        | _ =>
          have key := key rfl
          simp only [enc_wr, enc_gt, enc_st, enc_ite, enc_rt] at key
          walk_at "d"
          exact key
    · rintro δ m1 ⟨rfl, k, e, y3, y4, y5, y6, hf, rfl⟩
      rw [hf, flawB_nil, frD_none] at q
      walk_at "d"
      exact q

local macro_rules | `(tactic| walk_at "d") => `(tactic| simp -implicitDefEqProofs only [↓DL.k_F, ↓DL.k_M, ↓DL.k_onV, ↓DL.k_onL, ↓DL.k_onO, ↓DL.k_onN, ↓DL.r_C, ↓DL.r_var, ↓DL.k_Op2, ↓DL.k_Op, ↓DL.r_op, ↓DL.r_un, ↓DL.r_app, ↓DL.r_call, ↓DL.r_callF, ↓DL.k_CK2, ↓DL.k_CK, ↓DL.r_callK, ↓DL.r_callKF, ↓DL.r_nil, ↓DL.k_A2, ↓DL.k_A, ↓DL.r_cons, ↓DL.k_AndT, ↓DL.k_AndF, ↓DL.r_and, ↓DL.k_OrT, ↓DL.k_OrF, ↓DL.r_or, ↓DL.k_Not, ↓DL.r_not, ↓DL.k_EIfT, ↓DL.k_EIfF, ↓DL.r_eIf, ↓DL.k_Ch3T, ↓DL.k_Ch3F, ↓DL.k_Ch2, ↓DL.k_Ch1, ↓DL.r_chain, ↓DL.k_T, ↓DL.r_of, ↓DL.k_TAT, ↓DL.k_TAF, ↓DL.r_tand, ↓DL.k_TOT, ↓DL.k_TOF, ↓DL.r_tor, ↓DL.k_TN, ↓DL.r_tnot, ↓DL.r_tTrue, ↓DL.k_Asg, ↓DL.r_asg, ↓DL.k_Nx, ↓DL.r_expr, ↓DL.k_Rt, ↓DL.r_ret, ↓DL.r_retN, ↓DL.k_IfT, ↓DL.k_IfF, ↓DL.r_if, ↓DL.r_seq, ↓DL.r_next, ↓DL.r_break, ↓DL.r_cont, ↓DL.r_stuck, ↓DL.k_G, ↓DL.r_asgG, ↓DL.k_For, ↓DL.r_for, ↓DL.k_SI3, ↓DL.k_SI2, ↓DL.k_SI, ↓DL.r_setItemS, ↓DL.k_Ap3, ↓DL.k_Ap2, ↓DL.k_Ap1, ↓DL.r_apd, ↓DL.r_gN, ↓DL.r_iSeq, ↓DL.r_iApp, ↓DL.k_Body, ↓DL.k_Sl3, ↓DL.k_Sl2, ↓DL.k_Sl1, ↓DL.r_sl, ↓DL.r_oNone, ↓DL.k_OS, ↓DL.r_oSome, ↓DL.r_slT, ↓DL.r_slL, ↓DL.r_slS, ↓DL.r_retL, ↓DL.r_newL, ↓DL.r_lc, ↓DL.r_lcM, ↓DL.r_add, ↓DL.r_sub, ↓DL.r_mod, ↓DL.r_div, ↓DL.r_pow1018, ↓DL.r_lt, ↓DL.r_le, ↓DL.r_gt, ↓DL.r_ge, ↓DL.r_neg, ↓DL.r_eqII, ↓DL.r_neII, ↓DL.r_eqSS, ↓DL.r_neSS, ↓DL.r_eqBB, ↓DL.r_neBB, ↓DL.r_isN, ↓DL.r_isB, ↓DL.r_notN, ↓DL.r_int1, ↓DL.r_intb, ↓DL.r_abs, ↓DL.k_Get, ↓DL.r_ixT, ↓DL.r_ixL, ↓DL.r_asLR, ↓DL.r_asLL, ↓DL.r_ixRef, ↓DL.r_lenT, ↓DL.r_lenL, ↓DL.k_Len, ↓DL.r_lenRef, ↓DL.r_sumRef, ↓DL.k_SetJ, ↓DL.k_Set, ↓DL.r_setRef, ↓DL.k_App, ↓DL.r_appRef, ↓DL.r_tup0, ↓DL.r_tup1, ↓DL.r_tup2, ↓DL.r_tup3, ↓DL.r_tup4, ↓DL.r_tup5, ↓DL.r_tup6, ↓DL.r_tup7, ↓DL.r_tup8, ↓DL.r_lst0, ↓DL.r_ref0, ↓DL.r_ref1, ↓DL.r_ref2, ↓DL.r_ref3, ↓DL.r_ref4, ↓DL.r_ref5, ↓DL.r_ref6, ↓DL.r_listL, ↓DL.r_listT, ↓DL.r_tupleL, ↓DL.r_seqT, ↓DL.r_seqL, ↓DL.r_range1, ↓DL.r_range2, ↓DL.r_strEq, ↓DL.r_strEq2, ↓DL.r_isT0, ↓DL.r_isT1, ↓DL.r_isT2, ↓DL.r_isT3, ↓DL.r_isT4, ↓DL.r_isT5, ↓DL.r_isT6, ↓DL.r_isT7, ↓DL.r_isT8, ↓DL.r_isT9, ↓DL.r_isT10, ↓DL.r_isT11, ↓DL.r_isT12, ↓DL.r_isT13, ↓DL.r_isT14, ↓DL.r_isT15, ↓DL.r_isT16, ↓DL.r_isT17, ↓DL.r_isT18, ↓DL.r_isT19, ↓DL.r_isT20, ↓DL.r_isT21, ↓DL.r_isT22, ↓DL.r_isT23, ↓DL.r_isT24, ↓DL.r_isT25, ↓DL.r_isT26, ↓DL.r_isT27, ↓DL.r_isT28, ↓DL.r_isT29, ↓DL.r_isT30, ↓DL.r_isT31, ↓DL.r_isT32, ↓DL.r_isT33, ↓DL.r_isT34, ↓DL.r_isT35, ↓DL.r_isiN, ↓DL.r_isi2N, ↓DL.r_isiB, ↓DL.r_isi2B, ↓DL.r_isiI, ↓DL.r_isi2I, ↓DL.r_isiS, ↓DL.r_isi2S, ↓DL.r_isiT, ↓DL.r_isi2T, ↓DL.r_isiL, ↓DL.r_isi2L, ↓DL.r_inTI, ↓DL.r_ninTI, ↓DL.r_inLI, ↓DL.r_ninLI, ↓DL.r_inTS, ↓DL.r_inD_nil, ↓DL.r_inD_cons, ↓DL.r_flat_nil, ↓DL.r_flat_cons, ↓DL.r_flatS, ↓DL.r_flatI, ↓DL.r_eqvSS, ↓DL.r_eqvII, ↓DL.r_addLL, ↓DL.r_atm1, ↓DL.r_atm2, ↓DL.r_at0, ↓DL.r_at1, ↓DL.r_at2, ↓DL.r_at3, ↓DL.r_at4, ↓DL.r_at5, ↓DL.r_at6, ↓DL.r_at7, ↓DL.r_at8, ↓DL.r_beqI, ↓DL.r_ndec, ↓DL.r_gT, ↓DL.k_Gs, ↓DL.r_gsCons, ↓DL.r_gsNil, ↓DL.r_isDNN, ↓DL.r_isDBB, ↓DL.r_isDBN, ↓DL.r_isDNB, ↓DL.r_isDIN, ↓DL.r_isDIB, ↓DL.r_isDSN, ↓DL.r_isDSB, ↓DL.r_isDTN, ↓DL.r_isDTB, ↓DL.r_isDLN, ↓DL.r_isDLB, ↓DL.r_isDRN, ↓DL.r_isDRB, ↓DL.r_beqTT, ↓DL.r_beqTF, ↓DL.r_beqFT, ↓DL.r_beqFF, ↓DL.k_onI, ↓DL.k_Fld2, ↓DL.r_fld, ↓DL.k_FldR, ↓DL.k_FldO, ↓DL.r_look, ↓DL.r_lookN, ↓DL.r_putD, ↓DL.r_putDN, ↓DL.k_SF3, ↓DL.r_setFldR, ↓DL.k_SF2, ↓DL.k_SF1, ↓DL.r_setFld, ↓DL.r_methF, ↓DL.k_Me2, ↓DL.r_meth, ↓DL.k_MeR, ↓DL.k_MeO, ↓DL.r_make, ↓DL.k_MkN, ↓DL.r_makeF, ↓DL.k_CG2, ↓DL.k_CG, ↓DL.r_callG, ↓DL.r_callGF, ↓DL.r_listRg, ↓DL.r_tupRg, ↓DL.k_SlR, ↓DL.r_slR, ↓DL.r_enumL, ↓DL.r_max2, ↓DL.r_min2, ↓DL.r_isi2R, ↓DL.r_isiR, ↓DL.r_lst1, ↓DL.r_lst2, ↓DL.r_lst3, ↓DL.r_lst4, ↓DL.r_lst5, ↓DL.r_lst6, ↓DL.r_lst7, ↓DL.r_lst8, ↓DL.r_lst9, ↓DL.r_lst10, ↓DL.r_lst11, ↓DL.r_lst12, ↓DL.r_seqR, ↓DL.k_ForR, ↓DL.r_minL, ↓DL.r_clr, ↓DL.k_Clr1R, ↓DL.k_LstR, ↓DL.r_listRef, ↓DL.r_enumJL, ↓DL.r_enumJT, ↓DL.k_Clr2, ↓DL.k_MG2, ↓DL.k_MG, ↓DL.r_makeG, ↓DL.r_makeGF, ↓DL.r_prop, ↓DL.k_Pr2, ↓DL.k_PrR, ↓DL.k_Eq3, ↓DL.r_isiCN, ↓DL.r_isiCS, ↓DL.r_isiCT, ↓DL.k_Ix3, ↓DL.k_Ix2, ↓DL.k_Ix1, ↓DL.r_index, ↓DL.r_iStr, ↓DL.r_strI, ↓DL.k_T2, ↓DL.k_T1S, ↓DL.r_join, ↓DL.r_sindex, ↓DL.k_Rz, ↓DL.r_raise, ↓DL.r_raise0, ↓DL.k_Ex, ↓DL.r_try, ↓DL.k_trNx, ↓DL.k_trRt, ↓DL.k_trBk, ↓DL.k_trCt, ↓DL.k_trEx, ↓DL.k_hdlN, ↓DL.k_hdlT, ↓DL.k_hdlF, ↓DL.k_setSlN, ↓DL.k_setSlS, ↓DL.k_endNx, ↓DL.k_endRt, ↓DL.k_endBk, ↓DL.k_endCt, ↓DL.r_xf, ↓DL.r_xfD, ↓DL.r_isE, ↓DL.r_isED, ↓DL.r_isiDc, ↓DL.r_isi2Dc, ↓DL.k_In4, ↓DL.k_In3, ↓DL.k_In2, ↓DL.k_In1, ↓DL.r_ins, ↓DL.r_addI, ↓DL.k_Fa4, ↓DL.k_Fa3, ↓DL.k_Fa2, ↓DL.k_FaR, ↓DL.r_fldaug, ↓DL.r_dinL, ↓DL.r_dinD, ↓DL.r_dninL, ↓DL.r_dninD, ↓DL.r_dgetL, ↓DL.r_dgetD, ↓DL.r_lenDL, ↓DL.r_lenDD, ↓DL.r_dictL, ↓DL.r_dictD, ↓DL.r_isiLc, ↓DL.r_isi2Lc, ↓DL.r_isTd0, ↓DL.r_isTd1, ↓DL.r_isTd2, ↓DL.r_isTd3, ↓DL.r_isTd4, ↓DL.r_newD, ↓DL.r_frzLs, ↓DL.r_items, ↓DL.r_inK, ↓DL.r_ninK, ↓DL.r_getK, ↓DL.r_dispM, ↓DL.k_Dp2, ↓DL.k_Dp1, ↓DL.r_pairsN, ↓DL.r_pairsC, ↓DL.r_dispF1, ↓DL.r_gTn, ↓DL.k_Gf1, ↓DL.r_gFld, ↓DL.Kt.seq_nx, ↓DL.Kt.seq_rt, ↓DL.Kt.seq_bk, ↓DL.Kt.seq_ct, ↓DL.Kt.seq_ex, ↓DL.Kt.fin_nx, ↓DL.Kt.fin_rt, ↓DL.Kt.fin_ex, ↓DL.Kt.loop_nx, ↓DL.Kt.loop_rt, ↓DL.Kt.loop_bk, ↓DL.Kt.loop_ct, ↓DL.Kt.loop_ex, ↓DL.C.run_ret, ↓DL.mset_same, ↓DL.mset_mset, startD, ixN, Option.bind_some, Option.map_some, List.map_cons, List.map_nil, List.length_cons, List.length_nil, List.length_set, List.replicate, List.cons_append, List.nil_append, List.append_nil, List.set_cons_zero, List.set_cons_succ, List.getElem?_cons_zero, List.getElem?_cons_succ, Nat.reduceAdd, Nat.reduceSub, Nat.zero_add, if_true, if_false, decide_eq_true_eq, reduceIte, Bool.not_true, Bool.not_false, beq_self_eq_true, Bool.false_eq_true, Int.reduceLT, Int.reduceLE, Int.reduceNeg, Int.reduceToNat, Int.reduceAdd, Int.reduceSub, Nat.reduceLT, Nat.reduceLeDiff, Int.cast_ofNat_Int, Int.reduceEq, Int.reduceBEq, DL.wipeD, decide_true, decide_false, not_true_eq_false, not_false_eq_true, String.reduceEq, Bool.or_true, Bool.or_false, Bool.true_or, Bool.false_or, Bool.and_true, Bool.and_false, Bool.true_and, Bool.false_and, Bool.not_not, Nat.reduceEqDiff, Int.toNat_natCast, Decidable.not_not, List.mem_cons, List.not_mem_nil, or_false, or_true, true_or, false_or, and_true, true_and, and_self, and_false, false_and, reduceCtorEq, Option.isNone_some, Option.isNone_none, Option.isSome_some, Option.isSome_none, List.zip_cons_cons, List.zip_nil_right, List.zip_nil_left, List.reverse_cons, List.reverse_nil, Option.getD_some, Option.getD_none, r_tb_LENGTHS_0, r_tb_LENGTHS_1, r_tb_LENGTHS_2, r_tb_LENGTHS_3, r_tb_LENGTHS_4, r_tb_LENGTHS_5, r_in_BadProgram, r_xs_BadProgram_BadProgram, sizeLine_eq, r_sl3, r_seqB, r_lenB, r_ixB, r_isB, r_is2B, r_enumB, sumf_run, enc_wr, enc_gt, enc_st, enc_ite, enc_whl, enc_rt, endsS_wr, endsS_gt, endsS_st, endsS_ite, endsS_whl, endsS_rt, bareS_wr, bareS_gt, bareS_st, bareS_ite, bareS_whl, bareS_rt, cutr3_4, cutr3_5, r_addTT])
local macro_rules | `(tactic| walk_at "h") => `(tactic| simp -implicitDefEqProofs only [↓DL.k_F, ↓DL.k_M, ↓DL.k_onV, ↓DL.k_onL, ↓DL.k_onO, ↓DL.k_onN, ↓DL.r_C, ↓DL.r_var, ↓DL.k_Op2, ↓DL.k_Op, ↓DL.r_op, ↓DL.r_un, ↓DL.r_app, ↓DL.r_call, ↓DL.r_callF, ↓DL.k_CK2, ↓DL.k_CK, ↓DL.r_callK, ↓DL.r_callKF, ↓DL.r_nil, ↓DL.k_A2, ↓DL.k_A, ↓DL.r_cons, ↓DL.k_AndT, ↓DL.k_AndF, ↓DL.r_and, ↓DL.k_OrT, ↓DL.k_OrF, ↓DL.r_or, ↓DL.k_Not, ↓DL.r_not, ↓DL.k_EIfT, ↓DL.k_EIfF, ↓DL.r_eIf, ↓DL.k_Ch3T, ↓DL.k_Ch3F, ↓DL.k_Ch2, ↓DL.k_Ch1, ↓DL.r_chain, ↓DL.k_T, ↓DL.r_of, ↓DL.k_TAT, ↓DL.k_TAF, ↓DL.r_tand, ↓DL.k_TOT, ↓DL.k_TOF, ↓DL.r_tor, ↓DL.k_TN, ↓DL.r_tnot, ↓DL.r_tTrue, ↓DL.k_Asg, ↓DL.r_asg, ↓DL.k_Nx, ↓DL.r_expr, ↓DL.k_Rt, ↓DL.r_ret, ↓DL.r_retN, ↓DL.k_IfT, ↓DL.k_IfF, ↓DL.r_if, ↓DL.r_seq, ↓DL.r_next, ↓DL.r_break, ↓DL.r_cont, ↓DL.r_stuck, ↓DL.k_G, ↓DL.r_asgG, ↓DL.k_For, ↓DL.r_for, ↓DL.k_SI3, ↓DL.k_SI2, ↓DL.k_SI, ↓DL.r_setItemS, ↓DL.k_Ap3, ↓DL.k_Ap2, ↓DL.k_Ap1, ↓DL.r_apd, ↓DL.r_gN, ↓DL.r_iSeq, ↓DL.r_iApp, ↓DL.k_Body, ↓DL.k_Sl3, ↓DL.k_Sl2, ↓DL.k_Sl1, ↓DL.r_sl, ↓DL.r_oNone, ↓DL.k_OS, ↓DL.r_oSome, ↓DL.r_slT, ↓DL.r_slL, ↓DL.r_slS, ↓DL.r_retL, ↓DL.r_newL, ↓DL.r_lc, ↓DL.r_lcM, ↓DL.r_add, ↓DL.r_sub, ↓DL.r_mod, ↓DL.r_div, ↓DL.r_pow1018, ↓DL.r_lt, ↓DL.r_le, ↓DL.r_gt, ↓DL.r_ge, ↓DL.r_neg, ↓DL.r_eqII, ↓DL.r_neII, ↓DL.r_eqSS, ↓DL.r_neSS, ↓DL.r_eqBB, ↓DL.r_neBB, ↓DL.r_isN, ↓DL.r_isB, ↓DL.r_notN, ↓DL.r_int1, ↓DL.r_intb, ↓DL.r_abs, ↓DL.k_Get, ↓DL.r_ixT, ↓DL.r_ixL, ↓DL.r_asLR, ↓DL.r_asLL, ↓DL.r_ixRef, ↓DL.r_lenT, ↓DL.r_lenL, ↓DL.k_Len, ↓DL.r_lenRef, ↓DL.r_sumRef, ↓DL.k_SetJ, ↓DL.k_Set, ↓DL.r_setRef, ↓DL.k_App, ↓DL.r_appRef, ↓DL.r_tup0, ↓DL.r_tup1, ↓DL.r_tup2, ↓DL.r_tup3, ↓DL.r_tup4, ↓DL.r_tup5, ↓DL.r_tup6, ↓DL.r_tup7, ↓DL.r_tup8, ↓DL.r_lst0, ↓DL.r_ref0, ↓DL.r_ref1, ↓DL.r_ref2, ↓DL.r_ref3, ↓DL.r_ref4, ↓DL.r_ref5, ↓DL.r_ref6, ↓DL.r_listL, ↓DL.r_listT, ↓DL.r_tupleL, ↓DL.r_seqT, ↓DL.r_seqL, ↓DL.r_range1, ↓DL.r_range2, ↓DL.r_strEq, ↓DL.r_strEq2, ↓DL.r_isT0, ↓DL.r_isT1, ↓DL.r_isT2, ↓DL.r_isT3, ↓DL.r_isT4, ↓DL.r_isT5, ↓DL.r_isT6, ↓DL.r_isT7, ↓DL.r_isT8, ↓DL.r_isT9, ↓DL.r_isT10, ↓DL.r_isT11, ↓DL.r_isT12, ↓DL.r_isT13, ↓DL.r_isT14, ↓DL.r_isT15, ↓DL.r_isT16, ↓DL.r_isT17, ↓DL.r_isT18, ↓DL.r_isT19, ↓DL.r_isT20, ↓DL.r_isT21, ↓DL.r_isT22, ↓DL.r_isT23, ↓DL.r_isT24, ↓DL.r_isT25, ↓DL.r_isT26, ↓DL.r_isT27, ↓DL.r_isT28, ↓DL.r_isT29, ↓DL.r_isT30, ↓DL.r_isT31, ↓DL.r_isT32, ↓DL.r_isT33, ↓DL.r_isT34, ↓DL.r_isT35, ↓DL.r_isiN, ↓DL.r_isi2N, ↓DL.r_isiB, ↓DL.r_isi2B, ↓DL.r_isiI, ↓DL.r_isi2I, ↓DL.r_isiS, ↓DL.r_isi2S, ↓DL.r_isiT, ↓DL.r_isi2T, ↓DL.r_isiL, ↓DL.r_isi2L, ↓DL.r_inTI, ↓DL.r_ninTI, ↓DL.r_inLI, ↓DL.r_ninLI, ↓DL.r_inTS, ↓DL.r_inD_nil, ↓DL.r_inD_cons, ↓DL.r_flat_nil, ↓DL.r_flat_cons, ↓DL.r_flatS, ↓DL.r_flatI, ↓DL.r_eqvSS, ↓DL.r_eqvII, ↓DL.r_addLL, ↓DL.r_atm1, ↓DL.r_atm2, ↓DL.r_at0, ↓DL.r_at1, ↓DL.r_at2, ↓DL.r_at3, ↓DL.r_at4, ↓DL.r_at5, ↓DL.r_at6, ↓DL.r_at7, ↓DL.r_at8, ↓DL.r_beqI, ↓DL.r_ndec, ↓DL.r_gT, ↓DL.k_Gs, ↓DL.r_gsCons, ↓DL.r_gsNil, ↓DL.r_isDNN, ↓DL.r_isDBB, ↓DL.r_isDBN, ↓DL.r_isDNB, ↓DL.r_isDIN, ↓DL.r_isDIB, ↓DL.r_isDSN, ↓DL.r_isDSB, ↓DL.r_isDTN, ↓DL.r_isDTB, ↓DL.r_isDLN, ↓DL.r_isDLB, ↓DL.r_isDRN, ↓DL.r_isDRB, ↓DL.r_beqTT, ↓DL.r_beqTF, ↓DL.r_beqFT, ↓DL.r_beqFF, ↓DL.k_onI, ↓DL.k_Fld2, ↓DL.r_fld, ↓DL.k_FldR, ↓DL.k_FldO, ↓DL.r_look, ↓DL.r_lookN, ↓DL.r_putD, ↓DL.r_putDN, ↓DL.k_SF3, ↓DL.r_setFldR, ↓DL.k_SF2, ↓DL.k_SF1, ↓DL.r_setFld, ↓DL.r_methF, ↓DL.k_Me2, ↓DL.r_meth, ↓DL.k_MeR, ↓DL.k_MeO, ↓DL.r_make, ↓DL.k_MkN, ↓DL.r_makeF, ↓DL.k_CG2, ↓DL.k_CG, ↓DL.r_callG, ↓DL.r_callGF, ↓DL.r_listRg, ↓DL.r_tupRg, ↓DL.k_SlR, ↓DL.r_slR, ↓DL.r_enumL, ↓DL.r_max2, ↓DL.r_min2, ↓DL.r_isi2R, ↓DL.r_isiR, ↓DL.r_lst1, ↓DL.r_lst2, ↓DL.r_lst3, ↓DL.r_lst4, ↓DL.r_lst5, ↓DL.r_lst6, ↓DL.r_lst7, ↓DL.r_lst8, ↓DL.r_lst9, ↓DL.r_lst10, ↓DL.r_lst11, ↓DL.r_lst12, ↓DL.r_seqR, ↓DL.k_ForR, ↓DL.r_minL, ↓DL.r_clr, ↓DL.k_Clr1R, ↓DL.k_LstR, ↓DL.r_listRef, ↓DL.r_enumJL, ↓DL.r_enumJT, ↓DL.k_Clr2, ↓DL.k_MG2, ↓DL.k_MG, ↓DL.r_makeG, ↓DL.r_makeGF, ↓DL.r_prop, ↓DL.k_Pr2, ↓DL.k_PrR, ↓DL.k_Eq3, ↓DL.r_isiCN, ↓DL.r_isiCS, ↓DL.r_isiCT, ↓DL.k_Ix3, ↓DL.k_Ix2, ↓DL.k_Ix1, ↓DL.r_index, ↓DL.r_iStr, ↓DL.r_strI, ↓DL.k_T2, ↓DL.k_T1S, ↓DL.r_join, ↓DL.r_sindex, ↓DL.k_Rz, ↓DL.r_raise, ↓DL.r_raise0, ↓DL.k_Ex, ↓DL.r_try, ↓DL.k_trNx, ↓DL.k_trRt, ↓DL.k_trBk, ↓DL.k_trCt, ↓DL.k_trEx, ↓DL.k_hdlN, ↓DL.k_hdlT, ↓DL.k_hdlF, ↓DL.k_setSlN, ↓DL.k_setSlS, ↓DL.k_endNx, ↓DL.k_endRt, ↓DL.k_endBk, ↓DL.k_endCt, ↓DL.r_xf, ↓DL.r_xfD, ↓DL.r_isE, ↓DL.r_isED, ↓DL.r_isiDc, ↓DL.r_isi2Dc, ↓DL.k_In4, ↓DL.k_In3, ↓DL.k_In2, ↓DL.k_In1, ↓DL.r_ins, ↓DL.r_addI, ↓DL.k_Fa4, ↓DL.k_Fa3, ↓DL.k_Fa2, ↓DL.k_FaR, ↓DL.r_fldaug, ↓DL.r_dinL, ↓DL.r_dinD, ↓DL.r_dninL, ↓DL.r_dninD, ↓DL.r_dgetL, ↓DL.r_dgetD, ↓DL.r_lenDL, ↓DL.r_lenDD, ↓DL.r_dictL, ↓DL.r_dictD, ↓DL.r_isiLc, ↓DL.r_isi2Lc, ↓DL.r_isTd0, ↓DL.r_isTd1, ↓DL.r_isTd2, ↓DL.r_isTd3, ↓DL.r_isTd4, ↓DL.r_newD, ↓DL.r_frzLs, ↓DL.r_items, ↓DL.r_inK, ↓DL.r_ninK, ↓DL.r_getK, ↓DL.r_dispM, ↓DL.k_Dp2, ↓DL.k_Dp1, ↓DL.r_pairsN, ↓DL.r_pairsC, ↓DL.r_dispF1, ↓DL.r_gTn, ↓DL.k_Gf1, ↓DL.r_gFld, ↓DL.Kt.seq_nx, ↓DL.Kt.seq_rt, ↓DL.Kt.seq_bk, ↓DL.Kt.seq_ct, ↓DL.Kt.seq_ex, ↓DL.Kt.fin_nx, ↓DL.Kt.fin_rt, ↓DL.Kt.fin_ex, ↓DL.Kt.loop_nx, ↓DL.Kt.loop_rt, ↓DL.Kt.loop_bk, ↓DL.Kt.loop_ct, ↓DL.Kt.loop_ex, ↓DL.C.run_ret, ↓DL.mset_same, ↓DL.mset_mset, startD, ixN, Option.bind_some, Option.map_some, List.map_cons, List.map_nil, List.length_cons, List.length_nil, List.length_set, List.replicate, List.cons_append, List.nil_append, List.append_nil, List.set_cons_zero, List.set_cons_succ, List.getElem?_cons_zero, List.getElem?_cons_succ, Nat.reduceAdd, Nat.reduceSub, Nat.zero_add, if_true, if_false, decide_eq_true_eq, reduceIte, Bool.not_true, Bool.not_false, beq_self_eq_true, Bool.false_eq_true, Int.reduceLT, Int.reduceLE, Int.reduceNeg, Int.reduceToNat, Int.reduceAdd, Int.reduceSub, Nat.reduceLT, Nat.reduceLeDiff, Int.cast_ofNat_Int, Int.reduceEq, Int.reduceBEq, DL.wipeD, decide_true, decide_false, not_true_eq_false, not_false_eq_true, String.reduceEq, Bool.or_true, Bool.or_false, Bool.true_or, Bool.false_or, Bool.and_true, Bool.and_false, Bool.true_and, Bool.false_and, Bool.not_not, Nat.reduceEqDiff, Int.toNat_natCast, Decidable.not_not, List.mem_cons, List.not_mem_nil, or_false, or_true, true_or, false_or, and_true, true_and, and_self, and_false, false_and, reduceCtorEq, Option.isNone_some, Option.isNone_none, Option.isSome_some, Option.isSome_none, List.zip_cons_cons, List.zip_nil_right, List.zip_nil_left, List.reverse_cons, List.reverse_nil, Option.getD_some, Option.getD_none, r_tb_LENGTHS_0, r_tb_LENGTHS_1, r_tb_LENGTHS_2, r_tb_LENGTHS_3, r_tb_LENGTHS_4, r_tb_LENGTHS_5, r_in_BadProgram, r_xs_BadProgram_BadProgram, sizeLine_eq, r_sl3, r_seqB, r_lenB, r_ixB, r_isB, r_is2B, r_enumB, sumf_run, enc_wr, enc_gt, enc_st, enc_ite, enc_whl, enc_rt, endsS_wr, endsS_gt, endsS_st, endsS_ite, endsS_whl, endsS_rt, bareS_wr, bareS_gt, bareS_st, bareS_ite, bareS_whl, bareS_rt, cutr3_4, cutr3_5, r_addTT, *])
local macro_rules | `(tactic| walk_at "s") => `(tactic| ((try walk_at "h"); repeat' ((first | with_reducible refine if_dec (fun _ => ?_) (fun _ => ?_) | with_reducible refine eif_dec (fun _ => ?_) (fun _ => ?_) | with_reducible refine tor_dec (fun _ => ?_) (fun _ => ?_) | with_reducible refine tand_dec (fun _ => ?_) (fun _ => ?_) | with_reducible refine and_dec (fun _ => ?_) (fun _ => ?_) | with_reducible refine or_dec (fun _ => ?_) (fun _ => ?_) | with_reducible refine ch_dec (fun _ => ?_) (fun _ => ?_)) <;> (try walk_at "h"))))
theorem lay_ret : ∀ (n : Nat) (b : List Sm), deps b < n → deps b ≤ 5 → ∀ (pl be : Int) (m : Mem) (c : Addr) (l : List D) (Q : D → Mem → Prop) (E : Xn → Mem → Prop), m c = some (.lst l) → l.length + cnts b ≤ 1000 →
    Q .non (mset m c (.lst (l ++ rowsB b pl be))) → (d_lay_out n [blkD b, .int pl, .int be, .ref c]).run m Q E := by
  intro n
  induction n with
  | zero => intro b h; omega
  | succ n ih =>
    intro b h hb5 pl be m c l Q E hc hl q
    rw [d_lay_out_s]
    refine fn_run ?_
    unfold p_lay_out
    walk_at "d"
    refine for_enum (enc := enc) (xs := b) (fun pre δ m' => ∃ (P : Int) (R : List D) (y4 y5 y6 y7 y8 y9 y10 y11 : Option D), P = pl + cnts pre ∧ R.length = cnts pre ∧ (∀ r, b = pre ++ r → rowsB b pl be = R ++ rowsB r P be) ∧ m' = mset m c (.lst (l ++ R)) ∧ δ = [some (blkD b), some (.int P), some (.int be), some (.ref c), y4, y5, y6, y7, y8, y9, y10, y11]) ?_ ?_ ?_
    · refine ⟨pl, [], _, _, _, _, _, _, _, _, by simp [cnts], by simp [cnts], fun r e => ?_, ?_, rfl⟩
      · rw [e]; simp [cnts_nil]
      · rw [List.append_nil, mset_id hc]
    · rintro pre s r δ m1 hsp ⟨P, R, y4, y5, y6, y7, y8, y9, y10, y11, hP, hRl, hR, rfl, rfl⟩
      walk_at "d"
      unfold p_lay_out_b0
      have hm : s ∈ b := by rw [hsp]; simp
      have hd := deps_mem hm
      have hcm := cnts_mem hm
      have hlen : b.length = pre.length + 1 + r.length := by rw [hsp]; simp; omega
      have hcb : cnts b = cnts pre + (cnt s + cnts r) := by rw [hsp, cnts_append, cnts_cons]
      have hw : ∀ b' ∈ s.subs, Ret (d_width 7 [blkD b']) (.int (cnts b')) := fun b' hb' => width_ret 7 b' (by have := dep_subs hb'; omega) (by
        have h4 := cnt_subs s
        have h5 : cnts b' ≤ (s.subs.map cnts).sum := by
          revert hb'
          cases s <;> simp [Sm.subs]
          · rintro (rfl | rfl) <;> omega
          · rintro rfl; omega
        omega)
      walk_at "d"
      refine subs_run (out := fun b => .int (cnts b)) hw (by simp) ?_
      walk_at "d"
      rw [sum_subs]
      have e1 : P + 1 + ((cnt s : Int) - 1) = P + cnt s := by omega
      rw [e1, eif_int (i := P + cnt s) (j := be) (by walk_at "d") (by walk_at "d")]
      have e2 : (if decide ((pre.length : Int) + 1 < b.length) = true then P + cnt s else be) = (if r.isEmpty then be else P + cnt s) := by
        cases r with
        | nil => rw [if_neg (by rw [decide_eq_true_eq, hlen]; simp)]; rfl
        | cons a r => rw [if_pos (by rw [decide_eq_true_eq, hlen]; simp; omega), if_neg (by simp)]
      rw [e2]
      have hR' := hR _ hsp
      rw [rowsB_cons] at hR'
      have hll : (l ++ R).length ≤ 999 := by rw [List.length_append, hRl]; have := cnt_pos s; omega
      generalize hA : (if r.isEmpty then be else P + cnt s : Int) = A at hR' ⊢
      have fin : ∀ (X : List D) (y8 y9 y10 y11 : Option D), X = rowsS s P A → (Kt.loop (Kt.fin Q E) fun δ m' => ∃ (P : Int) (R : List D) (y4 y5 y6 y7 y8 y9 y10 y11 : Option D), P = pl + cnts (pre ++ [s]) ∧ R.length = cnts (pre ++ [s]) ∧ (∀ r, b = pre ++ [s] ++ r → rowsB b pl be = R ++ rowsB r P be) ∧ m' = mset m c (.lst (l ++ R)) ∧ δ = [some (blkD b), some (.int P), some (.int be), some (.ref c), y4, y5, y6, y7, y8, y9, y10, y11]).nx
          [some (blkD b), some (.int (P + cnt s)), some (.int be), some (.ref c), some (.int pre.length), some (enc s), some (.int (P + cnt s)), some (.int A), y8, y9, y10, y11] (mset m c (.lst (l ++ (R ++ X)))) := by
        rintro X y8 y9 y10 y11 rfl
        refine ⟨P + cnt s, R ++ rowsS s P A, _, _, _, _, _, _, _, _, ?_, ?_, fun r' e => ?_, rfl, rfl⟩
        · rw [cnts_append, cnts_cons, cnts_nil]; omega
        · rw [List.length_append, hRl, rowsS_len, cnts_append, cnts_cons, cnts_nil]; omega
        · have : r' = r := by
            rw [hsp, List.append_assoc] at e
            have := List.append_cancel_left e
            simpa using this.symm
          subst this
          rw [hR', List.append_assoc]
      have hlt : (l ++ R).length < sizeLine := Nat.lt_of_le_of_lt hll (by decide)
      have simple : ∀ x : D, rowsS s P A = [x] → l ++ R ++ [x] = l ++ (R ++ rowsS s P A) := fun x e => by rw [e, List.append_assoc]
      cases s with
      | wr cc t =>
        walk_at "d"
        rw [app_run hlt]
        walk_at "d"
        rw [simple _ (by rw [rowsS])]
        have := fin _ y8 y9 y10 y11 rfl
        rw [enc_wr] at this
        exact this
      | gt cc t =>
        walk_at "d"
        rw [app_run hlt]
        walk_at "d"
        rw [simple _ (by rw [rowsS])]
        have := fin _ y8 y9 y10 y11 rfl
        rw [enc_gt] at this
        exact this
      | st cc t =>
        walk_at "d"
        rw [app_run hlt]
        walk_at "d"
        rw [simple _ (by rw [rowsS])]
        have := fin _ y8 y9 y10 y11 rfl
        rw [enc_st] at this
        exact this
      | rt t =>
        walk_at "d"
        rw [app_run hlt]
        walk_at "d"
        rw [simple _ (by rw [rowsS])]
        have := fin _ y8 y9 y10 y11 rfl
        rw [enc_rt] at this
        exact this
      | whl ll t bb =>
        have h1 := dep_whl1 (l := ll) (t := t) (b := bb)
        rw [cnt_whl] at hcm hcb
        walk_at "d"
        rw [app_run hlt]
        walk_at "d"
        refine ih bb (by omega) (by omega) (P + 1) P _ c _ _ _ mset_same (by rw [List.length_append, List.length_append, hRl, List.length_singleton]; omega) ?_
        walk_at "d"
        have e : ∀ x : D, l ++ R ++ [x] ++ rowsB bb (P + 1) P = l ++ (R ++ x :: rowsB bb (P + 1) P) := fun x => by simp
        rw [e]
        have := fin (.tup [.str "while", .str ll, t, .int (P + 1), .int A] :: rowsB bb (P + 1) P) y8 y9 y10 y11 (by rw [rowsS])
        rw [enc_whl] at this
        exact this
      | ite ll t yy nn =>
        have h1 := dep_ite1 (l := ll) (t := t) (y := yy) (n := nn)
        have h2 := dep_ite2 (l := ll) (t := t) (y := yy) (n := nn)
        rw [cnt_ite] at hcm hcb
        walk_at "d"
        refine hw yy (by simp [Sm.subs]) _ _ _ ?_
        walk_at "d"
        rw [eif_int (i := P + 1) (j := A) (by walk_at "d") (by walk_at "d")]
        walk_at "d"
        rw [eif_int (i := P + 1 + cnts yy) (j := A) (by walk_at "d") (by walk_at "d")]
        walk_at "d"
        rw [app_run hlt]
        walk_at "d"
        refine ih yy (by omega) (by omega) (P + 1) A _ c _ _ _ mset_same (by rw [List.length_append, List.length_append, hRl, List.length_singleton]; omega) ?_
        walk_at "d"
        refine ih nn (by omega) (by omega) (P + 1 + cnts yy) A _ c _ _ _ mset_same (by rw [List.length_append, List.length_append, List.length_append, hRl, List.length_singleton, rowsB_len]; omega) ?_
        walk_at "d"
        have f1 : (if (0 : Int) < yy.length then P + 1 else A) = (if yy.isEmpty then A else P + 1) := by cases yy <;> simp <;> omega
        have f2 : (if (0 : Int) < nn.length then P + 1 + cnts yy else A) = (if nn.isEmpty then A else P + 1 + cnts yy) := by cases nn <;> simp <;> omega
        rw [f1, f2]
        have e : ∀ x : D, l ++ R ++ [x] ++ rowsB yy (P + 1) A ++ rowsB nn (P + 1 + cnts yy) A = l ++ (R ++ x :: (rowsB yy (P + 1) A ++ rowsB nn (P + 1 + cnts yy) A)) := fun x => by simp
        rw [e]
        have := fin (.tup [.str "if", .str ll, t, .int (if yy.isEmpty then A else P + 1), .int (if nn.isEmpty then A else P + 1 + cnts yy)] :: (rowsB yy (P + 1) A ++ rowsB nn (P + 1 + cnts yy) A)) (some (.int (P + 1 + cnts yy))) (some (.int (if yy.isEmpty then A else P + 1))) (some (.int (if nn.isEmpty then A else P + 1 + cnts yy))) y11 (by rw [rowsS])
        rw [enc_ite] at this
        exact this
    · rintro δ m1 ⟨P, R, y4, y5, y6, y7, y8, y9, y10, y11, hP, hRl, hR, rfl, rfl⟩
      walk_at "d"
      have e := hR [] (by simp)
      rw [rowsB_nil, List.append_nil] at e
      rw [← e]
      exact q

local macro_rules | `(tactic| walk_at "d") => `(tactic| simp -implicitDefEqProofs only [↓DL.k_F, ↓DL.k_M, ↓DL.k_onV, ↓DL.k_onL, ↓DL.k_onO, ↓DL.k_onN, ↓DL.r_C, ↓DL.r_var, ↓DL.k_Op2, ↓DL.k_Op, ↓DL.r_op, ↓DL.r_un, ↓DL.r_app, ↓DL.r_call, ↓DL.r_callF, ↓DL.k_CK2, ↓DL.k_CK, ↓DL.r_callK, ↓DL.r_callKF, ↓DL.r_nil, ↓DL.k_A2, ↓DL.k_A, ↓DL.r_cons, ↓DL.k_AndT, ↓DL.k_AndF, ↓DL.r_and, ↓DL.k_OrT, ↓DL.k_OrF, ↓DL.r_or, ↓DL.k_Not, ↓DL.r_not, ↓DL.k_EIfT, ↓DL.k_EIfF, ↓DL.r_eIf, ↓DL.k_Ch3T, ↓DL.k_Ch3F, ↓DL.k_Ch2, ↓DL.k_Ch1, ↓DL.r_chain, ↓DL.k_T, ↓DL.r_of, ↓DL.k_TAT, ↓DL.k_TAF, ↓DL.r_tand, ↓DL.k_TOT, ↓DL.k_TOF, ↓DL.r_tor, ↓DL.k_TN, ↓DL.r_tnot, ↓DL.r_tTrue, ↓DL.k_Asg, ↓DL.r_asg, ↓DL.k_Nx, ↓DL.r_expr, ↓DL.k_Rt, ↓DL.r_ret, ↓DL.r_retN, ↓DL.k_IfT, ↓DL.k_IfF, ↓DL.r_if, ↓DL.r_seq, ↓DL.r_next, ↓DL.r_break, ↓DL.r_cont, ↓DL.r_stuck, ↓DL.k_G, ↓DL.r_asgG, ↓DL.k_For, ↓DL.r_for, ↓DL.k_SI3, ↓DL.k_SI2, ↓DL.k_SI, ↓DL.r_setItemS, ↓DL.k_Ap3, ↓DL.k_Ap2, ↓DL.k_Ap1, ↓DL.r_apd, ↓DL.r_gN, ↓DL.r_iSeq, ↓DL.r_iApp, ↓DL.k_Body, ↓DL.k_Sl3, ↓DL.k_Sl2, ↓DL.k_Sl1, ↓DL.r_sl, ↓DL.r_oNone, ↓DL.k_OS, ↓DL.r_oSome, ↓DL.r_slT, ↓DL.r_slL, ↓DL.r_slS, ↓DL.r_retL, ↓DL.r_newL, ↓DL.r_lc, ↓DL.r_lcM, ↓DL.r_add, ↓DL.r_sub, ↓DL.r_mod, ↓DL.r_div, ↓DL.r_pow1018, ↓DL.r_lt, ↓DL.r_le, ↓DL.r_gt, ↓DL.r_ge, ↓DL.r_neg, ↓DL.r_eqII, ↓DL.r_neII, ↓DL.r_eqSS, ↓DL.r_neSS, ↓DL.r_eqBB, ↓DL.r_neBB, ↓DL.r_isN, ↓DL.r_isB, ↓DL.r_notN, ↓DL.r_int1, ↓DL.r_intb, ↓DL.r_abs, ↓DL.k_Get, ↓DL.r_ixT, ↓DL.r_ixL, ↓DL.r_asLR, ↓DL.r_asLL, ↓DL.r_ixRef, ↓DL.r_lenT, ↓DL.r_lenL, ↓DL.k_Len, ↓DL.r_lenRef, ↓DL.r_sumRef, ↓DL.k_SetJ, ↓DL.k_Set, ↓DL.r_setRef, ↓DL.k_App, ↓DL.r_appRef, ↓DL.r_tup0, ↓DL.r_tup1, ↓DL.r_tup2, ↓DL.r_tup3, ↓DL.r_tup4, ↓DL.r_tup5, ↓DL.r_tup6, ↓DL.r_tup7, ↓DL.r_tup8, ↓DL.r_lst0, ↓DL.r_ref0, ↓DL.r_ref1, ↓DL.r_ref2, ↓DL.r_ref3, ↓DL.r_ref4, ↓DL.r_ref5, ↓DL.r_ref6, ↓DL.r_listL, ↓DL.r_listT, ↓DL.r_tupleL, ↓DL.r_seqT, ↓DL.r_seqL, ↓DL.r_range1, ↓DL.r_range2, ↓DL.r_strEq, ↓DL.r_strEq2, ↓DL.r_isT0, ↓DL.r_isT1, ↓DL.r_isT2, ↓DL.r_isT3, ↓DL.r_isT4, ↓DL.r_isT5, ↓DL.r_isT6, ↓DL.r_isT7, ↓DL.r_isT8, ↓DL.r_isT9, ↓DL.r_isT10, ↓DL.r_isT11, ↓DL.r_isT12, ↓DL.r_isT13, ↓DL.r_isT14, ↓DL.r_isT15, ↓DL.r_isT16, ↓DL.r_isT17, ↓DL.r_isT18, ↓DL.r_isT19, ↓DL.r_isT20, ↓DL.r_isT21, ↓DL.r_isT22, ↓DL.r_isT23, ↓DL.r_isT24, ↓DL.r_isT25, ↓DL.r_isT26, ↓DL.r_isT27, ↓DL.r_isT28, ↓DL.r_isT29, ↓DL.r_isT30, ↓DL.r_isT31, ↓DL.r_isT32, ↓DL.r_isT33, ↓DL.r_isT34, ↓DL.r_isT35, ↓DL.r_isiN, ↓DL.r_isi2N, ↓DL.r_isiB, ↓DL.r_isi2B, ↓DL.r_isiI, ↓DL.r_isi2I, ↓DL.r_isiS, ↓DL.r_isi2S, ↓DL.r_isiT, ↓DL.r_isi2T, ↓DL.r_isiL, ↓DL.r_isi2L, ↓DL.r_inTI, ↓DL.r_ninTI, ↓DL.r_inLI, ↓DL.r_ninLI, ↓DL.r_inTS, ↓DL.r_inD_nil, ↓DL.r_inD_cons, ↓DL.r_flat_nil, ↓DL.r_flat_cons, ↓DL.r_flatS, ↓DL.r_flatI, ↓DL.r_eqvSS, ↓DL.r_eqvII, ↓DL.r_addLL, ↓DL.r_atm1, ↓DL.r_atm2, ↓DL.r_at0, ↓DL.r_at1, ↓DL.r_at2, ↓DL.r_at3, ↓DL.r_at4, ↓DL.r_at5, ↓DL.r_at6, ↓DL.r_at7, ↓DL.r_at8, ↓DL.r_beqI, ↓DL.r_ndec, ↓DL.r_gT, ↓DL.k_Gs, ↓DL.r_gsCons, ↓DL.r_gsNil, ↓DL.r_isDNN, ↓DL.r_isDBB, ↓DL.r_isDBN, ↓DL.r_isDNB, ↓DL.r_isDIN, ↓DL.r_isDIB, ↓DL.r_isDSN, ↓DL.r_isDSB, ↓DL.r_isDTN, ↓DL.r_isDTB, ↓DL.r_isDLN, ↓DL.r_isDLB, ↓DL.r_isDRN, ↓DL.r_isDRB, ↓DL.r_beqTT, ↓DL.r_beqTF, ↓DL.r_beqFT, ↓DL.r_beqFF, ↓DL.k_onI, ↓DL.k_Fld2, ↓DL.r_fld, ↓DL.k_FldR, ↓DL.k_FldO, ↓DL.r_look, ↓DL.r_lookN, ↓DL.r_putD, ↓DL.r_putDN, ↓DL.k_SF3, ↓DL.r_setFldR, ↓DL.k_SF2, ↓DL.k_SF1, ↓DL.r_setFld, ↓DL.r_methF, ↓DL.k_Me2, ↓DL.r_meth, ↓DL.k_MeR, ↓DL.k_MeO, ↓DL.r_make, ↓DL.k_MkN, ↓DL.r_makeF, ↓DL.k_CG2, ↓DL.k_CG, ↓DL.r_callG, ↓DL.r_callGF, ↓DL.r_listRg, ↓DL.r_tupRg, ↓DL.k_SlR, ↓DL.r_slR, ↓DL.r_enumL, ↓DL.r_max2, ↓DL.r_min2, ↓DL.r_isi2R, ↓DL.r_isiR, ↓DL.r_lst1, ↓DL.r_lst2, ↓DL.r_lst3, ↓DL.r_lst4, ↓DL.r_lst5, ↓DL.r_lst6, ↓DL.r_lst7, ↓DL.r_lst8, ↓DL.r_lst9, ↓DL.r_lst10, ↓DL.r_lst11, ↓DL.r_lst12, ↓DL.r_seqR, ↓DL.k_ForR, ↓DL.r_minL, ↓DL.r_clr, ↓DL.k_Clr1R, ↓DL.k_LstR, ↓DL.r_listRef, ↓DL.r_enumJL, ↓DL.r_enumJT, ↓DL.k_Clr2, ↓DL.k_MG2, ↓DL.k_MG, ↓DL.r_makeG, ↓DL.r_makeGF, ↓DL.r_prop, ↓DL.k_Pr2, ↓DL.k_PrR, ↓DL.k_Eq3, ↓DL.r_isiCN, ↓DL.r_isiCS, ↓DL.r_isiCT, ↓DL.k_Ix3, ↓DL.k_Ix2, ↓DL.k_Ix1, ↓DL.r_index, ↓DL.r_iStr, ↓DL.r_strI, ↓DL.k_T2, ↓DL.k_T1S, ↓DL.r_join, ↓DL.r_sindex, ↓DL.k_Rz, ↓DL.r_raise, ↓DL.r_raise0, ↓DL.k_Ex, ↓DL.r_try, ↓DL.k_trNx, ↓DL.k_trRt, ↓DL.k_trBk, ↓DL.k_trCt, ↓DL.k_trEx, ↓DL.k_hdlN, ↓DL.k_hdlT, ↓DL.k_hdlF, ↓DL.k_setSlN, ↓DL.k_setSlS, ↓DL.k_endNx, ↓DL.k_endRt, ↓DL.k_endBk, ↓DL.k_endCt, ↓DL.r_xf, ↓DL.r_xfD, ↓DL.r_isE, ↓DL.r_isED, ↓DL.r_isiDc, ↓DL.r_isi2Dc, ↓DL.k_In4, ↓DL.k_In3, ↓DL.k_In2, ↓DL.k_In1, ↓DL.r_ins, ↓DL.r_addI, ↓DL.k_Fa4, ↓DL.k_Fa3, ↓DL.k_Fa2, ↓DL.k_FaR, ↓DL.r_fldaug, ↓DL.r_dinL, ↓DL.r_dinD, ↓DL.r_dninL, ↓DL.r_dninD, ↓DL.r_dgetL, ↓DL.r_dgetD, ↓DL.r_lenDL, ↓DL.r_lenDD, ↓DL.r_dictL, ↓DL.r_dictD, ↓DL.r_isiLc, ↓DL.r_isi2Lc, ↓DL.r_isTd0, ↓DL.r_isTd1, ↓DL.r_isTd2, ↓DL.r_isTd3, ↓DL.r_isTd4, ↓DL.r_newD, ↓DL.r_frzLs, ↓DL.r_items, ↓DL.r_inK, ↓DL.r_ninK, ↓DL.r_getK, ↓DL.r_dispM, ↓DL.k_Dp2, ↓DL.k_Dp1, ↓DL.r_pairsN, ↓DL.r_pairsC, ↓DL.r_dispF1, ↓DL.r_gTn, ↓DL.k_Gf1, ↓DL.r_gFld, ↓DL.Kt.seq_nx, ↓DL.Kt.seq_rt, ↓DL.Kt.seq_bk, ↓DL.Kt.seq_ct, ↓DL.Kt.seq_ex, ↓DL.Kt.fin_nx, ↓DL.Kt.fin_rt, ↓DL.Kt.fin_ex, ↓DL.Kt.loop_nx, ↓DL.Kt.loop_rt, ↓DL.Kt.loop_bk, ↓DL.Kt.loop_ct, ↓DL.Kt.loop_ex, ↓DL.C.run_ret, ↓DL.mset_same, ↓DL.mset_mset, startD, ixN, Option.bind_some, Option.map_some, List.map_cons, List.map_nil, List.length_cons, List.length_nil, List.length_set, List.replicate, List.cons_append, List.nil_append, List.append_nil, List.set_cons_zero, List.set_cons_succ, List.getElem?_cons_zero, List.getElem?_cons_succ, Nat.reduceAdd, Nat.reduceSub, Nat.zero_add, if_true, if_false, decide_eq_true_eq, reduceIte, Bool.not_true, Bool.not_false, beq_self_eq_true, Bool.false_eq_true, Int.reduceLT, Int.reduceLE, Int.reduceNeg, Int.reduceToNat, Int.reduceAdd, Int.reduceSub, Nat.reduceLT, Nat.reduceLeDiff, Int.cast_ofNat_Int, Int.reduceEq, Int.reduceBEq, DL.wipeD, decide_true, decide_false, not_true_eq_false, not_false_eq_true, String.reduceEq, Bool.or_true, Bool.or_false, Bool.true_or, Bool.false_or, Bool.and_true, Bool.and_false, Bool.true_and, Bool.false_and, Bool.not_not, Nat.reduceEqDiff, Int.toNat_natCast, Decidable.not_not, List.mem_cons, List.not_mem_nil, or_false, or_true, true_or, false_or, and_true, true_and, and_self, and_false, false_and, reduceCtorEq, Option.isNone_some, Option.isNone_none, Option.isSome_some, Option.isSome_none, List.zip_cons_cons, List.zip_nil_right, List.zip_nil_left, List.reverse_cons, List.reverse_nil, Option.getD_some, Option.getD_none, r_tb_LENGTHS_0, r_tb_LENGTHS_1, r_tb_LENGTHS_2, r_tb_LENGTHS_3, r_tb_LENGTHS_4, r_tb_LENGTHS_5, r_in_BadProgram, r_xs_BadProgram_BadProgram, sizeLine_eq, r_sl3, r_seqB, r_lenB, r_ixB, r_isB, r_is2B, r_enumB, sumf_run, enc_wr, enc_gt, enc_st, enc_ite, enc_whl, enc_rt, endsS_wr, endsS_gt, endsS_st, endsS_ite, endsS_whl, endsS_rt, bareS_wr, bareS_gt, bareS_st, bareS_ite, bareS_whl, bareS_rt, cutr3_4, cutr3_5, r_addTT, cs_sizes, cs_side, cs_place, k_MOST_STATEMENTS, k_MOST_DEPTH, dvD_int])
local macro_rules | `(tactic| walk_at "h") => `(tactic| simp -implicitDefEqProofs only [↓DL.k_F, ↓DL.k_M, ↓DL.k_onV, ↓DL.k_onL, ↓DL.k_onO, ↓DL.k_onN, ↓DL.r_C, ↓DL.r_var, ↓DL.k_Op2, ↓DL.k_Op, ↓DL.r_op, ↓DL.r_un, ↓DL.r_app, ↓DL.r_call, ↓DL.r_callF, ↓DL.k_CK2, ↓DL.k_CK, ↓DL.r_callK, ↓DL.r_callKF, ↓DL.r_nil, ↓DL.k_A2, ↓DL.k_A, ↓DL.r_cons, ↓DL.k_AndT, ↓DL.k_AndF, ↓DL.r_and, ↓DL.k_OrT, ↓DL.k_OrF, ↓DL.r_or, ↓DL.k_Not, ↓DL.r_not, ↓DL.k_EIfT, ↓DL.k_EIfF, ↓DL.r_eIf, ↓DL.k_Ch3T, ↓DL.k_Ch3F, ↓DL.k_Ch2, ↓DL.k_Ch1, ↓DL.r_chain, ↓DL.k_T, ↓DL.r_of, ↓DL.k_TAT, ↓DL.k_TAF, ↓DL.r_tand, ↓DL.k_TOT, ↓DL.k_TOF, ↓DL.r_tor, ↓DL.k_TN, ↓DL.r_tnot, ↓DL.r_tTrue, ↓DL.k_Asg, ↓DL.r_asg, ↓DL.k_Nx, ↓DL.r_expr, ↓DL.k_Rt, ↓DL.r_ret, ↓DL.r_retN, ↓DL.k_IfT, ↓DL.k_IfF, ↓DL.r_if, ↓DL.r_seq, ↓DL.r_next, ↓DL.r_break, ↓DL.r_cont, ↓DL.r_stuck, ↓DL.k_G, ↓DL.r_asgG, ↓DL.k_For, ↓DL.r_for, ↓DL.k_SI3, ↓DL.k_SI2, ↓DL.k_SI, ↓DL.r_setItemS, ↓DL.k_Ap3, ↓DL.k_Ap2, ↓DL.k_Ap1, ↓DL.r_apd, ↓DL.r_gN, ↓DL.r_iSeq, ↓DL.r_iApp, ↓DL.k_Body, ↓DL.k_Sl3, ↓DL.k_Sl2, ↓DL.k_Sl1, ↓DL.r_sl, ↓DL.r_oNone, ↓DL.k_OS, ↓DL.r_oSome, ↓DL.r_slT, ↓DL.r_slL, ↓DL.r_slS, ↓DL.r_retL, ↓DL.r_newL, ↓DL.r_lc, ↓DL.r_lcM, ↓DL.r_add, ↓DL.r_sub, ↓DL.r_mod, ↓DL.r_div, ↓DL.r_pow1018, ↓DL.r_lt, ↓DL.r_le, ↓DL.r_gt, ↓DL.r_ge, ↓DL.r_neg, ↓DL.r_eqII, ↓DL.r_neII, ↓DL.r_eqSS, ↓DL.r_neSS, ↓DL.r_eqBB, ↓DL.r_neBB, ↓DL.r_isN, ↓DL.r_isB, ↓DL.r_notN, ↓DL.r_int1, ↓DL.r_intb, ↓DL.r_abs, ↓DL.k_Get, ↓DL.r_ixT, ↓DL.r_ixL, ↓DL.r_asLR, ↓DL.r_asLL, ↓DL.r_ixRef, ↓DL.r_lenT, ↓DL.r_lenL, ↓DL.k_Len, ↓DL.r_lenRef, ↓DL.r_sumRef, ↓DL.k_SetJ, ↓DL.k_Set, ↓DL.r_setRef, ↓DL.k_App, ↓DL.r_appRef, ↓DL.r_tup0, ↓DL.r_tup1, ↓DL.r_tup2, ↓DL.r_tup3, ↓DL.r_tup4, ↓DL.r_tup5, ↓DL.r_tup6, ↓DL.r_tup7, ↓DL.r_tup8, ↓DL.r_lst0, ↓DL.r_ref0, ↓DL.r_ref1, ↓DL.r_ref2, ↓DL.r_ref3, ↓DL.r_ref4, ↓DL.r_ref5, ↓DL.r_ref6, ↓DL.r_listL, ↓DL.r_listT, ↓DL.r_tupleL, ↓DL.r_seqT, ↓DL.r_seqL, ↓DL.r_range1, ↓DL.r_range2, ↓DL.r_strEq, ↓DL.r_strEq2, ↓DL.r_isT0, ↓DL.r_isT1, ↓DL.r_isT2, ↓DL.r_isT3, ↓DL.r_isT4, ↓DL.r_isT5, ↓DL.r_isT6, ↓DL.r_isT7, ↓DL.r_isT8, ↓DL.r_isT9, ↓DL.r_isT10, ↓DL.r_isT11, ↓DL.r_isT12, ↓DL.r_isT13, ↓DL.r_isT14, ↓DL.r_isT15, ↓DL.r_isT16, ↓DL.r_isT17, ↓DL.r_isT18, ↓DL.r_isT19, ↓DL.r_isT20, ↓DL.r_isT21, ↓DL.r_isT22, ↓DL.r_isT23, ↓DL.r_isT24, ↓DL.r_isT25, ↓DL.r_isT26, ↓DL.r_isT27, ↓DL.r_isT28, ↓DL.r_isT29, ↓DL.r_isT30, ↓DL.r_isT31, ↓DL.r_isT32, ↓DL.r_isT33, ↓DL.r_isT34, ↓DL.r_isT35, ↓DL.r_isiN, ↓DL.r_isi2N, ↓DL.r_isiB, ↓DL.r_isi2B, ↓DL.r_isiI, ↓DL.r_isi2I, ↓DL.r_isiS, ↓DL.r_isi2S, ↓DL.r_isiT, ↓DL.r_isi2T, ↓DL.r_isiL, ↓DL.r_isi2L, ↓DL.r_inTI, ↓DL.r_ninTI, ↓DL.r_inLI, ↓DL.r_ninLI, ↓DL.r_inTS, ↓DL.r_inD_nil, ↓DL.r_inD_cons, ↓DL.r_flat_nil, ↓DL.r_flat_cons, ↓DL.r_flatS, ↓DL.r_flatI, ↓DL.r_eqvSS, ↓DL.r_eqvII, ↓DL.r_addLL, ↓DL.r_atm1, ↓DL.r_atm2, ↓DL.r_at0, ↓DL.r_at1, ↓DL.r_at2, ↓DL.r_at3, ↓DL.r_at4, ↓DL.r_at5, ↓DL.r_at6, ↓DL.r_at7, ↓DL.r_at8, ↓DL.r_beqI, ↓DL.r_ndec, ↓DL.r_gT, ↓DL.k_Gs, ↓DL.r_gsCons, ↓DL.r_gsNil, ↓DL.r_isDNN, ↓DL.r_isDBB, ↓DL.r_isDBN, ↓DL.r_isDNB, ↓DL.r_isDIN, ↓DL.r_isDIB, ↓DL.r_isDSN, ↓DL.r_isDSB, ↓DL.r_isDTN, ↓DL.r_isDTB, ↓DL.r_isDLN, ↓DL.r_isDLB, ↓DL.r_isDRN, ↓DL.r_isDRB, ↓DL.r_beqTT, ↓DL.r_beqTF, ↓DL.r_beqFT, ↓DL.r_beqFF, ↓DL.k_onI, ↓DL.k_Fld2, ↓DL.r_fld, ↓DL.k_FldR, ↓DL.k_FldO, ↓DL.r_look, ↓DL.r_lookN, ↓DL.r_putD, ↓DL.r_putDN, ↓DL.k_SF3, ↓DL.r_setFldR, ↓DL.k_SF2, ↓DL.k_SF1, ↓DL.r_setFld, ↓DL.r_methF, ↓DL.k_Me2, ↓DL.r_meth, ↓DL.k_MeR, ↓DL.k_MeO, ↓DL.r_make, ↓DL.k_MkN, ↓DL.r_makeF, ↓DL.k_CG2, ↓DL.k_CG, ↓DL.r_callG, ↓DL.r_callGF, ↓DL.r_listRg, ↓DL.r_tupRg, ↓DL.k_SlR, ↓DL.r_slR, ↓DL.r_enumL, ↓DL.r_max2, ↓DL.r_min2, ↓DL.r_isi2R, ↓DL.r_isiR, ↓DL.r_lst1, ↓DL.r_lst2, ↓DL.r_lst3, ↓DL.r_lst4, ↓DL.r_lst5, ↓DL.r_lst6, ↓DL.r_lst7, ↓DL.r_lst8, ↓DL.r_lst9, ↓DL.r_lst10, ↓DL.r_lst11, ↓DL.r_lst12, ↓DL.r_seqR, ↓DL.k_ForR, ↓DL.r_minL, ↓DL.r_clr, ↓DL.k_Clr1R, ↓DL.k_LstR, ↓DL.r_listRef, ↓DL.r_enumJL, ↓DL.r_enumJT, ↓DL.k_Clr2, ↓DL.k_MG2, ↓DL.k_MG, ↓DL.r_makeG, ↓DL.r_makeGF, ↓DL.r_prop, ↓DL.k_Pr2, ↓DL.k_PrR, ↓DL.k_Eq3, ↓DL.r_isiCN, ↓DL.r_isiCS, ↓DL.r_isiCT, ↓DL.k_Ix3, ↓DL.k_Ix2, ↓DL.k_Ix1, ↓DL.r_index, ↓DL.r_iStr, ↓DL.r_strI, ↓DL.k_T2, ↓DL.k_T1S, ↓DL.r_join, ↓DL.r_sindex, ↓DL.k_Rz, ↓DL.r_raise, ↓DL.r_raise0, ↓DL.k_Ex, ↓DL.r_try, ↓DL.k_trNx, ↓DL.k_trRt, ↓DL.k_trBk, ↓DL.k_trCt, ↓DL.k_trEx, ↓DL.k_hdlN, ↓DL.k_hdlT, ↓DL.k_hdlF, ↓DL.k_setSlN, ↓DL.k_setSlS, ↓DL.k_endNx, ↓DL.k_endRt, ↓DL.k_endBk, ↓DL.k_endCt, ↓DL.r_xf, ↓DL.r_xfD, ↓DL.r_isE, ↓DL.r_isED, ↓DL.r_isiDc, ↓DL.r_isi2Dc, ↓DL.k_In4, ↓DL.k_In3, ↓DL.k_In2, ↓DL.k_In1, ↓DL.r_ins, ↓DL.r_addI, ↓DL.k_Fa4, ↓DL.k_Fa3, ↓DL.k_Fa2, ↓DL.k_FaR, ↓DL.r_fldaug, ↓DL.r_dinL, ↓DL.r_dinD, ↓DL.r_dninL, ↓DL.r_dninD, ↓DL.r_dgetL, ↓DL.r_dgetD, ↓DL.r_lenDL, ↓DL.r_lenDD, ↓DL.r_dictL, ↓DL.r_dictD, ↓DL.r_isiLc, ↓DL.r_isi2Lc, ↓DL.r_isTd0, ↓DL.r_isTd1, ↓DL.r_isTd2, ↓DL.r_isTd3, ↓DL.r_isTd4, ↓DL.r_newD, ↓DL.r_frzLs, ↓DL.r_items, ↓DL.r_inK, ↓DL.r_ninK, ↓DL.r_getK, ↓DL.r_dispM, ↓DL.k_Dp2, ↓DL.k_Dp1, ↓DL.r_pairsN, ↓DL.r_pairsC, ↓DL.r_dispF1, ↓DL.r_gTn, ↓DL.k_Gf1, ↓DL.r_gFld, ↓DL.Kt.seq_nx, ↓DL.Kt.seq_rt, ↓DL.Kt.seq_bk, ↓DL.Kt.seq_ct, ↓DL.Kt.seq_ex, ↓DL.Kt.fin_nx, ↓DL.Kt.fin_rt, ↓DL.Kt.fin_ex, ↓DL.Kt.loop_nx, ↓DL.Kt.loop_rt, ↓DL.Kt.loop_bk, ↓DL.Kt.loop_ct, ↓DL.Kt.loop_ex, ↓DL.C.run_ret, ↓DL.mset_same, ↓DL.mset_mset, startD, ixN, Option.bind_some, Option.map_some, List.map_cons, List.map_nil, List.length_cons, List.length_nil, List.length_set, List.replicate, List.cons_append, List.nil_append, List.append_nil, List.set_cons_zero, List.set_cons_succ, List.getElem?_cons_zero, List.getElem?_cons_succ, Nat.reduceAdd, Nat.reduceSub, Nat.zero_add, if_true, if_false, decide_eq_true_eq, reduceIte, Bool.not_true, Bool.not_false, beq_self_eq_true, Bool.false_eq_true, Int.reduceLT, Int.reduceLE, Int.reduceNeg, Int.reduceToNat, Int.reduceAdd, Int.reduceSub, Nat.reduceLT, Nat.reduceLeDiff, Int.cast_ofNat_Int, Int.reduceEq, Int.reduceBEq, DL.wipeD, decide_true, decide_false, not_true_eq_false, not_false_eq_true, String.reduceEq, Bool.or_true, Bool.or_false, Bool.true_or, Bool.false_or, Bool.and_true, Bool.and_false, Bool.true_and, Bool.false_and, Bool.not_not, Nat.reduceEqDiff, Int.toNat_natCast, Decidable.not_not, List.mem_cons, List.not_mem_nil, or_false, or_true, true_or, false_or, and_true, true_and, and_self, and_false, false_and, reduceCtorEq, Option.isNone_some, Option.isNone_none, Option.isSome_some, Option.isSome_none, List.zip_cons_cons, List.zip_nil_right, List.zip_nil_left, List.reverse_cons, List.reverse_nil, Option.getD_some, Option.getD_none, r_tb_LENGTHS_0, r_tb_LENGTHS_1, r_tb_LENGTHS_2, r_tb_LENGTHS_3, r_tb_LENGTHS_4, r_tb_LENGTHS_5, r_in_BadProgram, r_xs_BadProgram_BadProgram, sizeLine_eq, r_sl3, r_seqB, r_lenB, r_ixB, r_isB, r_is2B, r_enumB, sumf_run, enc_wr, enc_gt, enc_st, enc_ite, enc_whl, enc_rt, endsS_wr, endsS_gt, endsS_st, endsS_ite, endsS_whl, endsS_rt, bareS_wr, bareS_gt, bareS_st, bareS_ite, bareS_whl, bareS_rt, cutr3_4, cutr3_5, r_addTT, cs_sizes, cs_side, cs_place, k_MOST_STATEMENTS, k_MOST_DEPTH, dvD_int, *])
local macro_rules | `(tactic| walk_at "s") => `(tactic| ((try walk_at "h"); repeat' ((first | with_reducible refine if_dec (fun _ => ?_) (fun _ => ?_) | with_reducible refine eif_dec (fun _ => ?_) (fun _ => ?_) | with_reducible refine tor_dec (fun _ => ?_) (fun _ => ?_) | with_reducible refine tand_dec (fun _ => ?_) (fun _ => ?_) | with_reducible refine and_dec (fun _ => ?_) (fun _ => ?_) | with_reducible refine or_dec (fun _ => ?_) (fun _ => ?_) | with_reducible refine ch_dec (fun _ => ?_) (fun _ => ?_)) <;> (try walk_at "h"))))
def CK (sd : Str) (kv : List (Key × D)) (pl : Int) : MO := .ins "Checker" [("side", .str sd), ("sizes", .dic kv), ("place", .int pl)]
structure KV (kv : List (Key × D)) (vs : List Str) : Prop where
  val : ∀ s, (valD kv (.inr s)).isSome = decide (s ∈ vs)
  nm : ∀ s ∈ vs, nmB s = true
theorem nmB_len {s : Str} (h : nmB s = true) : s.length ≤ 8 := by
  unfold nmB at h
  rw [Bool.and_eq_true, Bool.and_eq_true] at h
  exact of_decide_eq_true h.2.1
section
variable {m : Mem} {Q : D → Mem → Prop} {E : Xn → Mem → Prop} {sd : Str} {kv : List (Key × D)} {vs : List Str} {pl : Int} {ck : Addr} {x t : D}
def locB (vs : List Str) : D → Bool
  | .str s => decide (s ∈ vs)
  | _ => false
theorem local_run (hk : KV kv vs) (h : m ck = some (CK sd kv pl)) (hx : isP x) (q : Q (.bl (locB vs x)) m) : (d_Checker_is_local [.ref ck, x]).run m Q E := by
  unfold d_Checker_is_local
  refine fn_run ?_
  unfold p_Checker_is_local
  unfold CK at h
  rcases hx.cs with rfl | ⟨b, rfl⟩ | ⟨i, rfl⟩ | ⟨l, rfl⟩ | ⟨l, rfl⟩ | ⟨s, rfl, hs⟩
  · walk_at "d"; exact q
  · walk_at "d"; exact q
  · walk_at "d"; exact q
  · walk_at "d"; exact q
  · walk_at "d"; exact q
  · walk_at "d"
    rw [h]
    walk_at "d"
    rw [hk.val]
    exact q
theorem isrow_run {T : List D} (q : Q (.bl true) m) : (d_is_row [.tup T]).run m Q E := by
  unfold d_is_row; refine fn_run ?_; unfold p_is_row
  walk_at "d"
  exact q
theorem isrow_runB {b : List Sm} (q : Q (.bl true) m) : (d_is_row [blkD b]).run m Q E := isrow_run q
theorem wrow_run {a b : D} (q : Q (.bl true) m) : (d_is_word_row [.tup [.str "plus", a, b], .str "plus", .int 3]).run m Q E := by
  unfold d_is_word_row; refine fn_run ?_; unfold p_is_word_row
  walk_at "d"
  refine isrow_run ?_
  walk_at "d"
  exact q
theorem term_run (hk : KV kv vs) (h : m ck = some (CK sd kv pl)) (ht : tmB sd vs t = true) (q : Q t m) : (d_Checker_term_form [.ref ck, t]).run m Q E := by
  unfold d_Checker_term_form
  refine fn_run ?_
  unfold p_Checker_term_form
  have h0 := h
  unfold CK at h
  have hI : isP t := by
    unfold tmB at ht
    split at ht
    · trivial
    · rename_i x
      rw [Bool.or_eq_true] at ht
      rcases ht with ht | ht
      · exact Nat.le_trans (nmB_len (hk.nm _ (of_decide_eq_true ht))) (by decide)
      · rw [Bool.and_eq_true] at ht
        rw [of_decide_eq_true ht.1]
        show (Str.ofString "new").length ≤ 1000
        decide
    · trivial
    · cases ht
  walk_at "d"
  refine btw_spec hI ?_
  unfold tmB at ht
  split at ht
  · rename_i i
    have hi := of_decide_eq_true ht
    have e : btB (.int i) 0 3 = true := by
      simp [btB, hi.1, hi.2]
    rw [e]
    walk_at "d"
    exact q
  · rename_i s
    have e : btB (.str s) 0 3 = false := rfl
    rw [e]
    walk_at "d"
    rw [h]
    walk_at "d"
    refine local_run hk h0 hI ?_
    by_cases hs : s ∈ vs
    · rw [show locB vs (.str s) = true from decide_eq_true hs]
      walk_at "d"
      exact q
    · rw [show locB vs (.str s) = false from decide_eq_false hs]
      rw [decide_eq_false hs, Bool.false_or, Bool.and_eq_true] at ht
      obtain ⟨h1, h2⟩ := ht
      rw [of_decide_eq_true h2] at h
      rw [of_decide_eq_true h1] at q ⊢
      walk_at "d"
      rw [h]
      walk_at "d"
      exact q
  · rename_i p s k
    rw [Bool.and_eq_true, Bool.and_eq_true] at ht
    obtain ⟨h1, h2, h3⟩ := ht
    rw [of_decide_eq_true h1] at q ⊢
    have h3 := of_decide_eq_true h3
    have e : btB (.tup [.str (Str.ofString "plus"), .str s, .int k]) 0 3 = false := rfl
    rw [e]
    walk_at "d"
    rw [h]
    walk_at "d"
    refine local_run hk h0 trivial ?_
    rw [show locB vs (.tup [.str (Str.ofString "plus"), .str s, .int k]) = false from rfl]
    walk_at "d"
    refine wrow_run ?_
    walk_at "d"
    rw [h]
    walk_at "d"
    refine local_run hk h0 (Nat.le_trans (nmB_len (hk.nm _ (of_decide_eq_true h2))) (by decide)) ?_
    rw [show locB vs (.str s) = true from h2]
    walk_at "d"
    refine btw_spec trivial ?_
    have e2 : btB (.int k) 0 3 = true := by simp [btB, h3.1, h3.2]
    rw [e2]
    walk_at "d"
    exact q
  · cases ht
theorem isP_tm (hk : KV kv vs) (ht : tmB sd vs t = true) : isP t ∧ t ≠ .non := by
  unfold tmB at ht
  split at ht
  · exact ⟨trivial, fun z => nomatch z⟩
  · rename_i x
    refine ⟨?_, fun z => nomatch z⟩
    rw [Bool.or_eq_true] at ht
    rcases ht with ht | ht
    · exact Nat.le_trans (nmB_len (hk.nm _ (of_decide_eq_true ht))) (by decide)
    · rw [Bool.and_eq_true] at ht
      rw [of_decide_eq_true ht.1]
      show (Str.ofString "new").length ≤ 1000
      decide
  · exact ⟨trivial, fun z => nomatch z⟩
  · cases ht
theorem isNotN (ht : tmB sd vs t = true) : isD t .non = false := by
  unfold tmB at ht
  split at ht
  · rfl
  · rfl
  · rfl
  · cases ht
theorem isP_nm {s : Str} (h : nmB s = true) : isP (.str s) := Nat.le_trans (nmB_len h) (by decide)
theorem okSm_d {sd : Str} {vs : List Str} {d : Nat} {s : Sm} (h : okSm sd vs d s = true) : s.subs ≠ [] → d < 3 := by
  intro hs
  cases s <;> simp [Sm.subs] at hs <;> simp only [okSm, Bool.and_eq_true] at h
  · exact of_decide_eq_true h.2.2.1
  · exact of_decide_eq_true h.2.2.1
theorem part_tail {s : Sm} {d : Nat} {w : D} {y : Option D} (hd : s.subs ≠ [] → d < 3) (q : Q .non m) :
    (sSeq (sFor (iSeq (eSl (eVar 1) (oSome (eC (D.int 3))) oNone)) (gN 4) p_Checker_part_reason_b0) (sSeq (sIf (tAndD (tOf (eOp dGt (eApp dLen (aCons (eVar 1) aNil)) (eC (D.int 3)))) (tOf (eOp dEq (eVar 2) (eC (D.int 3))))) (sRet (eC (D.str "deep"))) sNext) (sRet (eC D.non)))).run
      [some (.ref ck), some (enc s), some (.int d), some w, y] m (Kt.fin Q E) := by
  walk_at "d"
  refine for_suf (enc := blkD) (xs := s.subs) (fun r δ m' => m' = m ∧ ∃ y, δ = [some (.ref ck), some (enc s), some (.int d), some w, y]) ⟨rfl, _, rfl⟩ ?_ ?_
  · rintro b r δ m1 _ ⟨rfl, y, rfl⟩
    walk_at "d"
    unfold p_Checker_part_reason_b0
    walk_at "d"
    refine isrow_runB ?_
    walk_at "d"
    exact ⟨_, rfl⟩
  · rintro δ m1 ⟨rfl, y, rfl⟩
    have key : s.subs ≠ [] → ¬ ((d : Int) = 3) := fun h => by have := hd h; omega
    cases s with
    | ite l t yy nn =>
      have := key (by simp [Sm.subs])
      walk_at "d"
      rw [decide_eq_false this]
      walk_at "d"
      exact q
    | whl l t b =>
      have := key (by simp [Sm.subs])
      walk_at "d"
      rw [decide_eq_false this]
      walk_at "d"
      exact q
    | wr c t => walk_at "d"; exact q
    | gt c t => walk_at "d"; exact q
    | st c t => walk_at "d"; exact q
    | rt t => walk_at "d"; exact q
theorem reason_run {s : Sm} {d : Nat} (hk : KV kv vs) (h : m ck = some (CK sd kv pl)) (hs : okSm sd vs d s = true) (q : Q .non m) : (d_Checker_part_reason [.ref ck, enc s, .int d]).run m Q E := by
  unfold d_Checker_part_reason
  refine fn_run ?_
  unfold p_Checker_part_reason
  have h0 := h
  unfold CK at h
  have pt := fun w y => part_tail (m := m) (Q := Q) (E := E) (ck := ck) (s := s) (d := d) (w := w) (y := y) (okSm_d hs) q
  cases s with
  | wr c t =>
    simp only [okSm, Bool.and_eq_true] at hs
    walk_at "d"
    refine name_spec (isP_nm hs.1) ?_
    rw [show nameB (.str c) = true from hs.1]
    walk_at "d"
    rw [h]
    walk_at "d"
    refine term_run hk h0 hs.2 ?_
    walk_at "d"
    rw [isNotN hs.2]
    simp only [enc_wr] at pt
    walk_at "d"
    exact pt _ _
  | gt l c =>
    simp only [okSm, Bool.and_eq_true] at hs
    walk_at "d"
    rw [h]
    walk_at "d"
    refine local_run hk h0 (isP_nm (hk.nm _ (of_decide_eq_true hs.1))) ?_
    rw [show locB vs (.str l) = true from hs.1]
    walk_at "d"
    refine name_spec (isP_nm hs.2) ?_
    rw [show nameB (.str c) = true from hs.2]
    simp only [enc_gt] at pt
    walk_at "d"
    exact pt _ _
  | st l t =>
    simp only [okSm, Bool.and_eq_true] at hs
    walk_at "d"
    rw [h]
    walk_at "d"
    refine local_run hk h0 (isP_nm (hk.nm _ (of_decide_eq_true hs.1))) ?_
    rw [show locB vs (.str l) = true from hs.1]
    walk_at "d"
    rw [h]
    walk_at "d"
    refine term_run hk h0 hs.2 ?_
    walk_at "d"
    rw [isNotN hs.2]
    simp only [enc_st] at pt
    walk_at "d"
    exact pt _ _
  | ite l t yy nn =>
    simp only [okSm, Bool.and_eq_true] at hs
    walk_at "d"
    rw [h]
    walk_at "d"
    refine local_run hk h0 (isP_nm (hk.nm _ (of_decide_eq_true hs.1))) ?_
    rw [show locB vs (.str l) = true from hs.1]
    walk_at "d"
    rw [h]
    walk_at "d"
    refine term_run hk h0 hs.2.1 ?_
    walk_at "d"
    rw [isNotN hs.2.1]
    simp only [enc_ite] at pt
    walk_at "d"
    exact pt _ _
  | whl l t b =>
    simp only [okSm, Bool.and_eq_true] at hs
    walk_at "d"
    rw [h]
    walk_at "d"
    refine local_run hk h0 (isP_nm (hk.nm _ (of_decide_eq_true hs.1))) ?_
    rw [show locB vs (.str l) = true from hs.1]
    walk_at "d"
    rw [h]
    walk_at "d"
    refine term_run hk h0 hs.2.1 ?_
    walk_at "d"
    rw [isNotN hs.2.1]
    simp only [enc_whl] at pt
    walk_at "d"
    exact pt _ _
  | rt t =>
    simp only [okSm, Bool.and_eq_true] at hs
    have hsd := of_decide_eq_true hs.1
    walk_at "d"
    rw [h, hsd]
    walk_at "d"
    rw [h]
    walk_at "d"
    refine term_run hk h0 hs.2 ?_
    walk_at "d"
    rw [isNotN hs.2]
    simp only [enc_rt] at pt
    walk_at "d"
    exact pt _ _
end

theorem k_onICK {sd : Str} {kv : List (Key × D)} {pl : Int} {k : Str → List (Str × D) → Prop} : onI (some (CK sd kv pl)) k = k "Checker" [("side", .str sd), ("sizes", .dic kv), ("place", .int pl)] := rfl
local macro_rules | `(tactic| walk_at "d") => `(tactic| simp -implicitDefEqProofs only [↓DL.k_F, ↓DL.k_M, ↓DL.k_onV, ↓DL.k_onL, ↓DL.k_onO, ↓DL.k_onN, ↓DL.r_C, ↓DL.r_var, ↓DL.k_Op2, ↓DL.k_Op, ↓DL.r_op, ↓DL.r_un, ↓DL.r_app, ↓DL.r_call, ↓DL.r_callF, ↓DL.k_CK2, ↓DL.k_CK, ↓DL.r_callK, ↓DL.r_callKF, ↓DL.r_nil, ↓DL.k_A2, ↓DL.k_A, ↓DL.r_cons, ↓DL.k_AndT, ↓DL.k_AndF, ↓DL.r_and, ↓DL.k_OrT, ↓DL.k_OrF, ↓DL.r_or, ↓DL.k_Not, ↓DL.r_not, ↓DL.k_EIfT, ↓DL.k_EIfF, ↓DL.r_eIf, ↓DL.k_Ch3T, ↓DL.k_Ch3F, ↓DL.k_Ch2, ↓DL.k_Ch1, ↓DL.r_chain, ↓DL.k_T, ↓DL.r_of, ↓DL.k_TAT, ↓DL.k_TAF, ↓DL.r_tand, ↓DL.k_TOT, ↓DL.k_TOF, ↓DL.r_tor, ↓DL.k_TN, ↓DL.r_tnot, ↓DL.r_tTrue, ↓DL.k_Asg, ↓DL.r_asg, ↓DL.k_Nx, ↓DL.r_expr, ↓DL.k_Rt, ↓DL.r_ret, ↓DL.r_retN, ↓DL.k_IfT, ↓DL.k_IfF, ↓DL.r_if, ↓DL.r_seq, ↓DL.r_next, ↓DL.r_break, ↓DL.r_cont, ↓DL.r_stuck, ↓DL.k_G, ↓DL.r_asgG, ↓DL.k_For, ↓DL.r_for, ↓DL.k_SI3, ↓DL.k_SI2, ↓DL.k_SI, ↓DL.r_setItemS, ↓DL.k_Ap3, ↓DL.k_Ap2, ↓DL.k_Ap1, ↓DL.r_apd, ↓DL.r_gN, ↓DL.r_iSeq, ↓DL.r_iApp, ↓DL.k_Body, ↓DL.k_Sl3, ↓DL.k_Sl2, ↓DL.k_Sl1, ↓DL.r_sl, ↓DL.r_oNone, ↓DL.k_OS, ↓DL.r_oSome, ↓DL.r_slT, ↓DL.r_slL, ↓DL.r_slS, ↓DL.r_retL, ↓DL.r_newL, ↓DL.r_lc, ↓DL.r_lcM, ↓DL.r_add, ↓DL.r_sub, ↓DL.r_mod, ↓DL.r_div, ↓DL.r_pow1018, ↓DL.r_lt, ↓DL.r_le, ↓DL.r_gt, ↓DL.r_ge, ↓DL.r_neg, ↓DL.r_eqII, ↓DL.r_neII, ↓DL.r_eqSS, ↓DL.r_neSS, ↓DL.r_eqBB, ↓DL.r_neBB, ↓DL.r_isN, ↓DL.r_isB, ↓DL.r_notN, ↓DL.r_int1, ↓DL.r_intb, ↓DL.r_abs, ↓DL.k_Get, ↓DL.r_ixT, ↓DL.r_ixL, ↓DL.r_asLR, ↓DL.r_asLL, ↓DL.r_ixRef, ↓DL.r_lenT, ↓DL.r_lenL, ↓DL.k_Len, ↓DL.r_lenRef, ↓DL.r_sumRef, ↓DL.k_SetJ, ↓DL.k_Set, ↓DL.r_setRef, ↓DL.k_App, ↓DL.r_appRef, ↓DL.r_tup0, ↓DL.r_tup1, ↓DL.r_tup2, ↓DL.r_tup3, ↓DL.r_tup4, ↓DL.r_tup5, ↓DL.r_tup6, ↓DL.r_tup7, ↓DL.r_tup8, ↓DL.r_lst0, ↓DL.r_ref0, ↓DL.r_ref1, ↓DL.r_ref2, ↓DL.r_ref3, ↓DL.r_ref4, ↓DL.r_ref5, ↓DL.r_ref6, ↓DL.r_listL, ↓DL.r_listT, ↓DL.r_tupleL, ↓DL.r_seqT, ↓DL.r_seqL, ↓DL.r_range1, ↓DL.r_range2, ↓DL.r_strEq, ↓DL.r_strEq2, ↓DL.r_isT0, ↓DL.r_isT1, ↓DL.r_isT2, ↓DL.r_isT3, ↓DL.r_isT4, ↓DL.r_isT5, ↓DL.r_isT6, ↓DL.r_isT7, ↓DL.r_isT8, ↓DL.r_isT9, ↓DL.r_isT10, ↓DL.r_isT11, ↓DL.r_isT12, ↓DL.r_isT13, ↓DL.r_isT14, ↓DL.r_isT15, ↓DL.r_isT16, ↓DL.r_isT17, ↓DL.r_isT18, ↓DL.r_isT19, ↓DL.r_isT20, ↓DL.r_isT21, ↓DL.r_isT22, ↓DL.r_isT23, ↓DL.r_isT24, ↓DL.r_isT25, ↓DL.r_isT26, ↓DL.r_isT27, ↓DL.r_isT28, ↓DL.r_isT29, ↓DL.r_isT30, ↓DL.r_isT31, ↓DL.r_isT32, ↓DL.r_isT33, ↓DL.r_isT34, ↓DL.r_isT35, ↓DL.r_isiN, ↓DL.r_isi2N, ↓DL.r_isiB, ↓DL.r_isi2B, ↓DL.r_isiI, ↓DL.r_isi2I, ↓DL.r_isiS, ↓DL.r_isi2S, ↓DL.r_isiT, ↓DL.r_isi2T, ↓DL.r_isiL, ↓DL.r_isi2L, ↓DL.r_inTI, ↓DL.r_ninTI, ↓DL.r_inLI, ↓DL.r_ninLI, ↓DL.r_inTS, ↓DL.r_inD_nil, ↓DL.r_inD_cons, ↓DL.r_flat_nil, ↓DL.r_flat_cons, ↓DL.r_flatS, ↓DL.r_flatI, ↓DL.r_eqvSS, ↓DL.r_eqvII, ↓DL.r_addLL, ↓DL.r_atm1, ↓DL.r_atm2, ↓DL.r_at0, ↓DL.r_at1, ↓DL.r_at2, ↓DL.r_at3, ↓DL.r_at4, ↓DL.r_at5, ↓DL.r_at6, ↓DL.r_at7, ↓DL.r_at8, ↓DL.r_beqI, ↓DL.r_ndec, ↓DL.r_gT, ↓DL.k_Gs, ↓DL.r_gsCons, ↓DL.r_gsNil, ↓DL.r_isDNN, ↓DL.r_isDBB, ↓DL.r_isDBN, ↓DL.r_isDNB, ↓DL.r_isDIN, ↓DL.r_isDIB, ↓DL.r_isDSN, ↓DL.r_isDSB, ↓DL.r_isDTN, ↓DL.r_isDTB, ↓DL.r_isDLN, ↓DL.r_isDLB, ↓DL.r_isDRN, ↓DL.r_isDRB, ↓DL.r_beqTT, ↓DL.r_beqTF, ↓DL.r_beqFT, ↓DL.r_beqFF, ↓DL.k_onI, ↓DL.k_Fld2, ↓DL.r_fld, ↓DL.k_FldR, ↓DL.k_FldO, ↓DL.r_look, ↓DL.r_lookN, ↓DL.r_putD, ↓DL.r_putDN, ↓DL.k_SF3, ↓DL.r_setFldR, ↓DL.k_SF2, ↓DL.k_SF1, ↓DL.r_setFld, ↓DL.r_methF, ↓DL.k_Me2, ↓DL.r_meth, ↓DL.k_MeR, ↓DL.k_MeO, ↓DL.r_make, ↓DL.k_MkN, ↓DL.r_makeF, ↓DL.k_CG2, ↓DL.k_CG, ↓DL.r_callG, ↓DL.r_callGF, ↓DL.r_listRg, ↓DL.r_tupRg, ↓DL.k_SlR, ↓DL.r_slR, ↓DL.r_enumL, ↓DL.r_max2, ↓DL.r_min2, ↓DL.r_isi2R, ↓DL.r_isiR, ↓DL.r_lst1, ↓DL.r_lst2, ↓DL.r_lst3, ↓DL.r_lst4, ↓DL.r_lst5, ↓DL.r_lst6, ↓DL.r_lst7, ↓DL.r_lst8, ↓DL.r_lst9, ↓DL.r_lst10, ↓DL.r_lst11, ↓DL.r_lst12, ↓DL.r_seqR, ↓DL.k_ForR, ↓DL.r_minL, ↓DL.r_clr, ↓DL.k_Clr1R, ↓DL.k_LstR, ↓DL.r_listRef, ↓DL.r_enumJL, ↓DL.r_enumJT, ↓DL.k_Clr2, ↓DL.k_MG2, ↓DL.k_MG, ↓DL.r_makeG, ↓DL.r_makeGF, ↓DL.r_prop, ↓DL.k_Pr2, ↓DL.k_PrR, ↓DL.k_Eq3, ↓DL.r_isiCN, ↓DL.r_isiCS, ↓DL.r_isiCT, ↓DL.k_Ix3, ↓DL.k_Ix2, ↓DL.k_Ix1, ↓DL.r_index, ↓DL.r_iStr, ↓DL.r_strI, ↓DL.k_T2, ↓DL.k_T1S, ↓DL.r_join, ↓DL.r_sindex, ↓DL.k_Rz, ↓DL.r_raise, ↓DL.r_raise0, ↓DL.k_Ex, ↓DL.r_try, ↓DL.k_trNx, ↓DL.k_trRt, ↓DL.k_trBk, ↓DL.k_trCt, ↓DL.k_trEx, ↓DL.k_hdlN, ↓DL.k_hdlT, ↓DL.k_hdlF, ↓DL.k_setSlN, ↓DL.k_setSlS, ↓DL.k_endNx, ↓DL.k_endRt, ↓DL.k_endBk, ↓DL.k_endCt, ↓DL.r_xf, ↓DL.r_xfD, ↓DL.r_isE, ↓DL.r_isED, ↓DL.r_isiDc, ↓DL.r_isi2Dc, ↓DL.k_In4, ↓DL.k_In3, ↓DL.k_In2, ↓DL.k_In1, ↓DL.r_ins, ↓DL.r_addI, ↓DL.k_Fa4, ↓DL.k_Fa3, ↓DL.k_Fa2, ↓DL.k_FaR, ↓DL.r_fldaug, ↓DL.r_dinL, ↓DL.r_dinD, ↓DL.r_dninL, ↓DL.r_dninD, ↓DL.r_dgetL, ↓DL.r_dgetD, ↓DL.r_lenDL, ↓DL.r_lenDD, ↓DL.r_dictL, ↓DL.r_dictD, ↓DL.r_isiLc, ↓DL.r_isi2Lc, ↓DL.r_isTd0, ↓DL.r_isTd1, ↓DL.r_isTd2, ↓DL.r_isTd3, ↓DL.r_isTd4, ↓DL.r_newD, ↓DL.r_frzLs, ↓DL.r_items, ↓DL.r_inK, ↓DL.r_ninK, ↓DL.r_getK, ↓DL.r_dispM, ↓DL.k_Dp2, ↓DL.k_Dp1, ↓DL.r_pairsN, ↓DL.r_pairsC, ↓DL.r_dispF1, ↓DL.r_gTn, ↓DL.k_Gf1, ↓DL.r_gFld, ↓DL.Kt.seq_nx, ↓DL.Kt.seq_rt, ↓DL.Kt.seq_bk, ↓DL.Kt.seq_ct, ↓DL.Kt.seq_ex, ↓DL.Kt.fin_nx, ↓DL.Kt.fin_rt, ↓DL.Kt.fin_ex, ↓DL.Kt.loop_nx, ↓DL.Kt.loop_rt, ↓DL.Kt.loop_bk, ↓DL.Kt.loop_ct, ↓DL.Kt.loop_ex, ↓DL.C.run_ret, ↓DL.mset_same, ↓DL.mset_mset, startD, ixN, Option.bind_some, Option.map_some, List.map_cons, List.map_nil, List.length_cons, List.length_nil, List.length_set, List.replicate, List.cons_append, List.nil_append, List.append_nil, List.set_cons_zero, List.set_cons_succ, List.getElem?_cons_zero, List.getElem?_cons_succ, Nat.reduceAdd, Nat.reduceSub, Nat.zero_add, if_true, if_false, decide_eq_true_eq, reduceIte, Bool.not_true, Bool.not_false, beq_self_eq_true, Bool.false_eq_true, Int.reduceLT, Int.reduceLE, Int.reduceNeg, Int.reduceToNat, Int.reduceAdd, Int.reduceSub, Nat.reduceLT, Nat.reduceLeDiff, Int.cast_ofNat_Int, Int.reduceEq, Int.reduceBEq, DL.wipeD, decide_true, decide_false, not_true_eq_false, not_false_eq_true, String.reduceEq, Bool.or_true, Bool.or_false, Bool.true_or, Bool.false_or, Bool.and_true, Bool.and_false, Bool.true_and, Bool.false_and, Bool.not_not, Nat.reduceEqDiff, Int.toNat_natCast, Decidable.not_not, List.mem_cons, List.not_mem_nil, or_false, or_true, true_or, false_or, and_true, true_and, and_self, and_false, false_and, reduceCtorEq, Option.isNone_some, Option.isNone_none, Option.isSome_some, Option.isSome_none, List.zip_cons_cons, List.zip_nil_right, List.zip_nil_left, List.reverse_cons, List.reverse_nil, Option.getD_some, Option.getD_none, r_tb_LENGTHS_0, r_tb_LENGTHS_1, r_tb_LENGTHS_2, r_tb_LENGTHS_3, r_tb_LENGTHS_4, r_tb_LENGTHS_5, r_in_BadProgram, r_xs_BadProgram_BadProgram, sizeLine_eq, r_sl3, r_seqB, r_lenB, r_ixB, r_isB, r_is2B, r_enumB, sumf_run, enc_wr, enc_gt, enc_st, enc_ite, enc_whl, enc_rt, endsS_wr, endsS_gt, endsS_st, endsS_ite, endsS_whl, endsS_rt, bareS_wr, bareS_gt, bareS_st, bareS_ite, bareS_whl, bareS_rt, cutr3_4, cutr3_5, r_addTT, cs_sizes, cs_side, cs_place, k_MOST_STATEMENTS, k_MOST_DEPTH, dvD_int, k_onICK, cut3_2, cut3_3, cut3_4, cut3_5])
local macro_rules | `(tactic| walk_at "h") => `(tactic| simp -implicitDefEqProofs only [↓DL.k_F, ↓DL.k_M, ↓DL.k_onV, ↓DL.k_onL, ↓DL.k_onO, ↓DL.k_onN, ↓DL.r_C, ↓DL.r_var, ↓DL.k_Op2, ↓DL.k_Op, ↓DL.r_op, ↓DL.r_un, ↓DL.r_app, ↓DL.r_call, ↓DL.r_callF, ↓DL.k_CK2, ↓DL.k_CK, ↓DL.r_callK, ↓DL.r_callKF, ↓DL.r_nil, ↓DL.k_A2, ↓DL.k_A, ↓DL.r_cons, ↓DL.k_AndT, ↓DL.k_AndF, ↓DL.r_and, ↓DL.k_OrT, ↓DL.k_OrF, ↓DL.r_or, ↓DL.k_Not, ↓DL.r_not, ↓DL.k_EIfT, ↓DL.k_EIfF, ↓DL.r_eIf, ↓DL.k_Ch3T, ↓DL.k_Ch3F, ↓DL.k_Ch2, ↓DL.k_Ch1, ↓DL.r_chain, ↓DL.k_T, ↓DL.r_of, ↓DL.k_TAT, ↓DL.k_TAF, ↓DL.r_tand, ↓DL.k_TOT, ↓DL.k_TOF, ↓DL.r_tor, ↓DL.k_TN, ↓DL.r_tnot, ↓DL.r_tTrue, ↓DL.k_Asg, ↓DL.r_asg, ↓DL.k_Nx, ↓DL.r_expr, ↓DL.k_Rt, ↓DL.r_ret, ↓DL.r_retN, ↓DL.k_IfT, ↓DL.k_IfF, ↓DL.r_if, ↓DL.r_seq, ↓DL.r_next, ↓DL.r_break, ↓DL.r_cont, ↓DL.r_stuck, ↓DL.k_G, ↓DL.r_asgG, ↓DL.k_For, ↓DL.r_for, ↓DL.k_SI3, ↓DL.k_SI2, ↓DL.k_SI, ↓DL.r_setItemS, ↓DL.k_Ap3, ↓DL.k_Ap2, ↓DL.k_Ap1, ↓DL.r_apd, ↓DL.r_gN, ↓DL.r_iSeq, ↓DL.r_iApp, ↓DL.k_Body, ↓DL.k_Sl3, ↓DL.k_Sl2, ↓DL.k_Sl1, ↓DL.r_sl, ↓DL.r_oNone, ↓DL.k_OS, ↓DL.r_oSome, ↓DL.r_slT, ↓DL.r_slL, ↓DL.r_slS, ↓DL.r_retL, ↓DL.r_newL, ↓DL.r_lc, ↓DL.r_lcM, ↓DL.r_add, ↓DL.r_sub, ↓DL.r_mod, ↓DL.r_div, ↓DL.r_pow1018, ↓DL.r_lt, ↓DL.r_le, ↓DL.r_gt, ↓DL.r_ge, ↓DL.r_neg, ↓DL.r_eqII, ↓DL.r_neII, ↓DL.r_eqSS, ↓DL.r_neSS, ↓DL.r_eqBB, ↓DL.r_neBB, ↓DL.r_isN, ↓DL.r_isB, ↓DL.r_notN, ↓DL.r_int1, ↓DL.r_intb, ↓DL.r_abs, ↓DL.k_Get, ↓DL.r_ixT, ↓DL.r_ixL, ↓DL.r_asLR, ↓DL.r_asLL, ↓DL.r_ixRef, ↓DL.r_lenT, ↓DL.r_lenL, ↓DL.k_Len, ↓DL.r_lenRef, ↓DL.r_sumRef, ↓DL.k_SetJ, ↓DL.k_Set, ↓DL.r_setRef, ↓DL.k_App, ↓DL.r_appRef, ↓DL.r_tup0, ↓DL.r_tup1, ↓DL.r_tup2, ↓DL.r_tup3, ↓DL.r_tup4, ↓DL.r_tup5, ↓DL.r_tup6, ↓DL.r_tup7, ↓DL.r_tup8, ↓DL.r_lst0, ↓DL.r_ref0, ↓DL.r_ref1, ↓DL.r_ref2, ↓DL.r_ref3, ↓DL.r_ref4, ↓DL.r_ref5, ↓DL.r_ref6, ↓DL.r_listL, ↓DL.r_listT, ↓DL.r_tupleL, ↓DL.r_seqT, ↓DL.r_seqL, ↓DL.r_range1, ↓DL.r_range2, ↓DL.r_strEq, ↓DL.r_strEq2, ↓DL.r_isT0, ↓DL.r_isT1, ↓DL.r_isT2, ↓DL.r_isT3, ↓DL.r_isT4, ↓DL.r_isT5, ↓DL.r_isT6, ↓DL.r_isT7, ↓DL.r_isT8, ↓DL.r_isT9, ↓DL.r_isT10, ↓DL.r_isT11, ↓DL.r_isT12, ↓DL.r_isT13, ↓DL.r_isT14, ↓DL.r_isT15, ↓DL.r_isT16, ↓DL.r_isT17, ↓DL.r_isT18, ↓DL.r_isT19, ↓DL.r_isT20, ↓DL.r_isT21, ↓DL.r_isT22, ↓DL.r_isT23, ↓DL.r_isT24, ↓DL.r_isT25, ↓DL.r_isT26, ↓DL.r_isT27, ↓DL.r_isT28, ↓DL.r_isT29, ↓DL.r_isT30, ↓DL.r_isT31, ↓DL.r_isT32, ↓DL.r_isT33, ↓DL.r_isT34, ↓DL.r_isT35, ↓DL.r_isiN, ↓DL.r_isi2N, ↓DL.r_isiB, ↓DL.r_isi2B, ↓DL.r_isiI, ↓DL.r_isi2I, ↓DL.r_isiS, ↓DL.r_isi2S, ↓DL.r_isiT, ↓DL.r_isi2T, ↓DL.r_isiL, ↓DL.r_isi2L, ↓DL.r_inTI, ↓DL.r_ninTI, ↓DL.r_inLI, ↓DL.r_ninLI, ↓DL.r_inTS, ↓DL.r_inD_nil, ↓DL.r_inD_cons, ↓DL.r_flat_nil, ↓DL.r_flat_cons, ↓DL.r_flatS, ↓DL.r_flatI, ↓DL.r_eqvSS, ↓DL.r_eqvII, ↓DL.r_addLL, ↓DL.r_atm1, ↓DL.r_atm2, ↓DL.r_at0, ↓DL.r_at1, ↓DL.r_at2, ↓DL.r_at3, ↓DL.r_at4, ↓DL.r_at5, ↓DL.r_at6, ↓DL.r_at7, ↓DL.r_at8, ↓DL.r_beqI, ↓DL.r_ndec, ↓DL.r_gT, ↓DL.k_Gs, ↓DL.r_gsCons, ↓DL.r_gsNil, ↓DL.r_isDNN, ↓DL.r_isDBB, ↓DL.r_isDBN, ↓DL.r_isDNB, ↓DL.r_isDIN, ↓DL.r_isDIB, ↓DL.r_isDSN, ↓DL.r_isDSB, ↓DL.r_isDTN, ↓DL.r_isDTB, ↓DL.r_isDLN, ↓DL.r_isDLB, ↓DL.r_isDRN, ↓DL.r_isDRB, ↓DL.r_beqTT, ↓DL.r_beqTF, ↓DL.r_beqFT, ↓DL.r_beqFF, ↓DL.k_onI, ↓DL.k_Fld2, ↓DL.r_fld, ↓DL.k_FldR, ↓DL.k_FldO, ↓DL.r_look, ↓DL.r_lookN, ↓DL.r_putD, ↓DL.r_putDN, ↓DL.k_SF3, ↓DL.r_setFldR, ↓DL.k_SF2, ↓DL.k_SF1, ↓DL.r_setFld, ↓DL.r_methF, ↓DL.k_Me2, ↓DL.r_meth, ↓DL.k_MeR, ↓DL.k_MeO, ↓DL.r_make, ↓DL.k_MkN, ↓DL.r_makeF, ↓DL.k_CG2, ↓DL.k_CG, ↓DL.r_callG, ↓DL.r_callGF, ↓DL.r_listRg, ↓DL.r_tupRg, ↓DL.k_SlR, ↓DL.r_slR, ↓DL.r_enumL, ↓DL.r_max2, ↓DL.r_min2, ↓DL.r_isi2R, ↓DL.r_isiR, ↓DL.r_lst1, ↓DL.r_lst2, ↓DL.r_lst3, ↓DL.r_lst4, ↓DL.r_lst5, ↓DL.r_lst6, ↓DL.r_lst7, ↓DL.r_lst8, ↓DL.r_lst9, ↓DL.r_lst10, ↓DL.r_lst11, ↓DL.r_lst12, ↓DL.r_seqR, ↓DL.k_ForR, ↓DL.r_minL, ↓DL.r_clr, ↓DL.k_Clr1R, ↓DL.k_LstR, ↓DL.r_listRef, ↓DL.r_enumJL, ↓DL.r_enumJT, ↓DL.k_Clr2, ↓DL.k_MG2, ↓DL.k_MG, ↓DL.r_makeG, ↓DL.r_makeGF, ↓DL.r_prop, ↓DL.k_Pr2, ↓DL.k_PrR, ↓DL.k_Eq3, ↓DL.r_isiCN, ↓DL.r_isiCS, ↓DL.r_isiCT, ↓DL.k_Ix3, ↓DL.k_Ix2, ↓DL.k_Ix1, ↓DL.r_index, ↓DL.r_iStr, ↓DL.r_strI, ↓DL.k_T2, ↓DL.k_T1S, ↓DL.r_join, ↓DL.r_sindex, ↓DL.k_Rz, ↓DL.r_raise, ↓DL.r_raise0, ↓DL.k_Ex, ↓DL.r_try, ↓DL.k_trNx, ↓DL.k_trRt, ↓DL.k_trBk, ↓DL.k_trCt, ↓DL.k_trEx, ↓DL.k_hdlN, ↓DL.k_hdlT, ↓DL.k_hdlF, ↓DL.k_setSlN, ↓DL.k_setSlS, ↓DL.k_endNx, ↓DL.k_endRt, ↓DL.k_endBk, ↓DL.k_endCt, ↓DL.r_xf, ↓DL.r_xfD, ↓DL.r_isE, ↓DL.r_isED, ↓DL.r_isiDc, ↓DL.r_isi2Dc, ↓DL.k_In4, ↓DL.k_In3, ↓DL.k_In2, ↓DL.k_In1, ↓DL.r_ins, ↓DL.r_addI, ↓DL.k_Fa4, ↓DL.k_Fa3, ↓DL.k_Fa2, ↓DL.k_FaR, ↓DL.r_fldaug, ↓DL.r_dinL, ↓DL.r_dinD, ↓DL.r_dninL, ↓DL.r_dninD, ↓DL.r_dgetL, ↓DL.r_dgetD, ↓DL.r_lenDL, ↓DL.r_lenDD, ↓DL.r_dictL, ↓DL.r_dictD, ↓DL.r_isiLc, ↓DL.r_isi2Lc, ↓DL.r_isTd0, ↓DL.r_isTd1, ↓DL.r_isTd2, ↓DL.r_isTd3, ↓DL.r_isTd4, ↓DL.r_newD, ↓DL.r_frzLs, ↓DL.r_items, ↓DL.r_inK, ↓DL.r_ninK, ↓DL.r_getK, ↓DL.r_dispM, ↓DL.k_Dp2, ↓DL.k_Dp1, ↓DL.r_pairsN, ↓DL.r_pairsC, ↓DL.r_dispF1, ↓DL.r_gTn, ↓DL.k_Gf1, ↓DL.r_gFld, ↓DL.Kt.seq_nx, ↓DL.Kt.seq_rt, ↓DL.Kt.seq_bk, ↓DL.Kt.seq_ct, ↓DL.Kt.seq_ex, ↓DL.Kt.fin_nx, ↓DL.Kt.fin_rt, ↓DL.Kt.fin_ex, ↓DL.Kt.loop_nx, ↓DL.Kt.loop_rt, ↓DL.Kt.loop_bk, ↓DL.Kt.loop_ct, ↓DL.Kt.loop_ex, ↓DL.C.run_ret, ↓DL.mset_same, ↓DL.mset_mset, startD, ixN, Option.bind_some, Option.map_some, List.map_cons, List.map_nil, List.length_cons, List.length_nil, List.length_set, List.replicate, List.cons_append, List.nil_append, List.append_nil, List.set_cons_zero, List.set_cons_succ, List.getElem?_cons_zero, List.getElem?_cons_succ, Nat.reduceAdd, Nat.reduceSub, Nat.zero_add, if_true, if_false, decide_eq_true_eq, reduceIte, Bool.not_true, Bool.not_false, beq_self_eq_true, Bool.false_eq_true, Int.reduceLT, Int.reduceLE, Int.reduceNeg, Int.reduceToNat, Int.reduceAdd, Int.reduceSub, Nat.reduceLT, Nat.reduceLeDiff, Int.cast_ofNat_Int, Int.reduceEq, Int.reduceBEq, DL.wipeD, decide_true, decide_false, not_true_eq_false, not_false_eq_true, String.reduceEq, Bool.or_true, Bool.or_false, Bool.true_or, Bool.false_or, Bool.and_true, Bool.and_false, Bool.true_and, Bool.false_and, Bool.not_not, Nat.reduceEqDiff, Int.toNat_natCast, Decidable.not_not, List.mem_cons, List.not_mem_nil, or_false, or_true, true_or, false_or, and_true, true_and, and_self, and_false, false_and, reduceCtorEq, Option.isNone_some, Option.isNone_none, Option.isSome_some, Option.isSome_none, List.zip_cons_cons, List.zip_nil_right, List.zip_nil_left, List.reverse_cons, List.reverse_nil, Option.getD_some, Option.getD_none, r_tb_LENGTHS_0, r_tb_LENGTHS_1, r_tb_LENGTHS_2, r_tb_LENGTHS_3, r_tb_LENGTHS_4, r_tb_LENGTHS_5, r_in_BadProgram, r_xs_BadProgram_BadProgram, sizeLine_eq, r_sl3, r_seqB, r_lenB, r_ixB, r_isB, r_is2B, r_enumB, sumf_run, enc_wr, enc_gt, enc_st, enc_ite, enc_whl, enc_rt, endsS_wr, endsS_gt, endsS_st, endsS_ite, endsS_whl, endsS_rt, bareS_wr, bareS_gt, bareS_st, bareS_ite, bareS_whl, bareS_rt, cutr3_4, cutr3_5, r_addTT, cs_sizes, cs_side, cs_place, k_MOST_STATEMENTS, k_MOST_DEPTH, dvD_int, k_onICK, cut3_2, cut3_3, cut3_4, cut3_5, *])
local macro_rules | `(tactic| walk_at "s") => `(tactic| ((try walk_at "h"); repeat' ((first | with_reducible refine if_dec (fun _ => ?_) (fun _ => ?_) | with_reducible refine eif_dec (fun _ => ?_) (fun _ => ?_) | with_reducible refine tor_dec (fun _ => ?_) (fun _ => ?_) | with_reducible refine tand_dec (fun _ => ?_) (fun _ => ?_) | with_reducible refine and_dec (fun _ => ?_) (fun _ => ?_) | with_reducible refine or_dec (fun _ => ?_) (fun _ => ?_) | with_reducible refine ch_dec (fun _ => ?_) (fun _ => ?_)) <;> (try walk_at "h"))))
section
variable {sd : Str} {kv : List (Key × D)} {vs : List Str} {ck : Addr}
def FormB (sd : Str) (kv : List (Key × D)) (vs : List Str) (ck : Addr) (n : Nat) : Prop := ∀ (b : List Sm) (d : Nat) (pl : Int) (m : Mem) (Q : D → Mem → Prop) (E : Xn → Mem → Prop), 2 * deps b + 2 ≤ n → okBk sd vs d b = true → m ck = some (CK sd kv pl) → 0 ≤ pl → pl + cnts b ≤ 16 →
  Q (blkD b) (mset m ck (CK sd kv (pl + cnts b))) → (d_Checker_block_form n [.ref ck, blkD b, .int d]).run m Q E
def FormS (sd : Str) (kv : List (Key × D)) (vs : List Str) (ck : Addr) (n : Nat) : Prop := ∀ (s : Sm) (d : Nat) (pl : Int) (m : Mem) (Q : D → Mem → Prop) (E : Xn → Mem → Prop), 2 * dep s + 1 ≤ n → okSm sd vs d s = true → m ck = some (CK sd kv pl) → 0 ≤ pl → pl + cnt s ≤ 16 →
  Q (enc s) (mset m ck (CK sd kv (pl + cnt s))) → (d_Checker_statement_form n [.ref ck, enc s, .int d]).run m Q E
theorem formB_step {n : Nat} (ih : FormS sd kv vs ck n) : FormB sd kv vs ck (n + 1) := by
  intro b d pl m Q E hn hb hck h0 h16 q
  rw [d_Checker_block_form_s]
  refine fn_run ?_
  unfold p_Checker_block_form
  walk_at "d"
  refine lc_st (enc := enc) (out := enc) (xs := b) (fun pre m' => m' = mset m ck (CK sd kv (pl + cnts pre))) (Nat.le_trans (length_cnts b) (Nat.le_trans (show cnts b ≤ 1000 by omega) (by decide))) ?_ ?_ ?_
  · rw [cnts_nil]
    have e : pl + ((0 : Nat) : Int) = pl := by omega
    rw [e, mset_id hck]
  · rintro pre s r hsp m1 rfl
    walk_at "d"
    have hm : s ∈ b := by rw [hsp]; simp
    have hd := deps_mem hm
    have hcb : cnts b = cnts pre + (cnt s + cnts r) := by rw [hsp, cnts_append, cnts_cons]
    refine ih s d (pl + cnts pre) _ _ _ (by omega) (okBk_mem hb hm) mset_same (by omega) (by omega) ?_
    refine ⟨rfl, ?_⟩
    rw [mset_mset, cnts_append, cnts_cons, cnts_nil]
    congr 2
    omega
  · rintro m1 rfl
    walk_at "d"
    exact q
theorem form_loop {n : Nat} (ih : FormB sd kv vs ck n) {d : Nat} {pl : Int} {m : Mem} {K : Kt} {w : List D} {x1 x3 x4 y6 : Option D} {F : List D} (hF : F.length ≤ 5) (bs : List (List Sm)) (h3 : bs.length ≤ 3) (hbs : ∀ b ∈ bs, 2 * deps b + 2 ≤ n ∧ okBk sd vs (d + 1) b = true) (h0 : 0 ≤ pl) (h16 : pl + (bs.map cnts).sum ≤ 16)
    (q : ∀ y6, K.nx [some (.ref ck), x1, some (.int d), x3, x4, some (.tup (F ++ bs.map blkD)), y6] (mset m ck (CK sd kv (pl + (bs.map cnts).sum)))) :
    forD w none (gN 6) (p_Checker_statement_form_b0 (d_Checker_block_form n) (d_Checker_statement_form n)) K (bs.map blkD) [some (.ref ck), x1, some (.int d), x3, x4, some (.tup F), y6] (mset m ck (CK sd kv pl)) := by
  refine for_map (enc := blkD) (xs := bs) (fun pre δ m' => ∃ y6, δ = [some (.ref ck), x1, some (.int d), x3, x4, some (.tup (F ++ pre.map blkD)), y6] ∧ m' = mset m ck (CK sd kv (pl + (pre.map cnts).sum))) ⟨y6, by simp, by simp⟩ ?_ ?_
  · rintro pre b r δ m1 hsp ⟨y6, rfl, rfl⟩
    walk_at "d"
    unfold p_Checker_statement_form_b0
    have hm : b ∈ bs := by rw [hsp]; simp
    obtain ⟨h1, h2⟩ := hbs b hm
    have hs : (bs.map cnts).sum = (pre.map cnts).sum + (cnts b + (r.map cnts).sum) := by rw [hsp]; simp
    have hl : pre.length + 1 + r.length ≤ 3 := by rw [hsp] at h3; simp at h3; omega
    walk_at "d"
    refine ih b (d + 1) (pl + (pre.map cnts).sum) _ _ _ h1 h2 mset_same (by omega) (by omega) ?_
    walk_at "d"
    rw [r_addTT (by rw [sizeLine_eq, List.length_append, List.length_map]; simp; omega)]
    walk_at "d"
    refine ⟨some (blkD b), ?_, ?_⟩
    · simp
    · simp
      rw [Int.add_assoc]
  · rintro δ m1 ⟨y6, rfl, rfl⟩
    exact q y6
theorem formS_step {n : Nat} (hk : KV kv vs) (ih : FormB sd kv vs ck n) : FormS sd kv vs ck (n + 1) := by
  intro s d pl m Q E hn hs hck h0 h16 q
  rw [d_Checker_statement_form_s]
  refine fn_run ?_
  unfold p_Checker_statement_form
  have hp := cnt_pos s
  have hck' := hck
  unfold CK at hck'
  have hne : ¬ (pl = 16) := by omega
  walk_at "d"
  rw [hck']
  walk_at "d"
  rw [hck']
  walk_at "d"
  rw [k_Fa4 hck' (by simp)]
  have hck1 : mset m ck (CK sd kv (pl + 1)) ck = some (CK sd kv (pl + 1)) := mset_same
  walk_at "d"
  rw [decide_eq_false hne]
  have em : mset m ck (.ins "Checker" [("side", .str sd), ("sizes", .dic kv), ("place", .int (pl + 1))]) = mset m ck (CK sd kv (pl + 1)) := rfl
  have e1 : ∀ k : Nat, pl + 1 + (k : Int) = pl + ((1 + k : Nat) : Int) := fun k => by omega
  rw [em]
  have hr := fun (Q : D → Mem → Prop) (E : Xn → Mem → Prop) => reason_run (m := mset m ck (CK sd kv (pl + 1))) (Q := Q) (E := E) hk hck1 hs
  have c1 : ∀ x : Sm, x.subs = [] → ((cnt x : Nat) : Int) = ((1 : Nat) : Int) := fun x e => by rw [cnt_subs, e]; rfl
  cases s with
  | rt t =>
    rw [c1 _ rfl] at q
    have hs' := hs
    simp only [okSm, Bool.and_eq_true] at hs'
    simp only [enc_rt] at hr q
    walk_at "d"
    refine isrow_run ?_
    walk_at "d"
    refine hr _ _ ?_
    walk_at "d"
    refine term_run hk hck1 hs'.2 ?_
    walk_at "d"
    exact q
  | gt l c =>
    rw [c1 _ rfl] at q
    simp only [enc_gt] at hr q
    walk_at "d"
    refine isrow_run ?_
    walk_at "d"
    refine hr _ _ ?_
    walk_at "d"
    exact q
  | wr c t =>
    rw [c1 _ rfl] at q
    have hs' := hs
    simp only [okSm, Bool.and_eq_true] at hs'
    simp only [enc_wr] at hr q
    walk_at "d"
    refine isrow_run ?_
    walk_at "d"
    refine hr _ _ ?_
    walk_at "d"
    refine term_run hk hck1 hs'.2 ?_
    walk_at "d"
    refine form_loop ih (by simp) [] (by simp) (fun b hb => by simp at hb) (by omega) (by simp; omega) fun y6 => ?_
    walk_at "d"
    have e : pl + 1 + (([] : List Nat).sum : Nat) = pl + ((1 : Nat) : Int) := by simp
    rw [e]
    exact q
  | st l t =>
    rw [c1 _ rfl] at q
    have hs' := hs
    simp only [okSm, Bool.and_eq_true] at hs'
    simp only [enc_st] at hr q
    walk_at "d"
    refine isrow_run ?_
    walk_at "d"
    refine hr _ _ ?_
    walk_at "d"
    refine term_run hk hck1 hs'.2 ?_
    walk_at "d"
    refine form_loop ih (by simp) [] (by simp) (fun b hb => by simp at hb) (by omega) (by simp; omega) fun y6 => ?_
    walk_at "d"
    have e : pl + 1 + (([] : List Nat).sum : Nat) = pl + ((1 : Nat) : Int) := by simp
    rw [e]
    exact q
  | whl l t b =>
    have hs' := hs
    simp only [okSm, Bool.and_eq_true] at hs'
    simp only [enc_whl] at hr q
    rw [cnt_whl] at h16 q
    have h1 := dep_whl1 (l := l) (t := t) (b := b)
    walk_at "d"
    refine isrow_run ?_
    walk_at "d"
    refine hr _ _ ?_
    walk_at "d"
    refine term_run hk hck1 hs'.2.1 ?_
    walk_at "d"
    refine form_loop ih (by simp) [b] (by simp) (fun b' hb => ?_) (by omega) (by simp; omega) fun y6 => ?_
    · rw [List.mem_singleton.mp hb]
      exact ⟨by omega, hs'.2.2.2⟩
    · walk_at "d"
      have e : pl + 1 + (([cnts b]).sum : Nat) = pl + ((1 + cnts b : Nat) : Int) := by simp; omega
      rw [e]
      exact q
  | ite l t yy nn =>
    have hs' := hs
    simp only [okSm, Bool.and_eq_true] at hs'
    simp only [enc_ite] at hr q
    rw [cnt_ite] at h16 q
    have h1 := dep_ite1 (l := l) (t := t) (y := yy) (n := nn)
    have h2 := dep_ite2 (l := l) (t := t) (y := yy) (n := nn)
    walk_at "d"
    refine isrow_run ?_
    walk_at "d"
    refine hr _ _ ?_
    walk_at "d"
    refine term_run hk hck1 hs'.2.1 ?_
    walk_at "d"
    refine form_loop ih (by simp) [yy, nn] (by simp) (fun b' hb => ?_) (by omega) (by simp; omega) fun y6 => ?_
    · rcases List.mem_cons.mp hb with rfl | hb
      · exact ⟨by omega, hs'.2.2.2.1⟩
      · rw [List.mem_singleton.mp hb]
        exact ⟨by omega, hs'.2.2.2.2⟩
    · walk_at "d"
      have e : pl + 1 + (([cnts yy, cnts nn]).sum : Nat) = pl + ((1 + (cnts yy + cnts nn) : Nat) : Int) := by simp; omega
      rw [e]
      exact q
theorem form_all (hk : KV kv vs) : ∀ n : Nat, FormB sd kv vs ck n ∧ FormS sd kv vs ck n
  | 0 => ⟨fun _ _ _ _ _ _ h => by omega, fun _ _ _ _ _ _ h => by omega⟩
  | n + 1 => ⟨formB_step (form_all hk n).2, formS_step hk (form_all hk n).1⟩
end

local macro_rules | `(tactic| walk_at "d") => `(tactic| simp -implicitDefEqProofs only [↓DL.k_F, ↓DL.k_M, ↓DL.k_onV, ↓DL.k_onL, ↓DL.k_onO, ↓DL.k_onN, ↓DL.r_C, ↓DL.r_var, ↓DL.k_Op2, ↓DL.k_Op, ↓DL.r_op, ↓DL.r_un, ↓DL.r_app, ↓DL.r_call, ↓DL.r_callF, ↓DL.k_CK2, ↓DL.k_CK, ↓DL.r_callK, ↓DL.r_callKF, ↓DL.r_nil, ↓DL.k_A2, ↓DL.k_A, ↓DL.r_cons, ↓DL.k_AndT, ↓DL.k_AndF, ↓DL.r_and, ↓DL.k_OrT, ↓DL.k_OrF, ↓DL.r_or, ↓DL.k_Not, ↓DL.r_not, ↓DL.k_EIfT, ↓DL.k_EIfF, ↓DL.r_eIf, ↓DL.k_Ch3T, ↓DL.k_Ch3F, ↓DL.k_Ch2, ↓DL.k_Ch1, ↓DL.r_chain, ↓DL.k_T, ↓DL.r_of, ↓DL.k_TAT, ↓DL.k_TAF, ↓DL.r_tand, ↓DL.k_TOT, ↓DL.k_TOF, ↓DL.r_tor, ↓DL.k_TN, ↓DL.r_tnot, ↓DL.r_tTrue, ↓DL.k_Asg, ↓DL.r_asg, ↓DL.k_Nx, ↓DL.r_expr, ↓DL.k_Rt, ↓DL.r_ret, ↓DL.r_retN, ↓DL.k_IfT, ↓DL.k_IfF, ↓DL.r_if, ↓DL.r_seq, ↓DL.r_next, ↓DL.r_break, ↓DL.r_cont, ↓DL.r_stuck, ↓DL.k_G, ↓DL.r_asgG, ↓DL.k_For, ↓DL.r_for, ↓DL.k_SI3, ↓DL.k_SI2, ↓DL.k_SI, ↓DL.r_setItemS, ↓DL.k_Ap3, ↓DL.k_Ap2, ↓DL.k_Ap1, ↓DL.r_apd, ↓DL.r_gN, ↓DL.r_iSeq, ↓DL.r_iApp, ↓DL.k_Body, ↓DL.k_Sl3, ↓DL.k_Sl2, ↓DL.k_Sl1, ↓DL.r_sl, ↓DL.r_oNone, ↓DL.k_OS, ↓DL.r_oSome, ↓DL.r_slT, ↓DL.r_slL, ↓DL.r_slS, ↓DL.r_retL, ↓DL.r_newL, ↓DL.r_lc, ↓DL.r_lcM, ↓DL.r_add, ↓DL.r_sub, ↓DL.r_mod, ↓DL.r_div, ↓DL.r_pow1018, ↓DL.r_lt, ↓DL.r_le, ↓DL.r_gt, ↓DL.r_ge, ↓DL.r_neg, ↓DL.r_eqII, ↓DL.r_neII, ↓DL.r_eqSS, ↓DL.r_neSS, ↓DL.r_eqBB, ↓DL.r_neBB, ↓DL.r_isN, ↓DL.r_isB, ↓DL.r_notN, ↓DL.r_int1, ↓DL.r_intb, ↓DL.r_abs, ↓DL.k_Get, ↓DL.r_ixT, ↓DL.r_ixL, ↓DL.r_asLR, ↓DL.r_asLL, ↓DL.r_ixRef, ↓DL.r_lenT, ↓DL.r_lenL, ↓DL.k_Len, ↓DL.r_lenRef, ↓DL.r_sumRef, ↓DL.k_SetJ, ↓DL.k_Set, ↓DL.r_setRef, ↓DL.k_App, ↓DL.r_appRef, ↓DL.r_tup0, ↓DL.r_tup1, ↓DL.r_tup2, ↓DL.r_tup3, ↓DL.r_tup4, ↓DL.r_tup5, ↓DL.r_tup6, ↓DL.r_tup7, ↓DL.r_tup8, ↓DL.r_lst0, ↓DL.r_ref0, ↓DL.r_ref1, ↓DL.r_ref2, ↓DL.r_ref3, ↓DL.r_ref4, ↓DL.r_ref5, ↓DL.r_ref6, ↓DL.r_listL, ↓DL.r_listT, ↓DL.r_tupleL, ↓DL.r_seqT, ↓DL.r_seqL, ↓DL.r_range1, ↓DL.r_range2, ↓DL.r_strEq, ↓DL.r_strEq2, ↓DL.r_isT0, ↓DL.r_isT1, ↓DL.r_isT2, ↓DL.r_isT3, ↓DL.r_isT4, ↓DL.r_isT5, ↓DL.r_isT6, ↓DL.r_isT7, ↓DL.r_isT8, ↓DL.r_isT9, ↓DL.r_isT10, ↓DL.r_isT11, ↓DL.r_isT12, ↓DL.r_isT13, ↓DL.r_isT14, ↓DL.r_isT15, ↓DL.r_isT16, ↓DL.r_isT17, ↓DL.r_isT18, ↓DL.r_isT19, ↓DL.r_isT20, ↓DL.r_isT21, ↓DL.r_isT22, ↓DL.r_isT23, ↓DL.r_isT24, ↓DL.r_isT25, ↓DL.r_isT26, ↓DL.r_isT27, ↓DL.r_isT28, ↓DL.r_isT29, ↓DL.r_isT30, ↓DL.r_isT31, ↓DL.r_isT32, ↓DL.r_isT33, ↓DL.r_isT34, ↓DL.r_isT35, ↓DL.r_isiN, ↓DL.r_isi2N, ↓DL.r_isiB, ↓DL.r_isi2B, ↓DL.r_isiI, ↓DL.r_isi2I, ↓DL.r_isiS, ↓DL.r_isi2S, ↓DL.r_isiT, ↓DL.r_isi2T, ↓DL.r_isiL, ↓DL.r_isi2L, ↓DL.r_inTI, ↓DL.r_ninTI, ↓DL.r_inLI, ↓DL.r_ninLI, ↓DL.r_inTS, ↓DL.r_inD_nil, ↓DL.r_inD_cons, ↓DL.r_flat_nil, ↓DL.r_flat_cons, ↓DL.r_flatS, ↓DL.r_flatI, ↓DL.r_eqvSS, ↓DL.r_eqvII, ↓DL.r_addLL, ↓DL.r_atm1, ↓DL.r_atm2, ↓DL.r_at0, ↓DL.r_at1, ↓DL.r_at2, ↓DL.r_at3, ↓DL.r_at4, ↓DL.r_at5, ↓DL.r_at6, ↓DL.r_at7, ↓DL.r_at8, ↓DL.r_beqI, ↓DL.r_ndec, ↓DL.r_gT, ↓DL.k_Gs, ↓DL.r_gsCons, ↓DL.r_gsNil, ↓DL.r_isDNN, ↓DL.r_isDBB, ↓DL.r_isDBN, ↓DL.r_isDNB, ↓DL.r_isDIN, ↓DL.r_isDIB, ↓DL.r_isDSN, ↓DL.r_isDSB, ↓DL.r_isDTN, ↓DL.r_isDTB, ↓DL.r_isDLN, ↓DL.r_isDLB, ↓DL.r_isDRN, ↓DL.r_isDRB, ↓DL.r_beqTT, ↓DL.r_beqTF, ↓DL.r_beqFT, ↓DL.r_beqFF, ↓DL.k_onI, ↓DL.k_Fld2, ↓DL.r_fld, ↓DL.k_FldR, ↓DL.k_FldO, ↓DL.r_look, ↓DL.r_lookN, ↓DL.r_putD, ↓DL.r_putDN, ↓DL.k_SF3, ↓DL.r_setFldR, ↓DL.k_SF2, ↓DL.k_SF1, ↓DL.r_setFld, ↓DL.r_methF, ↓DL.k_Me2, ↓DL.r_meth, ↓DL.k_MeR, ↓DL.k_MeO, ↓DL.r_make, ↓DL.k_MkN, ↓DL.r_makeF, ↓DL.k_CG2, ↓DL.k_CG, ↓DL.r_callG, ↓DL.r_callGF, ↓DL.r_listRg, ↓DL.r_tupRg, ↓DL.k_SlR, ↓DL.r_slR, ↓DL.r_enumL, ↓DL.r_max2, ↓DL.r_min2, ↓DL.r_isi2R, ↓DL.r_isiR, ↓DL.r_lst1, ↓DL.r_lst2, ↓DL.r_lst3, ↓DL.r_lst4, ↓DL.r_lst5, ↓DL.r_lst6, ↓DL.r_lst7, ↓DL.r_lst8, ↓DL.r_lst9, ↓DL.r_lst10, ↓DL.r_lst11, ↓DL.r_lst12, ↓DL.r_seqR, ↓DL.k_ForR, ↓DL.r_minL, ↓DL.r_clr, ↓DL.k_Clr1R, ↓DL.k_LstR, ↓DL.r_listRef, ↓DL.r_enumJL, ↓DL.r_enumJT, ↓DL.k_Clr2, ↓DL.k_MG2, ↓DL.k_MG, ↓DL.r_makeG, ↓DL.r_makeGF, ↓DL.r_prop, ↓DL.k_Pr2, ↓DL.k_PrR, ↓DL.k_Eq3, ↓DL.r_isiCN, ↓DL.r_isiCS, ↓DL.r_isiCT, ↓DL.k_Ix3, ↓DL.k_Ix2, ↓DL.k_Ix1, ↓DL.r_index, ↓DL.r_iStr, ↓DL.r_strI, ↓DL.k_T2, ↓DL.k_T1S, ↓DL.r_join, ↓DL.r_sindex, ↓DL.k_Rz, ↓DL.r_raise, ↓DL.r_raise0, ↓DL.k_Ex, ↓DL.r_try, ↓DL.k_trNx, ↓DL.k_trRt, ↓DL.k_trBk, ↓DL.k_trCt, ↓DL.k_trEx, ↓DL.k_hdlN, ↓DL.k_hdlT, ↓DL.k_hdlF, ↓DL.k_setSlN, ↓DL.k_setSlS, ↓DL.k_endNx, ↓DL.k_endRt, ↓DL.k_endBk, ↓DL.k_endCt, ↓DL.r_xf, ↓DL.r_xfD, ↓DL.r_isE, ↓DL.r_isED, ↓DL.r_isiDc, ↓DL.r_isi2Dc, ↓DL.k_In4, ↓DL.k_In3, ↓DL.k_In2, ↓DL.k_In1, ↓DL.r_ins, ↓DL.r_addI, ↓DL.k_Fa4, ↓DL.k_Fa3, ↓DL.k_Fa2, ↓DL.k_FaR, ↓DL.r_fldaug, ↓DL.r_dinL, ↓DL.r_dinD, ↓DL.r_dninL, ↓DL.r_dninD, ↓DL.r_dgetL, ↓DL.r_dgetD, ↓DL.r_lenDL, ↓DL.r_lenDD, ↓DL.r_dictL, ↓DL.r_dictD, ↓DL.r_isiLc, ↓DL.r_isi2Lc, ↓DL.r_isTd0, ↓DL.r_isTd1, ↓DL.r_isTd2, ↓DL.r_isTd3, ↓DL.r_isTd4, ↓DL.r_newD, ↓DL.r_frzLs, ↓DL.r_items, ↓DL.r_inK, ↓DL.r_ninK, ↓DL.r_getK, ↓DL.r_dispM, ↓DL.k_Dp2, ↓DL.k_Dp1, ↓DL.r_pairsN, ↓DL.r_pairsC, ↓DL.r_dispF1, ↓DL.r_gTn, ↓DL.k_Gf1, ↓DL.r_gFld, ↓DL.Kt.seq_nx, ↓DL.Kt.seq_rt, ↓DL.Kt.seq_bk, ↓DL.Kt.seq_ct, ↓DL.Kt.seq_ex, ↓DL.Kt.fin_nx, ↓DL.Kt.fin_rt, ↓DL.Kt.fin_ex, ↓DL.Kt.loop_nx, ↓DL.Kt.loop_rt, ↓DL.Kt.loop_bk, ↓DL.Kt.loop_ct, ↓DL.Kt.loop_ex, ↓DL.C.run_ret, ↓DL.mset_same, ↓DL.mset_mset, startD, ixN, Option.bind_some, Option.map_some, List.map_cons, List.map_nil, List.length_cons, List.length_nil, List.length_set, List.replicate, List.cons_append, List.nil_append, List.append_nil, List.set_cons_zero, List.set_cons_succ, List.getElem?_cons_zero, List.getElem?_cons_succ, Nat.reduceAdd, Nat.reduceSub, Nat.zero_add, if_true, if_false, decide_eq_true_eq, reduceIte, Bool.not_true, Bool.not_false, beq_self_eq_true, Bool.false_eq_true, Int.reduceLT, Int.reduceLE, Int.reduceNeg, Int.reduceToNat, Int.reduceAdd, Int.reduceSub, Nat.reduceLT, Nat.reduceLeDiff, Int.cast_ofNat_Int, Int.reduceEq, Int.reduceBEq, DL.wipeD, decide_true, decide_false, not_true_eq_false, not_false_eq_true, String.reduceEq, Bool.or_true, Bool.or_false, Bool.true_or, Bool.false_or, Bool.and_true, Bool.and_false, Bool.true_and, Bool.false_and, Bool.not_not, Nat.reduceEqDiff, Int.toNat_natCast, Decidable.not_not, List.mem_cons, List.not_mem_nil, or_false, or_true, true_or, false_or, and_true, true_and, and_self, and_false, false_and, reduceCtorEq, Option.isNone_some, Option.isNone_none, Option.isSome_some, Option.isSome_none, List.zip_cons_cons, List.zip_nil_right, List.zip_nil_left, List.reverse_cons, List.reverse_nil, Option.getD_some, Option.getD_none, r_tb_LENGTHS_0, r_tb_LENGTHS_1, r_tb_LENGTHS_2, r_tb_LENGTHS_3, r_tb_LENGTHS_4, r_tb_LENGTHS_5, r_in_BadProgram, r_xs_BadProgram_BadProgram, sizeLine_eq, r_sl3, r_seqB, r_lenB, r_ixB, r_isB, r_is2B, r_enumB, sumf_run, enc_wr, enc_gt, enc_st, enc_ite, enc_whl, enc_rt, endsS_wr, endsS_gt, endsS_st, endsS_ite, endsS_whl, endsS_rt, bareS_wr, bareS_gt, bareS_st, bareS_ite, bareS_whl, bareS_rt, cutr3_4, cutr3_5, r_addTT, cs_sizes, cs_side, cs_place, k_MOST_STATEMENTS, k_MOST_DEPTH, dvD_int, k_onICK, cut3_2, cut3_3, cut3_4, cut3_5, k_MOST_VARIABLES, cs_names, cs_store, cs_block, cs_count, cs_code, cs_place])
local macro_rules | `(tactic| walk_at "h") => `(tactic| simp -implicitDefEqProofs only [↓DL.k_F, ↓DL.k_M, ↓DL.k_onV, ↓DL.k_onL, ↓DL.k_onO, ↓DL.k_onN, ↓DL.r_C, ↓DL.r_var, ↓DL.k_Op2, ↓DL.k_Op, ↓DL.r_op, ↓DL.r_un, ↓DL.r_app, ↓DL.r_call, ↓DL.r_callF, ↓DL.k_CK2, ↓DL.k_CK, ↓DL.r_callK, ↓DL.r_callKF, ↓DL.r_nil, ↓DL.k_A2, ↓DL.k_A, ↓DL.r_cons, ↓DL.k_AndT, ↓DL.k_AndF, ↓DL.r_and, ↓DL.k_OrT, ↓DL.k_OrF, ↓DL.r_or, ↓DL.k_Not, ↓DL.r_not, ↓DL.k_EIfT, ↓DL.k_EIfF, ↓DL.r_eIf, ↓DL.k_Ch3T, ↓DL.k_Ch3F, ↓DL.k_Ch2, ↓DL.k_Ch1, ↓DL.r_chain, ↓DL.k_T, ↓DL.r_of, ↓DL.k_TAT, ↓DL.k_TAF, ↓DL.r_tand, ↓DL.k_TOT, ↓DL.k_TOF, ↓DL.r_tor, ↓DL.k_TN, ↓DL.r_tnot, ↓DL.r_tTrue, ↓DL.k_Asg, ↓DL.r_asg, ↓DL.k_Nx, ↓DL.r_expr, ↓DL.k_Rt, ↓DL.r_ret, ↓DL.r_retN, ↓DL.k_IfT, ↓DL.k_IfF, ↓DL.r_if, ↓DL.r_seq, ↓DL.r_next, ↓DL.r_break, ↓DL.r_cont, ↓DL.r_stuck, ↓DL.k_G, ↓DL.r_asgG, ↓DL.k_For, ↓DL.r_for, ↓DL.k_SI3, ↓DL.k_SI2, ↓DL.k_SI, ↓DL.r_setItemS, ↓DL.k_Ap3, ↓DL.k_Ap2, ↓DL.k_Ap1, ↓DL.r_apd, ↓DL.r_gN, ↓DL.r_iSeq, ↓DL.r_iApp, ↓DL.k_Body, ↓DL.k_Sl3, ↓DL.k_Sl2, ↓DL.k_Sl1, ↓DL.r_sl, ↓DL.r_oNone, ↓DL.k_OS, ↓DL.r_oSome, ↓DL.r_slT, ↓DL.r_slL, ↓DL.r_slS, ↓DL.r_retL, ↓DL.r_newL, ↓DL.r_lc, ↓DL.r_lcM, ↓DL.r_add, ↓DL.r_sub, ↓DL.r_mod, ↓DL.r_div, ↓DL.r_pow1018, ↓DL.r_lt, ↓DL.r_le, ↓DL.r_gt, ↓DL.r_ge, ↓DL.r_neg, ↓DL.r_eqII, ↓DL.r_neII, ↓DL.r_eqSS, ↓DL.r_neSS, ↓DL.r_eqBB, ↓DL.r_neBB, ↓DL.r_isN, ↓DL.r_isB, ↓DL.r_notN, ↓DL.r_int1, ↓DL.r_intb, ↓DL.r_abs, ↓DL.k_Get, ↓DL.r_ixT, ↓DL.r_ixL, ↓DL.r_asLR, ↓DL.r_asLL, ↓DL.r_ixRef, ↓DL.r_lenT, ↓DL.r_lenL, ↓DL.k_Len, ↓DL.r_lenRef, ↓DL.r_sumRef, ↓DL.k_SetJ, ↓DL.k_Set, ↓DL.r_setRef, ↓DL.k_App, ↓DL.r_appRef, ↓DL.r_tup0, ↓DL.r_tup1, ↓DL.r_tup2, ↓DL.r_tup3, ↓DL.r_tup4, ↓DL.r_tup5, ↓DL.r_tup6, ↓DL.r_tup7, ↓DL.r_tup8, ↓DL.r_lst0, ↓DL.r_ref0, ↓DL.r_ref1, ↓DL.r_ref2, ↓DL.r_ref3, ↓DL.r_ref4, ↓DL.r_ref5, ↓DL.r_ref6, ↓DL.r_listL, ↓DL.r_listT, ↓DL.r_tupleL, ↓DL.r_seqT, ↓DL.r_seqL, ↓DL.r_range1, ↓DL.r_range2, ↓DL.r_strEq, ↓DL.r_strEq2, ↓DL.r_isT0, ↓DL.r_isT1, ↓DL.r_isT2, ↓DL.r_isT3, ↓DL.r_isT4, ↓DL.r_isT5, ↓DL.r_isT6, ↓DL.r_isT7, ↓DL.r_isT8, ↓DL.r_isT9, ↓DL.r_isT10, ↓DL.r_isT11, ↓DL.r_isT12, ↓DL.r_isT13, ↓DL.r_isT14, ↓DL.r_isT15, ↓DL.r_isT16, ↓DL.r_isT17, ↓DL.r_isT18, ↓DL.r_isT19, ↓DL.r_isT20, ↓DL.r_isT21, ↓DL.r_isT22, ↓DL.r_isT23, ↓DL.r_isT24, ↓DL.r_isT25, ↓DL.r_isT26, ↓DL.r_isT27, ↓DL.r_isT28, ↓DL.r_isT29, ↓DL.r_isT30, ↓DL.r_isT31, ↓DL.r_isT32, ↓DL.r_isT33, ↓DL.r_isT34, ↓DL.r_isT35, ↓DL.r_isiN, ↓DL.r_isi2N, ↓DL.r_isiB, ↓DL.r_isi2B, ↓DL.r_isiI, ↓DL.r_isi2I, ↓DL.r_isiS, ↓DL.r_isi2S, ↓DL.r_isiT, ↓DL.r_isi2T, ↓DL.r_isiL, ↓DL.r_isi2L, ↓DL.r_inTI, ↓DL.r_ninTI, ↓DL.r_inLI, ↓DL.r_ninLI, ↓DL.r_inTS, ↓DL.r_inD_nil, ↓DL.r_inD_cons, ↓DL.r_flat_nil, ↓DL.r_flat_cons, ↓DL.r_flatS, ↓DL.r_flatI, ↓DL.r_eqvSS, ↓DL.r_eqvII, ↓DL.r_addLL, ↓DL.r_atm1, ↓DL.r_atm2, ↓DL.r_at0, ↓DL.r_at1, ↓DL.r_at2, ↓DL.r_at3, ↓DL.r_at4, ↓DL.r_at5, ↓DL.r_at6, ↓DL.r_at7, ↓DL.r_at8, ↓DL.r_beqI, ↓DL.r_ndec, ↓DL.r_gT, ↓DL.k_Gs, ↓DL.r_gsCons, ↓DL.r_gsNil, ↓DL.r_isDNN, ↓DL.r_isDBB, ↓DL.r_isDBN, ↓DL.r_isDNB, ↓DL.r_isDIN, ↓DL.r_isDIB, ↓DL.r_isDSN, ↓DL.r_isDSB, ↓DL.r_isDTN, ↓DL.r_isDTB, ↓DL.r_isDLN, ↓DL.r_isDLB, ↓DL.r_isDRN, ↓DL.r_isDRB, ↓DL.r_beqTT, ↓DL.r_beqTF, ↓DL.r_beqFT, ↓DL.r_beqFF, ↓DL.k_onI, ↓DL.k_Fld2, ↓DL.r_fld, ↓DL.k_FldR, ↓DL.k_FldO, ↓DL.r_look, ↓DL.r_lookN, ↓DL.r_putD, ↓DL.r_putDN, ↓DL.k_SF3, ↓DL.r_setFldR, ↓DL.k_SF2, ↓DL.k_SF1, ↓DL.r_setFld, ↓DL.r_methF, ↓DL.k_Me2, ↓DL.r_meth, ↓DL.k_MeR, ↓DL.k_MeO, ↓DL.r_make, ↓DL.k_MkN, ↓DL.r_makeF, ↓DL.k_CG2, ↓DL.k_CG, ↓DL.r_callG, ↓DL.r_callGF, ↓DL.r_listRg, ↓DL.r_tupRg, ↓DL.k_SlR, ↓DL.r_slR, ↓DL.r_enumL, ↓DL.r_max2, ↓DL.r_min2, ↓DL.r_isi2R, ↓DL.r_isiR, ↓DL.r_lst1, ↓DL.r_lst2, ↓DL.r_lst3, ↓DL.r_lst4, ↓DL.r_lst5, ↓DL.r_lst6, ↓DL.r_lst7, ↓DL.r_lst8, ↓DL.r_lst9, ↓DL.r_lst10, ↓DL.r_lst11, ↓DL.r_lst12, ↓DL.r_seqR, ↓DL.k_ForR, ↓DL.r_minL, ↓DL.r_clr, ↓DL.k_Clr1R, ↓DL.k_LstR, ↓DL.r_listRef, ↓DL.r_enumJL, ↓DL.r_enumJT, ↓DL.k_Clr2, ↓DL.k_MG2, ↓DL.k_MG, ↓DL.r_makeG, ↓DL.r_makeGF, ↓DL.r_prop, ↓DL.k_Pr2, ↓DL.k_PrR, ↓DL.k_Eq3, ↓DL.r_isiCN, ↓DL.r_isiCS, ↓DL.r_isiCT, ↓DL.k_Ix3, ↓DL.k_Ix2, ↓DL.k_Ix1, ↓DL.r_index, ↓DL.r_iStr, ↓DL.r_strI, ↓DL.k_T2, ↓DL.k_T1S, ↓DL.r_join, ↓DL.r_sindex, ↓DL.k_Rz, ↓DL.r_raise, ↓DL.r_raise0, ↓DL.k_Ex, ↓DL.r_try, ↓DL.k_trNx, ↓DL.k_trRt, ↓DL.k_trBk, ↓DL.k_trCt, ↓DL.k_trEx, ↓DL.k_hdlN, ↓DL.k_hdlT, ↓DL.k_hdlF, ↓DL.k_setSlN, ↓DL.k_setSlS, ↓DL.k_endNx, ↓DL.k_endRt, ↓DL.k_endBk, ↓DL.k_endCt, ↓DL.r_xf, ↓DL.r_xfD, ↓DL.r_isE, ↓DL.r_isED, ↓DL.r_isiDc, ↓DL.r_isi2Dc, ↓DL.k_In4, ↓DL.k_In3, ↓DL.k_In2, ↓DL.k_In1, ↓DL.r_ins, ↓DL.r_addI, ↓DL.k_Fa4, ↓DL.k_Fa3, ↓DL.k_Fa2, ↓DL.k_FaR, ↓DL.r_fldaug, ↓DL.r_dinL, ↓DL.r_dinD, ↓DL.r_dninL, ↓DL.r_dninD, ↓DL.r_dgetL, ↓DL.r_dgetD, ↓DL.r_lenDL, ↓DL.r_lenDD, ↓DL.r_dictL, ↓DL.r_dictD, ↓DL.r_isiLc, ↓DL.r_isi2Lc, ↓DL.r_isTd0, ↓DL.r_isTd1, ↓DL.r_isTd2, ↓DL.r_isTd3, ↓DL.r_isTd4, ↓DL.r_newD, ↓DL.r_frzLs, ↓DL.r_items, ↓DL.r_inK, ↓DL.r_ninK, ↓DL.r_getK, ↓DL.r_dispM, ↓DL.k_Dp2, ↓DL.k_Dp1, ↓DL.r_pairsN, ↓DL.r_pairsC, ↓DL.r_dispF1, ↓DL.r_gTn, ↓DL.k_Gf1, ↓DL.r_gFld, ↓DL.Kt.seq_nx, ↓DL.Kt.seq_rt, ↓DL.Kt.seq_bk, ↓DL.Kt.seq_ct, ↓DL.Kt.seq_ex, ↓DL.Kt.fin_nx, ↓DL.Kt.fin_rt, ↓DL.Kt.fin_ex, ↓DL.Kt.loop_nx, ↓DL.Kt.loop_rt, ↓DL.Kt.loop_bk, ↓DL.Kt.loop_ct, ↓DL.Kt.loop_ex, ↓DL.C.run_ret, ↓DL.mset_same, ↓DL.mset_mset, startD, ixN, Option.bind_some, Option.map_some, List.map_cons, List.map_nil, List.length_cons, List.length_nil, List.length_set, List.replicate, List.cons_append, List.nil_append, List.append_nil, List.set_cons_zero, List.set_cons_succ, List.getElem?_cons_zero, List.getElem?_cons_succ, Nat.reduceAdd, Nat.reduceSub, Nat.zero_add, if_true, if_false, decide_eq_true_eq, reduceIte, Bool.not_true, Bool.not_false, beq_self_eq_true, Bool.false_eq_true, Int.reduceLT, Int.reduceLE, Int.reduceNeg, Int.reduceToNat, Int.reduceAdd, Int.reduceSub, Nat.reduceLT, Nat.reduceLeDiff, Int.cast_ofNat_Int, Int.reduceEq, Int.reduceBEq, DL.wipeD, decide_true, decide_false, not_true_eq_false, not_false_eq_true, String.reduceEq, Bool.or_true, Bool.or_false, Bool.true_or, Bool.false_or, Bool.and_true, Bool.and_false, Bool.true_and, Bool.false_and, Bool.not_not, Nat.reduceEqDiff, Int.toNat_natCast, Decidable.not_not, List.mem_cons, List.not_mem_nil, or_false, or_true, true_or, false_or, and_true, true_and, and_self, and_false, false_and, reduceCtorEq, Option.isNone_some, Option.isNone_none, Option.isSome_some, Option.isSome_none, List.zip_cons_cons, List.zip_nil_right, List.zip_nil_left, List.reverse_cons, List.reverse_nil, Option.getD_some, Option.getD_none, r_tb_LENGTHS_0, r_tb_LENGTHS_1, r_tb_LENGTHS_2, r_tb_LENGTHS_3, r_tb_LENGTHS_4, r_tb_LENGTHS_5, r_in_BadProgram, r_xs_BadProgram_BadProgram, sizeLine_eq, r_sl3, r_seqB, r_lenB, r_ixB, r_isB, r_is2B, r_enumB, sumf_run, enc_wr, enc_gt, enc_st, enc_ite, enc_whl, enc_rt, endsS_wr, endsS_gt, endsS_st, endsS_ite, endsS_whl, endsS_rt, bareS_wr, bareS_gt, bareS_st, bareS_ite, bareS_whl, bareS_rt, cutr3_4, cutr3_5, r_addTT, cs_sizes, cs_side, cs_place, k_MOST_STATEMENTS, k_MOST_DEPTH, dvD_int, k_onICK, cut3_2, cut3_3, cut3_4, cut3_5, k_MOST_VARIABLES, cs_names, cs_store, cs_block, cs_count, cs_code, cs_place, *])
local macro_rules | `(tactic| walk_at "s") => `(tactic| ((try walk_at "h"); repeat' ((first | with_reducible refine if_dec (fun _ => ?_) (fun _ => ?_) | with_reducible refine eif_dec (fun _ => ?_) (fun _ => ?_) | with_reducible refine tor_dec (fun _ => ?_) (fun _ => ?_) | with_reducible refine tand_dec (fun _ => ?_) (fun _ => ?_) | with_reducible refine and_dec (fun _ => ?_) (fun _ => ?_) | with_reducible refine or_dec (fun _ => ?_) (fun _ => ?_) | with_reducible refine ch_dec (fun _ => ?_) (fun _ => ?_)) <;> (try walk_at "h"))))
theorem KV_of {st : Sto} (h : StOk st) : KV (kvOf st) (nmsOf st) := ⟨fun s => by rw [valD_kvOf, Option.isSome_map, lookup_mem], fun s hs => by
  obtain ⟨p, hp, rfl⟩ := List.mem_map.mp hs
  exact h.nm p hp⟩
theorem okKeys_of {st : Sto} (h : StOk st) : okKeys (kvOf st) = true := by
  unfold okKeys kvOf
  rw [List.all_map]
  exact List.all_eq_true.mpr fun p hp => nmB_ok (h.nm p hp)
theorem items_kvOf {st : Sto} : itemsD (kvOf st) = st.map fun p => D.tup [.str p.1, .tup [.int p.2.1, .int p.2.2]] := by
  unfold itemsD kvOf
  rw [List.map_map]
  rfl
theorem check_store_run {st : Sto} {m : Mem} {Q : D → Mem → Prop} {E : Xn → Mem → Prop} (h : StOk st) (q : Q .non m) : (d_check_store [.ldc (kvOf st)]).run m Q E := by
  unfold d_check_store
  refine fn_run ?_
  unfold p_check_store
  have h4 : ¬ ((4 : Int) < ((kvOf st).length : Nat)) := by
    unfold kvOf
    rw [List.length_map]
    have := h.four
    omega
  walk_at "d"
  rw [decide_eq_false h4]
  walk_at "d"
  rw [items_run (okKeys_of h), items_kvOf]
  walk_at "d"
  refine for_suf (enc := fun p : Str × Int × Int => D.tup [.str p.1, .tup [.int p.2.1, .int p.2.2]]) (xs := st) (fun r δ m' => m' = m ∧ ∃ y1 y2, δ = [some (.ldc (kvOf st)), y1, y2]) ⟨rfl, _, _, rfl⟩ ?_ ?_
  · rintro ⟨n, s, a⟩ r δ m1 ⟨pre, hsp⟩ ⟨rfl, y1, y2, rfl⟩
    walk_at "d"
    unfold p_check_store_b0
    have hm : (n, s, a) ∈ st := by rw [hsp]; simp
    have hn := h.nm _ hm
    have hnew := h.new _ hm
    have hs := h.sz _ hm
    have ha := h.sa _ hm
    walk_at "d"
    refine name_spec (isP_nm hn) ?_
    rw [show nameB (.str n) = true from hn]
    walk_at "d"
    have e1 : (n == Str.ofString "new") = false := by simpa using hnew
    first
      | rw [e1]
      | rw [decide_eq_false hnew]
    walk_at "d"
    refine isrow_run ?_
    walk_at "d"
    refine btw_spec trivial ?_
    rw [show btB (.int s) 2 4 = true by simp [btB]; exact hs]
    walk_at "d"
    refine btw_spec trivial ?_
    rw [show btB (.int a) 0 (s - 1) = true by simp [btB]; exact ha]
    walk_at "d"
    exact ⟨_, _, rfl⟩
  · rintro δ m1 ⟨rfl, y1, y2, rfl⟩
    walk_at "d"
    exact q
theorem ck_init {m : Mem} {a : Addr} {sd : Str} {kv : List (Key × D)} {Q : D → Mem → Prop} {E : Xn → Mem → Prop} (h : m a = some (.ins "Checker" [])) (q : Q .non (mset m a (CK sd kv 0))) : (d_Checker___init__ [.ref a, .str sd, .dic kv]).run m Q E := by
  unfold d_Checker___init__
  refine fn_run ?_
  unfold p_Checker___init__
  walk_at "d"
  rw [h]
  walk_at "d"
  exact q
theorem prog_init {m : Mem} {p : Addr} {sd : Str} {st : Sto} {b : List Sm} {Q : D → Mem → Prop} {E : Xn → Mem → Prop} (h : m p = some (.ins "Program" [])) (hsd : sd = "writer" ∨ sd = "reader") (hst : StOk st) (hb : okBk sd (nmsOf st) 0 b = true) (h16 : cnts b ≤ 16) (hd : deps b ≤ 4)
    (q : ∀ m', m' p = some (.ins "Program" (PF sd st b)) → (∀ a o, a ≠ p → m a = some o → m' a = some o) → (∃ k, flawB b 0 false = (k, none)) → Q .non m')
    (e : ∀ m' k f w, (∀ a o, a ≠ p → m a = some o → m' a = some o) → flawB b 0 false = (k, some (f, w)) → E ⟨"BadProgram", some [("why", .str w), ("place", .int f)]⟩ m') :
    (d_Program___init__ [.ref p, .str sd, .ldc (kvOf st), blkD b]).run m Q E := by
  unfold d_Program___init__
  refine fn_run ?_
  unfold p_Program___init__
  have hP : isP (.str sd) := by rcases hsd with rfl | rfl <;> (show (Str.ofString _).length ≤ 1000; decide)
  have hO : ownB (.str sd) = true := by rcases hsd with rfl | rfl <;> decide
  walk_at "d"
  refine side_spec hP ?_
  rw [hO]
  walk_at "d"
  refine check_store_run hst ?_
  walk_at "d"
  refine isrow_runB ?_
  walk_at "d"
  rw [h]
  walk_at "d"
  have hKV := KV_of hst
  have hlen : (nmsOf st).length ≤ 4 := by unfold nmsOf; rw [List.length_map]; exact hst.four
  have hsl : (snms st).length ≤ 4 := by unfold snms; rw [(sortS_perm _).length_eq]; exact hlen
  have hin : ∀ n ∈ snms st, n ∈ nmsOf st := fun n hn => (sortS_perm _).mem_iff.mp hn
  rw [sortedD_run (strKeys_kvOf st) (by omega) (List.all_eq_true.mpr fun n hn => nmB_ok (hKV.nm n hn))]
  rw [show sortS (nmsOf st) = snms st from rfl]
  walk_at "d"
  refine lc_mp (enc := D.str) (xs := snms st) (out := fun n => .int (szOf st n)) (Nat.le_trans hsl (by decide)) (fun n hn Y y => ?_) ?_
  · walk_at "d"
    obtain ⟨s, a, h1, h2, h3, _⟩ := szOf_in hst (hin n hn)
    rw [valD_kvOf, h1]
    walk_at "d"
    rw [h2] at y
    exact y
  walk_at "d"
  refine lc_mp (enc := D.str) (xs := snms st) (out := rowD st) (Nat.le_trans hsl (by decide)) (fun n hn Y y => ?_) ?_
  · walk_at "d"
    obtain ⟨s, a, h1, h2, h3, _⟩ := szOf_in hst (hin n hn)
    rw [valD_kvOf, h1]
    walk_at "d"
    rw [valD_kvOf, h1]
    walk_at "d"
    unfold rowD at y
    rw [h2, h3] at y
    exact y
  walk_at "d"
  intro ck hck
  have hpc : p ≠ ck := by
    intro e
    subst e
    rw [mset_same] at hck
    cases hck
  refine ck_init mset_same ?_
  walk_at "d"
  refine (form_all hKV 14).1 b 0 0 _ _ _ (by omega) hb mset_same (by omega) (by omega) ?_
  walk_at "d"
  rw [mset_ne hpc]
  walk_at "d"
  rw [mset_ne (Ne.symm hpc)] at hck
  generalize hM : mset (mset m p (MO.ins (Str.ofString "Program") [(Str.ofString "side", D.str sd), (Str.ofString "names", D.lst (List.map D.str (snms st))), (Str.ofString "sizes", D.lst (List.map (fun n => D.int (szOf st n)) (snms st))), (Str.ofString "store", D.tup (List.map (rowD st) (snms st)))])) ck (CK sd (kvOf st) (0 + (cnts b : Int))) = M0
  have hM0 : ∀ a o, a ≠ p → m a = some o → M0 a = some o := fun a o ha ho => by
    rw [← hM, mset_ne (mem_ne ho hck), mset_ne ha]
    exact ho
  have hf := flaw_ret 7 b (by omega) (by omega) 0
  rw [show ((0 : Nat) : Int) = 0 from rfl] at hf
  refine hf _ _ _ ?_
  cases hfl : flawB b 0 false with
  | mk k o =>
    cases o with
    | some f =>
      obtain ⟨fp, fw⟩ := f
      rw [frD_some]
      walk_at "d"
      exact e _ k fp fw (fun a o ha ho => by rw [mset_ne ha]; exact hM0 a o ha ho) hfl
    | none =>
      rw [frD_none]
      have hk := flawB_cnt hfl
      walk_at "d"
      intro cd hcd
      have hpcd : p ≠ cd := by
        intro e
        subst e
        rw [mset_same] at hcd
        cases hcd
      rw [mset_ne hpcd]
      walk_at "d"
      rw [mset_ne (Ne.symm hpcd)] at hcd
      have hk' : (k : Int) = cnts b := by omega
      rw [hk']
      refine lay_ret 7 b (by omega) (by omega) 0 (-1) _ cd [] _ _ (by rw [mset_ne (Ne.symm hpcd), mset_same]) (by simp; omega) ?_
      walk_at "d"
      rw [frzF_run (p := p) (c := "Program") (fs := [("side", D.str sd), ("names", D.lst (List.map D.str (snms st))), ("sizes", D.lst (List.map (fun n => D.int (szOf st n)) (snms st))), ("store", D.tup (List.map (rowD st) (snms st))), ("block", blkD b), ("count", D.int (cnts b)), ("code", D.ref cd)]) (b := cd) (l := rowsB b 0 (-1)) rfl (by rw [mset_ne hpcd, mset_same]) (by walk_at "d") mset_same]
      walk_at "d"
      refine q _ ?_ (fun a o ha ho => ?_) ⟨k, hfl⟩
      · rw [mdel_ne hpcd, mset_same]
        rfl
      · have hacd : a ≠ cd := mem_ne (hM0 a o ha ho) hcd
        rw [mdel_ne hacd, mset_ne ha, mset_ne hacd, mset_ne ha, mset_ne hacd, mset_ne ha]
        exact hM0 a o ha ho

local macro_rules | `(tactic| walk_at "d") => `(tactic| simp -implicitDefEqProofs only [↓DL.k_F, ↓DL.k_M, ↓DL.k_onV, ↓DL.k_onL, ↓DL.k_onO, ↓DL.k_onN, ↓DL.r_C, ↓DL.r_var, ↓DL.k_Op2, ↓DL.k_Op, ↓DL.r_op, ↓DL.r_un, ↓DL.r_app, ↓DL.r_call, ↓DL.r_callF, ↓DL.k_CK2, ↓DL.k_CK, ↓DL.r_callK, ↓DL.r_callKF, ↓DL.r_nil, ↓DL.k_A2, ↓DL.k_A, ↓DL.r_cons, ↓DL.k_AndT, ↓DL.k_AndF, ↓DL.r_and, ↓DL.k_OrT, ↓DL.k_OrF, ↓DL.r_or, ↓DL.k_Not, ↓DL.r_not, ↓DL.k_EIfT, ↓DL.k_EIfF, ↓DL.r_eIf, ↓DL.k_Ch3T, ↓DL.k_Ch3F, ↓DL.k_Ch2, ↓DL.k_Ch1, ↓DL.r_chain, ↓DL.k_T, ↓DL.r_of, ↓DL.k_TAT, ↓DL.k_TAF, ↓DL.r_tand, ↓DL.k_TOT, ↓DL.k_TOF, ↓DL.r_tor, ↓DL.k_TN, ↓DL.r_tnot, ↓DL.r_tTrue, ↓DL.k_Asg, ↓DL.r_asg, ↓DL.k_Nx, ↓DL.r_expr, ↓DL.k_Rt, ↓DL.r_ret, ↓DL.r_retN, ↓DL.k_IfT, ↓DL.k_IfF, ↓DL.r_if, ↓DL.r_seq, ↓DL.r_next, ↓DL.r_break, ↓DL.r_cont, ↓DL.r_stuck, ↓DL.k_G, ↓DL.r_asgG, ↓DL.k_For, ↓DL.r_for, ↓DL.k_SI3, ↓DL.k_SI2, ↓DL.k_SI, ↓DL.r_setItemS, ↓DL.k_Ap3, ↓DL.k_Ap2, ↓DL.k_Ap1, ↓DL.r_apd, ↓DL.r_gN, ↓DL.r_iSeq, ↓DL.r_iApp, ↓DL.k_Body, ↓DL.k_Sl3, ↓DL.k_Sl2, ↓DL.k_Sl1, ↓DL.r_sl, ↓DL.r_oNone, ↓DL.k_OS, ↓DL.r_oSome, ↓DL.r_slT, ↓DL.r_slL, ↓DL.r_slS, ↓DL.r_retL, ↓DL.r_newL, ↓DL.r_lc, ↓DL.r_lcM, ↓DL.r_add, ↓DL.r_sub, ↓DL.r_mod, ↓DL.r_div, ↓DL.r_pow1018, ↓DL.r_lt, ↓DL.r_le, ↓DL.r_gt, ↓DL.r_ge, ↓DL.r_neg, ↓DL.r_eqII, ↓DL.r_neII, ↓DL.r_eqSS, ↓DL.r_neSS, ↓DL.r_eqBB, ↓DL.r_neBB, ↓DL.r_isN, ↓DL.r_isB, ↓DL.r_notN, ↓DL.r_int1, ↓DL.r_intb, ↓DL.r_abs, ↓DL.k_Get, ↓DL.r_ixT, ↓DL.r_ixL, ↓DL.r_asLR, ↓DL.r_asLL, ↓DL.r_ixRef, ↓DL.r_lenT, ↓DL.r_lenL, ↓DL.k_Len, ↓DL.r_lenRef, ↓DL.r_sumRef, ↓DL.k_SetJ, ↓DL.k_Set, ↓DL.r_setRef, ↓DL.k_App, ↓DL.r_appRef, ↓DL.r_tup0, ↓DL.r_tup1, ↓DL.r_tup2, ↓DL.r_tup3, ↓DL.r_tup4, ↓DL.r_tup5, ↓DL.r_tup6, ↓DL.r_tup7, ↓DL.r_tup8, ↓DL.r_lst0, ↓DL.r_ref0, ↓DL.r_ref1, ↓DL.r_ref2, ↓DL.r_ref3, ↓DL.r_ref4, ↓DL.r_ref5, ↓DL.r_ref6, ↓DL.r_listL, ↓DL.r_listT, ↓DL.r_tupleL, ↓DL.r_seqT, ↓DL.r_seqL, ↓DL.r_range1, ↓DL.r_range2, ↓DL.r_strEq, ↓DL.r_strEq2, ↓DL.r_isT0, ↓DL.r_isT1, ↓DL.r_isT2, ↓DL.r_isT3, ↓DL.r_isT4, ↓DL.r_isT5, ↓DL.r_isT6, ↓DL.r_isT7, ↓DL.r_isT8, ↓DL.r_isT9, ↓DL.r_isT10, ↓DL.r_isT11, ↓DL.r_isT12, ↓DL.r_isT13, ↓DL.r_isT14, ↓DL.r_isT15, ↓DL.r_isT16, ↓DL.r_isT17, ↓DL.r_isT18, ↓DL.r_isT19, ↓DL.r_isT20, ↓DL.r_isT21, ↓DL.r_isT22, ↓DL.r_isT23, ↓DL.r_isT24, ↓DL.r_isT25, ↓DL.r_isT26, ↓DL.r_isT27, ↓DL.r_isT28, ↓DL.r_isT29, ↓DL.r_isT30, ↓DL.r_isT31, ↓DL.r_isT32, ↓DL.r_isT33, ↓DL.r_isT34, ↓DL.r_isT35, ↓DL.r_isiN, ↓DL.r_isi2N, ↓DL.r_isiB, ↓DL.r_isi2B, ↓DL.r_isiI, ↓DL.r_isi2I, ↓DL.r_isiS, ↓DL.r_isi2S, ↓DL.r_isiT, ↓DL.r_isi2T, ↓DL.r_isiL, ↓DL.r_isi2L, ↓DL.r_inTI, ↓DL.r_ninTI, ↓DL.r_inLI, ↓DL.r_ninLI, ↓DL.r_inTS, ↓DL.r_inD_nil, ↓DL.r_inD_cons, ↓DL.r_flat_nil, ↓DL.r_flat_cons, ↓DL.r_flatS, ↓DL.r_flatI, ↓DL.r_eqvSS, ↓DL.r_eqvII, ↓DL.r_addLL, ↓DL.r_atm1, ↓DL.r_atm2, ↓DL.r_at0, ↓DL.r_at1, ↓DL.r_at2, ↓DL.r_at3, ↓DL.r_at4, ↓DL.r_at5, ↓DL.r_at6, ↓DL.r_at7, ↓DL.r_at8, ↓DL.r_beqI, ↓DL.r_ndec, ↓DL.r_gT, ↓DL.k_Gs, ↓DL.r_gsCons, ↓DL.r_gsNil, ↓DL.r_isDNN, ↓DL.r_isDBB, ↓DL.r_isDBN, ↓DL.r_isDNB, ↓DL.r_isDIN, ↓DL.r_isDIB, ↓DL.r_isDSN, ↓DL.r_isDSB, ↓DL.r_isDTN, ↓DL.r_isDTB, ↓DL.r_isDLN, ↓DL.r_isDLB, ↓DL.r_isDRN, ↓DL.r_isDRB, ↓DL.r_beqTT, ↓DL.r_beqTF, ↓DL.r_beqFT, ↓DL.r_beqFF, ↓DL.k_onI, ↓DL.k_Fld2, ↓DL.r_fld, ↓DL.k_FldR, ↓DL.k_FldO, ↓DL.r_look, ↓DL.r_lookN, ↓DL.r_putD, ↓DL.r_putDN, ↓DL.k_SF3, ↓DL.r_setFldR, ↓DL.k_SF2, ↓DL.k_SF1, ↓DL.r_setFld, ↓DL.r_methF, ↓DL.k_Me2, ↓DL.r_meth, ↓DL.k_MeR, ↓DL.k_MeO, ↓DL.r_make, ↓DL.k_MkN, ↓DL.r_makeF, ↓DL.k_CG2, ↓DL.k_CG, ↓DL.r_callG, ↓DL.r_callGF, ↓DL.r_listRg, ↓DL.r_tupRg, ↓DL.k_SlR, ↓DL.r_slR, ↓DL.r_enumL, ↓DL.r_max2, ↓DL.r_min2, ↓DL.r_isi2R, ↓DL.r_isiR, ↓DL.r_lst1, ↓DL.r_lst2, ↓DL.r_lst3, ↓DL.r_lst4, ↓DL.r_lst5, ↓DL.r_lst6, ↓DL.r_lst7, ↓DL.r_lst8, ↓DL.r_lst9, ↓DL.r_lst10, ↓DL.r_lst11, ↓DL.r_lst12, ↓DL.r_seqR, ↓DL.k_ForR, ↓DL.r_minL, ↓DL.r_clr, ↓DL.k_Clr1R, ↓DL.k_LstR, ↓DL.r_listRef, ↓DL.r_enumJL, ↓DL.r_enumJT, ↓DL.k_Clr2, ↓DL.k_MG2, ↓DL.k_MG, ↓DL.r_makeG, ↓DL.r_makeGF, ↓DL.r_prop, ↓DL.k_Pr2, ↓DL.k_PrR, ↓DL.k_Eq3, ↓DL.r_isiCN, ↓DL.r_isiCS, ↓DL.r_isiCT, ↓DL.k_Ix3, ↓DL.k_Ix2, ↓DL.k_Ix1, ↓DL.r_index, ↓DL.r_iStr, ↓DL.r_strI, ↓DL.k_T2, ↓DL.k_T1S, ↓DL.r_join, ↓DL.r_sindex, ↓DL.k_Rz, ↓DL.r_raise, ↓DL.r_raise0, ↓DL.k_Ex, ↓DL.r_try, ↓DL.k_trNx, ↓DL.k_trRt, ↓DL.k_trBk, ↓DL.k_trCt, ↓DL.k_trEx, ↓DL.k_hdlN, ↓DL.k_hdlT, ↓DL.k_hdlF, ↓DL.k_setSlN, ↓DL.k_setSlS, ↓DL.k_endNx, ↓DL.k_endRt, ↓DL.k_endBk, ↓DL.k_endCt, ↓DL.r_xf, ↓DL.r_xfD, ↓DL.r_isE, ↓DL.r_isED, ↓DL.r_isiDc, ↓DL.r_isi2Dc, ↓DL.k_In4, ↓DL.k_In3, ↓DL.k_In2, ↓DL.k_In1, ↓DL.r_ins, ↓DL.r_addI, ↓DL.k_Fa4, ↓DL.k_Fa3, ↓DL.k_Fa2, ↓DL.k_FaR, ↓DL.r_fldaug, ↓DL.r_dinL, ↓DL.r_dinD, ↓DL.r_dninL, ↓DL.r_dninD, ↓DL.r_dgetL, ↓DL.r_dgetD, ↓DL.r_lenDL, ↓DL.r_lenDD, ↓DL.r_dictL, ↓DL.r_dictD, ↓DL.r_isiLc, ↓DL.r_isi2Lc, ↓DL.r_isTd0, ↓DL.r_isTd1, ↓DL.r_isTd2, ↓DL.r_isTd3, ↓DL.r_isTd4, ↓DL.r_newD, ↓DL.r_frzLs, ↓DL.r_items, ↓DL.r_inK, ↓DL.r_ninK, ↓DL.r_getK, ↓DL.r_dispM, ↓DL.k_Dp2, ↓DL.k_Dp1, ↓DL.r_pairsN, ↓DL.r_pairsC, ↓DL.r_dispF1, ↓DL.r_gTn, ↓DL.k_Gf1, ↓DL.r_gFld, ↓DL.Kt.seq_nx, ↓DL.Kt.seq_rt, ↓DL.Kt.seq_bk, ↓DL.Kt.seq_ct, ↓DL.Kt.seq_ex, ↓DL.Kt.fin_nx, ↓DL.Kt.fin_rt, ↓DL.Kt.fin_ex, ↓DL.Kt.loop_nx, ↓DL.Kt.loop_rt, ↓DL.Kt.loop_bk, ↓DL.Kt.loop_ct, ↓DL.Kt.loop_ex, ↓DL.C.run_ret, ↓DL.mset_same, ↓DL.mset_mset, startD, ixN, Option.bind_some, Option.map_some, List.map_cons, List.map_nil, List.length_cons, List.length_nil, List.length_set, List.replicate, List.cons_append, List.nil_append, List.append_nil, List.set_cons_zero, List.set_cons_succ, List.getElem?_cons_zero, List.getElem?_cons_succ, Nat.reduceAdd, Nat.reduceSub, Nat.zero_add, if_true, if_false, decide_eq_true_eq, reduceIte, Bool.not_true, Bool.not_false, beq_self_eq_true, Bool.false_eq_true, Int.reduceLT, Int.reduceLE, Int.reduceNeg, Int.reduceToNat, Int.reduceAdd, Int.reduceSub, Nat.reduceLT, Nat.reduceLeDiff, Int.cast_ofNat_Int, Int.reduceEq, Int.reduceBEq, DL.wipeD, decide_true, decide_false, not_true_eq_false, not_false_eq_true, String.reduceEq, Bool.or_true, Bool.or_false, Bool.true_or, Bool.false_or, Bool.and_true, Bool.and_false, Bool.true_and, Bool.false_and, Bool.not_not, Nat.reduceEqDiff, Int.toNat_natCast, Decidable.not_not, List.mem_cons, List.not_mem_nil, or_false, or_true, true_or, false_or, and_true, true_and, and_self, and_false, false_and, reduceCtorEq, Option.isNone_some, Option.isNone_none, Option.isSome_some, Option.isSome_none, List.zip_cons_cons, List.zip_nil_right, List.zip_nil_left, List.reverse_cons, List.reverse_nil, Option.getD_some, Option.getD_none, r_tb_LENGTHS_0, r_tb_LENGTHS_1, r_tb_LENGTHS_2, r_tb_LENGTHS_3, r_tb_LENGTHS_4, r_tb_LENGTHS_5, r_in_BadProgram, r_xs_BadProgram_BadProgram, sizeLine_eq, r_sl3, r_seqB, r_lenB, r_ixB, r_isB, r_is2B, r_enumB, sumf_run, enc_wr, enc_gt, enc_st, enc_ite, enc_whl, enc_rt, endsS_wr, endsS_gt, endsS_st, endsS_ite, endsS_whl, endsS_rt, bareS_wr, bareS_gt, bareS_st, bareS_ite, bareS_whl, bareS_rt, cutr3_4, cutr3_5, r_addTT, cs_sizes, cs_side, cs_place, k_MOST_STATEMENTS, k_MOST_DEPTH, dvD_int, k_onICK, cut3_2, cut3_3, cut3_4, cut3_5, k_MOST_VARIABLES, cs_names, cs_store, cs_block, cs_count, cs_code, cs_place])
local macro_rules | `(tactic| walk_at "h") => `(tactic| simp -implicitDefEqProofs only [↓DL.k_F, ↓DL.k_M, ↓DL.k_onV, ↓DL.k_onL, ↓DL.k_onO, ↓DL.k_onN, ↓DL.r_C, ↓DL.r_var, ↓DL.k_Op2, ↓DL.k_Op, ↓DL.r_op, ↓DL.r_un, ↓DL.r_app, ↓DL.r_call, ↓DL.r_callF, ↓DL.k_CK2, ↓DL.k_CK, ↓DL.r_callK, ↓DL.r_callKF, ↓DL.r_nil, ↓DL.k_A2, ↓DL.k_A, ↓DL.r_cons, ↓DL.k_AndT, ↓DL.k_AndF, ↓DL.r_and, ↓DL.k_OrT, ↓DL.k_OrF, ↓DL.r_or, ↓DL.k_Not, ↓DL.r_not, ↓DL.k_EIfT, ↓DL.k_EIfF, ↓DL.r_eIf, ↓DL.k_Ch3T, ↓DL.k_Ch3F, ↓DL.k_Ch2, ↓DL.k_Ch1, ↓DL.r_chain, ↓DL.k_T, ↓DL.r_of, ↓DL.k_TAT, ↓DL.k_TAF, ↓DL.r_tand, ↓DL.k_TOT, ↓DL.k_TOF, ↓DL.r_tor, ↓DL.k_TN, ↓DL.r_tnot, ↓DL.r_tTrue, ↓DL.k_Asg, ↓DL.r_asg, ↓DL.k_Nx, ↓DL.r_expr, ↓DL.k_Rt, ↓DL.r_ret, ↓DL.r_retN, ↓DL.k_IfT, ↓DL.k_IfF, ↓DL.r_if, ↓DL.r_seq, ↓DL.r_next, ↓DL.r_break, ↓DL.r_cont, ↓DL.r_stuck, ↓DL.k_G, ↓DL.r_asgG, ↓DL.k_For, ↓DL.r_for, ↓DL.k_SI3, ↓DL.k_SI2, ↓DL.k_SI, ↓DL.r_setItemS, ↓DL.k_Ap3, ↓DL.k_Ap2, ↓DL.k_Ap1, ↓DL.r_apd, ↓DL.r_gN, ↓DL.r_iSeq, ↓DL.r_iApp, ↓DL.k_Body, ↓DL.k_Sl3, ↓DL.k_Sl2, ↓DL.k_Sl1, ↓DL.r_sl, ↓DL.r_oNone, ↓DL.k_OS, ↓DL.r_oSome, ↓DL.r_slT, ↓DL.r_slL, ↓DL.r_slS, ↓DL.r_retL, ↓DL.r_newL, ↓DL.r_lc, ↓DL.r_lcM, ↓DL.r_add, ↓DL.r_sub, ↓DL.r_mod, ↓DL.r_div, ↓DL.r_pow1018, ↓DL.r_lt, ↓DL.r_le, ↓DL.r_gt, ↓DL.r_ge, ↓DL.r_neg, ↓DL.r_eqII, ↓DL.r_neII, ↓DL.r_eqSS, ↓DL.r_neSS, ↓DL.r_eqBB, ↓DL.r_neBB, ↓DL.r_isN, ↓DL.r_isB, ↓DL.r_notN, ↓DL.r_int1, ↓DL.r_intb, ↓DL.r_abs, ↓DL.k_Get, ↓DL.r_ixT, ↓DL.r_ixL, ↓DL.r_asLR, ↓DL.r_asLL, ↓DL.r_ixRef, ↓DL.r_lenT, ↓DL.r_lenL, ↓DL.k_Len, ↓DL.r_lenRef, ↓DL.r_sumRef, ↓DL.k_SetJ, ↓DL.k_Set, ↓DL.r_setRef, ↓DL.k_App, ↓DL.r_appRef, ↓DL.r_tup0, ↓DL.r_tup1, ↓DL.r_tup2, ↓DL.r_tup3, ↓DL.r_tup4, ↓DL.r_tup5, ↓DL.r_tup6, ↓DL.r_tup7, ↓DL.r_tup8, ↓DL.r_lst0, ↓DL.r_ref0, ↓DL.r_ref1, ↓DL.r_ref2, ↓DL.r_ref3, ↓DL.r_ref4, ↓DL.r_ref5, ↓DL.r_ref6, ↓DL.r_listL, ↓DL.r_listT, ↓DL.r_tupleL, ↓DL.r_seqT, ↓DL.r_seqL, ↓DL.r_range1, ↓DL.r_range2, ↓DL.r_strEq, ↓DL.r_strEq2, ↓DL.r_isT0, ↓DL.r_isT1, ↓DL.r_isT2, ↓DL.r_isT3, ↓DL.r_isT4, ↓DL.r_isT5, ↓DL.r_isT6, ↓DL.r_isT7, ↓DL.r_isT8, ↓DL.r_isT9, ↓DL.r_isT10, ↓DL.r_isT11, ↓DL.r_isT12, ↓DL.r_isT13, ↓DL.r_isT14, ↓DL.r_isT15, ↓DL.r_isT16, ↓DL.r_isT17, ↓DL.r_isT18, ↓DL.r_isT19, ↓DL.r_isT20, ↓DL.r_isT21, ↓DL.r_isT22, ↓DL.r_isT23, ↓DL.r_isT24, ↓DL.r_isT25, ↓DL.r_isT26, ↓DL.r_isT27, ↓DL.r_isT28, ↓DL.r_isT29, ↓DL.r_isT30, ↓DL.r_isT31, ↓DL.r_isT32, ↓DL.r_isT33, ↓DL.r_isT34, ↓DL.r_isT35, ↓DL.r_isiN, ↓DL.r_isi2N, ↓DL.r_isiB, ↓DL.r_isi2B, ↓DL.r_isiI, ↓DL.r_isi2I, ↓DL.r_isiS, ↓DL.r_isi2S, ↓DL.r_isiT, ↓DL.r_isi2T, ↓DL.r_isiL, ↓DL.r_isi2L, ↓DL.r_inTI, ↓DL.r_ninTI, ↓DL.r_inLI, ↓DL.r_ninLI, ↓DL.r_inTS, ↓DL.r_inD_nil, ↓DL.r_inD_cons, ↓DL.r_flat_nil, ↓DL.r_flat_cons, ↓DL.r_flatS, ↓DL.r_flatI, ↓DL.r_eqvSS, ↓DL.r_eqvII, ↓DL.r_addLL, ↓DL.r_atm1, ↓DL.r_atm2, ↓DL.r_at0, ↓DL.r_at1, ↓DL.r_at2, ↓DL.r_at3, ↓DL.r_at4, ↓DL.r_at5, ↓DL.r_at6, ↓DL.r_at7, ↓DL.r_at8, ↓DL.r_beqI, ↓DL.r_ndec, ↓DL.r_gT, ↓DL.k_Gs, ↓DL.r_gsCons, ↓DL.r_gsNil, ↓DL.r_isDNN, ↓DL.r_isDBB, ↓DL.r_isDBN, ↓DL.r_isDNB, ↓DL.r_isDIN, ↓DL.r_isDIB, ↓DL.r_isDSN, ↓DL.r_isDSB, ↓DL.r_isDTN, ↓DL.r_isDTB, ↓DL.r_isDLN, ↓DL.r_isDLB, ↓DL.r_isDRN, ↓DL.r_isDRB, ↓DL.r_beqTT, ↓DL.r_beqTF, ↓DL.r_beqFT, ↓DL.r_beqFF, ↓DL.k_onI, ↓DL.k_Fld2, ↓DL.r_fld, ↓DL.k_FldR, ↓DL.k_FldO, ↓DL.r_look, ↓DL.r_lookN, ↓DL.r_putD, ↓DL.r_putDN, ↓DL.k_SF3, ↓DL.r_setFldR, ↓DL.k_SF2, ↓DL.k_SF1, ↓DL.r_setFld, ↓DL.r_methF, ↓DL.k_Me2, ↓DL.r_meth, ↓DL.k_MeR, ↓DL.k_MeO, ↓DL.r_make, ↓DL.k_MkN, ↓DL.r_makeF, ↓DL.k_CG2, ↓DL.k_CG, ↓DL.r_callG, ↓DL.r_callGF, ↓DL.r_listRg, ↓DL.r_tupRg, ↓DL.k_SlR, ↓DL.r_slR, ↓DL.r_enumL, ↓DL.r_max2, ↓DL.r_min2, ↓DL.r_isi2R, ↓DL.r_isiR, ↓DL.r_lst1, ↓DL.r_lst2, ↓DL.r_lst3, ↓DL.r_lst4, ↓DL.r_lst5, ↓DL.r_lst6, ↓DL.r_lst7, ↓DL.r_lst8, ↓DL.r_lst9, ↓DL.r_lst10, ↓DL.r_lst11, ↓DL.r_lst12, ↓DL.r_seqR, ↓DL.k_ForR, ↓DL.r_minL, ↓DL.r_clr, ↓DL.k_Clr1R, ↓DL.k_LstR, ↓DL.r_listRef, ↓DL.r_enumJL, ↓DL.r_enumJT, ↓DL.k_Clr2, ↓DL.k_MG2, ↓DL.k_MG, ↓DL.r_makeG, ↓DL.r_makeGF, ↓DL.r_prop, ↓DL.k_Pr2, ↓DL.k_PrR, ↓DL.k_Eq3, ↓DL.r_isiCN, ↓DL.r_isiCS, ↓DL.r_isiCT, ↓DL.k_Ix3, ↓DL.k_Ix2, ↓DL.k_Ix1, ↓DL.r_index, ↓DL.r_iStr, ↓DL.r_strI, ↓DL.k_T2, ↓DL.k_T1S, ↓DL.r_join, ↓DL.r_sindex, ↓DL.k_Rz, ↓DL.r_raise, ↓DL.r_raise0, ↓DL.k_Ex, ↓DL.r_try, ↓DL.k_trNx, ↓DL.k_trRt, ↓DL.k_trBk, ↓DL.k_trCt, ↓DL.k_trEx, ↓DL.k_hdlN, ↓DL.k_hdlT, ↓DL.k_hdlF, ↓DL.k_setSlN, ↓DL.k_setSlS, ↓DL.k_endNx, ↓DL.k_endRt, ↓DL.k_endBk, ↓DL.k_endCt, ↓DL.r_xf, ↓DL.r_xfD, ↓DL.r_isE, ↓DL.r_isED, ↓DL.r_isiDc, ↓DL.r_isi2Dc, ↓DL.k_In4, ↓DL.k_In3, ↓DL.k_In2, ↓DL.k_In1, ↓DL.r_ins, ↓DL.r_addI, ↓DL.k_Fa4, ↓DL.k_Fa3, ↓DL.k_Fa2, ↓DL.k_FaR, ↓DL.r_fldaug, ↓DL.r_dinL, ↓DL.r_dinD, ↓DL.r_dninL, ↓DL.r_dninD, ↓DL.r_dgetL, ↓DL.r_dgetD, ↓DL.r_lenDL, ↓DL.r_lenDD, ↓DL.r_dictL, ↓DL.r_dictD, ↓DL.r_isiLc, ↓DL.r_isi2Lc, ↓DL.r_isTd0, ↓DL.r_isTd1, ↓DL.r_isTd2, ↓DL.r_isTd3, ↓DL.r_isTd4, ↓DL.r_newD, ↓DL.r_frzLs, ↓DL.r_items, ↓DL.r_inK, ↓DL.r_ninK, ↓DL.r_getK, ↓DL.r_dispM, ↓DL.k_Dp2, ↓DL.k_Dp1, ↓DL.r_pairsN, ↓DL.r_pairsC, ↓DL.r_dispF1, ↓DL.r_gTn, ↓DL.k_Gf1, ↓DL.r_gFld, ↓DL.Kt.seq_nx, ↓DL.Kt.seq_rt, ↓DL.Kt.seq_bk, ↓DL.Kt.seq_ct, ↓DL.Kt.seq_ex, ↓DL.Kt.fin_nx, ↓DL.Kt.fin_rt, ↓DL.Kt.fin_ex, ↓DL.Kt.loop_nx, ↓DL.Kt.loop_rt, ↓DL.Kt.loop_bk, ↓DL.Kt.loop_ct, ↓DL.Kt.loop_ex, ↓DL.C.run_ret, ↓DL.mset_same, ↓DL.mset_mset, startD, ixN, Option.bind_some, Option.map_some, List.map_cons, List.map_nil, List.length_cons, List.length_nil, List.length_set, List.replicate, List.cons_append, List.nil_append, List.append_nil, List.set_cons_zero, List.set_cons_succ, List.getElem?_cons_zero, List.getElem?_cons_succ, Nat.reduceAdd, Nat.reduceSub, Nat.zero_add, if_true, if_false, decide_eq_true_eq, reduceIte, Bool.not_true, Bool.not_false, beq_self_eq_true, Bool.false_eq_true, Int.reduceLT, Int.reduceLE, Int.reduceNeg, Int.reduceToNat, Int.reduceAdd, Int.reduceSub, Nat.reduceLT, Nat.reduceLeDiff, Int.cast_ofNat_Int, Int.reduceEq, Int.reduceBEq, DL.wipeD, decide_true, decide_false, not_true_eq_false, not_false_eq_true, String.reduceEq, Bool.or_true, Bool.or_false, Bool.true_or, Bool.false_or, Bool.and_true, Bool.and_false, Bool.true_and, Bool.false_and, Bool.not_not, Nat.reduceEqDiff, Int.toNat_natCast, Decidable.not_not, List.mem_cons, List.not_mem_nil, or_false, or_true, true_or, false_or, and_true, true_and, and_self, and_false, false_and, reduceCtorEq, Option.isNone_some, Option.isNone_none, Option.isSome_some, Option.isSome_none, List.zip_cons_cons, List.zip_nil_right, List.zip_nil_left, List.reverse_cons, List.reverse_nil, Option.getD_some, Option.getD_none, r_tb_LENGTHS_0, r_tb_LENGTHS_1, r_tb_LENGTHS_2, r_tb_LENGTHS_3, r_tb_LENGTHS_4, r_tb_LENGTHS_5, r_in_BadProgram, r_xs_BadProgram_BadProgram, sizeLine_eq, r_sl3, r_seqB, r_lenB, r_ixB, r_isB, r_is2B, r_enumB, sumf_run, enc_wr, enc_gt, enc_st, enc_ite, enc_whl, enc_rt, endsS_wr, endsS_gt, endsS_st, endsS_ite, endsS_whl, endsS_rt, bareS_wr, bareS_gt, bareS_st, bareS_ite, bareS_whl, bareS_rt, cutr3_4, cutr3_5, r_addTT, cs_sizes, cs_side, cs_place, k_MOST_STATEMENTS, k_MOST_DEPTH, dvD_int, k_onICK, cut3_2, cut3_3, cut3_4, cut3_5, k_MOST_VARIABLES, cs_names, cs_store, cs_block, cs_count, cs_code, cs_place, *])
local macro_rules | `(tactic| walk_at "s") => `(tactic| ((try walk_at "h"); repeat' ((first | with_reducible refine if_dec (fun _ => ?_) (fun _ => ?_) | with_reducible refine eif_dec (fun _ => ?_) (fun _ => ?_) | with_reducible refine tor_dec (fun _ => ?_) (fun _ => ?_) | with_reducible refine tand_dec (fun _ => ?_) (fun _ => ?_) | with_reducible refine and_dec (fun _ => ?_) (fun _ => ?_) | with_reducible refine or_dec (fun _ => ?_) (fun _ => ?_) | with_reducible refine ch_dec (fun _ => ?_) (fun _ => ?_)) <;> (try walk_at "h"))))
mutual
def opS : Sm → Bool
  | .ite _ _ y n => opB y || opB n
  | .rt _ => false
  | .wr _ _ => true
  | .gt _ _ => true
  | .st _ _ => true
  | .whl _ _ _ => true
def opB : List Sm → Bool
  | [] => true
  | s :: r => opS s && opB r
end
mutual
def nwS : Sm → Bool
  | .ite _ _ y n => nwB y && nwB n
  | .whl _ _ b => nwB b
  | .wr _ _ => false
  | .rt _ => true
  | .gt _ _ => true
  | .st _ _ => true
def nwB : List Sm → Bool
  | [] => true
  | s :: r => nwS s && nwB r
end
mutual
def lrS : Sm → List Str
  | .ite _ _ y n => lr true y ++ lr true n
  | .whl _ _ b => lr true b
  | .wr _ _ => []
  | .rt _ => []
  | .gt _ _ => []
  | .st _ _ => []
def lr : Bool → List Sm → List Str
  | _, [] => []
  | o, s :: r => (if o = false then "dead" else if idleS s = true then "idle" else "") :: (lrS s ++ lr (o && opS s) r)
end
def fne : List Str → Nat → Option (Nat × Str)
  | [], _ => none
  | w :: r, k => if w = "" then fne r (k + 1) else some (k, w)
theorem fne_app : ∀ (a b : List Str) (k : Nat), fne (a ++ b) k = (fne a k).or (fne b (k + a.length))
  | [], b, k => by simp [fne]
  | w :: a, b, k => by
    rw [List.cons_append, fne, fne]
    by_cases h : w = ""
    · rw [if_pos h, if_pos h, fne_app a b, List.length_cons]
      congr 2
      omega
    · rw [if_neg h, if_neg h]
      rfl
theorem opB_cons {s : Sm} {r : List Sm} : opB (s :: r) = (opS s && opB r) := by rw [opB]
theorem opB_append : ∀ {a b : List Sm}, opB (a ++ b) = (opB a && opB b)
  | [], b => by simp [opB]
  | s :: r, b => by rw [List.cons_append, opB_cons, opB_cons, opB_append, Bool.and_assoc]
theorem nwB_cons {s : Sm} {r : List Sm} : nwB (s :: r) = (nwS s && nwB r) := by rw [nwB]
theorem nwB_mem : ∀ {l : List Sm} {s : Sm}, nwB l = true → s ∈ l → nwS s = true
  | s :: r, x, h, hm => by
    rw [nwB_cons, Bool.and_eq_true] at h
    rcases List.mem_cons.mp hm with rfl | hm
    · exact h.1
    · exact nwB_mem h.2 hm
theorem nwB_append : ∀ {a b : List Sm}, nwB (a ++ b) = (nwB a && nwB b)
  | [], b => by simp [nwB]
  | s :: r, b => by rw [List.cons_append, nwB_cons, nwB_cons, nwB_append, Bool.and_assoc]
theorem lr_cons {o : Bool} {s : Sm} {r : List Sm} : lr o (s :: r) = (if o = false then ("dead" : Str) else if idleS s = true then "idle" else "") :: (lrS s ++ lr (o && opS s) r) := by rw [lr]
theorem lr_nil {o : Bool} : lr o [] = [] := by rw [lr]
theorem lr_len : ∀ n : Nat, (∀ b : List Sm, cnts b ≤ n → ∀ o, (lr o b).length = cnts b) ∧ ∀ s : Sm, cnt s ≤ n → (lrS s).length + 1 = cnt s := by
  intro n
  induction n with
  | zero =>
    refine ⟨fun b h o => ?_, fun s h => by have := cnt_pos s; omega⟩
    cases b with
    | nil => rw [lr_nil, cnts_nil]; rfl
    | cons s r => rw [cnts_cons] at h; have := cnt_pos s; omega
  | succ n ih =>
    have hS : ∀ s : Sm, cnt s ≤ n + 1 → (lrS s).length + 1 = cnt s := by
      intro s h
      cases s with
      | ite l t y k =>
        rw [cnt_ite] at h ⊢
        rw [lrS, List.length_append, ih.1 y (by omega), ih.1 k (by omega)]
        omega
      | whl l t b =>
        rw [cnt_whl] at h ⊢
        rw [lrS, ih.1 b (by omega)]
        omega
      | _ => simp [lrS, cnt]
    refine ⟨fun b => ?_, hS⟩
    induction b with
    | nil => intro h o; rw [lr_nil, cnts_nil]; rfl
    | cons s r ihr =>
      intro h o
      rw [cnts_cons] at h ⊢
      have := cnt_pos s
      have := hS s (by omega)
      rw [lr_cons, List.length_cons, List.length_append, ihr (by omega)]
      omega
theorem lrB_len (b : List Sm) (o : Bool) : (lr o b).length = cnts b := (lr_len (cnts b)).1 b (Nat.le_refl _) o
theorem lrS_len (s : Sm) : (lrS s).length + 1 = cnt s := (lr_len (cnt s)).2 s (Nat.le_refl _)
theorem clean : ∀ n : Nat, (∀ b : List Sm, cnts b ≤ n → ∀ pl q e, flawB b pl e = (q, none) → (e = false ∨ b = []) ∧ opB b = !endsB b) ∧ ∀ s : Sm, cnt s ≤ n → ∀ pl q, flawS s pl = (q, none) → opS s = !endsS s := by
  intro n
  induction n with
  | zero =>
    refine ⟨fun b h pl q e hf => ?_, fun s h => by have := cnt_pos s; omega⟩
    cases b with
    | nil => exact ⟨.inr rfl, by rw [opB, endsB_nil]; rfl⟩
    | cons s r => rw [cnts_cons] at h; have := cnt_pos s; omega
  | succ n ih =>
    have hS : ∀ s : Sm, cnt s ≤ n + 1 → ∀ pl q, flawS s pl = (q, none) → opS s = !endsS s := by
      intro s h pl q hf
      cases s with
      | ite l t y k =>
        rw [cnt_ite] at h
        rw [flawS] at hf
        cases h1 : flawB y (pl + 1) false with
        | mk q1 o1 =>
          rw [h1] at hf
          cases o1 with
          | some f => simp at hf
          | none =>
            have e1 := (ih.1 y (by omega) _ _ _ h1).2
            have e2 := (ih.1 k (by omega) _ _ _ hf).2
            rw [opS, endsS_ite, e1, e2]
            cases endsB y <;> cases endsB k <;> rfl
      | rt t => rw [opS, endsS_rt]; rfl
      | wr c t => rw [opS, endsS_wr]; rfl
      | gt c t => rw [opS, endsS_gt]; rfl
      | st c t => rw [opS, endsS_st]; rfl
      | whl l t b => rw [opS, endsS_whl]; rfl
    refine ⟨fun b => ?_, hS⟩
    induction b with
    | nil => intro h pl q e hf; exact ⟨.inr rfl, by rw [opB, endsB_nil]; rfl⟩
    | cons s r ihr =>
      intro h pl q e hf
      rw [cnts_cons] at h
      have := cnt_pos s
      cases e with
      | true => rw [flawB_dead] at hf; simp at hf
      | false =>
        refine ⟨.inl rfl, ?_⟩
        cases h1 : flawS s pl with
        | mk q1 o1 =>
          cases o1 with
          | some f => rw [flawB_some h1] at hf; simp at hf
          | none =>
            rw [flawB_none h1] at hf
            obtain ⟨h2, h3⟩ := ihr (by omega) _ _ _ hf
            have h4 := hS s (by omega) _ _ h1
            rw [opB_cons, h4]
            rcases h2 with h2 | rfl
            · rw [h2, endsB]
              cases r with
              | nil => rw [opB, h2]; rfl
              | cons a r => rw [h3]; rfl
            · rw [opB, endsB]
              simp
theorem clean_S {s : Sm} {pl q : Nat} (h : flawS s pl = (q, none)) : opS s = !endsS s := (clean (cnt s)).2 s (Nat.le_refl _) _ _ h
theorem fne_flaw : ∀ n : Nat, (∀ b : List Sm, cnts b ≤ n → ∀ pl o, fne (lr o b) pl = (flawB b pl (!o)).2) ∧ ∀ s : Sm, cnt s ≤ n → idleS s = false → ∀ pl, fne (lrS s) (pl + 1) = (flawS s pl).2 := by
  intro n
  induction n with
  | zero =>
    refine ⟨fun b h pl o => ?_, fun s h => by have := cnt_pos s; omega⟩
    cases b with
    | nil => rw [lr_nil, flawB_nil]; rfl
    | cons s r => rw [cnts_cons] at h; have := cnt_pos s; omega
  | succ n ih =>
    have hS : ∀ s : Sm, cnt s ≤ n + 1 → idleS s = false → ∀ pl, fne (lrS s) (pl + 1) = (flawS s pl).2 := by
      intro s h hi pl
      cases s with
      | ite l t y k =>
        rw [cnt_ite] at h
        rw [lrS, fne_app, flawS, ih.1 y (by omega), lrB_len]
        rw [show (!true) = false from rfl]
        cases h1 : flawB y (pl + 1) false with
        | mk q1 o1 =>
          cases o1 with
          | some f => rfl
          | none =>
            have e := flawB_cnt h1
            show fne (lr true k) _ = _
            rw [ih.1 k (by omega), e]
            rfl
      | whl l t b =>
        rw [cnt_whl] at h
        simp only [idleS] at hi
        rw [lrS, flawS, if_neg (by rw [hi]; decide), ih.1 b (by omega)]
        rfl
      | _ => rw [lrS, flawS]; rfl
    refine ⟨fun b => ?_, hS⟩
    induction b with
    | nil => intro h pl o; rw [lr_nil, flawB_nil]; rfl
    | cons s r ihr =>
      intro h pl o
      rw [cnts_cons] at h
      have := cnt_pos s
      rw [lr_cons, fne]
      cases o with
      | false =>
        rw [if_pos rfl, if_neg (by decide), show (!false) = true from rfl, flawB_dead]
      | true =>
        rw [if_neg (show ¬ (true = false) by decide)]
        cases hi : idleS s with
        | true =>
          rw [if_pos (show true = true from rfl), if_neg (by decide), show (!true) = false from rfl, flawB_some (flawS_idle hi)]
        | false =>
          rw [if_neg (show ¬ (false = true) by decide), if_pos rfl, fne_app, hS s (by omega) hi]
          rw [show (!true) = false from rfl]
          cases h1 : flawS s pl with
          | mk q1 o1 =>
            cases o1 with
            | some f => rw [flawB_some h1]; rfl
            | none =>
              have e := (flaw_cnt (cnt s)).2 s (Nat.le_refl _) _ _ h1
              have e2 := lrS_len s
              rw [flawB_none h1]
              show fne (lr (true && opS s) r) _ = _
              rw [ihr (by omega), clean_S h1, Bool.true_and, Bool.not_not]
              congr 2
              omega
theorem fne_eq (b : List Sm) : fne (lr true b) 0 = (flawB b 0 false).2 := (fne_flaw (cnts b)).1 b (Nat.le_refl _) 0 true

local macro_rules | `(tactic| walk_at "d") => `(tactic| simp -implicitDefEqProofs only [↓DL.k_F, ↓DL.k_M, ↓DL.k_onV, ↓DL.k_onL, ↓DL.k_onO, ↓DL.k_onN, ↓DL.r_C, ↓DL.r_var, ↓DL.k_Op2, ↓DL.k_Op, ↓DL.r_op, ↓DL.r_un, ↓DL.r_app, ↓DL.r_call, ↓DL.r_callF, ↓DL.k_CK2, ↓DL.k_CK, ↓DL.r_callK, ↓DL.r_callKF, ↓DL.r_nil, ↓DL.k_A2, ↓DL.k_A, ↓DL.r_cons, ↓DL.k_AndT, ↓DL.k_AndF, ↓DL.r_and, ↓DL.k_OrT, ↓DL.k_OrF, ↓DL.r_or, ↓DL.k_Not, ↓DL.r_not, ↓DL.k_EIfT, ↓DL.k_EIfF, ↓DL.r_eIf, ↓DL.k_Ch3T, ↓DL.k_Ch3F, ↓DL.k_Ch2, ↓DL.k_Ch1, ↓DL.r_chain, ↓DL.k_T, ↓DL.r_of, ↓DL.k_TAT, ↓DL.k_TAF, ↓DL.r_tand, ↓DL.k_TOT, ↓DL.k_TOF, ↓DL.r_tor, ↓DL.k_TN, ↓DL.r_tnot, ↓DL.r_tTrue, ↓DL.k_Asg, ↓DL.r_asg, ↓DL.k_Nx, ↓DL.r_expr, ↓DL.k_Rt, ↓DL.r_ret, ↓DL.r_retN, ↓DL.k_IfT, ↓DL.k_IfF, ↓DL.r_if, ↓DL.r_seq, ↓DL.r_next, ↓DL.r_break, ↓DL.r_cont, ↓DL.r_stuck, ↓DL.k_G, ↓DL.r_asgG, ↓DL.k_For, ↓DL.r_for, ↓DL.k_SI3, ↓DL.k_SI2, ↓DL.k_SI, ↓DL.r_setItemS, ↓DL.k_Ap3, ↓DL.k_Ap2, ↓DL.k_Ap1, ↓DL.r_apd, ↓DL.r_gN, ↓DL.r_iSeq, ↓DL.r_iApp, ↓DL.k_Body, ↓DL.k_Sl3, ↓DL.k_Sl2, ↓DL.k_Sl1, ↓DL.r_sl, ↓DL.r_oNone, ↓DL.k_OS, ↓DL.r_oSome, ↓DL.r_slT, ↓DL.r_slL, ↓DL.r_slS, ↓DL.r_retL, ↓DL.r_newL, ↓DL.r_lc, ↓DL.r_lcM, ↓DL.r_add, ↓DL.r_sub, ↓DL.r_mod, ↓DL.r_div, ↓DL.r_pow1018, ↓DL.r_lt, ↓DL.r_le, ↓DL.r_gt, ↓DL.r_ge, ↓DL.r_neg, ↓DL.r_eqII, ↓DL.r_neII, ↓DL.r_eqSS, ↓DL.r_neSS, ↓DL.r_eqBB, ↓DL.r_neBB, ↓DL.r_isN, ↓DL.r_isB, ↓DL.r_notN, ↓DL.r_int1, ↓DL.r_intb, ↓DL.r_abs, ↓DL.k_Get, ↓DL.r_ixT, ↓DL.r_ixL, ↓DL.r_asLR, ↓DL.r_asLL, ↓DL.r_ixRef, ↓DL.r_lenT, ↓DL.r_lenL, ↓DL.k_Len, ↓DL.r_lenRef, ↓DL.r_sumRef, ↓DL.k_SetJ, ↓DL.k_Set, ↓DL.r_setRef, ↓DL.k_App, ↓DL.r_appRef, ↓DL.r_tup0, ↓DL.r_tup1, ↓DL.r_tup2, ↓DL.r_tup3, ↓DL.r_tup4, ↓DL.r_tup5, ↓DL.r_tup6, ↓DL.r_tup7, ↓DL.r_tup8, ↓DL.r_lst0, ↓DL.r_ref0, ↓DL.r_ref1, ↓DL.r_ref2, ↓DL.r_ref3, ↓DL.r_ref4, ↓DL.r_ref5, ↓DL.r_ref6, ↓DL.r_listL, ↓DL.r_listT, ↓DL.r_tupleL, ↓DL.r_seqT, ↓DL.r_seqL, ↓DL.r_range1, ↓DL.r_range2, ↓DL.r_strEq, ↓DL.r_strEq2, ↓DL.r_isT0, ↓DL.r_isT1, ↓DL.r_isT2, ↓DL.r_isT3, ↓DL.r_isT4, ↓DL.r_isT5, ↓DL.r_isT6, ↓DL.r_isT7, ↓DL.r_isT8, ↓DL.r_isT9, ↓DL.r_isT10, ↓DL.r_isT11, ↓DL.r_isT12, ↓DL.r_isT13, ↓DL.r_isT14, ↓DL.r_isT15, ↓DL.r_isT16, ↓DL.r_isT17, ↓DL.r_isT18, ↓DL.r_isT19, ↓DL.r_isT20, ↓DL.r_isT21, ↓DL.r_isT22, ↓DL.r_isT23, ↓DL.r_isT24, ↓DL.r_isT25, ↓DL.r_isT26, ↓DL.r_isT27, ↓DL.r_isT28, ↓DL.r_isT29, ↓DL.r_isT30, ↓DL.r_isT31, ↓DL.r_isT32, ↓DL.r_isT33, ↓DL.r_isT34, ↓DL.r_isT35, ↓DL.r_isiN, ↓DL.r_isi2N, ↓DL.r_isiB, ↓DL.r_isi2B, ↓DL.r_isiI, ↓DL.r_isi2I, ↓DL.r_isiS, ↓DL.r_isi2S, ↓DL.r_isiT, ↓DL.r_isi2T, ↓DL.r_isiL, ↓DL.r_isi2L, ↓DL.r_inTI, ↓DL.r_ninTI, ↓DL.r_inLI, ↓DL.r_ninLI, ↓DL.r_inTS, ↓DL.r_inD_nil, ↓DL.r_inD_cons, ↓DL.r_flat_nil, ↓DL.r_flat_cons, ↓DL.r_flatS, ↓DL.r_flatI, ↓DL.r_eqvSS, ↓DL.r_eqvII, ↓DL.r_addLL, ↓DL.r_atm1, ↓DL.r_atm2, ↓DL.r_at0, ↓DL.r_at1, ↓DL.r_at2, ↓DL.r_at3, ↓DL.r_at4, ↓DL.r_at5, ↓DL.r_at6, ↓DL.r_at7, ↓DL.r_at8, ↓DL.r_beqI, ↓DL.r_ndec, ↓DL.r_gT, ↓DL.k_Gs, ↓DL.r_gsCons, ↓DL.r_gsNil, ↓DL.r_isDNN, ↓DL.r_isDBB, ↓DL.r_isDBN, ↓DL.r_isDNB, ↓DL.r_isDIN, ↓DL.r_isDIB, ↓DL.r_isDSN, ↓DL.r_isDSB, ↓DL.r_isDTN, ↓DL.r_isDTB, ↓DL.r_isDLN, ↓DL.r_isDLB, ↓DL.r_isDRN, ↓DL.r_isDRB, ↓DL.r_beqTT, ↓DL.r_beqTF, ↓DL.r_beqFT, ↓DL.r_beqFF, ↓DL.k_onI, ↓DL.k_Fld2, ↓DL.r_fld, ↓DL.k_FldR, ↓DL.k_FldO, ↓DL.r_look, ↓DL.r_lookN, ↓DL.r_putD, ↓DL.r_putDN, ↓DL.k_SF3, ↓DL.r_setFldR, ↓DL.k_SF2, ↓DL.k_SF1, ↓DL.r_setFld, ↓DL.r_methF, ↓DL.k_Me2, ↓DL.r_meth, ↓DL.k_MeR, ↓DL.k_MeO, ↓DL.r_make, ↓DL.k_MkN, ↓DL.r_makeF, ↓DL.k_CG2, ↓DL.k_CG, ↓DL.r_callG, ↓DL.r_callGF, ↓DL.r_listRg, ↓DL.r_tupRg, ↓DL.k_SlR, ↓DL.r_slR, ↓DL.r_enumL, ↓DL.r_max2, ↓DL.r_min2, ↓DL.r_isi2R, ↓DL.r_isiR, ↓DL.r_lst1, ↓DL.r_lst2, ↓DL.r_lst3, ↓DL.r_lst4, ↓DL.r_lst5, ↓DL.r_lst6, ↓DL.r_lst7, ↓DL.r_lst8, ↓DL.r_lst9, ↓DL.r_lst10, ↓DL.r_lst11, ↓DL.r_lst12, ↓DL.r_seqR, ↓DL.k_ForR, ↓DL.r_minL, ↓DL.r_clr, ↓DL.k_Clr1R, ↓DL.k_LstR, ↓DL.r_listRef, ↓DL.r_enumJL, ↓DL.r_enumJT, ↓DL.k_Clr2, ↓DL.k_MG2, ↓DL.k_MG, ↓DL.r_makeG, ↓DL.r_makeGF, ↓DL.r_prop, ↓DL.k_Pr2, ↓DL.k_PrR, ↓DL.k_Eq3, ↓DL.r_isiCN, ↓DL.r_isiCS, ↓DL.r_isiCT, ↓DL.k_Ix3, ↓DL.k_Ix2, ↓DL.k_Ix1, ↓DL.r_index, ↓DL.r_iStr, ↓DL.r_strI, ↓DL.k_T2, ↓DL.k_T1S, ↓DL.r_join, ↓DL.r_sindex, ↓DL.k_Rz, ↓DL.r_raise, ↓DL.r_raise0, ↓DL.k_Ex, ↓DL.r_try, ↓DL.k_trNx, ↓DL.k_trRt, ↓DL.k_trBk, ↓DL.k_trCt, ↓DL.k_trEx, ↓DL.k_hdlN, ↓DL.k_hdlT, ↓DL.k_hdlF, ↓DL.k_setSlN, ↓DL.k_setSlS, ↓DL.k_endNx, ↓DL.k_endRt, ↓DL.k_endBk, ↓DL.k_endCt, ↓DL.r_xf, ↓DL.r_xfD, ↓DL.r_isE, ↓DL.r_isED, ↓DL.r_isiDc, ↓DL.r_isi2Dc, ↓DL.k_In4, ↓DL.k_In3, ↓DL.k_In2, ↓DL.k_In1, ↓DL.r_ins, ↓DL.r_addI, ↓DL.k_Fa4, ↓DL.k_Fa3, ↓DL.k_Fa2, ↓DL.k_FaR, ↓DL.r_fldaug, ↓DL.r_dinL, ↓DL.r_dinD, ↓DL.r_dninL, ↓DL.r_dninD, ↓DL.r_dgetL, ↓DL.r_dgetD, ↓DL.r_lenDL, ↓DL.r_lenDD, ↓DL.r_dictL, ↓DL.r_dictD, ↓DL.r_isiLc, ↓DL.r_isi2Lc, ↓DL.r_isTd0, ↓DL.r_isTd1, ↓DL.r_isTd2, ↓DL.r_isTd3, ↓DL.r_isTd4, ↓DL.r_newD, ↓DL.r_frzLs, ↓DL.r_items, ↓DL.r_inK, ↓DL.r_ninK, ↓DL.r_getK, ↓DL.r_dispM, ↓DL.k_Dp2, ↓DL.k_Dp1, ↓DL.r_pairsN, ↓DL.r_pairsC, ↓DL.r_dispF1, ↓DL.r_gTn, ↓DL.k_Gf1, ↓DL.r_gFld, ↓DL.Kt.seq_nx, ↓DL.Kt.seq_rt, ↓DL.Kt.seq_bk, ↓DL.Kt.seq_ct, ↓DL.Kt.seq_ex, ↓DL.Kt.fin_nx, ↓DL.Kt.fin_rt, ↓DL.Kt.fin_ex, ↓DL.Kt.loop_nx, ↓DL.Kt.loop_rt, ↓DL.Kt.loop_bk, ↓DL.Kt.loop_ct, ↓DL.Kt.loop_ex, ↓DL.C.run_ret, ↓DL.mset_same, ↓DL.mset_mset, startD, ixN, Option.bind_some, Option.map_some, List.map_cons, List.map_nil, List.length_cons, List.length_nil, List.length_set, List.replicate, List.cons_append, List.nil_append, List.append_nil, List.set_cons_zero, List.set_cons_succ, List.getElem?_cons_zero, List.getElem?_cons_succ, Nat.reduceAdd, Nat.reduceSub, Nat.zero_add, if_true, if_false, decide_eq_true_eq, reduceIte, Bool.not_true, Bool.not_false, beq_self_eq_true, Bool.false_eq_true, Int.reduceLT, Int.reduceLE, Int.reduceNeg, Int.reduceToNat, Int.reduceAdd, Int.reduceSub, Nat.reduceLT, Nat.reduceLeDiff, Int.cast_ofNat_Int, Int.reduceEq, Int.reduceBEq, DL.wipeD, decide_true, decide_false, not_true_eq_false, not_false_eq_true, String.reduceEq, Bool.or_true, Bool.or_false, Bool.true_or, Bool.false_or, Bool.and_true, Bool.and_false, Bool.true_and, Bool.false_and, Bool.not_not, Nat.reduceEqDiff, Int.toNat_natCast, Decidable.not_not, List.mem_cons, List.not_mem_nil, or_false, or_true, true_or, false_or, and_true, true_and, and_self, and_false, false_and, reduceCtorEq, Option.isNone_some, Option.isNone_none, Option.isSome_some, Option.isSome_none, List.zip_cons_cons, List.zip_nil_right, List.zip_nil_left, List.reverse_cons, List.reverse_nil, Option.getD_some, Option.getD_none, r_tb_LENGTHS_0, r_tb_LENGTHS_1, r_tb_LENGTHS_2, r_tb_LENGTHS_3, r_tb_LENGTHS_4, r_tb_LENGTHS_5, r_in_BadProgram, r_xs_BadProgram_BadProgram, sizeLine_eq, r_sl3, r_seqB, r_lenB, r_ixB, r_isB, r_is2B, r_enumB, sumf_run, enc_wr, enc_gt, enc_st, enc_ite, enc_whl, enc_rt, endsS_wr, endsS_gt, endsS_st, endsS_ite, endsS_whl, endsS_rt, bareS_wr, bareS_gt, bareS_st, bareS_ite, bareS_whl, bareS_rt, cutr3_4, cutr3_5, r_addTT, cs_sizes, cs_side, cs_place, k_MOST_STATEMENTS, k_MOST_DEPTH, dvD_int, k_onICK, cut3_2, cut3_3, cut3_4, cut3_5, k_MOST_VARIABLES, cs_names, cs_store, cs_block, cs_count, cs_code, cs_place])
local macro_rules | `(tactic| walk_at "h") => `(tactic| simp -implicitDefEqProofs only [↓DL.k_F, ↓DL.k_M, ↓DL.k_onV, ↓DL.k_onL, ↓DL.k_onO, ↓DL.k_onN, ↓DL.r_C, ↓DL.r_var, ↓DL.k_Op2, ↓DL.k_Op, ↓DL.r_op, ↓DL.r_un, ↓DL.r_app, ↓DL.r_call, ↓DL.r_callF, ↓DL.k_CK2, ↓DL.k_CK, ↓DL.r_callK, ↓DL.r_callKF, ↓DL.r_nil, ↓DL.k_A2, ↓DL.k_A, ↓DL.r_cons, ↓DL.k_AndT, ↓DL.k_AndF, ↓DL.r_and, ↓DL.k_OrT, ↓DL.k_OrF, ↓DL.r_or, ↓DL.k_Not, ↓DL.r_not, ↓DL.k_EIfT, ↓DL.k_EIfF, ↓DL.r_eIf, ↓DL.k_Ch3T, ↓DL.k_Ch3F, ↓DL.k_Ch2, ↓DL.k_Ch1, ↓DL.r_chain, ↓DL.k_T, ↓DL.r_of, ↓DL.k_TAT, ↓DL.k_TAF, ↓DL.r_tand, ↓DL.k_TOT, ↓DL.k_TOF, ↓DL.r_tor, ↓DL.k_TN, ↓DL.r_tnot, ↓DL.r_tTrue, ↓DL.k_Asg, ↓DL.r_asg, ↓DL.k_Nx, ↓DL.r_expr, ↓DL.k_Rt, ↓DL.r_ret, ↓DL.r_retN, ↓DL.k_IfT, ↓DL.k_IfF, ↓DL.r_if, ↓DL.r_seq, ↓DL.r_next, ↓DL.r_break, ↓DL.r_cont, ↓DL.r_stuck, ↓DL.k_G, ↓DL.r_asgG, ↓DL.k_For, ↓DL.r_for, ↓DL.k_SI3, ↓DL.k_SI2, ↓DL.k_SI, ↓DL.r_setItemS, ↓DL.k_Ap3, ↓DL.k_Ap2, ↓DL.k_Ap1, ↓DL.r_apd, ↓DL.r_gN, ↓DL.r_iSeq, ↓DL.r_iApp, ↓DL.k_Body, ↓DL.k_Sl3, ↓DL.k_Sl2, ↓DL.k_Sl1, ↓DL.r_sl, ↓DL.r_oNone, ↓DL.k_OS, ↓DL.r_oSome, ↓DL.r_slT, ↓DL.r_slL, ↓DL.r_slS, ↓DL.r_retL, ↓DL.r_newL, ↓DL.r_lc, ↓DL.r_lcM, ↓DL.r_add, ↓DL.r_sub, ↓DL.r_mod, ↓DL.r_div, ↓DL.r_pow1018, ↓DL.r_lt, ↓DL.r_le, ↓DL.r_gt, ↓DL.r_ge, ↓DL.r_neg, ↓DL.r_eqII, ↓DL.r_neII, ↓DL.r_eqSS, ↓DL.r_neSS, ↓DL.r_eqBB, ↓DL.r_neBB, ↓DL.r_isN, ↓DL.r_isB, ↓DL.r_notN, ↓DL.r_int1, ↓DL.r_intb, ↓DL.r_abs, ↓DL.k_Get, ↓DL.r_ixT, ↓DL.r_ixL, ↓DL.r_asLR, ↓DL.r_asLL, ↓DL.r_ixRef, ↓DL.r_lenT, ↓DL.r_lenL, ↓DL.k_Len, ↓DL.r_lenRef, ↓DL.r_sumRef, ↓DL.k_SetJ, ↓DL.k_Set, ↓DL.r_setRef, ↓DL.k_App, ↓DL.r_appRef, ↓DL.r_tup0, ↓DL.r_tup1, ↓DL.r_tup2, ↓DL.r_tup3, ↓DL.r_tup4, ↓DL.r_tup5, ↓DL.r_tup6, ↓DL.r_tup7, ↓DL.r_tup8, ↓DL.r_lst0, ↓DL.r_ref0, ↓DL.r_ref1, ↓DL.r_ref2, ↓DL.r_ref3, ↓DL.r_ref4, ↓DL.r_ref5, ↓DL.r_ref6, ↓DL.r_listL, ↓DL.r_listT, ↓DL.r_tupleL, ↓DL.r_seqT, ↓DL.r_seqL, ↓DL.r_range1, ↓DL.r_range2, ↓DL.r_strEq, ↓DL.r_strEq2, ↓DL.r_isT0, ↓DL.r_isT1, ↓DL.r_isT2, ↓DL.r_isT3, ↓DL.r_isT4, ↓DL.r_isT5, ↓DL.r_isT6, ↓DL.r_isT7, ↓DL.r_isT8, ↓DL.r_isT9, ↓DL.r_isT10, ↓DL.r_isT11, ↓DL.r_isT12, ↓DL.r_isT13, ↓DL.r_isT14, ↓DL.r_isT15, ↓DL.r_isT16, ↓DL.r_isT17, ↓DL.r_isT18, ↓DL.r_isT19, ↓DL.r_isT20, ↓DL.r_isT21, ↓DL.r_isT22, ↓DL.r_isT23, ↓DL.r_isT24, ↓DL.r_isT25, ↓DL.r_isT26, ↓DL.r_isT27, ↓DL.r_isT28, ↓DL.r_isT29, ↓DL.r_isT30, ↓DL.r_isT31, ↓DL.r_isT32, ↓DL.r_isT33, ↓DL.r_isT34, ↓DL.r_isT35, ↓DL.r_isiN, ↓DL.r_isi2N, ↓DL.r_isiB, ↓DL.r_isi2B, ↓DL.r_isiI, ↓DL.r_isi2I, ↓DL.r_isiS, ↓DL.r_isi2S, ↓DL.r_isiT, ↓DL.r_isi2T, ↓DL.r_isiL, ↓DL.r_isi2L, ↓DL.r_inTI, ↓DL.r_ninTI, ↓DL.r_inLI, ↓DL.r_ninLI, ↓DL.r_inTS, ↓DL.r_inD_nil, ↓DL.r_inD_cons, ↓DL.r_flat_nil, ↓DL.r_flat_cons, ↓DL.r_flatS, ↓DL.r_flatI, ↓DL.r_eqvSS, ↓DL.r_eqvII, ↓DL.r_addLL, ↓DL.r_atm1, ↓DL.r_atm2, ↓DL.r_at0, ↓DL.r_at1, ↓DL.r_at2, ↓DL.r_at3, ↓DL.r_at4, ↓DL.r_at5, ↓DL.r_at6, ↓DL.r_at7, ↓DL.r_at8, ↓DL.r_beqI, ↓DL.r_ndec, ↓DL.r_gT, ↓DL.k_Gs, ↓DL.r_gsCons, ↓DL.r_gsNil, ↓DL.r_isDNN, ↓DL.r_isDBB, ↓DL.r_isDBN, ↓DL.r_isDNB, ↓DL.r_isDIN, ↓DL.r_isDIB, ↓DL.r_isDSN, ↓DL.r_isDSB, ↓DL.r_isDTN, ↓DL.r_isDTB, ↓DL.r_isDLN, ↓DL.r_isDLB, ↓DL.r_isDRN, ↓DL.r_isDRB, ↓DL.r_beqTT, ↓DL.r_beqTF, ↓DL.r_beqFT, ↓DL.r_beqFF, ↓DL.k_onI, ↓DL.k_Fld2, ↓DL.r_fld, ↓DL.k_FldR, ↓DL.k_FldO, ↓DL.r_look, ↓DL.r_lookN, ↓DL.r_putD, ↓DL.r_putDN, ↓DL.k_SF3, ↓DL.r_setFldR, ↓DL.k_SF2, ↓DL.k_SF1, ↓DL.r_setFld, ↓DL.r_methF, ↓DL.k_Me2, ↓DL.r_meth, ↓DL.k_MeR, ↓DL.k_MeO, ↓DL.r_make, ↓DL.k_MkN, ↓DL.r_makeF, ↓DL.k_CG2, ↓DL.k_CG, ↓DL.r_callG, ↓DL.r_callGF, ↓DL.r_listRg, ↓DL.r_tupRg, ↓DL.k_SlR, ↓DL.r_slR, ↓DL.r_enumL, ↓DL.r_max2, ↓DL.r_min2, ↓DL.r_isi2R, ↓DL.r_isiR, ↓DL.r_lst1, ↓DL.r_lst2, ↓DL.r_lst3, ↓DL.r_lst4, ↓DL.r_lst5, ↓DL.r_lst6, ↓DL.r_lst7, ↓DL.r_lst8, ↓DL.r_lst9, ↓DL.r_lst10, ↓DL.r_lst11, ↓DL.r_lst12, ↓DL.r_seqR, ↓DL.k_ForR, ↓DL.r_minL, ↓DL.r_clr, ↓DL.k_Clr1R, ↓DL.k_LstR, ↓DL.r_listRef, ↓DL.r_enumJL, ↓DL.r_enumJT, ↓DL.k_Clr2, ↓DL.k_MG2, ↓DL.k_MG, ↓DL.r_makeG, ↓DL.r_makeGF, ↓DL.r_prop, ↓DL.k_Pr2, ↓DL.k_PrR, ↓DL.k_Eq3, ↓DL.r_isiCN, ↓DL.r_isiCS, ↓DL.r_isiCT, ↓DL.k_Ix3, ↓DL.k_Ix2, ↓DL.k_Ix1, ↓DL.r_index, ↓DL.r_iStr, ↓DL.r_strI, ↓DL.k_T2, ↓DL.k_T1S, ↓DL.r_join, ↓DL.r_sindex, ↓DL.k_Rz, ↓DL.r_raise, ↓DL.r_raise0, ↓DL.k_Ex, ↓DL.r_try, ↓DL.k_trNx, ↓DL.k_trRt, ↓DL.k_trBk, ↓DL.k_trCt, ↓DL.k_trEx, ↓DL.k_hdlN, ↓DL.k_hdlT, ↓DL.k_hdlF, ↓DL.k_setSlN, ↓DL.k_setSlS, ↓DL.k_endNx, ↓DL.k_endRt, ↓DL.k_endBk, ↓DL.k_endCt, ↓DL.r_xf, ↓DL.r_xfD, ↓DL.r_isE, ↓DL.r_isED, ↓DL.r_isiDc, ↓DL.r_isi2Dc, ↓DL.k_In4, ↓DL.k_In3, ↓DL.k_In2, ↓DL.k_In1, ↓DL.r_ins, ↓DL.r_addI, ↓DL.k_Fa4, ↓DL.k_Fa3, ↓DL.k_Fa2, ↓DL.k_FaR, ↓DL.r_fldaug, ↓DL.r_dinL, ↓DL.r_dinD, ↓DL.r_dninL, ↓DL.r_dninD, ↓DL.r_dgetL, ↓DL.r_dgetD, ↓DL.r_lenDL, ↓DL.r_lenDD, ↓DL.r_dictL, ↓DL.r_dictD, ↓DL.r_isiLc, ↓DL.r_isi2Lc, ↓DL.r_isTd0, ↓DL.r_isTd1, ↓DL.r_isTd2, ↓DL.r_isTd3, ↓DL.r_isTd4, ↓DL.r_newD, ↓DL.r_frzLs, ↓DL.r_items, ↓DL.r_inK, ↓DL.r_ninK, ↓DL.r_getK, ↓DL.r_dispM, ↓DL.k_Dp2, ↓DL.k_Dp1, ↓DL.r_pairsN, ↓DL.r_pairsC, ↓DL.r_dispF1, ↓DL.r_gTn, ↓DL.k_Gf1, ↓DL.r_gFld, ↓DL.Kt.seq_nx, ↓DL.Kt.seq_rt, ↓DL.Kt.seq_bk, ↓DL.Kt.seq_ct, ↓DL.Kt.seq_ex, ↓DL.Kt.fin_nx, ↓DL.Kt.fin_rt, ↓DL.Kt.fin_ex, ↓DL.Kt.loop_nx, ↓DL.Kt.loop_rt, ↓DL.Kt.loop_bk, ↓DL.Kt.loop_ct, ↓DL.Kt.loop_ex, ↓DL.C.run_ret, ↓DL.mset_same, ↓DL.mset_mset, startD, ixN, Option.bind_some, Option.map_some, List.map_cons, List.map_nil, List.length_cons, List.length_nil, List.length_set, List.replicate, List.cons_append, List.nil_append, List.append_nil, List.set_cons_zero, List.set_cons_succ, List.getElem?_cons_zero, List.getElem?_cons_succ, Nat.reduceAdd, Nat.reduceSub, Nat.zero_add, if_true, if_false, decide_eq_true_eq, reduceIte, Bool.not_true, Bool.not_false, beq_self_eq_true, Bool.false_eq_true, Int.reduceLT, Int.reduceLE, Int.reduceNeg, Int.reduceToNat, Int.reduceAdd, Int.reduceSub, Nat.reduceLT, Nat.reduceLeDiff, Int.cast_ofNat_Int, Int.reduceEq, Int.reduceBEq, DL.wipeD, decide_true, decide_false, not_true_eq_false, not_false_eq_true, String.reduceEq, Bool.or_true, Bool.or_false, Bool.true_or, Bool.false_or, Bool.and_true, Bool.and_false, Bool.true_and, Bool.false_and, Bool.not_not, Nat.reduceEqDiff, Int.toNat_natCast, Decidable.not_not, List.mem_cons, List.not_mem_nil, or_false, or_true, true_or, false_or, and_true, true_and, and_self, and_false, false_and, reduceCtorEq, Option.isNone_some, Option.isNone_none, Option.isSome_some, Option.isSome_none, List.zip_cons_cons, List.zip_nil_right, List.zip_nil_left, List.reverse_cons, List.reverse_nil, Option.getD_some, Option.getD_none, r_tb_LENGTHS_0, r_tb_LENGTHS_1, r_tb_LENGTHS_2, r_tb_LENGTHS_3, r_tb_LENGTHS_4, r_tb_LENGTHS_5, r_in_BadProgram, r_xs_BadProgram_BadProgram, sizeLine_eq, r_sl3, r_seqB, r_lenB, r_ixB, r_isB, r_is2B, r_enumB, sumf_run, enc_wr, enc_gt, enc_st, enc_ite, enc_whl, enc_rt, endsS_wr, endsS_gt, endsS_st, endsS_ite, endsS_whl, endsS_rt, bareS_wr, bareS_gt, bareS_st, bareS_ite, bareS_whl, bareS_rt, cutr3_4, cutr3_5, r_addTT, cs_sizes, cs_side, cs_place, k_MOST_STATEMENTS, k_MOST_DEPTH, dvD_int, k_onICK, cut3_2, cut3_3, cut3_4, cut3_5, k_MOST_VARIABLES, cs_names, cs_store, cs_block, cs_count, cs_code, cs_place, *])
local macro_rules | `(tactic| walk_at "s") => `(tactic| ((try walk_at "h"); repeat' ((first | with_reducible refine if_dec (fun _ => ?_) (fun _ => ?_) | with_reducible refine eif_dec (fun _ => ?_) (fun _ => ?_) | with_reducible refine tor_dec (fun _ => ?_) (fun _ => ?_) | with_reducible refine tand_dec (fun _ => ?_) (fun _ => ?_) | with_reducible refine and_dec (fun _ => ?_) (fun _ => ?_) | with_reducible refine or_dec (fun _ => ?_) (fun _ => ?_) | with_reducible refine ch_dec (fun _ => ?_) (fun _ => ?_)) <;> (try walk_at "h"))))
theorem opS_ite {l : Str} {t : D} {y n : List Sm} : opS (.ite l t y n) = (opB y || opB n) := by rw [opS]
theorem open_ret : ∀ (n : Nat) (b : List Sm), deps b < n → Ret (d__law_open_end n [blkD b]) (.bl (opB b)) := by
  intro n
  induction n with
  | zero => intro b h; omega
  | succ n ih =>
    intro b h m Q E q
    rw [d__law_open_end_s]
    refine fn_run ?_
    unfold p__law_open_end
    walk_at "d"
    refine for_map (enc := enc) (xs := b) (fun pre δ m' => m' = m ∧ opB pre = true ∧ ∃ y, δ = [some (blkD b), y]) ⟨rfl, by rw [opB], _, rfl⟩ ?_ ?_
    · rintro pre s r δ m1 hsp ⟨rfl, hpre, y, rfl⟩
      walk_at "d"
      unfold p__law_open_end_b0
      have hm : s ∈ b := by rw [hsp]; simp
      have hd := deps_mem hm
      have good : opS s = true → opB (pre ++ [s]) = true := fun e => by rw [opB_append, hpre, opB_cons, e, opB]; rfl
      have bad : opS s = false → opB b = false := fun e => by rw [hsp, opB_append, opB_cons, e, Bool.false_and, Bool.and_false]
      cases s with
      | ite l t yy nn =>
        walk_at "d"
        have h1 := dep_ite1 (l := l) (t := t) (y := yy) (n := nn)
        have h2 := dep_ite2 (l := l) (t := t) (y := yy) (n := nn)
        refine ih yy (by omega) _ _ _ ?_
        cases h3 : opB yy with
        | true =>
          walk_at "d"
          exact ⟨good (by rw [opS_ite, h3]; rfl), _, rfl⟩
        | false =>
          walk_at "d"
          refine ih nn (by omega) _ _ _ ?_
          cases h4 : opB nn with
          | true =>
            walk_at "d"
            exact ⟨good (by rw [opS_ite, h3, h4]; rfl), _, rfl⟩
          | false =>
            walk_at "d"
            rw [bad (by rw [opS_ite, h3, h4]; rfl)] at q
            exact q
      | wr c t => walk_at "d"; exact ⟨good (by rw [opS]), _, rfl⟩
      | gt l c => walk_at "d"; exact ⟨good (by rw [opS]), _, rfl⟩
      | rt t => walk_at "d"; rw [bad (by rw [opS])] at q; exact q
      | st l t => walk_at "d"; exact ⟨good (by rw [opS]), _, rfl⟩
      | whl l t b => walk_at "d"; exact ⟨good (by rw [opS]), _, rfl⟩
    · rintro δ m1 ⟨rfl, hall, y, rfl⟩
      walk_at "d"
      rw [hall] at q
      exact q
def b01 (c : Bool) : Int := if c = true then 1 else 0
theorem nwS_ite {l : Str} {t : D} {y n : List Sm} : nwS (.ite l t y n) = (nwB y && nwB n) := by rw [nwS]
theorem nwS_whl {l : Str} {t : D} {b : List Sm} : nwS (.whl l t b) = nwB b := by rw [nwS]
theorem ways_ret : ∀ (n : Nat) (b : List Sm), deps b < n → nwB b = true → Ret (d__law_bare_ways n [blkD b]) (.int (b01 (bareB b))) := by
  intro n
  induction n with
  | zero => intro b h; omega
  | succ n ih =>
    intro b h hw m Q E q
    rw [d__law_bare_ways_s]
    refine fn_run ?_
    unfold p__law_bare_ways
    walk_at "d"
    refine for_map (enc := enc) (xs := b) (fun pre δ m' => m' = m ∧ ∃ y i, i = b01 (bareB pre) ∧ δ = [some (blkD b), some (.int i), y]) ⟨rfl, _, 1, by rw [bareB_nil]; rfl, rfl⟩ ?_ ?_
    · rintro pre s r δ m1 hsp ⟨rfl, y, i, hi, rfl⟩
      walk_at "d"
      unfold p__law_bare_ways_b0
      have hm : s ∈ b := by rw [hsp]; simp
      have hd := deps_mem hm
      have hws := nwB_mem hw hm
      have app : bareB (pre ++ [s]) = (bareB pre && bareS s) := by rw [bareB_append, bareB_cons, bareB_nil, Bool.and_true]
      cases s with
      | ite l t yy nn =>
        rw [nwS_ite, Bool.and_eq_true] at hws
        walk_at "d"
        have h1 := dep_ite1 (l := l) (t := t) (y := yy) (n := nn)
        have h2 := dep_ite2 (l := l) (t := t) (y := yy) (n := nn)
        refine ih yy (by omega) hws.1 _ _ _ ?_
        walk_at "d"
        refine ih nn (by omega) hws.2 _ _ _ ?_
        walk_at "d"
        rw [bareS_ite] at app
        have e1 : (if b01 (bareB yy) + b01 (bareB nn) < 1 then b01 (bareB yy) + b01 (bareB nn) else 1) = b01 (bareB yy || bareB nn) := by cases bareB yy <;> cases bareB nn <;> rfl
        rw [e1, r_mulL (by rw [hi]; cases bareB pre <;> decide) (by rw [hi]; cases bareB pre <;> decide)]
        walk_at "d"
        exact ⟨_, _, by rw [app, hi]; cases bareB pre <;> cases (bareB yy || bareB nn) <;> rfl, rfl⟩
      | wr c t => rw [nwS] at hws; cases hws
      | gt l c => walk_at "d"; exact ⟨_, 0, by rw [app, bareS_gt, Bool.and_false]; rfl, rfl⟩
      | rt t => walk_at "d"; exact ⟨_, 0, by rw [app, bareS_rt, Bool.and_false]; rfl, rfl⟩
      | st l t => walk_at "d"; exact ⟨_, i, by rw [app, bareS_st, Bool.and_true]; exact hi, rfl⟩
      | whl l t b => walk_at "d"; exact ⟨_, i, by rw [app, bareS_whl, Bool.and_true]; exact hi, rfl⟩
    · rintro δ m1 ⟨rfl, y, i, hi, rfl⟩
      walk_at "d"
      rw [hi]
      exact q
theorem cut_take {b : List Sm} {k : Nat} : cutD (b.map enc) none (some (k : Int)) = (b.take k).map enc := by
  unfold cutD
  rw [show HT.sIx (b.map enc).length 0 none = 0 from rfl]
  have e : HT.sIx (b.map enc).length (b.map enc).length (some (k : Int)) = min k (b.map enc).length := HT.sIx_nat _ _ _
  rw [e, List.drop_zero, Nat.sub_zero, List.map_take, ← List.take_eq_take_min]
theorem sl_take {b : List Sm} {k : Nat} {m : Mem} {Q : D → Mem → Prop} {E : Xn → Mem → Prop} : (dSl (blkD b) none (some (k : Int))).run m Q E = Q (blkD (b.take k)) m := by
  show Q (.tup (cutD (b.map enc) none (some (k : Int)))) m = _
  rw [cut_take]
  rfl
theorem deps_take {b : List Sm} {k : Nat} : deps (b.take k) ≤ deps b := by
  induction b generalizing k with
  | nil => simp
  | cons s r ih =>
    cases k with
    | zero => simp [deps]
    | succ k =>
      rw [List.take_succ_cons]
      simp only [deps]
      have := ih (k := k)
      omega
theorem lr_append : ∀ {a b : List Sm} {o : Bool}, lr o (a ++ b) = lr o a ++ lr (o && opB a) b
  | [], b, o => by rw [List.nil_append, lr_nil, opB, Bool.and_true]; rfl
  | s :: r, b, o => by rw [List.cons_append, lr_cons, lr_cons, lr_append, opB_cons, Bool.and_assoc]; simp
theorem lrS_subs (s : Sm) : lrS s = (s.subs.map (lr true)).flatten := by
  cases s <;> simp [lrS, Sm.subs]
theorem flat_len (bs : List (List Sm)) : ((bs.map (lr true)).flatten).length = (bs.map cnts).sum := by
  induction bs with
  | nil => rfl
  | cons b r ih => rw [List.map_cons, List.flatten_cons, List.length_append, ih, lrB_len, List.map_cons, List.sum_cons]
theorem nw_subs {s : Sm} (h : nwS s = true) : ∀ b ∈ s.subs, nwB b = true := by
  intro b hb
  cases s <;> simp [Sm.subs] at hb
  · rw [nwS_ite, Bool.and_eq_true] at h
    rcases hb with rfl | rfl
    · exact h.1
    · exact h.2
  · rw [nwS_whl] at h
    subst hb
    exact h
theorem list_ret : ∀ (n : Nat) (b : List Sm), deps b < n → deps b ≤ 4 → nwB b = true → ∀ (m : Mem) (a : Addr) (l : List D) (Q : D → Mem → Prop) (E : Xn → Mem → Prop), m a = some (.lst l) → l.length + cnts b ≤ 1000 →
    Q (.ref a) (mset m a (.lst (l ++ (lr true b).map D.str))) → (d__law_list n [blkD b, .ref a]).run m Q E := by
  intro n
  induction n with
  | zero => intro b h; omega
  | succ n ih =>
    intro b h h4 hw m a l Q E ha hl q
    rw [d__law_list_s]
    refine fn_run ?_
    unfold p__law_list
    have hlen := length_cnts b
    walk_at "d"
    rw [r_range1 (small_len (by omega))]
    walk_at "d"
    refine for_nat (n := b.length) (fun k δ m' => m' = mset m a (.lst (l ++ (lr true (b.take k)).map D.str)) ∧ ∃ y2 y3 y4 y5, δ = [some (blkD b), some (.ref a), y2, y3, y4, y5]) ⟨?_, _, _, _, _, rfl⟩ ?_ ?_
    · rw [List.take_zero, lr_nil, List.map_nil, List.append_nil, mset_id ha]
    · rintro k δ m1 hk ⟨rfl, y2, y3, y4, y5, rfl⟩
      have hs : b[k]? = some b[k] := List.getElem?_eq_getElem hk
      have htk : b.take (k + 1) = b.take k ++ [b[k]] := by rw [List.take_succ, hs]; rfl
      have hm : b[k] ∈ b := List.getElem_mem hk
      have hsp : b = b.take k ++ b[k] :: b.drop (k + 1) := by rw [List.getElem_cons_drop, List.take_append_drop]
      generalize b[k] = s at hs htk hm hsp
      have hd := deps_mem hm
      have hws := nwB_mem hw hm
      have hcb : cnts b = cnts (b.take k) + (cnt s + cnts (b.drop (k + 1))) := by
        have := congrArg cnts hsp
        rw [cnts_append, cnts_cons] at this
        exact this
      have hat : atI (b.map enc) (k : Int) = some (enc s) := atI_nat (by rw [List.getElem?_map, hs]; rfl)
      have hlr : lr true (b.take (k + 1)) = lr true (b.take k) ++ (if opB (b.take k) = false then ("dead" : Str) else if idleS s = true then "idle" else "") :: lrS s := by
        rw [htk, lr_append, lr_cons, lr_nil, Bool.true_and, List.append_nil]
      rw [hlr]
      generalize hG : (if opB (b.take k) = false then ("dead" : Str) else if idleS s = true then "idle" else "") = w
      have hlr2 : (lr true (b.take k)).length = cnts (b.take k) := lrB_len _ _
      have hp := cnt_pos s
      generalize hL : l ++ (lr true (b.take k)).map D.str = L
      have hLl : L.length = l.length + cnts (b.take k) := by rw [← hL, List.length_append, List.length_map, hlr2]
      have hlt : L.length < sizeLine := Nat.lt_of_le_of_lt (show L.length ≤ 999 by omega) (by decide)
      walk_at "d"
      unfold p__law_list_b1
      walk_at "d"
      rw [hat]
      walk_at "d"
      rw [sl_take]
      walk_at "d"
      refine open_ret 5 _ (by have := deps_take (b := b) (k := k); omega) _ _ _ ?_
      have key : kApp (.str w) a (mset m a (.lst L)) (kNx [some (blkD b), some (.ref a), some (.int k), some (enc s), some (.str w), y5] ((((Kt.fin Q E).seq (sRet (eVar 1))).loop fun δ m' => m' = mset m a (.lst (l ++ (lr true (b.take k) ++ w :: lrS s).map D.str)) ∧ ∃ y2 y3 y4 y5, δ = [some (blkD b), some (.ref a), y2, y3, y4, y5]).seq
          (sFor (iSeq (eSl (eVar 3) (oSome (eC (D.int 3))) oNone)) (gN 5) (p__law_list_b0 (d__law_list n))))) L := by
        rw [app_run hlt]
        walk_at "d"
        have e : ∀ X : List Str, mset m a (.lst (l ++ (lr true (b.take k) ++ w :: X).map D.str)) = mset m a (.lst (L ++ [.str w] ++ X.map D.str)) := fun X => by rw [← hL]; simp
        rw [e, lrS_subs]
        have hsum : 1 + (s.subs.map cnts).sum = cnt s := (cnt_subs s).symm
        have hL2 : (L ++ [D.str w]).length = l.length + cnts (b.take k) + 1 := by rw [List.length_append, hLl]; rfl
        generalize L ++ [D.str w] = L2 at hL2 ⊢
        refine for_map (enc := blkD) (xs := s.subs) (fun pre δ m' => m' = mset m a (.lst (L2 ++ ((pre.map (lr true)).flatten).map D.str)) ∧ ∃ y5, δ = [some (blkD b), some (.ref a), some (.int k), some (enc s), some (.str w), y5]) ⟨by simp, _, rfl⟩ ?_ ?_
        · rintro pre bb r δ m2 hspb ⟨rfl, z5, rfl⟩
          walk_at "d"
          unfold p__law_list_b0
          have hbm : bb ∈ s.subs := by rw [hspb]; simp
          have hbd := dep_subs hbm
          have hsum2 : (s.subs.map cnts).sum = (pre.map cnts).sum + (cnts bb + (r.map cnts).sum) := by rw [hspb]; simp
          walk_at "d"
          refine ih bb (by omega) (by omega) (nw_subs hws bb hbm) _ a _ _ _ mset_same (by rw [List.length_append, List.length_map, flat_len, hL2]; omega) ?_
          walk_at "d"
          refine ⟨?_, _, rfl⟩
          simp
        · rintro δ m2 ⟨rfl, z5, rfl⟩
          walk_at "d"
          exact ⟨_, _, _, _, rfl⟩
      cases ho : opB (b.take k) with
      | false =>
        rw [ho, if_pos (show false = false from rfl)] at hG
        subst hG
        walk_at "d"
        exact key
      | true =>
        rw [ho, if_neg (show ¬ (true = false) by decide)] at hG
        cases s with
        | whl ll t bb =>
          rw [nwS_whl] at hws
          have h1 := dep_whl1 (l := ll) (t := t) (b := bb)
          rw [enc_whl] at key ⊢
          walk_at "d"
          refine ways_ret 5 bb (by omega) hws _ _ _ ?_
          cases hbb : bareB bb with
          | true =>
            rw [if_pos (show idleS (.whl ll t bb) = true from hbb)] at hG
            subst hG
            rw [show b01 true = 1 from rfl]
            walk_at "d"
            exact key
          | false =>
            rw [if_neg (show ¬ idleS (.whl ll t bb) = true by rw [show idleS (.whl ll t bb) = false from hbb]; decide)] at hG
            subst hG
            rw [show b01 false = 0 from rfl]
            walk_at "d"
            exact key
        | wr c t =>
          simp only [idleS, if_neg (show ¬ (false = true) by decide)] at hG
          subst hG
          rw [enc_wr] at key ⊢
          walk_at "d"
          exact key
        | gt c t =>
          simp only [idleS, if_neg (show ¬ (false = true) by decide)] at hG
          subst hG
          rw [enc_gt] at key ⊢
          walk_at "d"
          exact key
        | st c t =>
          simp only [idleS, if_neg (show ¬ (false = true) by decide)] at hG
          subst hG
          rw [enc_st] at key ⊢
          walk_at "d"
          exact key
        | rt t =>
          simp only [idleS, if_neg (show ¬ (false = true) by decide)] at hG
          subst hG
          rw [enc_rt] at key ⊢
          walk_at "d"
          exact key
        | ite c t y n =>
          simp only [idleS, if_neg (show ¬ (false = true) by decide)] at hG
          subst hG
          rw [enc_ite] at key ⊢
          walk_at "d"
          exact key
    · rintro δ m1 ⟨rfl, y2, y3, y4, y5, rfl⟩
      walk_at "d"
      rw [List.take_length]
      exact q

local macro_rules | `(tactic| walk_at "d") => `(tactic| simp -implicitDefEqProofs only [↓DL.k_F, ↓DL.k_M, ↓DL.k_onV, ↓DL.k_onL, ↓DL.k_onO, ↓DL.k_onN, ↓DL.r_C, ↓DL.r_var, ↓DL.k_Op2, ↓DL.k_Op, ↓DL.r_op, ↓DL.r_un, ↓DL.r_app, ↓DL.r_call, ↓DL.r_callF, ↓DL.k_CK2, ↓DL.k_CK, ↓DL.r_callK, ↓DL.r_callKF, ↓DL.r_nil, ↓DL.k_A2, ↓DL.k_A, ↓DL.r_cons, ↓DL.k_AndT, ↓DL.k_AndF, ↓DL.r_and, ↓DL.k_OrT, ↓DL.k_OrF, ↓DL.r_or, ↓DL.k_Not, ↓DL.r_not, ↓DL.k_EIfT, ↓DL.k_EIfF, ↓DL.r_eIf, ↓DL.k_Ch3T, ↓DL.k_Ch3F, ↓DL.k_Ch2, ↓DL.k_Ch1, ↓DL.r_chain, ↓DL.k_T, ↓DL.r_of, ↓DL.k_TAT, ↓DL.k_TAF, ↓DL.r_tand, ↓DL.k_TOT, ↓DL.k_TOF, ↓DL.r_tor, ↓DL.k_TN, ↓DL.r_tnot, ↓DL.r_tTrue, ↓DL.k_Asg, ↓DL.r_asg, ↓DL.k_Nx, ↓DL.r_expr, ↓DL.k_Rt, ↓DL.r_ret, ↓DL.r_retN, ↓DL.k_IfT, ↓DL.k_IfF, ↓DL.r_if, ↓DL.r_seq, ↓DL.r_next, ↓DL.r_break, ↓DL.r_cont, ↓DL.r_stuck, ↓DL.k_G, ↓DL.r_asgG, ↓DL.k_For, ↓DL.r_for, ↓DL.k_SI3, ↓DL.k_SI2, ↓DL.k_SI, ↓DL.r_setItemS, ↓DL.k_Ap3, ↓DL.k_Ap2, ↓DL.k_Ap1, ↓DL.r_apd, ↓DL.r_gN, ↓DL.r_iSeq, ↓DL.r_iApp, ↓DL.k_Body, ↓DL.k_Sl3, ↓DL.k_Sl2, ↓DL.k_Sl1, ↓DL.r_sl, ↓DL.r_oNone, ↓DL.k_OS, ↓DL.r_oSome, ↓DL.r_slT, ↓DL.r_slL, ↓DL.r_slS, ↓DL.r_retL, ↓DL.r_newL, ↓DL.r_lc, ↓DL.r_lcM, ↓DL.r_add, ↓DL.r_sub, ↓DL.r_mod, ↓DL.r_div, ↓DL.r_pow1018, ↓DL.r_lt, ↓DL.r_le, ↓DL.r_gt, ↓DL.r_ge, ↓DL.r_neg, ↓DL.r_eqII, ↓DL.r_neII, ↓DL.r_eqSS, ↓DL.r_neSS, ↓DL.r_eqBB, ↓DL.r_neBB, ↓DL.r_isN, ↓DL.r_isB, ↓DL.r_notN, ↓DL.r_int1, ↓DL.r_intb, ↓DL.r_abs, ↓DL.k_Get, ↓DL.r_ixT, ↓DL.r_ixL, ↓DL.r_asLR, ↓DL.r_asLL, ↓DL.r_ixRef, ↓DL.r_lenT, ↓DL.r_lenL, ↓DL.k_Len, ↓DL.r_lenRef, ↓DL.r_sumRef, ↓DL.k_SetJ, ↓DL.k_Set, ↓DL.r_setRef, ↓DL.k_App, ↓DL.r_appRef, ↓DL.r_tup0, ↓DL.r_tup1, ↓DL.r_tup2, ↓DL.r_tup3, ↓DL.r_tup4, ↓DL.r_tup5, ↓DL.r_tup6, ↓DL.r_tup7, ↓DL.r_tup8, ↓DL.r_lst0, ↓DL.r_ref0, ↓DL.r_ref1, ↓DL.r_ref2, ↓DL.r_ref3, ↓DL.r_ref4, ↓DL.r_ref5, ↓DL.r_ref6, ↓DL.r_listL, ↓DL.r_listT, ↓DL.r_tupleL, ↓DL.r_seqT, ↓DL.r_seqL, ↓DL.r_range1, ↓DL.r_range2, ↓DL.r_strEq, ↓DL.r_strEq2, ↓DL.r_isT0, ↓DL.r_isT1, ↓DL.r_isT2, ↓DL.r_isT3, ↓DL.r_isT4, ↓DL.r_isT5, ↓DL.r_isT6, ↓DL.r_isT7, ↓DL.r_isT8, ↓DL.r_isT9, ↓DL.r_isT10, ↓DL.r_isT11, ↓DL.r_isT12, ↓DL.r_isT13, ↓DL.r_isT14, ↓DL.r_isT15, ↓DL.r_isT16, ↓DL.r_isT17, ↓DL.r_isT18, ↓DL.r_isT19, ↓DL.r_isT20, ↓DL.r_isT21, ↓DL.r_isT22, ↓DL.r_isT23, ↓DL.r_isT24, ↓DL.r_isT25, ↓DL.r_isT26, ↓DL.r_isT27, ↓DL.r_isT28, ↓DL.r_isT29, ↓DL.r_isT30, ↓DL.r_isT31, ↓DL.r_isT32, ↓DL.r_isT33, ↓DL.r_isT34, ↓DL.r_isT35, ↓DL.r_isiN, ↓DL.r_isi2N, ↓DL.r_isiB, ↓DL.r_isi2B, ↓DL.r_isiI, ↓DL.r_isi2I, ↓DL.r_isiS, ↓DL.r_isi2S, ↓DL.r_isiT, ↓DL.r_isi2T, ↓DL.r_isiL, ↓DL.r_isi2L, ↓DL.r_inTI, ↓DL.r_ninTI, ↓DL.r_inLI, ↓DL.r_ninLI, ↓DL.r_inTS, ↓DL.r_inD_nil, ↓DL.r_inD_cons, ↓DL.r_flat_nil, ↓DL.r_flat_cons, ↓DL.r_flatS, ↓DL.r_flatI, ↓DL.r_eqvSS, ↓DL.r_eqvII, ↓DL.r_addLL, ↓DL.r_atm1, ↓DL.r_atm2, ↓DL.r_at0, ↓DL.r_at1, ↓DL.r_at2, ↓DL.r_at3, ↓DL.r_at4, ↓DL.r_at5, ↓DL.r_at6, ↓DL.r_at7, ↓DL.r_at8, ↓DL.r_beqI, ↓DL.r_ndec, ↓DL.r_gT, ↓DL.k_Gs, ↓DL.r_gsCons, ↓DL.r_gsNil, ↓DL.r_isDNN, ↓DL.r_isDBB, ↓DL.r_isDBN, ↓DL.r_isDNB, ↓DL.r_isDIN, ↓DL.r_isDIB, ↓DL.r_isDSN, ↓DL.r_isDSB, ↓DL.r_isDTN, ↓DL.r_isDTB, ↓DL.r_isDLN, ↓DL.r_isDLB, ↓DL.r_isDRN, ↓DL.r_isDRB, ↓DL.r_beqTT, ↓DL.r_beqTF, ↓DL.r_beqFT, ↓DL.r_beqFF, ↓DL.k_onI, ↓DL.k_Fld2, ↓DL.r_fld, ↓DL.k_FldR, ↓DL.k_FldO, ↓DL.r_look, ↓DL.r_lookN, ↓DL.r_putD, ↓DL.r_putDN, ↓DL.k_SF3, ↓DL.r_setFldR, ↓DL.k_SF2, ↓DL.k_SF1, ↓DL.r_setFld, ↓DL.r_methF, ↓DL.k_Me2, ↓DL.r_meth, ↓DL.k_MeR, ↓DL.k_MeO, ↓DL.r_make, ↓DL.k_MkN, ↓DL.r_makeF, ↓DL.k_CG2, ↓DL.k_CG, ↓DL.r_callG, ↓DL.r_callGF, ↓DL.r_listRg, ↓DL.r_tupRg, ↓DL.k_SlR, ↓DL.r_slR, ↓DL.r_enumL, ↓DL.r_max2, ↓DL.r_min2, ↓DL.r_isi2R, ↓DL.r_isiR, ↓DL.r_lst1, ↓DL.r_lst2, ↓DL.r_lst3, ↓DL.r_lst4, ↓DL.r_lst5, ↓DL.r_lst6, ↓DL.r_lst7, ↓DL.r_lst8, ↓DL.r_lst9, ↓DL.r_lst10, ↓DL.r_lst11, ↓DL.r_lst12, ↓DL.r_seqR, ↓DL.k_ForR, ↓DL.r_minL, ↓DL.r_clr, ↓DL.k_Clr1R, ↓DL.k_LstR, ↓DL.r_listRef, ↓DL.r_enumJL, ↓DL.r_enumJT, ↓DL.k_Clr2, ↓DL.k_MG2, ↓DL.k_MG, ↓DL.r_makeG, ↓DL.r_makeGF, ↓DL.r_prop, ↓DL.k_Pr2, ↓DL.k_PrR, ↓DL.k_Eq3, ↓DL.r_isiCN, ↓DL.r_isiCS, ↓DL.r_isiCT, ↓DL.k_Ix3, ↓DL.k_Ix2, ↓DL.k_Ix1, ↓DL.r_index, ↓DL.r_iStr, ↓DL.r_strI, ↓DL.k_T2, ↓DL.k_T1S, ↓DL.r_join, ↓DL.r_sindex, ↓DL.k_Rz, ↓DL.r_raise, ↓DL.r_raise0, ↓DL.k_Ex, ↓DL.r_try, ↓DL.k_trNx, ↓DL.k_trRt, ↓DL.k_trBk, ↓DL.k_trCt, ↓DL.k_trEx, ↓DL.k_hdlN, ↓DL.k_hdlT, ↓DL.k_hdlF, ↓DL.k_setSlN, ↓DL.k_setSlS, ↓DL.k_endNx, ↓DL.k_endRt, ↓DL.k_endBk, ↓DL.k_endCt, ↓DL.r_xf, ↓DL.r_xfD, ↓DL.r_isE, ↓DL.r_isED, ↓DL.r_isiDc, ↓DL.r_isi2Dc, ↓DL.k_In4, ↓DL.k_In3, ↓DL.k_In2, ↓DL.k_In1, ↓DL.r_ins, ↓DL.r_addI, ↓DL.k_Fa4, ↓DL.k_Fa3, ↓DL.k_Fa2, ↓DL.k_FaR, ↓DL.r_fldaug, ↓DL.r_dinL, ↓DL.r_dinD, ↓DL.r_dninL, ↓DL.r_dninD, ↓DL.r_dgetL, ↓DL.r_dgetD, ↓DL.r_lenDL, ↓DL.r_lenDD, ↓DL.r_dictL, ↓DL.r_dictD, ↓DL.r_isiLc, ↓DL.r_isi2Lc, ↓DL.r_isTd0, ↓DL.r_isTd1, ↓DL.r_isTd2, ↓DL.r_isTd3, ↓DL.r_isTd4, ↓DL.r_newD, ↓DL.r_frzLs, ↓DL.r_items, ↓DL.r_inK, ↓DL.r_ninK, ↓DL.r_getK, ↓DL.r_dispM, ↓DL.k_Dp2, ↓DL.k_Dp1, ↓DL.r_pairsN, ↓DL.r_pairsC, ↓DL.r_dispF1, ↓DL.r_gTn, ↓DL.k_Gf1, ↓DL.r_gFld, ↓DL.Kt.seq_nx, ↓DL.Kt.seq_rt, ↓DL.Kt.seq_bk, ↓DL.Kt.seq_ct, ↓DL.Kt.seq_ex, ↓DL.Kt.fin_nx, ↓DL.Kt.fin_rt, ↓DL.Kt.fin_ex, ↓DL.Kt.loop_nx, ↓DL.Kt.loop_rt, ↓DL.Kt.loop_bk, ↓DL.Kt.loop_ct, ↓DL.Kt.loop_ex, ↓DL.C.run_ret, ↓DL.mset_same, ↓DL.mset_mset, startD, ixN, Option.bind_some, Option.map_some, List.map_cons, List.map_nil, List.length_cons, List.length_nil, List.length_set, List.replicate, List.cons_append, List.nil_append, List.append_nil, List.set_cons_zero, List.set_cons_succ, List.getElem?_cons_zero, List.getElem?_cons_succ, Nat.reduceAdd, Nat.reduceSub, Nat.zero_add, if_true, if_false, decide_eq_true_eq, reduceIte, Bool.not_true, Bool.not_false, beq_self_eq_true, Bool.false_eq_true, Int.reduceLT, Int.reduceLE, Int.reduceNeg, Int.reduceToNat, Int.reduceAdd, Int.reduceSub, Nat.reduceLT, Nat.reduceLeDiff, Int.cast_ofNat_Int, Int.reduceEq, Int.reduceBEq, DL.wipeD, decide_true, decide_false, not_true_eq_false, not_false_eq_true, String.reduceEq, Bool.or_true, Bool.or_false, Bool.true_or, Bool.false_or, Bool.and_true, Bool.and_false, Bool.true_and, Bool.false_and, Bool.not_not, Nat.reduceEqDiff, Int.toNat_natCast, Decidable.not_not, List.mem_cons, List.not_mem_nil, or_false, or_true, true_or, false_or, and_true, true_and, and_self, and_false, false_and, reduceCtorEq, Option.isNone_some, Option.isNone_none, Option.isSome_some, Option.isSome_none, List.zip_cons_cons, List.zip_nil_right, List.zip_nil_left, List.reverse_cons, List.reverse_nil, Option.getD_some, Option.getD_none, r_tb_LENGTHS_0, r_tb_LENGTHS_1, r_tb_LENGTHS_2, r_tb_LENGTHS_3, r_tb_LENGTHS_4, r_tb_LENGTHS_5, r_in_BadProgram, r_xs_BadProgram_BadProgram, sizeLine_eq, r_sl3, r_seqB, r_lenB, r_ixB, r_isB, r_is2B, r_enumB, sumf_run, enc_wr, enc_gt, enc_st, enc_ite, enc_whl, enc_rt, endsS_wr, endsS_gt, endsS_st, endsS_ite, endsS_whl, endsS_rt, bareS_wr, bareS_gt, bareS_st, bareS_ite, bareS_whl, bareS_rt, cutr3_4, cutr3_5, r_addTT, cs_sizes, cs_side, cs_place, k_MOST_STATEMENTS, k_MOST_DEPTH, dvD_int, k_onICK, cut3_2, cut3_3, cut3_4, cut3_5, k_MOST_VARIABLES, cs_names, cs_store, cs_block, cs_count, cs_code, cs_place])
local macro_rules | `(tactic| walk_at "h") => `(tactic| simp -implicitDefEqProofs only [↓DL.k_F, ↓DL.k_M, ↓DL.k_onV, ↓DL.k_onL, ↓DL.k_onO, ↓DL.k_onN, ↓DL.r_C, ↓DL.r_var, ↓DL.k_Op2, ↓DL.k_Op, ↓DL.r_op, ↓DL.r_un, ↓DL.r_app, ↓DL.r_call, ↓DL.r_callF, ↓DL.k_CK2, ↓DL.k_CK, ↓DL.r_callK, ↓DL.r_callKF, ↓DL.r_nil, ↓DL.k_A2, ↓DL.k_A, ↓DL.r_cons, ↓DL.k_AndT, ↓DL.k_AndF, ↓DL.r_and, ↓DL.k_OrT, ↓DL.k_OrF, ↓DL.r_or, ↓DL.k_Not, ↓DL.r_not, ↓DL.k_EIfT, ↓DL.k_EIfF, ↓DL.r_eIf, ↓DL.k_Ch3T, ↓DL.k_Ch3F, ↓DL.k_Ch2, ↓DL.k_Ch1, ↓DL.r_chain, ↓DL.k_T, ↓DL.r_of, ↓DL.k_TAT, ↓DL.k_TAF, ↓DL.r_tand, ↓DL.k_TOT, ↓DL.k_TOF, ↓DL.r_tor, ↓DL.k_TN, ↓DL.r_tnot, ↓DL.r_tTrue, ↓DL.k_Asg, ↓DL.r_asg, ↓DL.k_Nx, ↓DL.r_expr, ↓DL.k_Rt, ↓DL.r_ret, ↓DL.r_retN, ↓DL.k_IfT, ↓DL.k_IfF, ↓DL.r_if, ↓DL.r_seq, ↓DL.r_next, ↓DL.r_break, ↓DL.r_cont, ↓DL.r_stuck, ↓DL.k_G, ↓DL.r_asgG, ↓DL.k_For, ↓DL.r_for, ↓DL.k_SI3, ↓DL.k_SI2, ↓DL.k_SI, ↓DL.r_setItemS, ↓DL.k_Ap3, ↓DL.k_Ap2, ↓DL.k_Ap1, ↓DL.r_apd, ↓DL.r_gN, ↓DL.r_iSeq, ↓DL.r_iApp, ↓DL.k_Body, ↓DL.k_Sl3, ↓DL.k_Sl2, ↓DL.k_Sl1, ↓DL.r_sl, ↓DL.r_oNone, ↓DL.k_OS, ↓DL.r_oSome, ↓DL.r_slT, ↓DL.r_slL, ↓DL.r_slS, ↓DL.r_retL, ↓DL.r_newL, ↓DL.r_lc, ↓DL.r_lcM, ↓DL.r_add, ↓DL.r_sub, ↓DL.r_mod, ↓DL.r_div, ↓DL.r_pow1018, ↓DL.r_lt, ↓DL.r_le, ↓DL.r_gt, ↓DL.r_ge, ↓DL.r_neg, ↓DL.r_eqII, ↓DL.r_neII, ↓DL.r_eqSS, ↓DL.r_neSS, ↓DL.r_eqBB, ↓DL.r_neBB, ↓DL.r_isN, ↓DL.r_isB, ↓DL.r_notN, ↓DL.r_int1, ↓DL.r_intb, ↓DL.r_abs, ↓DL.k_Get, ↓DL.r_ixT, ↓DL.r_ixL, ↓DL.r_asLR, ↓DL.r_asLL, ↓DL.r_ixRef, ↓DL.r_lenT, ↓DL.r_lenL, ↓DL.k_Len, ↓DL.r_lenRef, ↓DL.r_sumRef, ↓DL.k_SetJ, ↓DL.k_Set, ↓DL.r_setRef, ↓DL.k_App, ↓DL.r_appRef, ↓DL.r_tup0, ↓DL.r_tup1, ↓DL.r_tup2, ↓DL.r_tup3, ↓DL.r_tup4, ↓DL.r_tup5, ↓DL.r_tup6, ↓DL.r_tup7, ↓DL.r_tup8, ↓DL.r_lst0, ↓DL.r_ref0, ↓DL.r_ref1, ↓DL.r_ref2, ↓DL.r_ref3, ↓DL.r_ref4, ↓DL.r_ref5, ↓DL.r_ref6, ↓DL.r_listL, ↓DL.r_listT, ↓DL.r_tupleL, ↓DL.r_seqT, ↓DL.r_seqL, ↓DL.r_range1, ↓DL.r_range2, ↓DL.r_strEq, ↓DL.r_strEq2, ↓DL.r_isT0, ↓DL.r_isT1, ↓DL.r_isT2, ↓DL.r_isT3, ↓DL.r_isT4, ↓DL.r_isT5, ↓DL.r_isT6, ↓DL.r_isT7, ↓DL.r_isT8, ↓DL.r_isT9, ↓DL.r_isT10, ↓DL.r_isT11, ↓DL.r_isT12, ↓DL.r_isT13, ↓DL.r_isT14, ↓DL.r_isT15, ↓DL.r_isT16, ↓DL.r_isT17, ↓DL.r_isT18, ↓DL.r_isT19, ↓DL.r_isT20, ↓DL.r_isT21, ↓DL.r_isT22, ↓DL.r_isT23, ↓DL.r_isT24, ↓DL.r_isT25, ↓DL.r_isT26, ↓DL.r_isT27, ↓DL.r_isT28, ↓DL.r_isT29, ↓DL.r_isT30, ↓DL.r_isT31, ↓DL.r_isT32, ↓DL.r_isT33, ↓DL.r_isT34, ↓DL.r_isT35, ↓DL.r_isiN, ↓DL.r_isi2N, ↓DL.r_isiB, ↓DL.r_isi2B, ↓DL.r_isiI, ↓DL.r_isi2I, ↓DL.r_isiS, ↓DL.r_isi2S, ↓DL.r_isiT, ↓DL.r_isi2T, ↓DL.r_isiL, ↓DL.r_isi2L, ↓DL.r_inTI, ↓DL.r_ninTI, ↓DL.r_inLI, ↓DL.r_ninLI, ↓DL.r_inTS, ↓DL.r_inD_nil, ↓DL.r_inD_cons, ↓DL.r_flat_nil, ↓DL.r_flat_cons, ↓DL.r_flatS, ↓DL.r_flatI, ↓DL.r_eqvSS, ↓DL.r_eqvII, ↓DL.r_addLL, ↓DL.r_atm1, ↓DL.r_atm2, ↓DL.r_at0, ↓DL.r_at1, ↓DL.r_at2, ↓DL.r_at3, ↓DL.r_at4, ↓DL.r_at5, ↓DL.r_at6, ↓DL.r_at7, ↓DL.r_at8, ↓DL.r_beqI, ↓DL.r_ndec, ↓DL.r_gT, ↓DL.k_Gs, ↓DL.r_gsCons, ↓DL.r_gsNil, ↓DL.r_isDNN, ↓DL.r_isDBB, ↓DL.r_isDBN, ↓DL.r_isDNB, ↓DL.r_isDIN, ↓DL.r_isDIB, ↓DL.r_isDSN, ↓DL.r_isDSB, ↓DL.r_isDTN, ↓DL.r_isDTB, ↓DL.r_isDLN, ↓DL.r_isDLB, ↓DL.r_isDRN, ↓DL.r_isDRB, ↓DL.r_beqTT, ↓DL.r_beqTF, ↓DL.r_beqFT, ↓DL.r_beqFF, ↓DL.k_onI, ↓DL.k_Fld2, ↓DL.r_fld, ↓DL.k_FldR, ↓DL.k_FldO, ↓DL.r_look, ↓DL.r_lookN, ↓DL.r_putD, ↓DL.r_putDN, ↓DL.k_SF3, ↓DL.r_setFldR, ↓DL.k_SF2, ↓DL.k_SF1, ↓DL.r_setFld, ↓DL.r_methF, ↓DL.k_Me2, ↓DL.r_meth, ↓DL.k_MeR, ↓DL.k_MeO, ↓DL.r_make, ↓DL.k_MkN, ↓DL.r_makeF, ↓DL.k_CG2, ↓DL.k_CG, ↓DL.r_callG, ↓DL.r_callGF, ↓DL.r_listRg, ↓DL.r_tupRg, ↓DL.k_SlR, ↓DL.r_slR, ↓DL.r_enumL, ↓DL.r_max2, ↓DL.r_min2, ↓DL.r_isi2R, ↓DL.r_isiR, ↓DL.r_lst1, ↓DL.r_lst2, ↓DL.r_lst3, ↓DL.r_lst4, ↓DL.r_lst5, ↓DL.r_lst6, ↓DL.r_lst7, ↓DL.r_lst8, ↓DL.r_lst9, ↓DL.r_lst10, ↓DL.r_lst11, ↓DL.r_lst12, ↓DL.r_seqR, ↓DL.k_ForR, ↓DL.r_minL, ↓DL.r_clr, ↓DL.k_Clr1R, ↓DL.k_LstR, ↓DL.r_listRef, ↓DL.r_enumJL, ↓DL.r_enumJT, ↓DL.k_Clr2, ↓DL.k_MG2, ↓DL.k_MG, ↓DL.r_makeG, ↓DL.r_makeGF, ↓DL.r_prop, ↓DL.k_Pr2, ↓DL.k_PrR, ↓DL.k_Eq3, ↓DL.r_isiCN, ↓DL.r_isiCS, ↓DL.r_isiCT, ↓DL.k_Ix3, ↓DL.k_Ix2, ↓DL.k_Ix1, ↓DL.r_index, ↓DL.r_iStr, ↓DL.r_strI, ↓DL.k_T2, ↓DL.k_T1S, ↓DL.r_join, ↓DL.r_sindex, ↓DL.k_Rz, ↓DL.r_raise, ↓DL.r_raise0, ↓DL.k_Ex, ↓DL.r_try, ↓DL.k_trNx, ↓DL.k_trRt, ↓DL.k_trBk, ↓DL.k_trCt, ↓DL.k_trEx, ↓DL.k_hdlN, ↓DL.k_hdlT, ↓DL.k_hdlF, ↓DL.k_setSlN, ↓DL.k_setSlS, ↓DL.k_endNx, ↓DL.k_endRt, ↓DL.k_endBk, ↓DL.k_endCt, ↓DL.r_xf, ↓DL.r_xfD, ↓DL.r_isE, ↓DL.r_isED, ↓DL.r_isiDc, ↓DL.r_isi2Dc, ↓DL.k_In4, ↓DL.k_In3, ↓DL.k_In2, ↓DL.k_In1, ↓DL.r_ins, ↓DL.r_addI, ↓DL.k_Fa4, ↓DL.k_Fa3, ↓DL.k_Fa2, ↓DL.k_FaR, ↓DL.r_fldaug, ↓DL.r_dinL, ↓DL.r_dinD, ↓DL.r_dninL, ↓DL.r_dninD, ↓DL.r_dgetL, ↓DL.r_dgetD, ↓DL.r_lenDL, ↓DL.r_lenDD, ↓DL.r_dictL, ↓DL.r_dictD, ↓DL.r_isiLc, ↓DL.r_isi2Lc, ↓DL.r_isTd0, ↓DL.r_isTd1, ↓DL.r_isTd2, ↓DL.r_isTd3, ↓DL.r_isTd4, ↓DL.r_newD, ↓DL.r_frzLs, ↓DL.r_items, ↓DL.r_inK, ↓DL.r_ninK, ↓DL.r_getK, ↓DL.r_dispM, ↓DL.k_Dp2, ↓DL.k_Dp1, ↓DL.r_pairsN, ↓DL.r_pairsC, ↓DL.r_dispF1, ↓DL.r_gTn, ↓DL.k_Gf1, ↓DL.r_gFld, ↓DL.Kt.seq_nx, ↓DL.Kt.seq_rt, ↓DL.Kt.seq_bk, ↓DL.Kt.seq_ct, ↓DL.Kt.seq_ex, ↓DL.Kt.fin_nx, ↓DL.Kt.fin_rt, ↓DL.Kt.fin_ex, ↓DL.Kt.loop_nx, ↓DL.Kt.loop_rt, ↓DL.Kt.loop_bk, ↓DL.Kt.loop_ct, ↓DL.Kt.loop_ex, ↓DL.C.run_ret, ↓DL.mset_same, ↓DL.mset_mset, startD, ixN, Option.bind_some, Option.map_some, List.map_cons, List.map_nil, List.length_cons, List.length_nil, List.length_set, List.replicate, List.cons_append, List.nil_append, List.append_nil, List.set_cons_zero, List.set_cons_succ, List.getElem?_cons_zero, List.getElem?_cons_succ, Nat.reduceAdd, Nat.reduceSub, Nat.zero_add, if_true, if_false, decide_eq_true_eq, reduceIte, Bool.not_true, Bool.not_false, beq_self_eq_true, Bool.false_eq_true, Int.reduceLT, Int.reduceLE, Int.reduceNeg, Int.reduceToNat, Int.reduceAdd, Int.reduceSub, Nat.reduceLT, Nat.reduceLeDiff, Int.cast_ofNat_Int, Int.reduceEq, Int.reduceBEq, DL.wipeD, decide_true, decide_false, not_true_eq_false, not_false_eq_true, String.reduceEq, Bool.or_true, Bool.or_false, Bool.true_or, Bool.false_or, Bool.and_true, Bool.and_false, Bool.true_and, Bool.false_and, Bool.not_not, Nat.reduceEqDiff, Int.toNat_natCast, Decidable.not_not, List.mem_cons, List.not_mem_nil, or_false, or_true, true_or, false_or, and_true, true_and, and_self, and_false, false_and, reduceCtorEq, Option.isNone_some, Option.isNone_none, Option.isSome_some, Option.isSome_none, List.zip_cons_cons, List.zip_nil_right, List.zip_nil_left, List.reverse_cons, List.reverse_nil, Option.getD_some, Option.getD_none, r_tb_LENGTHS_0, r_tb_LENGTHS_1, r_tb_LENGTHS_2, r_tb_LENGTHS_3, r_tb_LENGTHS_4, r_tb_LENGTHS_5, r_in_BadProgram, r_xs_BadProgram_BadProgram, sizeLine_eq, r_sl3, r_seqB, r_lenB, r_ixB, r_isB, r_is2B, r_enumB, sumf_run, enc_wr, enc_gt, enc_st, enc_ite, enc_whl, enc_rt, endsS_wr, endsS_gt, endsS_st, endsS_ite, endsS_whl, endsS_rt, bareS_wr, bareS_gt, bareS_st, bareS_ite, bareS_whl, bareS_rt, cutr3_4, cutr3_5, r_addTT, cs_sizes, cs_side, cs_place, k_MOST_STATEMENTS, k_MOST_DEPTH, dvD_int, k_onICK, cut3_2, cut3_3, cut3_4, cut3_5, k_MOST_VARIABLES, cs_names, cs_store, cs_block, cs_count, cs_code, cs_place, *])
local macro_rules | `(tactic| walk_at "s") => `(tactic| ((try walk_at "h"); repeat' ((first | with_reducible refine if_dec (fun _ => ?_) (fun _ => ?_) | with_reducible refine eif_dec (fun _ => ?_) (fun _ => ?_) | with_reducible refine tor_dec (fun _ => ?_) (fun _ => ?_) | with_reducible refine tand_dec (fun _ => ?_) (fun _ => ?_) | with_reducible refine and_dec (fun _ => ?_) (fun _ => ?_) | with_reducible refine or_dec (fun _ => ?_) (fun _ => ?_) | with_reducible refine ch_dec (fun _ => ?_) (fun _ => ?_)) <;> (try walk_at "h"))))
def fw : Nat → Int
  | 0 => 0
  | n + 1 => 7 + 6 * fw n
theorem fw_nn : ∀ n, 0 ≤ fw n
  | 0 => by simp [fw]
  | n + 1 => by rw [fw]; have := fw_nn n; omega
def Same3 (p c a : Addr) (m m' : Mem) : Prop := ∀ x, x ≠ p → x ≠ c → x ≠ a → m' x = m x
theorem Same3.rfl {p c a : Addr} {m : Mem} : Same3 p c a m m := fun _ _ _ _ => Eq.refl _
theorem Same3.trans {p c a : Addr} {m m' m'' : Mem} (h : Same3 p c a m m') (h' : Same3 p c a m' m'') : Same3 p c a m m'' := fun x h1 h2 h3 => (h' x h1 h2 h3).trans (h x h1 h2 h3)
theorem Same3.of {p c a : Addr} {m m' : Mem} (h : Same p c m m') : Same3 p c a m m' := fun x h1 h2 _ => h x h1 h2
theorem Same3.set {p c a : Addr} {m : Mem} {o : MO} : Same3 p c a m (mset m a o) := fun x _ _ h3 => mset_ne h3
theorem okBk_append {sd : Str} {vs : List Str} {d : Nat} : ∀ {a b : List Sm}, okBk sd vs d (a ++ b) = (okBk sd vs d a && okBk sd vs d b)
  | [], b => by simp [okBk_nil]
  | s :: r, b => by rw [List.cons_append, okBk_cons, okBk_cons, okBk_append, Bool.and_assoc]
theorem deps_append : ∀ {a b : List Sm}, deps (a ++ b) = max (deps a) (deps b)
  | [], b => by simp [deps]
  | s :: r, b => by rw [List.cons_append]; simp only [deps]; rw [deps_append]; omega
theorem addB_run {b : List Sm} {s : Sm} {x : D} {m : Mem} {Q : D → Mem → Prop} {E : Xn → Mem → Prop} (hx : enc s = x) (h : b.length ≤ 1000) : (dAdd (blkD b) (.tup [x])).run m Q E = Q (blkD (b ++ [s])) m := by
  show (dAdd (.tup (b.map enc)) (.tup [x])).run m Q E = _
  rw [r_addTT (by rw [List.length_map, sizeLine_eq]; simp; omega)]
  unfold blkD
  rw [List.map_append, ← hx]
  rfl
theorem kTA_b {tb : DT} {δ : DSt} {QB : Bool → Mem → Prop} {E : Xn → Mem → Prop} {x y : Bool} {m : Mem} (h : (tb δ).run m QB E = QB y m) : kTA tb δ QB E x m = QB (x && y) m := by
  cases x with
  | true => exact h
  | false => rfl
theorem kTO_b {tb : DT} {δ : DSt} {QB : Bool → Mem → Prop} {E : Xn → Mem → Prop} {x y : Bool} {m : Mem} (h : (tb δ).run m QB E = QB y m) : kTO tb δ QB E x m = QB (x || y) m := by
  cases x with
  | true => rfl
  | false => exact h
/-- what a wild block is -/
structure Wild (sd : Str) (d : Nat) (b : List Sm) : Prop where
  ok : okBk sd ["x"] d b = true
  nw : nwB b = true
  dp : deps b + d ≤ 3
theorem Wild.snoc {sd : Str} {d : Nat} {b : List Sm} {s : Sm} (h : Wild sd d b) (h1 : okSm sd ["x"] d s = true) (h2 : nwS s = true) (h3 : dep s + d ≤ 3) : Wild sd d (b ++ [s]) where
  ok := by rw [okBk_append, h.ok, okBk_cons, h1, okBk_nil]; rfl
  nw := by rw [nwB_append, h.nw, nwB_cons, h2, nwB]; rfl
  dp := by rw [deps_append]; simp only [deps]; have := h.dp; omega
theorem wild_spec (sd : Str) (hsd : sd = "writer" ∨ sd = "reader") : ∀ (n d : Nat), d ≤ 3 → 4 ≤ n + d → ∀ (m : Mem) (p c a : Addr) (N room : Int) (Q : D → Mem → Prop) (E : Xn → Mem → Prop), PoolAt m p c N → 0 ≤ N → N + fw n < 2 ^ 39 → a ≠ p → a ≠ c → m a = some (.lst [.int room]) → 0 ≤ room → room ≤ 14 →
    (∀ (b : List Sm) (m' : Mem) (room' : Int), Wild sd d b → cnts b + room' ≤ room → 0 ≤ room' → PoolAt m' p c (N + fw n) → Same3 p c a m m' → m' a = some (.lst [.int room']) → Q (blkD b) m') → (d__law_wild n [.ref p, .str sd, .int d, .ref a]).run m Q E := by
  intro n
  induction n with
  | zero => intro d h1 h2; omega
  | succ n ih =>
    intro d hd hn m p c a N room Q E hP hN0 hN hap hac ha hr0 hr14 q
    rw [d__law_wild_s]
    refine fn_run ?_
    unfold p__law_wild
    have hf := fw_nn n
    have hfw : fw (n + 1) = 7 + 6 * fw n := by rw [fw]
    rw [hfw] at hN q
    walk_at "d"
    refine draw_spec hP (by omega) (by decide) (by decide) fun k m1 hk0 hk1 hP1 hS1 => ?_
    walk_at "d"
    rw [r_range1 (by rw [small62_iff]; omega)]
    walk_at "d"
    refine for_int hk0 (fun i δ m' => ∃ (b : List Sm) (room' : Int) (y5 y6 y7 : Option D), Wild sd d b ∧ cnts b + room' ≤ room ∧ 0 ≤ room' ∧ PoolAt m' p c (N + 1 + i * (2 + 2 * fw n)) ∧ Same3 p c a m m' ∧ m' a = some (.lst [.int room']) ∧ δ = [some (.ref p), some (.str sd), some (.int d), some (.ref a), some (blkD b), y5, y6, y7]) ?_ ?_ ?_
    · refine ⟨[], room, _, _, _, ⟨by rw [okBk_nil], by rw [nwB], by simp [deps]; exact hd⟩, by simp [cnts], hr0, ?_, Same3.of hS1, (hS1 a hap hac).trans ha, rfl⟩
      rw [Int.zero_mul, Int.add_zero]
      exact hP1
    · rintro i δ m2 hi0 hik ⟨b, room', y5, y6, y7, hW, hc, hr', hP2, hS2, ha2, rfl⟩
      walk_at "d"
      unfold p__law_wild_b0
      walk_at "d"
      rw [ha2]
      have step : ∀ (b' : List Sm) (r2 : Int) (m3 : Mem) (z6 z7 : Option D), Wild sd d b' → cnts b' + r2 ≤ room → 0 ≤ r2 → PoolAt m3 p c (N + 1 + i * (2 + 2 * fw n) + 2 + 2 * fw n) → Same3 p c a m m3 → m3 a = some (.lst [.int r2]) →
          ∃ (b : List Sm) (room' : Int) (y5 y6 y7 : Option D), Wild sd d b ∧ cnts b + room' ≤ room ∧ 0 ≤ room' ∧ PoolAt m3 p c (N + 1 + (i + 1) * (2 + 2 * fw n)) ∧ Same3 p c a m m3 ∧ m3 a = some (.lst [.int room']) ∧ [some (.ref p), some (.str sd), some (.int d), some (.ref a), some (blkD b'), some (.int i), z6, z7] = [some (.ref p), some (.str sd), some (.int d), some (.ref a), some (blkD b), y5, y6, y7] := by
        intro b' r2 m3 z6 z7 h1 h2 h3 h4 h5 h6
        refine ⟨b', r2, _, _, _, h1, h2, h3, ?_, h5, h6, rfl⟩
        rw [show N + 1 + (i + 1) * (2 + 2 * fw n) = N + 1 + i * (2 + 2 * fw n) + 2 + 2 * fw n by rw [Int.add_mul]; omega]
        exact h4
      have hi3 : i * (2 + 2 * fw n) ≤ 2 * (2 + 2 * fw n) := Int.mul_le_mul_of_nonneg_right (by omega) (by omega)
      have hi4 : 0 ≤ i * (2 + 2 * fw n) := Int.mul_nonneg hi0 (by omega)
      have hlb := length_cnts b
      walk_at "d"
      by_cases hroom : 0 < room'
      · rw [decide_eq_true hroom]
        walk_at "d"
        rw [ha2]
        walk_at "d"
        rw [ha2]
        walk_at "d"
        have hP3 : PoolAt (mset m2 a (.lst [.int (room' - 1)])) p c (N + 1 + i * (2 + 2 * fw n)) := hP2.up (Int.le_refl _) (mset_ne (Ne.symm hap)) (mset_ne (Ne.symm hac))
        have hS3 : Same3 p c a m (mset m2 a (.lst [.int (room' - 1)])) := hS2.trans Same3.set
        generalize hM : mset m2 a (.lst [.int (room' - 1)]) = m3 at hP3 hS3 ⊢
        have ha3 : m3 a = some (.lst [.int (room' - 1)]) := by rw [← hM, mset_same]
        refine draw_spec hP3 (by omega) (by decide) (by decide) fun pk m4 hp0 hp8 hP4 hS4 => ?_
        have hS4' := hS3.trans (Same3.of (a := a) hS4)
        have ha4 : m4 a = some (.lst [.int (room' - 1)]) := (hS4 a hap hac).trans ha3
        walk_at "d"
        have setC : (sAsg 4 (eOp dAdd (eVar 4) (eApp mkTup (aCons (eApp mkTup (aCons (eC (D.str "set")) (aCons (eC (D.str "x")) (aCons (eApp mkTup (aCons (eC (D.str "plus")) (aCons (eC (D.str "x")) (aCons (eC (D.int 1)) aNil)))) aNil)))) aNil)))) = (sAsg 4 (eOp dAdd (eVar 4) (eApp mkTup (aCons (eApp mkTup (aCons (eC (D.str "set")) (aCons (eC (D.str "x")) (aCons (eApp mkTup (aCons (eC (D.str "plus")) (aCons (eC (D.str "x")) (aCons (eC (D.int 1)) aNil)))) aNil)))) aNil)))) := rfl
        by_cases h1 : pk < 2 ∧ sd = "reader"
        · obtain ⟨h1, rfl⟩ := h1
          rw [decide_eq_true h1]
          walk_at "d"
          refine draw_spec hP4 (by omega) (by decide) (by decide) fun rv m5 hv0 hv4 hP5 hS5 => ?_
          walk_at "d"
          rw [addB_run (s := .rt (.int rv)) enc_rt (by omega)]
          walk_at "d"
          exact step _ (room' - 1) m5 _ _ (hW.snoc (by simp only [okSm]; simp [tmB]; omega) (by rw [nwS]) (by simp [dep]; exact hd)) (by rw [cnts_append, cnts_cons, cnts_nil]; simp only [cnt]; omega) (by omega) (hP5.up (by omega) rfl rfl) (hS4'.trans (Same3.of hS5)) ((hS5 a hap hac).trans ha4)
        · rw [kTA_b (y := (sd == Str.ofString "reader")) (by walk_at "d")]
          rw [show (decide (pk < 2) && (sd == Str.ofString "reader")) = false by rw [Bool.and_eq_false_iff]; by_cases z : pk < 2; exact .inr (by simpa using fun z2 => h1 ⟨z, z2⟩); exact .inl (decide_eq_false z)]
          walk_at "d"
          by_cases h2 : pk < 4
          · rw [decide_eq_true h2]
            walk_at "d"
            rw [addB_run (s := .st "x" (.tup [.str "plus", .str "x", .int 1])) enc_st (by omega)]
            walk_at "d"
            exact step _ (room' - 1) m4 _ _ (hW.snoc (by simp only [okSm]; simp [tmB]) (by rw [nwS]) (by simp [dep]; exact hd)) (by rw [cnts_append, cnts_cons, cnts_nil]; simp only [cnt]; omega) (by omega) (hP4.up (by omega) rfl rfl) hS4' ha4
          · rw [decide_eq_false h2]
            walk_at "d"
            rw [kTO_b (y := decide ((d : Int) = 3)) (by walk_at "d")]
            by_cases h3 : pk = 4 ∨ (d : Int) = 3
            · rw [show (decide (pk = 4) || decide ((d : Int) = 3)) = true by rw [Bool.or_eq_true]; rcases h3 with h3 | h3; exact .inl (decide_eq_true h3); exact .inr (decide_eq_true h3)]
              walk_at "d"
              rw [addB_run (s := .gt "x" "a") enc_gt (by omega)]
              walk_at "d"
              exact step _ (room' - 1) m4 _ _ (hW.snoc (by simp only [okSm]; simp; decide +kernel) (by rw [nwS]) (by simp [dep]; exact hd)) (by rw [cnts_append, cnts_cons, cnts_nil]; simp only [cnt]; omega) (by omega) (hP4.up (by omega) rfl rfl) hS4' ha4
            · rw [show (decide (pk = 4) || decide ((d : Int) = 3)) = false by rw [Bool.or_eq_false_iff]; exact ⟨decide_eq_false fun z => h3 (.inl z), decide_eq_false fun z => h3 (.inr z)⟩]
              walk_at "d"
              have hd2 : d + 1 ≤ 3 := by omega
              have e : ((d : Int) + 1) = ((d + 1 : Nat) : Int) := by omega
              by_cases h4 : pk = 5
              · rw [decide_eq_true h4]
                walk_at "d"
                rw [e]
                refine ih (d + 1) hd2 (by omega) m4 p c a _ _ _ _ hP4 (by omega) (by omega) hap hac ha4 (by omega) (by omega) fun bb m5 r5 hw5 hc5 hr5 hP5 hS5 ha5 => ?_
                walk_at "d"
                rw [addB_run (s := .whl "x" (.int 1) bb) enc_whl (by omega)]
                walk_at "d"
                exact step _ r5 m5 _ _ (hW.snoc (by simp only [okSm]; simp [tmB]; exact ⟨by omega, hw5.ok⟩) (by rw [nwS]; exact hw5.nw) (by simp only [dep]; have := hw5.dp; omega)) (by rw [cnts_append, cnts_cons, cnts_nil]; simp only [cnt]; omega) hr5 (hP5.up (by omega) rfl rfl) (hS4'.trans hS5) ha5
              · rw [decide_eq_false h4]
                walk_at "d"
                rw [e]
                refine ih (d + 1) hd2 (by omega) m4 p c a _ _ _ _ hP4 (by omega) (by omega) hap hac ha4 (by omega) (by omega) fun bb m5 r5 hw5 hc5 hr5 hP5 hS5 ha5 => ?_
                walk_at "d"
                rw [e]
                refine ih (d + 1) hd2 (by omega) m5 p c a _ _ _ _ hP5 (by omega) (by omega) hap hac ha5 (by omega) (by omega) fun bn m6 r6 hw6 hc6 hr6 hP6 hS6 ha6 => ?_
                walk_at "d"
                rw [addB_run (s := .ite "x" (.int 0) bb bn) enc_ite (by omega)]
                walk_at "d"
                exact step _ r6 m6 _ _ (hW.snoc (by simp only [okSm]; simp [tmB]; exact ⟨by omega, hw5.ok, hw6.ok⟩) (by rw [nwS, hw5.nw, hw6.nw]; rfl) (by simp only [dep]; have := hw5.dp; have := hw6.dp; omega)) (by rw [cnts_append, cnts_cons, cnts_nil]; simp only [cnt]; omega) hr6 (hP6.up (by omega) rfl rfl) ((hS4'.trans hS5).trans hS6) ha6
      · rw [decide_eq_false hroom]
        walk_at "d"
        exact step b room' m2 _ _ hW hc hr' (hP2.up (by omega) rfl rfl) hS2 ha2
    · rintro δ m2 ⟨b, room', y5, y6, y7, hW, hc, hr', hP2, hS2, ha2, rfl⟩
      walk_at "d"
      refine q b m2 room' hW hc hr' (hP2.up ?_ rfl rfl) hS2 ha2
      have : k * (2 + 2 * fw n) ≤ 3 * (2 + 2 * fw n) := Int.mul_le_mul_of_nonneg_right (by omega) (by omega)
      omega

local macro_rules | `(tactic| walk_at "d") => `(tactic| simp -implicitDefEqProofs only [↓DL.k_F, ↓DL.k_M, ↓DL.k_onV, ↓DL.k_onL, ↓DL.k_onO, ↓DL.k_onN, ↓DL.r_C, ↓DL.r_var, ↓DL.k_Op2, ↓DL.k_Op, ↓DL.r_op, ↓DL.r_un, ↓DL.r_app, ↓DL.r_call, ↓DL.r_callF, ↓DL.k_CK2, ↓DL.k_CK, ↓DL.r_callK, ↓DL.r_callKF, ↓DL.r_nil, ↓DL.k_A2, ↓DL.k_A, ↓DL.r_cons, ↓DL.k_AndT, ↓DL.k_AndF, ↓DL.r_and, ↓DL.k_OrT, ↓DL.k_OrF, ↓DL.r_or, ↓DL.k_Not, ↓DL.r_not, ↓DL.k_EIfT, ↓DL.k_EIfF, ↓DL.r_eIf, ↓DL.k_Ch3T, ↓DL.k_Ch3F, ↓DL.k_Ch2, ↓DL.k_Ch1, ↓DL.r_chain, ↓DL.k_T, ↓DL.r_of, ↓DL.k_TAT, ↓DL.k_TAF, ↓DL.r_tand, ↓DL.k_TOT, ↓DL.k_TOF, ↓DL.r_tor, ↓DL.k_TN, ↓DL.r_tnot, ↓DL.r_tTrue, ↓DL.k_Asg, ↓DL.r_asg, ↓DL.k_Nx, ↓DL.r_expr, ↓DL.k_Rt, ↓DL.r_ret, ↓DL.r_retN, ↓DL.k_IfT, ↓DL.k_IfF, ↓DL.r_if, ↓DL.r_seq, ↓DL.r_next, ↓DL.r_break, ↓DL.r_cont, ↓DL.r_stuck, ↓DL.k_G, ↓DL.r_asgG, ↓DL.k_For, ↓DL.r_for, ↓DL.k_SI3, ↓DL.k_SI2, ↓DL.k_SI, ↓DL.r_setItemS, ↓DL.k_Ap3, ↓DL.k_Ap2, ↓DL.k_Ap1, ↓DL.r_apd, ↓DL.r_gN, ↓DL.r_iSeq, ↓DL.r_iApp, ↓DL.k_Body, ↓DL.k_Sl3, ↓DL.k_Sl2, ↓DL.k_Sl1, ↓DL.r_sl, ↓DL.r_oNone, ↓DL.k_OS, ↓DL.r_oSome, ↓DL.r_slT, ↓DL.r_slL, ↓DL.r_slS, ↓DL.r_retL, ↓DL.r_newL, ↓DL.r_lc, ↓DL.r_lcM, ↓DL.r_add, ↓DL.r_sub, ↓DL.r_mod, ↓DL.r_div, ↓DL.r_pow1018, ↓DL.r_lt, ↓DL.r_le, ↓DL.r_gt, ↓DL.r_ge, ↓DL.r_neg, ↓DL.r_eqII, ↓DL.r_neII, ↓DL.r_eqSS, ↓DL.r_neSS, ↓DL.r_eqBB, ↓DL.r_neBB, ↓DL.r_isN, ↓DL.r_isB, ↓DL.r_notN, ↓DL.r_int1, ↓DL.r_intb, ↓DL.r_abs, ↓DL.k_Get, ↓DL.r_ixT, ↓DL.r_ixL, ↓DL.r_asLR, ↓DL.r_asLL, ↓DL.r_ixRef, ↓DL.r_lenT, ↓DL.r_lenL, ↓DL.k_Len, ↓DL.r_lenRef, ↓DL.r_sumRef, ↓DL.k_SetJ, ↓DL.k_Set, ↓DL.r_setRef, ↓DL.k_App, ↓DL.r_appRef, ↓DL.r_tup0, ↓DL.r_tup1, ↓DL.r_tup2, ↓DL.r_tup3, ↓DL.r_tup4, ↓DL.r_tup5, ↓DL.r_tup6, ↓DL.r_tup7, ↓DL.r_tup8, ↓DL.r_lst0, ↓DL.r_ref0, ↓DL.r_ref1, ↓DL.r_ref2, ↓DL.r_ref3, ↓DL.r_ref4, ↓DL.r_ref5, ↓DL.r_ref6, ↓DL.r_listL, ↓DL.r_listT, ↓DL.r_tupleL, ↓DL.r_seqT, ↓DL.r_seqL, ↓DL.r_range1, ↓DL.r_range2, ↓DL.r_strEq, ↓DL.r_strEq2, ↓DL.r_isT0, ↓DL.r_isT1, ↓DL.r_isT2, ↓DL.r_isT3, ↓DL.r_isT4, ↓DL.r_isT5, ↓DL.r_isT6, ↓DL.r_isT7, ↓DL.r_isT8, ↓DL.r_isT9, ↓DL.r_isT10, ↓DL.r_isT11, ↓DL.r_isT12, ↓DL.r_isT13, ↓DL.r_isT14, ↓DL.r_isT15, ↓DL.r_isT16, ↓DL.r_isT17, ↓DL.r_isT18, ↓DL.r_isT19, ↓DL.r_isT20, ↓DL.r_isT21, ↓DL.r_isT22, ↓DL.r_isT23, ↓DL.r_isT24, ↓DL.r_isT25, ↓DL.r_isT26, ↓DL.r_isT27, ↓DL.r_isT28, ↓DL.r_isT29, ↓DL.r_isT30, ↓DL.r_isT31, ↓DL.r_isT32, ↓DL.r_isT33, ↓DL.r_isT34, ↓DL.r_isT35, ↓DL.r_isiN, ↓DL.r_isi2N, ↓DL.r_isiB, ↓DL.r_isi2B, ↓DL.r_isiI, ↓DL.r_isi2I, ↓DL.r_isiS, ↓DL.r_isi2S, ↓DL.r_isiT, ↓DL.r_isi2T, ↓DL.r_isiL, ↓DL.r_isi2L, ↓DL.r_inTI, ↓DL.r_ninTI, ↓DL.r_inLI, ↓DL.r_ninLI, ↓DL.r_inTS, ↓DL.r_inD_nil, ↓DL.r_inD_cons, ↓DL.r_flat_nil, ↓DL.r_flat_cons, ↓DL.r_flatS, ↓DL.r_flatI, ↓DL.r_eqvSS, ↓DL.r_eqvII, ↓DL.r_addLL, ↓DL.r_atm1, ↓DL.r_atm2, ↓DL.r_at0, ↓DL.r_at1, ↓DL.r_at2, ↓DL.r_at3, ↓DL.r_at4, ↓DL.r_at5, ↓DL.r_at6, ↓DL.r_at7, ↓DL.r_at8, ↓DL.r_beqI, ↓DL.r_ndec, ↓DL.r_gT, ↓DL.k_Gs, ↓DL.r_gsCons, ↓DL.r_gsNil, ↓DL.r_isDNN, ↓DL.r_isDBB, ↓DL.r_isDBN, ↓DL.r_isDNB, ↓DL.r_isDIN, ↓DL.r_isDIB, ↓DL.r_isDSN, ↓DL.r_isDSB, ↓DL.r_isDTN, ↓DL.r_isDTB, ↓DL.r_isDLN, ↓DL.r_isDLB, ↓DL.r_isDRN, ↓DL.r_isDRB, ↓DL.r_beqTT, ↓DL.r_beqTF, ↓DL.r_beqFT, ↓DL.r_beqFF, ↓DL.k_onI, ↓DL.k_Fld2, ↓DL.r_fld, ↓DL.k_FldR, ↓DL.k_FldO, ↓DL.r_look, ↓DL.r_lookN, ↓DL.r_putD, ↓DL.r_putDN, ↓DL.k_SF3, ↓DL.r_setFldR, ↓DL.k_SF2, ↓DL.k_SF1, ↓DL.r_setFld, ↓DL.r_methF, ↓DL.k_Me2, ↓DL.r_meth, ↓DL.k_MeR, ↓DL.k_MeO, ↓DL.r_make, ↓DL.k_MkN, ↓DL.r_makeF, ↓DL.k_CG2, ↓DL.k_CG, ↓DL.r_callG, ↓DL.r_callGF, ↓DL.r_listRg, ↓DL.r_tupRg, ↓DL.k_SlR, ↓DL.r_slR, ↓DL.r_enumL, ↓DL.r_max2, ↓DL.r_min2, ↓DL.r_isi2R, ↓DL.r_isiR, ↓DL.r_lst1, ↓DL.r_lst2, ↓DL.r_lst3, ↓DL.r_lst4, ↓DL.r_lst5, ↓DL.r_lst6, ↓DL.r_lst7, ↓DL.r_lst8, ↓DL.r_lst9, ↓DL.r_lst10, ↓DL.r_lst11, ↓DL.r_lst12, ↓DL.r_seqR, ↓DL.k_ForR, ↓DL.r_minL, ↓DL.r_clr, ↓DL.k_Clr1R, ↓DL.k_LstR, ↓DL.r_listRef, ↓DL.r_enumJL, ↓DL.r_enumJT, ↓DL.k_Clr2, ↓DL.k_MG2, ↓DL.k_MG, ↓DL.r_makeG, ↓DL.r_makeGF, ↓DL.r_prop, ↓DL.k_Pr2, ↓DL.k_PrR, ↓DL.k_Eq3, ↓DL.r_isiCN, ↓DL.r_isiCS, ↓DL.r_isiCT, ↓DL.k_Ix3, ↓DL.k_Ix2, ↓DL.k_Ix1, ↓DL.r_index, ↓DL.r_iStr, ↓DL.r_strI, ↓DL.k_T2, ↓DL.k_T1S, ↓DL.r_join, ↓DL.r_sindex, ↓DL.k_Rz, ↓DL.r_raise, ↓DL.r_raise0, ↓DL.k_Ex, ↓DL.r_try, ↓DL.k_trNx, ↓DL.k_trRt, ↓DL.k_trBk, ↓DL.k_trCt, ↓DL.k_trEx, ↓DL.k_hdlN, ↓DL.k_hdlT, ↓DL.k_hdlF, ↓DL.k_setSlN, ↓DL.k_setSlS, ↓DL.k_endNx, ↓DL.k_endRt, ↓DL.k_endBk, ↓DL.k_endCt, ↓DL.r_xf, ↓DL.r_xfD, ↓DL.r_isE, ↓DL.r_isED, ↓DL.r_isiDc, ↓DL.r_isi2Dc, ↓DL.k_In4, ↓DL.k_In3, ↓DL.k_In2, ↓DL.k_In1, ↓DL.r_ins, ↓DL.r_addI, ↓DL.k_Fa4, ↓DL.k_Fa3, ↓DL.k_Fa2, ↓DL.k_FaR, ↓DL.r_fldaug, ↓DL.r_dinL, ↓DL.r_dinD, ↓DL.r_dninL, ↓DL.r_dninD, ↓DL.r_dgetL, ↓DL.r_dgetD, ↓DL.r_lenDL, ↓DL.r_lenDD, ↓DL.r_dictL, ↓DL.r_dictD, ↓DL.r_isiLc, ↓DL.r_isi2Lc, ↓DL.r_isTd0, ↓DL.r_isTd1, ↓DL.r_isTd2, ↓DL.r_isTd3, ↓DL.r_isTd4, ↓DL.r_newD, ↓DL.r_frzLs, ↓DL.r_items, ↓DL.r_inK, ↓DL.r_ninK, ↓DL.r_getK, ↓DL.r_dispM, ↓DL.k_Dp2, ↓DL.k_Dp1, ↓DL.r_pairsN, ↓DL.r_pairsC, ↓DL.r_dispF1, ↓DL.r_gTn, ↓DL.k_Gf1, ↓DL.r_gFld, ↓DL.Kt.seq_nx, ↓DL.Kt.seq_rt, ↓DL.Kt.seq_bk, ↓DL.Kt.seq_ct, ↓DL.Kt.seq_ex, ↓DL.Kt.fin_nx, ↓DL.Kt.fin_rt, ↓DL.Kt.fin_ex, ↓DL.Kt.loop_nx, ↓DL.Kt.loop_rt, ↓DL.Kt.loop_bk, ↓DL.Kt.loop_ct, ↓DL.Kt.loop_ex, ↓DL.C.run_ret, ↓DL.mset_same, ↓DL.mset_mset, startD, ixN, Option.bind_some, Option.map_some, List.map_cons, List.map_nil, List.length_cons, List.length_nil, List.length_set, List.replicate, List.cons_append, List.nil_append, List.append_nil, List.set_cons_zero, List.set_cons_succ, List.getElem?_cons_zero, List.getElem?_cons_succ, Nat.reduceAdd, Nat.reduceSub, Nat.zero_add, if_true, if_false, decide_eq_true_eq, reduceIte, Bool.not_true, Bool.not_false, beq_self_eq_true, Bool.false_eq_true, Int.reduceLT, Int.reduceLE, Int.reduceNeg, Int.reduceToNat, Int.reduceAdd, Int.reduceSub, Nat.reduceLT, Nat.reduceLeDiff, Int.cast_ofNat_Int, Int.reduceEq, Int.reduceBEq, DL.wipeD, decide_true, decide_false, not_true_eq_false, not_false_eq_true, String.reduceEq, Bool.or_true, Bool.or_false, Bool.true_or, Bool.false_or, Bool.and_true, Bool.and_false, Bool.true_and, Bool.false_and, Bool.not_not, Nat.reduceEqDiff, Int.toNat_natCast, Decidable.not_not, List.mem_cons, List.not_mem_nil, or_false, or_true, true_or, false_or, and_true, true_and, and_self, and_false, false_and, reduceCtorEq, Option.isNone_some, Option.isNone_none, Option.isSome_some, Option.isSome_none, List.zip_cons_cons, List.zip_nil_right, List.zip_nil_left, List.reverse_cons, List.reverse_nil, Option.getD_some, Option.getD_none, r_tb_LENGTHS_0, r_tb_LENGTHS_1, r_tb_LENGTHS_2, r_tb_LENGTHS_3, r_tb_LENGTHS_4, r_tb_LENGTHS_5, r_in_BadProgram, r_xs_BadProgram_BadProgram, sizeLine_eq, r_sl3, r_seqB, r_lenB, r_ixB, r_isB, r_is2B, r_enumB, sumf_run, enc_wr, enc_gt, enc_st, enc_ite, enc_whl, enc_rt, endsS_wr, endsS_gt, endsS_st, endsS_ite, endsS_whl, endsS_rt, bareS_wr, bareS_gt, bareS_st, bareS_ite, bareS_whl, bareS_rt, cutr3_4, cutr3_5, r_addTT, cs_sizes, cs_side, cs_place, k_MOST_STATEMENTS, k_MOST_DEPTH, dvD_int, k_onICK, cut3_2, cut3_3, cut3_4, cut3_5, k_MOST_VARIABLES, cs_names, cs_store, cs_block, cs_count, cs_code, cs_place])
local macro_rules | `(tactic| walk_at "h") => `(tactic| simp -implicitDefEqProofs only [↓DL.k_F, ↓DL.k_M, ↓DL.k_onV, ↓DL.k_onL, ↓DL.k_onO, ↓DL.k_onN, ↓DL.r_C, ↓DL.r_var, ↓DL.k_Op2, ↓DL.k_Op, ↓DL.r_op, ↓DL.r_un, ↓DL.r_app, ↓DL.r_call, ↓DL.r_callF, ↓DL.k_CK2, ↓DL.k_CK, ↓DL.r_callK, ↓DL.r_callKF, ↓DL.r_nil, ↓DL.k_A2, ↓DL.k_A, ↓DL.r_cons, ↓DL.k_AndT, ↓DL.k_AndF, ↓DL.r_and, ↓DL.k_OrT, ↓DL.k_OrF, ↓DL.r_or, ↓DL.k_Not, ↓DL.r_not, ↓DL.k_EIfT, ↓DL.k_EIfF, ↓DL.r_eIf, ↓DL.k_Ch3T, ↓DL.k_Ch3F, ↓DL.k_Ch2, ↓DL.k_Ch1, ↓DL.r_chain, ↓DL.k_T, ↓DL.r_of, ↓DL.k_TAT, ↓DL.k_TAF, ↓DL.r_tand, ↓DL.k_TOT, ↓DL.k_TOF, ↓DL.r_tor, ↓DL.k_TN, ↓DL.r_tnot, ↓DL.r_tTrue, ↓DL.k_Asg, ↓DL.r_asg, ↓DL.k_Nx, ↓DL.r_expr, ↓DL.k_Rt, ↓DL.r_ret, ↓DL.r_retN, ↓DL.k_IfT, ↓DL.k_IfF, ↓DL.r_if, ↓DL.r_seq, ↓DL.r_next, ↓DL.r_break, ↓DL.r_cont, ↓DL.r_stuck, ↓DL.k_G, ↓DL.r_asgG, ↓DL.k_For, ↓DL.r_for, ↓DL.k_SI3, ↓DL.k_SI2, ↓DL.k_SI, ↓DL.r_setItemS, ↓DL.k_Ap3, ↓DL.k_Ap2, ↓DL.k_Ap1, ↓DL.r_apd, ↓DL.r_gN, ↓DL.r_iSeq, ↓DL.r_iApp, ↓DL.k_Body, ↓DL.k_Sl3, ↓DL.k_Sl2, ↓DL.k_Sl1, ↓DL.r_sl, ↓DL.r_oNone, ↓DL.k_OS, ↓DL.r_oSome, ↓DL.r_slT, ↓DL.r_slL, ↓DL.r_slS, ↓DL.r_retL, ↓DL.r_newL, ↓DL.r_lc, ↓DL.r_lcM, ↓DL.r_add, ↓DL.r_sub, ↓DL.r_mod, ↓DL.r_div, ↓DL.r_pow1018, ↓DL.r_lt, ↓DL.r_le, ↓DL.r_gt, ↓DL.r_ge, ↓DL.r_neg, ↓DL.r_eqII, ↓DL.r_neII, ↓DL.r_eqSS, ↓DL.r_neSS, ↓DL.r_eqBB, ↓DL.r_neBB, ↓DL.r_isN, ↓DL.r_isB, ↓DL.r_notN, ↓DL.r_int1, ↓DL.r_intb, ↓DL.r_abs, ↓DL.k_Get, ↓DL.r_ixT, ↓DL.r_ixL, ↓DL.r_asLR, ↓DL.r_asLL, ↓DL.r_ixRef, ↓DL.r_lenT, ↓DL.r_lenL, ↓DL.k_Len, ↓DL.r_lenRef, ↓DL.r_sumRef, ↓DL.k_SetJ, ↓DL.k_Set, ↓DL.r_setRef, ↓DL.k_App, ↓DL.r_appRef, ↓DL.r_tup0, ↓DL.r_tup1, ↓DL.r_tup2, ↓DL.r_tup3, ↓DL.r_tup4, ↓DL.r_tup5, ↓DL.r_tup6, ↓DL.r_tup7, ↓DL.r_tup8, ↓DL.r_lst0, ↓DL.r_ref0, ↓DL.r_ref1, ↓DL.r_ref2, ↓DL.r_ref3, ↓DL.r_ref4, ↓DL.r_ref5, ↓DL.r_ref6, ↓DL.r_listL, ↓DL.r_listT, ↓DL.r_tupleL, ↓DL.r_seqT, ↓DL.r_seqL, ↓DL.r_range1, ↓DL.r_range2, ↓DL.r_strEq, ↓DL.r_strEq2, ↓DL.r_isT0, ↓DL.r_isT1, ↓DL.r_isT2, ↓DL.r_isT3, ↓DL.r_isT4, ↓DL.r_isT5, ↓DL.r_isT6, ↓DL.r_isT7, ↓DL.r_isT8, ↓DL.r_isT9, ↓DL.r_isT10, ↓DL.r_isT11, ↓DL.r_isT12, ↓DL.r_isT13, ↓DL.r_isT14, ↓DL.r_isT15, ↓DL.r_isT16, ↓DL.r_isT17, ↓DL.r_isT18, ↓DL.r_isT19, ↓DL.r_isT20, ↓DL.r_isT21, ↓DL.r_isT22, ↓DL.r_isT23, ↓DL.r_isT24, ↓DL.r_isT25, ↓DL.r_isT26, ↓DL.r_isT27, ↓DL.r_isT28, ↓DL.r_isT29, ↓DL.r_isT30, ↓DL.r_isT31, ↓DL.r_isT32, ↓DL.r_isT33, ↓DL.r_isT34, ↓DL.r_isT35, ↓DL.r_isiN, ↓DL.r_isi2N, ↓DL.r_isiB, ↓DL.r_isi2B, ↓DL.r_isiI, ↓DL.r_isi2I, ↓DL.r_isiS, ↓DL.r_isi2S, ↓DL.r_isiT, ↓DL.r_isi2T, ↓DL.r_isiL, ↓DL.r_isi2L, ↓DL.r_inTI, ↓DL.r_ninTI, ↓DL.r_inLI, ↓DL.r_ninLI, ↓DL.r_inTS, ↓DL.r_inD_nil, ↓DL.r_inD_cons, ↓DL.r_flat_nil, ↓DL.r_flat_cons, ↓DL.r_flatS, ↓DL.r_flatI, ↓DL.r_eqvSS, ↓DL.r_eqvII, ↓DL.r_addLL, ↓DL.r_atm1, ↓DL.r_atm2, ↓DL.r_at0, ↓DL.r_at1, ↓DL.r_at2, ↓DL.r_at3, ↓DL.r_at4, ↓DL.r_at5, ↓DL.r_at6, ↓DL.r_at7, ↓DL.r_at8, ↓DL.r_beqI, ↓DL.r_ndec, ↓DL.r_gT, ↓DL.k_Gs, ↓DL.r_gsCons, ↓DL.r_gsNil, ↓DL.r_isDNN, ↓DL.r_isDBB, ↓DL.r_isDBN, ↓DL.r_isDNB, ↓DL.r_isDIN, ↓DL.r_isDIB, ↓DL.r_isDSN, ↓DL.r_isDSB, ↓DL.r_isDTN, ↓DL.r_isDTB, ↓DL.r_isDLN, ↓DL.r_isDLB, ↓DL.r_isDRN, ↓DL.r_isDRB, ↓DL.r_beqTT, ↓DL.r_beqTF, ↓DL.r_beqFT, ↓DL.r_beqFF, ↓DL.k_onI, ↓DL.k_Fld2, ↓DL.r_fld, ↓DL.k_FldR, ↓DL.k_FldO, ↓DL.r_look, ↓DL.r_lookN, ↓DL.r_putD, ↓DL.r_putDN, ↓DL.k_SF3, ↓DL.r_setFldR, ↓DL.k_SF2, ↓DL.k_SF1, ↓DL.r_setFld, ↓DL.r_methF, ↓DL.k_Me2, ↓DL.r_meth, ↓DL.k_MeR, ↓DL.k_MeO, ↓DL.r_make, ↓DL.k_MkN, ↓DL.r_makeF, ↓DL.k_CG2, ↓DL.k_CG, ↓DL.r_callG, ↓DL.r_callGF, ↓DL.r_listRg, ↓DL.r_tupRg, ↓DL.k_SlR, ↓DL.r_slR, ↓DL.r_enumL, ↓DL.r_max2, ↓DL.r_min2, ↓DL.r_isi2R, ↓DL.r_isiR, ↓DL.r_lst1, ↓DL.r_lst2, ↓DL.r_lst3, ↓DL.r_lst4, ↓DL.r_lst5, ↓DL.r_lst6, ↓DL.r_lst7, ↓DL.r_lst8, ↓DL.r_lst9, ↓DL.r_lst10, ↓DL.r_lst11, ↓DL.r_lst12, ↓DL.r_seqR, ↓DL.k_ForR, ↓DL.r_minL, ↓DL.r_clr, ↓DL.k_Clr1R, ↓DL.k_LstR, ↓DL.r_listRef, ↓DL.r_enumJL, ↓DL.r_enumJT, ↓DL.k_Clr2, ↓DL.k_MG2, ↓DL.k_MG, ↓DL.r_makeG, ↓DL.r_makeGF, ↓DL.r_prop, ↓DL.k_Pr2, ↓DL.k_PrR, ↓DL.k_Eq3, ↓DL.r_isiCN, ↓DL.r_isiCS, ↓DL.r_isiCT, ↓DL.k_Ix3, ↓DL.k_Ix2, ↓DL.k_Ix1, ↓DL.r_index, ↓DL.r_iStr, ↓DL.r_strI, ↓DL.k_T2, ↓DL.k_T1S, ↓DL.r_join, ↓DL.r_sindex, ↓DL.k_Rz, ↓DL.r_raise, ↓DL.r_raise0, ↓DL.k_Ex, ↓DL.r_try, ↓DL.k_trNx, ↓DL.k_trRt, ↓DL.k_trBk, ↓DL.k_trCt, ↓DL.k_trEx, ↓DL.k_hdlN, ↓DL.k_hdlT, ↓DL.k_hdlF, ↓DL.k_setSlN, ↓DL.k_setSlS, ↓DL.k_endNx, ↓DL.k_endRt, ↓DL.k_endBk, ↓DL.k_endCt, ↓DL.r_xf, ↓DL.r_xfD, ↓DL.r_isE, ↓DL.r_isED, ↓DL.r_isiDc, ↓DL.r_isi2Dc, ↓DL.k_In4, ↓DL.k_In3, ↓DL.k_In2, ↓DL.k_In1, ↓DL.r_ins, ↓DL.r_addI, ↓DL.k_Fa4, ↓DL.k_Fa3, ↓DL.k_Fa2, ↓DL.k_FaR, ↓DL.r_fldaug, ↓DL.r_dinL, ↓DL.r_dinD, ↓DL.r_dninL, ↓DL.r_dninD, ↓DL.r_dgetL, ↓DL.r_dgetD, ↓DL.r_lenDL, ↓DL.r_lenDD, ↓DL.r_dictL, ↓DL.r_dictD, ↓DL.r_isiLc, ↓DL.r_isi2Lc, ↓DL.r_isTd0, ↓DL.r_isTd1, ↓DL.r_isTd2, ↓DL.r_isTd3, ↓DL.r_isTd4, ↓DL.r_newD, ↓DL.r_frzLs, ↓DL.r_items, ↓DL.r_inK, ↓DL.r_ninK, ↓DL.r_getK, ↓DL.r_dispM, ↓DL.k_Dp2, ↓DL.k_Dp1, ↓DL.r_pairsN, ↓DL.r_pairsC, ↓DL.r_dispF1, ↓DL.r_gTn, ↓DL.k_Gf1, ↓DL.r_gFld, ↓DL.Kt.seq_nx, ↓DL.Kt.seq_rt, ↓DL.Kt.seq_bk, ↓DL.Kt.seq_ct, ↓DL.Kt.seq_ex, ↓DL.Kt.fin_nx, ↓DL.Kt.fin_rt, ↓DL.Kt.fin_ex, ↓DL.Kt.loop_nx, ↓DL.Kt.loop_rt, ↓DL.Kt.loop_bk, ↓DL.Kt.loop_ct, ↓DL.Kt.loop_ex, ↓DL.C.run_ret, ↓DL.mset_same, ↓DL.mset_mset, startD, ixN, Option.bind_some, Option.map_some, List.map_cons, List.map_nil, List.length_cons, List.length_nil, List.length_set, List.replicate, List.cons_append, List.nil_append, List.append_nil, List.set_cons_zero, List.set_cons_succ, List.getElem?_cons_zero, List.getElem?_cons_succ, Nat.reduceAdd, Nat.reduceSub, Nat.zero_add, if_true, if_false, decide_eq_true_eq, reduceIte, Bool.not_true, Bool.not_false, beq_self_eq_true, Bool.false_eq_true, Int.reduceLT, Int.reduceLE, Int.reduceNeg, Int.reduceToNat, Int.reduceAdd, Int.reduceSub, Nat.reduceLT, Nat.reduceLeDiff, Int.cast_ofNat_Int, Int.reduceEq, Int.reduceBEq, DL.wipeD, decide_true, decide_false, not_true_eq_false, not_false_eq_true, String.reduceEq, Bool.or_true, Bool.or_false, Bool.true_or, Bool.false_or, Bool.and_true, Bool.and_false, Bool.true_and, Bool.false_and, Bool.not_not, Nat.reduceEqDiff, Int.toNat_natCast, Decidable.not_not, List.mem_cons, List.not_mem_nil, or_false, or_true, true_or, false_or, and_true, true_and, and_self, and_false, false_and, reduceCtorEq, Option.isNone_some, Option.isNone_none, Option.isSome_some, Option.isSome_none, List.zip_cons_cons, List.zip_nil_right, List.zip_nil_left, List.reverse_cons, List.reverse_nil, Option.getD_some, Option.getD_none, r_tb_LENGTHS_0, r_tb_LENGTHS_1, r_tb_LENGTHS_2, r_tb_LENGTHS_3, r_tb_LENGTHS_4, r_tb_LENGTHS_5, r_in_BadProgram, r_xs_BadProgram_BadProgram, sizeLine_eq, r_sl3, r_seqB, r_lenB, r_ixB, r_isB, r_is2B, r_enumB, sumf_run, enc_wr, enc_gt, enc_st, enc_ite, enc_whl, enc_rt, endsS_wr, endsS_gt, endsS_st, endsS_ite, endsS_whl, endsS_rt, bareS_wr, bareS_gt, bareS_st, bareS_ite, bareS_whl, bareS_rt, cutr3_4, cutr3_5, r_addTT, cs_sizes, cs_side, cs_place, k_MOST_STATEMENTS, k_MOST_DEPTH, dvD_int, k_onICK, cut3_2, cut3_3, cut3_4, cut3_5, k_MOST_VARIABLES, cs_names, cs_store, cs_block, cs_count, cs_code, cs_place, *])
local macro_rules | `(tactic| walk_at "s") => `(tactic| ((try walk_at "h"); repeat' ((first | with_reducible refine if_dec (fun _ => ?_) (fun _ => ?_) | with_reducible refine eif_dec (fun _ => ?_) (fun _ => ?_) | with_reducible refine tor_dec (fun _ => ?_) (fun _ => ?_) | with_reducible refine tand_dec (fun _ => ?_) (fun _ => ?_) | with_reducible refine and_dec (fun _ => ?_) (fun _ => ?_) | with_reducible refine or_dec (fun _ => ?_) (fun _ => ?_) | with_reducible refine ch_dec (fun _ => ?_) (fun _ => ?_)) <;> (try walk_at "h"))))
def dueD : Option (Nat × Str) → D
  | none => .non
  | some (k, w) => .tup [.int k, .str w]
theorem fne_snoc (l : List Str) (w : Str) : fne (l ++ [w]) 0 = (fne l 0).or (if w = "" then none else some (l.length, w)) := by
  rw [fne_app, Nat.zero_add]
  congr 1
theorem xOk : StOk [("x", 2, 0)] where
  four := by decide
  nm := by
    intro p hp
    rw [List.mem_singleton.mp hp]
    decide +kernel
  new := by
    intro p hp
    rw [List.mem_singleton.mp hp]
    decide +kernel
  sz := by
    intro p hp
    rw [List.mem_singleton.mp hp]
    decide
  sa := by
    intro p hp
    rw [List.mem_singleton.mp hp]
    decide
theorem law_true : ∀ ns : List Int, ns.length ≤ 63 → (d_law [.scr ns]).run (fun _ => none) (fun d _ => d = .bl true) (fun _ _ => False) := by
  intro ns hns
  unfold d_law
  refine fn_run ?_
  unfold p_law
  walk_at "d"
  refine pool_spec hns fun p c m1 hp hc hP1 hS1 => ?_
  walk_at "d"
  refine draw_spec hP1 (by decide) (by decide) (by decide) fun r m2 hr0 hr2 hP2 hS2 => ?_
  walk_at "d"
  have hsd : ∃ sd : Str, (sd = "writer" ∨ sd = "reader") ∧ atI [D.str "writer", D.str "reader"] r = some (.str sd) := by
    rcases (show r = 0 ∨ r = 1 by omega) with rfl | rfl
    · exact ⟨"writer", .inl rfl, rfl⟩
    · exact ⟨"reader", .inr rfl, rfl⟩
  obtain ⟨sd, hsd, hat⟩ := hsd
  rw [hat]
  walk_at "d"
  intro a ha
  have hne : ∀ {m : Mem} {x : Addr} {o : MO}, PoolAt m p c (0 + 1) → m x = none → x ≠ p ∧ x ≠ c := fun {m x o} hp hx => by
    obtain ⟨_, _, _, _, _, _, e1, e2, _⟩ := hp
    exact ⟨fun e => (by rw [e, e1] at hx; cases hx), fun e => (by rw [e, e2] at hx; cases hx)⟩
  obtain ⟨hap, hac⟩ := hne (o := .lst []) hP2 ha
  refine wild_spec sd hsd 5 0 (by omega) (by omega) _ p c a _ 14 _ _ (hP2.up (Int.le_refl _) (mset_ne (Ne.symm hap)) (mset_ne (Ne.symm hac))) (by omega) (by decide) hap hac mset_same (by omega) (by omega) fun b m3 r3 hW hcb hr3 hP3 hS3 ha3 => ?_
  walk_at "d"
  intro l hl
  refine list_ret 5 b (by have := hW.dp; omega) (by have := hW.dp; omega) hW.nw _ l [] _ _ mset_same (by simp; omega) ?_
  walk_at "d"
  have hlen : (List.map D.str (lr true b)).length = cnts b := by rw [List.length_map, lrB_len]
  rw [r_range1 (small_len (by omega))]
  walk_at "d"
  have hal : a ≠ l := mem_ne ha3 hl
  have hlr : ∀ k : Nat, k < cnts b → ∃ w, (lr true b)[k]? = some w := fun k hk => ⟨_, List.getElem?_eq_getElem (by rw [lrB_len]; exact hk)⟩
  refine for_nat (n := (List.map D.str (lr true b)).length) (fun k δ m' => m' = mset m3 l (.lst ((lr true b).map D.str)) ∧ ∃ y6, δ = [some (.scr ns), some (.ref p), some (.str sd), some (blkD b), some (dueD (fne ((lr true b).take k) 0)), some (.ref l), y6, none, none, none]) ⟨rfl, _, rfl⟩ ?_ ?_
  · rintro k δ m4 hk ⟨rfl, y6, rfl⟩
    rw [hlen] at hk
    obtain ⟨w, hw⟩ := hlr k hk
    have hat2 : atI ((lr true b).map D.str) (k : Int) = some (.str w) := atI_nat (by rw [List.getElem?_map, hw]; rfl)
    have htk : (lr true b).take (k + 1) = (lr true b).take k ++ [w] := by rw [List.take_succ, hw]; rfl
    have htl : ((lr true b).take k).length = k := by rw [List.length_take, lrB_len]; omega
    have hf := fne_snoc ((lr true b).take k) w
    rw [← htk, htl] at hf
    rw [hf]
    generalize fne ((lr true b).take k) 0 = o
    walk_at "d"
    unfold p_law_b0
    cases o with
    | some f =>
      obtain ⟨fk, fw'⟩ := f
      simp only [dueD, Option.some_or]
      walk_at "d"
      exact ⟨_, rfl⟩
    | none =>
      simp only [dueD, Option.none_or]
      walk_at "d"
      rw [hat2]
      walk_at "d"
      by_cases hw0 : w = ""
      · subst hw0
        walk_at "d"
        exact ⟨_, rfl⟩
      · rw [if_neg hw0]
        have hb : (w == Str.ofString "") = false := by simpa using hw0
        rw [hb]
        walk_at "d"
        rw [hat2]
        walk_at "d"
        exact ⟨_, rfl⟩
  · rintro δ m4 ⟨rfl, y6, rfl⟩
    rw [hlen, List.take_of_length_le (by rw [lrB_len]; exact Nat.le_refl _), fne_eq]
    walk_at "d"
    intro q1 hq1 pp hpp
    rw [mdel_back hq1] at hpp ⊢
    have hml : mset m3 l (.lst ((lr true b).map D.str)) l = some (.lst ((lr true b).map D.str)) := mset_same
    generalize mset m3 l (.lst ((lr true b).map D.str)) = M at hpp hml ⊢
    have hlp : l ≠ pp := mem_ne hml hpp
    have hlen2 : (List.map D.str (lr true b)).length = cnts b := hlen
    refine prog_init (st := [("x", 2, 0)]) mset_same hsd xOk hW.ok (by omega) (by have := hW.dp; omega) (fun m5 h5 hk5 hcl => ?_) (fun m5 k f w hk5 hfl => ?_)
    · obtain ⟨k, hk⟩ := hcl
      rw [hk]
      walk_at "d"
      rw [h5]
      unfold PF
      walk_at "d"
      simp only [dueD]
      walk_at "d"
      rw [hk5 l _ hlp (by rw [mset_ne hlp]; exact hml)]
      walk_at "d"
      rw [hlen]
      refine same_refl 12 _ rfl _ _ _ ?_
      walk_at "d"
    · rw [hfl]
      walk_at "d"
      intro xa xd hxa
      unfold p_law_s1
      simp only [dueD]
      walk_at "d"
      exact same_refl 12 (.tup [.int f, .str w]) rfl _ _ _ rfl

end My

namespace My
open PySem PySem.Spec PyProof.Rows L2 DL
def top (i : Nat) : Stmt := PySem.Challenge.pw_cellsatonce_k18_dead_and_idle.main.body.getD i (.Pass ⟨0, 0, 0, 0⟩)
abbrev s_Checker___init__ : Stmt := inClass (top 18) 0
abbrev N_Checker___init__ : List Str := ["self", "side", "sizes"]
theorem sc_Checker___init__ : FnScope N_Checker___init__ ["self", "side", "sizes"] (defScope s_Checker___init__) := ⟨rfl, rfl, rfl, by decide +kernel, rfl, by decide +kernel, by decide +kernel⟩
abbrev s_Checker_is_local : Stmt := inClass (top 18) 1
abbrev N_Checker_is_local : List Str := ["self", "name"]
theorem sc_Checker_is_local : FnScope N_Checker_is_local ["self", "name"] (defScope s_Checker_is_local) := ⟨rfl, rfl, rfl, by decide +kernel, rfl, by decide +kernel, by decide +kernel⟩
abbrev s_is_integer : Stmt := top 6
abbrev N_is_integer : List Str := ["thing"]
theorem sc_is_integer : FnScope N_is_integer ["thing"] (defScope s_is_integer) := ⟨rfl, rfl, rfl, by decide +kernel, rfl, by decide +kernel, by decide +kernel⟩
abbrev s_is_between : Stmt := top 7
abbrev N_is_between : List Str := ["thing", "low", "high"]
theorem sc_is_between : FnScope N_is_between ["thing", "low", "high"] (defScope s_is_between) := ⟨rfl, rfl, rfl, by decide +kernel, rfl, by decide +kernel, by decide +kernel⟩
abbrev s_is_row : Stmt := top 8
abbrev N_is_row : List Str := ["thing"]
theorem sc_is_row : FnScope N_is_row ["thing"] (defScope s_is_row) := ⟨rfl, rfl, rfl, by decide +kernel, rfl, by decide +kernel, by decide +kernel⟩
abbrev s_is_word_row : Stmt := top 10
abbrev N_is_word_row : List Str := ["thing", "word", "length"]
theorem sc_is_word_row : FnScope N_is_word_row ["thing", "word", "length"] (defScope s_is_word_row) := ⟨rfl, rfl, rfl, by decide +kernel, rfl, by decide +kernel, by decide +kernel⟩
abbrev s_Checker_term_form : Stmt := inClass (top 18) 2
abbrev N_Checker_term_form : List Str := ["self", "term"]
theorem sc_Checker_term_form : FnScope N_Checker_term_form ["self", "term"] (defScope s_Checker_term_form) := ⟨rfl, rfl, rfl, by decide +kernel, rfl, by decide +kernel, by decide +kernel⟩
abbrev s_is_name : Stmt := top 9
abbrev N_is_name : List Str := ["thing", "letter"]
theorem sc_is_name : FnScope N_is_name ["thing"] (defScope s_is_name) := ⟨rfl, rfl, rfl, by decide +kernel, rfl, by decide +kernel, by decide +kernel⟩
abbrev s_Checker_part_reason : Stmt := inClass (top 18) 4
abbrev N_Checker_part_reason : List Str := ["self", "row", "depth", "word", "inner"]
theorem sc_Checker_part_reason : FnScope N_Checker_part_reason ["self", "row", "depth"] (defScope s_Checker_part_reason) := ⟨rfl, rfl, rfl, by decide +kernel, rfl, by decide +kernel, by decide +kernel⟩
abbrev s_Checker_block_form : Stmt := inClass (top 18) 3
abbrev N_Checker_block_form : List Str := ["self", "block", "depth", "row"]
theorem sc_Checker_block_form : FnScope N_Checker_block_form ["self", "block", "depth"] (defScope s_Checker_block_form) := ⟨rfl, rfl, rfl, by decide +kernel, rfl, by decide +kernel, by decide +kernel⟩
abbrev s_Checker_statement_form : Stmt := inClass (top 18) 5
abbrev N_Checker_statement_form : List Str := ["self", "row", "depth", "place", "reason", "form", "inner"]
theorem sc_Checker_statement_form : FnScope N_Checker_statement_form ["self", "row", "depth"] (defScope s_Checker_statement_form) := ⟨rfl, rfl, rfl, by decide +kernel, rfl, by decide +kernel, by decide +kernel⟩
abbrev s_check_store : Stmt := top 25
abbrev N_check_store : List Str := ["store", "name", "row"]
theorem sc_check_store : FnScope N_check_store ["store"] (defScope s_check_store) := ⟨rfl, rfl, rfl, by decide +kernel, rfl, by decide +kernel, by decide +kernel⟩
abbrev s_has_bare_way : Stmt := top 21
abbrev N_has_bare_way : List Str := ["block", "statement"]
theorem sc_has_bare_way : FnScope N_has_bare_way ["block"] (defScope s_has_bare_way) := ⟨rfl, rfl, rfl, by decide +kernel, rfl, by decide +kernel, by decide +kernel⟩
abbrev s_block_ends : Stmt := top 20
abbrev N_block_ends : List Str := ["block"]
theorem sc_block_ends : FnScope N_block_ends ["block"] (defScope s_block_ends) := ⟨rfl, rfl, rfl, by decide +kernel, rfl, by decide +kernel, by decide +kernel⟩
abbrev s_statement_ends : Stmt := top 19
abbrev N_statement_ends : List Str := ["statement"]
theorem sc_statement_ends : FnScope N_statement_ends ["statement"] (defScope s_statement_ends) := ⟨rfl, rfl, rfl, by decide +kernel, rfl, by decide +kernel, by decide +kernel⟩
abbrev s_first_flaw : Stmt := top 22
abbrev N_first_flaw : List Str := ["block", "place", "ended", "statement", "here", "inner", "flaw"]
theorem sc_first_flaw : FnScope N_first_flaw ["block", "place"] (defScope s_first_flaw) := ⟨rfl, rfl, rfl, by decide +kernel, rfl, by decide +kernel, by decide +kernel⟩
abbrev s_is_side : Stmt := top 12
abbrev N_is_side : List Str := ["thing"]
theorem sc_is_side : FnScope N_is_side ["thing"] (defScope s_is_side) := ⟨rfl, rfl, rfl, by decide +kernel, rfl, by decide +kernel, by decide +kernel⟩
abbrev s_width : Stmt := top 23
abbrev N_width : List Str := ["block", "statement", "inner"]
theorem sc_width : FnScope N_width ["block"] (defScope s_width) := ⟨rfl, rfl, rfl, by decide +kernel, rfl, by decide +kernel, by decide +kernel⟩
abbrev s_lay_out : Stmt := top 24
abbrev N_lay_out : List Str := ["block", "place", "behind", "code", "index", "statement", "follower", "after", "other", "yes", "no", "inner"]
theorem sc_lay_out : FnScope N_lay_out ["block", "place", "behind", "code"] (defScope s_lay_out) := ⟨rfl, rfl, rfl, by decide +kernel, rfl, by decide +kernel, by decide +kernel⟩
abbrev s_Program___init__ : Stmt := inClass (top 26) 0
abbrev N_Program___init__ : List Str := ["self", "side", "store", "block", "flaw", "name"]
theorem sc_Program___init__ : FnScope N_Program___init__ ["self", "side", "store", "block"] (defScope s_Program___init__) := ⟨rfl, rfl, rfl, by decide +kernel, rfl, by decide +kernel, by decide +kernel⟩
abbrev s__law_mixed : Stmt := top 29
abbrev N__law_mixed : List Str := ["_law_cell", "_law_k", "_law_number"]
theorem sc__law_mixed : FnScope N__law_mixed ["_law_cell", "_law_k"] (defScope s__law_mixed) := ⟨rfl, rfl, rfl, by decide +kernel, rfl, by decide +kernel, by decide +kernel⟩
abbrev s__law_draw : Stmt := top 30
abbrev N__law_draw : List Str := ["_law_pool_here", "_law_size", "_law_cells", "_law_at", "_law_cell", "_law_number"]
theorem sc__law_draw : FnScope N__law_draw ["_law_pool_here", "_law_size"] (defScope s__law_draw) := ⟨rfl, rfl, rfl, by decide +kernel, rfl, by decide +kernel, by decide +kernel⟩
abbrev s__law_bare_ways : Stmt := top 34
abbrev N__law_bare_ways : List Str := ["_law_block", "_law_ways", "_law_row"]
theorem sc__law_bare_ways : FnScope N__law_bare_ways ["_law_block"] (defScope s__law_bare_ways) := ⟨rfl, rfl, rfl, by decide +kernel, rfl, by decide +kernel, by decide +kernel⟩
abbrev s__law_open_end : Stmt := top 35
abbrev N__law_open_end : List Str := ["_law_block", "_law_row"]
theorem sc__law_open_end : FnScope N__law_open_end ["_law_block"] (defScope s__law_open_end) := ⟨rfl, rfl, rfl, by decide +kernel, rfl, by decide +kernel, by decide +kernel⟩
abbrev s__law_list : Stmt := top 36
abbrev N__law_list : List Str := ["_law_block", "_law_rows", "_law_k", "_law_row", "_law_why", "_law_inner"]
theorem sc__law_list : FnScope N__law_list ["_law_block", "_law_rows"] (defScope s__law_list) := ⟨rfl, rfl, rfl, by decide +kernel, rfl, by decide +kernel, by decide +kernel⟩
abbrev s__law_pool : Stmt := top 28
abbrev N__law_pool : List Str := ["_law_script", "_law_cells", "_law_cell"]
theorem sc__law_pool : FnScope N__law_pool ["_law_script"] (defScope s__law_pool) := ⟨rfl, rfl, rfl, by decide +kernel, rfl, by decide +kernel, by decide +kernel⟩
abbrev s__law_int : Stmt := top 31
abbrev N__law_int : List Str := ["_law_thing"]
theorem sc__law_int : FnScope N__law_int ["_law_thing"] (defScope s__law_int) := ⟨rfl, rfl, rfl, by decide +kernel, rfl, by decide +kernel, by decide +kernel⟩
abbrev s__law_same : Stmt := top 32
abbrev N__law_same : List Str := ["_law_thing", "_law_due", "_law_k"]
theorem sc__law_same : FnScope N__law_same ["_law_thing", "_law_due"] (defScope s__law_same) := ⟨rfl, rfl, rfl, by decide +kernel, rfl, by decide +kernel, by decide +kernel⟩
abbrev s__law_wild : Stmt := top 33
abbrev N__law_wild : List Str := ["_law_pool_here", "_law_side", "_law_depth", "_law_room", "_law_block", "_law_turn", "_law_pick", "_law_yes"]
theorem sc__law_wild : FnScope N__law_wild ["_law_pool_here", "_law_side", "_law_depth", "_law_room"] (defScope s__law_wild) := ⟨rfl, rfl, rfl, by decide +kernel, rfl, by decide +kernel, by decide +kernel⟩
abbrev s_law : Stmt := top 37
abbrev N_law : List Str := ["_law_script", "_law_pool_here", "_law_side", "_law_block", "_law_due", "_law_rows", "_law_k", "_law_actual", "_law_count", "e"]
theorem sc_law : FnScope N_law ["_law_script"] (defScope s_law) := ⟨rfl, rfl, rfl, by decide +kernel, rfl, by decide +kernel, by decide +kernel⟩
abbrev FILE : Str := PySem.Challenge.pw_cellsatonce_k18_dead_and_idle.main.file
abbrev s_BadProgram___init__ : Stmt := inClass (top 3) 0
structure Txt (P : Program) (w : World) (K : PySem.W.Frag) (mg : Str → Option Value) : Prop where
  pr : PrOk P FILE
  err : ErrF K errL errC errF
  g_BadProgram : mg "BadProgram" = some (.ref (He.ga K "BadProgram"))
  no_BadProgram_place : PySem.W.findIn K (.ref (He.ga K "BadProgram")) "place" = some none
  no_BadProgram_why : PySem.W.findIn K (.ref (He.ga K "BadProgram")) "why" = some none
  su_BadProgram : mg "BadProgram" = some (.ref (He.ga K "BadProgram")) ∧ ∃ fd, SuC K mg FILE (He.ga K "BadProgram") (He.ma K (He.ga K "BadProgram") "__init__") "__init__" "BadProgram.__init__" (defArgs s_BadProgram___init__) (defBody s_BadProgram___init__) (defScope s_BadProgram___init__) fd
  free_abs : mg "abs" = none
  free_bool : mg "bool" = none
  free_dict : mg "dict" = none
  free_enumerate : mg "enumerate" = none
  free_int : mg "int" = none
  free_isinstance : mg "isinstance" = none
  free_len : mg "len" = none
  free_list : mg "list" = none
  free_min : mg "min" = none
  free_range : mg "range" = none
  free_sorted : mg "sorted" = none
  free_str : mg "str" = none
  free_sum : mg "sum" = none
  free_tuple : mg "tuple" = none
  c_LETTERS : KConst K mg "LETTERS" k_LETTERS
  c_MOST_DEPTH : KConst K mg "MOST_DEPTH" k_MOST_DEPTH
  c_MOST_STATEMENTS : KConst K mg "MOST_STATEMENTS" k_MOST_STATEMENTS
  c_MOST_VARIABLES : KConst K mg "MOST_VARIABLES" k_MOST_VARIABLES
  tab_LENGTHS : KTab K w mg "LENGTHS" tab_LENGTHS
  fl_block : FldOk K cs_block "block"
  fl_code : FldOk K cs_code "code"
  fl_count : FldOk K cs_count "count"
  fl_names : FldOk K cs_names "names"
  fl_place : FldOk K cs_place "place"
  fl_side : FldOk K cs_side "side"
  fl_sizes : FldOk K cs_sizes "sizes"
  fl_store : FldOk K cs_store "store"
  fn_Checker___init__ : (mg "Checker" = some (.ref (He.ga K "Checker")) ∧ Mk K (He.ga K "Checker") (He.ma K (He.ga K "Checker") "__init__")) ∧ ∃ fd, FunD K "__init__" "Checker.__init__" (defArgs s_Checker___init__) (defBody s_Checker___init__) (defScope s_Checker___init__) [] [] (He.ma K (He.ga K "Checker") "__init__") fd
  fn_Checker_is_local : (Cls K (He.ga K "Checker") ∧ Meth K (He.ga K "Checker") "is_local" (He.ma K (He.ga K "Checker") "is_local")) ∧ ∃ fd, FunD K "is_local" "Checker.is_local" (defArgs s_Checker_is_local) (defBody s_Checker_is_local) (defScope s_Checker_is_local) [] [] (He.ma K (He.ga K "Checker") "is_local") fd
  fn_is_integer : mg "is_integer" = some (.ref (He.ga K "is_integer")) ∧ ∃ fd, FunD K "is_integer" "is_integer" (defArgs s_is_integer) (defBody s_is_integer) (defScope s_is_integer) [] [] (He.ga K "is_integer") fd
  fn_is_between : mg "is_between" = some (.ref (He.ga K "is_between")) ∧ ∃ fd, FunD K "is_between" "is_between" (defArgs s_is_between) (defBody s_is_between) (defScope s_is_between) [] [] (He.ga K "is_between") fd
  fn_is_row : mg "is_row" = some (.ref (He.ga K "is_row")) ∧ ∃ fd, FunD K "is_row" "is_row" (defArgs s_is_row) (defBody s_is_row) (defScope s_is_row) [] [] (He.ga K "is_row") fd
  fn_is_word_row : mg "is_word_row" = some (.ref (He.ga K "is_word_row")) ∧ ∃ fd, FunD K "is_word_row" "is_word_row" (defArgs s_is_word_row) (defBody s_is_word_row) (defScope s_is_word_row) [] [] (He.ga K "is_word_row") fd
  fn_Checker_term_form : (Cls K (He.ga K "Checker") ∧ Meth K (He.ga K "Checker") "term_form" (He.ma K (He.ga K "Checker") "term_form")) ∧ ∃ fd, FunD K "term_form" "Checker.term_form" (defArgs s_Checker_term_form) (defBody s_Checker_term_form) (defScope s_Checker_term_form) [] [] (He.ma K (He.ga K "Checker") "term_form") fd
  fn_is_name : mg "is_name" = some (.ref (He.ga K "is_name")) ∧ ∃ fd, FunD K "is_name" "is_name" (defArgs s_is_name) (defBody s_is_name) (defScope s_is_name) [] [] (He.ga K "is_name") fd
  fn_Checker_part_reason : (Cls K (He.ga K "Checker") ∧ Meth K (He.ga K "Checker") "part_reason" (He.ma K (He.ga K "Checker") "part_reason")) ∧ ∃ fd, FunD K "part_reason" "Checker.part_reason" (defArgs s_Checker_part_reason) (defBody s_Checker_part_reason) (defScope s_Checker_part_reason) [] [] (He.ma K (He.ga K "Checker") "part_reason") fd
  fn_Checker_block_form : (Cls K (He.ga K "Checker") ∧ Meth K (He.ga K "Checker") "block_form" (He.ma K (He.ga K "Checker") "block_form")) ∧ ∃ fd, FunD K "block_form" "Checker.block_form" (defArgs s_Checker_block_form) (defBody s_Checker_block_form) (defScope s_Checker_block_form) [] [] (He.ma K (He.ga K "Checker") "block_form") fd
  fn_Checker_statement_form : (Cls K (He.ga K "Checker") ∧ Meth K (He.ga K "Checker") "statement_form" (He.ma K (He.ga K "Checker") "statement_form")) ∧ ∃ fd, FunD K "statement_form" "Checker.statement_form" (defArgs s_Checker_statement_form) (defBody s_Checker_statement_form) (defScope s_Checker_statement_form) [] [] (He.ma K (He.ga K "Checker") "statement_form") fd
  fn_check_store : mg "check_store" = some (.ref (He.ga K "check_store")) ∧ ∃ fd, FunD K "check_store" "check_store" (defArgs s_check_store) (defBody s_check_store) (defScope s_check_store) [] [] (He.ga K "check_store") fd
  fn_has_bare_way : mg "has_bare_way" = some (.ref (He.ga K "has_bare_way")) ∧ ∃ fd, FunD K "has_bare_way" "has_bare_way" (defArgs s_has_bare_way) (defBody s_has_bare_way) (defScope s_has_bare_way) [] [] (He.ga K "has_bare_way") fd
  fn_block_ends : mg "block_ends" = some (.ref (He.ga K "block_ends")) ∧ ∃ fd, FunD K "block_ends" "block_ends" (defArgs s_block_ends) (defBody s_block_ends) (defScope s_block_ends) [] [] (He.ga K "block_ends") fd
  fn_statement_ends : mg "statement_ends" = some (.ref (He.ga K "statement_ends")) ∧ ∃ fd, FunD K "statement_ends" "statement_ends" (defArgs s_statement_ends) (defBody s_statement_ends) (defScope s_statement_ends) [] [] (He.ga K "statement_ends") fd
  fn_first_flaw : mg "first_flaw" = some (.ref (He.ga K "first_flaw")) ∧ ∃ fd, FunD K "first_flaw" "first_flaw" (defArgs s_first_flaw) (defBody s_first_flaw) (defScope s_first_flaw) [] [] (He.ga K "first_flaw") fd
  fn_is_side : mg "is_side" = some (.ref (He.ga K "is_side")) ∧ ∃ fd, FunD K "is_side" "is_side" (defArgs s_is_side) (defBody s_is_side) (defScope s_is_side) [] [] (He.ga K "is_side") fd
  fn_width : mg "width" = some (.ref (He.ga K "width")) ∧ ∃ fd, FunD K "width" "width" (defArgs s_width) (defBody s_width) (defScope s_width) [] [] (He.ga K "width") fd
  fn_lay_out : mg "lay_out" = some (.ref (He.ga K "lay_out")) ∧ ∃ fd, FunD K "lay_out" "lay_out" (defArgs s_lay_out) (defBody s_lay_out) (defScope s_lay_out) [] [] (He.ga K "lay_out") fd
  fn_Program___init__ : (mg "Program" = some (.ref (He.ga K "Program")) ∧ Mk K (He.ga K "Program") (He.ma K (He.ga K "Program") "__init__")) ∧ ∃ fd, FunD K "__init__" "Program.__init__" (defArgs s_Program___init__) (defBody s_Program___init__) (defScope s_Program___init__) [] [] (He.ma K (He.ga K "Program") "__init__") fd
  fn__law_mixed : mg "_law_mixed" = some (.ref (He.ga K "_law_mixed")) ∧ ∃ fd, FunD K "_law_mixed" "_law_mixed" (defArgs s__law_mixed) (defBody s__law_mixed) (defScope s__law_mixed) [] [] (He.ga K "_law_mixed") fd
  fn__law_draw : mg "_law_draw" = some (.ref (He.ga K "_law_draw")) ∧ ∃ fd, FunD K "_law_draw" "_law_draw" (defArgs s__law_draw) (defBody s__law_draw) (defScope s__law_draw) [] [] (He.ga K "_law_draw") fd
  fn__law_bare_ways : mg "_law_bare_ways" = some (.ref (He.ga K "_law_bare_ways")) ∧ ∃ fd, FunD K "_law_bare_ways" "_law_bare_ways" (defArgs s__law_bare_ways) (defBody s__law_bare_ways) (defScope s__law_bare_ways) [] [] (He.ga K "_law_bare_ways") fd
  fn__law_open_end : mg "_law_open_end" = some (.ref (He.ga K "_law_open_end")) ∧ ∃ fd, FunD K "_law_open_end" "_law_open_end" (defArgs s__law_open_end) (defBody s__law_open_end) (defScope s__law_open_end) [] [] (He.ga K "_law_open_end") fd
  fn__law_list : mg "_law_list" = some (.ref (He.ga K "_law_list")) ∧ ∃ fd, FunD K "_law_list" "_law_list" (defArgs s__law_list) (defBody s__law_list) (defScope s__law_list) [] [] (He.ga K "_law_list") fd
  fn__law_pool : mg "_law_pool" = some (.ref (He.ga K "_law_pool")) ∧ ∃ fd, FunD K "_law_pool" "_law_pool" (defArgs s__law_pool) (defBody s__law_pool) (defScope s__law_pool) [] [] (He.ga K "_law_pool") fd
  fn__law_int : mg "_law_int" = some (.ref (He.ga K "_law_int")) ∧ ∃ fd, FunD K "_law_int" "_law_int" (defArgs s__law_int) (defBody s__law_int) (defScope s__law_int) [] [] (He.ga K "_law_int") fd
  fn__law_same : mg "_law_same" = some (.ref (He.ga K "_law_same")) ∧ ∃ fd, FunD K "_law_same" "_law_same" (defArgs s__law_same) (defBody s__law_same) (defScope s__law_same) [] [] (He.ga K "_law_same") fd
  fn__law_wild : mg "_law_wild" = some (.ref (He.ga K "_law_wild")) ∧ ∃ fd, FunD K "_law_wild" "_law_wild" (defArgs s__law_wild) (defBody s__law_wild) (defScope s__law_wild) [] [] (He.ga K "_law_wild") fd
  fn_law : mg "law" = some (.ref (He.ga K "law")) ∧ ∃ fd, FunD K "law" "law" (defArgs s_law) (defBody s_law) (defScope s_law) [] [] (He.ga K "law") fd
section
variable {P : Program} {w : World} {K : PySem.W.Frag} {mg : Str → Option Value} {base : Heap}
theorem hasX_BadProgram (T : Txt P w K mg) : HasX P w K mg base 1 "BadProgram" ["place", "why"] := by
  obtain ⟨gl, fd, S⟩ := T.su_BadProgram
  exact hasX_of (ps := ["self", "place", "why"]) gl S (fun _ _ _ _ _ _ _ us hl => match us, hl with | [_, _, _], _ => rfl) (fn_super2 (k := 0) (by intro env; rfl) T.pr S ⟨rfl, rfl, rfl, by decide +kernel, by decide +kernel, by decide +kernel, by decide +kernel, rfl, rfl⟩ rfl rfl T.no_BadProgram_place T.no_BadProgram_why)
theorem ok_Checker___init__ (T : Txt P w K mg) {f : Addr} {fd : FuncData} (Fd : FunD K "__init__" "Checker.__init__" (defArgs s_Checker___init__) (defBody s_Checker___init__) (defScope s_Checker___init__) [] [] f fd) : FnOk P w K mg base (L2.CX P w) 1 f fd ["self", "side", "sizes"] (spD K 3 d_Checker___init__) := by
  unfold d_Checker___init__
  exact fn_okX (k := 0) Fd sc_Checker___init__ (fun cdv A outer s H E hr tk po hW => by
    have nd := sc_Checker___init__.nd
    unfold p_Checker___init__
    exact jb_cons (js_fld T.fl_side (je_var (i := 1) rfl (.inl rfl)) (je_var (i := 0) rfl (.inl rfl)))
      (jb_cons (js_fld T.fl_sizes (je_var (i := 2) rfl (.inl rfl)) (je_var (i := 0) rfl (.inl rfl)))
      (jb_one (js_fld T.fl_place (je_int) (je_var (i := 0) rfl (.inl rfl))))))
theorem has_Checker___init__ (T : Txt P w K mg) : HasC P w K mg base "Checker" 2 1 [] d_Checker___init__ := by
  obtain ⟨⟨hm, M⟩, fd, Fd⟩ := T.fn_Checker___init__
  exact ⟨_, fd, ["self", "side", "sizes"], [], [], hm, M, ok_Checker___init__ T Fd, FunD.bindsN Fd (fun _ _ _ _ _ _ us hl => match us, hl with | [_, _, _], _ => rfl), .nil, fun _ => .nil, rfl⟩
theorem ok_Checker_is_local (T : Txt P w K mg) {f : Addr} {fd : FuncData} (Fd : FunD K "is_local" "Checker.is_local" (defArgs s_Checker_is_local) (defBody s_Checker_is_local) (defScope s_Checker_is_local) [] [] f fd) : FnOk P w K mg base (L2.CX P w) 1 f fd ["self", "name"] (spD K 2 d_Checker_is_local) := by
  unfold d_Checker_is_local
  exact fn_okX (k := 0) Fd sc_Checker_is_local (fun cdv A outer s H E hr tk po hW => by
    have nd := sc_Checker_is_local.nd
    unfold p_Checker_is_local
    exact jb_one (js_ret (je_and (je_isi (je_var (i := 1) rfl (.inl rfl)) (by rfl) T.free_isinstance (by rfl) T.free_str (by decide +kernel) (by decide +kernel)) (je_one (je_din (hu_of hr) (je_var (i := 1) rfl (.inl rfl)) (je_fld T.fl_sizes (je_var (i := 0) rfl (.inl rfl))))))))
theorem has_Checker_is_local (T : Txt P w K mg) : HasM P w K mg base "Checker" "is_local" 1 1 [] d_Checker_is_local := by
  obtain ⟨⟨hm, M⟩, fd, Fd⟩ := T.fn_Checker_is_local
  exact ⟨_, fd, ["self", "name"], [], [], hm, M, ok_Checker_is_local T Fd, FunD.bindsN Fd (fun _ _ _ _ _ _ us hl => match us, hl with | [_, _], _ => rfl), .nil, fun _ => .nil, rfl⟩
theorem ok_is_integer (T : Txt P w K mg) {f : Addr} {fd : FuncData} (Fd : FunD K "is_integer" "is_integer" (defArgs s_is_integer) (defBody s_is_integer) (defScope s_is_integer) [] [] f fd) : FnOk P w K mg base (L2.CX P w) 1 f fd ["thing"] (spD K 1 d_is_integer) := by
  unfold d_is_integer
  exact fn_okX (k := 0) Fd sc_is_integer (fun cdv A outer s H E hr tk po hW => by
    have nd := sc_is_integer.nd
    unfold p_is_integer
    exact jb_one (js_ret (je_and (je_isi (je_var (i := 0) rfl (.inl rfl)) (by rfl) T.free_isinstance (by rfl) T.free_int (by decide +kernel) (by decide +kernel)) (je_one (je_not (je_isi (je_var (i := 0) rfl (.inl rfl)) (by rfl) T.free_isinstance (by rfl) T.free_bool (by decide +kernel) (by decide +kernel)))))))
theorem has_is_integer (T : Txt P w K mg) : Has P w K mg base "is_integer" 1 1 [] d_is_integer := by
  obtain ⟨hm, fd, Fd⟩ := T.fn_is_integer
  exact has_of hm Fd (ok_is_integer T Fd) rfl (fun _ _ _ _ _ _ us hl => match us, hl with | [_], _ => rfl)
theorem ok_is_between (T : Txt P w K mg) {f : Addr} {fd : FuncData} (Fd : FunD K "is_between" "is_between" (defArgs s_is_between) (defBody s_is_between) (defScope s_is_between) [] [] f fd) : FnOk P w K mg base (L2.CX P w) 2 f fd ["thing", "low", "high"] (spD K 3 d_is_between) := by
  unfold d_is_between
  exact fn_okX (k := 1) Fd sc_is_between (fun cdv A outer s H E hr tk po hW => by
    have nd := sc_is_between.nd
    unfold p_is_between
    exact jb_one (js_ret (je_and (je_callH (has_is_integer T) hr tk (by rfl) (ja_cons (je_var (i := 0) rfl (.inl rfl)) (ja_nil))) (je_one (je_chain op_le od_le op_le od_le (je_var (i := 1) rfl (.inl rfl)) (je_var (i := 0) rfl (.inl rfl)) (je_var (i := 2) rfl (.inl rfl)))))))
theorem has_is_between (T : Txt P w K mg) : Has P w K mg base "is_between" 3 2 [] d_is_between := by
  obtain ⟨hm, fd, Fd⟩ := T.fn_is_between
  exact has_of hm Fd (ok_is_between T Fd) rfl (fun _ _ _ _ _ _ us hl => match us, hl with | [_, _, _], _ => rfl)
theorem ok_is_row (T : Txt P w K mg) {f : Addr} {fd : FuncData} (Fd : FunD K "is_row" "is_row" (defArgs s_is_row) (defBody s_is_row) (defScope s_is_row) [] [] f fd) : FnOk P w K mg base (L2.CX P w) 1 f fd ["thing"] (spD K 1 d_is_row) := by
  unfold d_is_row
  exact fn_okX (k := 0) Fd sc_is_row (fun cdv A outer s H E hr tk po hW => by
    have nd := sc_is_row.nd
    unfold p_is_row
    exact jb_one (js_ret (je_isi2 (je_var (i := 0) rfl (.inl rfl)) (by rfl) T.free_isinstance (by rfl) T.free_list (by decide +kernel) (by decide +kernel) (by rfl) T.free_tuple (by decide +kernel) (by decide +kernel))))
theorem has_is_row (T : Txt P w K mg) : Has P w K mg base "is_row" 1 1 [] d_is_row := by
  obtain ⟨hm, fd, Fd⟩ := T.fn_is_row
  exact has_of hm Fd (ok_is_row T Fd) rfl (fun _ _ _ _ _ _ us hl => match us, hl with | [_], _ => rfl)
theorem ok_is_word_row (T : Txt P w K mg) {f : Addr} {fd : FuncData} (Fd : FunD K "is_word_row" "is_word_row" (defArgs s_is_word_row) (defBody s_is_word_row) (defScope s_is_word_row) [] [] f fd) : FnOk P w K mg base (L2.CX P w) 2 f fd ["thing", "word", "length"] (spD K 3 d_is_word_row) := by
  unfold d_is_word_row
  exact fn_okX (k := 1) Fd sc_is_word_row (fun cdv A outer s H E hr tk po hW => by
    have nd := sc_is_word_row.nd
    unfold p_is_word_row
    exact jb_cons (js_if ((jw_or (jt_not (jt_val (je_callH (has_is_row T) hr tk (by rfl) (ja_cons (je_var (i := 0) rfl (.inl rfl)) (ja_nil))))) (jw_or1 (jt_cmp (op_neD hr.units) od_ne (je_callB cr_len cd_len (by rfl) T.free_len (by decide +kernel) (ja_cons (je_var (i := 0) rfl (.inl rfl)) (ja_nil))) (je_var (i := 2) rfl (.inl rfl)) (nomark _)))).t) (jb_one (js_ret (je_bl))) (jb_nil))
      (jb_one (js_ret (je_and (je_isi (je_ix (je_var (i := 0) rfl (.inl rfl)) (je_int)) (by rfl) T.free_isinstance (by rfl) T.free_str (by decide +kernel) (by decide +kernel)) (je_one (je_cmp (op_eqD hr.units) od_eq (je_ix (je_var (i := 0) rfl (.inl rfl)) (je_int)) (je_var (i := 1) rfl (.inl rfl)) (nomark _)))))))
theorem has_is_word_row (T : Txt P w K mg) : Has P w K mg base "is_word_row" 3 2 [] d_is_word_row := by
  obtain ⟨hm, fd, Fd⟩ := T.fn_is_word_row
  exact has_of hm Fd (ok_is_word_row T Fd) rfl (fun _ _ _ _ _ _ us hl => match us, hl with | [_, _, _], _ => rfl)
theorem ok_Checker_term_form (T : Txt P w K mg) {f : Addr} {fd : FuncData} (Fd : FunD K "term_form" "Checker.term_form" (defArgs s_Checker_term_form) (defBody s_Checker_term_form) (defScope s_Checker_term_form) [] [] f fd) : FnOk P w K mg base (L2.CX P w) 3 f fd ["self", "term"] (spD K 2 d_Checker_term_form) := by
  unfold d_Checker_term_form
  exact fn_okX (k := 2) Fd sc_Checker_term_form (fun cdv A outer s H E hr tk po hW => by
    have nd := sc_Checker_term_form.nd
    unfold p_Checker_term_form
    exact jb_cons (js_if ((jw_or (jt_val (je_callH (has_is_between T) hr tk (by rfl) (ja_cons (je_var (i := 1) rfl (.inl rfl)) (ja_cons (je_int) (ja_cons (je_int) (ja_nil)))))) (jw_or1 (jt_val (je_methH (has_Checker_is_local T) (hr.mono (by decide)) tk (je_var (i := 0) rfl (.inl rfl)) (ja_cons (je_var (i := 1) rfl (.inl rfl)) (ja_nil)))))).t) (jb_one (js_ret (je_var (i := 1) rfl (.inl rfl)))) (jb_nil))
      (jb_cons (js_if ((jw_and (jt_val (je_isi (je_var (i := 1) rfl (.inl rfl)) (by rfl) T.free_isinstance (by rfl) T.free_str (by decide +kernel) (by decide +kernel))) (jw_and (jt_cmp (op_eqD hr.units) od_eq (je_var (i := 1) rfl (.inl rfl)) (je_str (by decide +kernel)) (nomark _)) (jw_and1 (jt_cmp (op_eqD hr.units) od_eq (je_fld T.fl_side (je_var (i := 0) rfl (.inl rfl))) (je_str (by decide +kernel)) (nomark _))))).t) (jb_one (js_ret (je_var (i := 1) rfl (.inl rfl)))) (jb_nil))
      (jb_cons (js_if ((jw_and (jt_val (je_callH (has_is_word_row T) hr tk (by rfl) (ja_cons (je_var (i := 1) rfl (.inl rfl)) (ja_cons (je_str (by decide +kernel)) (ja_cons (je_int) (ja_nil)))))) (jw_and (jt_val (je_methH (has_Checker_is_local T) (hr.mono (by decide)) tk (je_var (i := 0) rfl (.inl rfl)) (ja_cons (je_ix (je_var (i := 1) rfl (.inl rfl)) (je_int)) (ja_nil)))) (jw_and1 (jt_val (je_callH (has_is_between T) hr tk (by rfl) (ja_cons (je_ix (je_var (i := 1) rfl (.inl rfl)) (je_int)) (ja_cons (je_int) (ja_cons (je_int) (ja_nil))))))))).t) (jb_one (js_ret (je_callTy call_tuple_of cd_tuple (by rfl) T.free_tuple (by decide +kernel) (ja_cons (je_var (i := 1) rfl (.inl rfl)) (ja_nil))))) (jb_nil))
      (jb_one (js_ret (je_non))))))
theorem has_Checker_term_form (T : Txt P w K mg) : HasM P w K mg base "Checker" "term_form" 1 3 [] d_Checker_term_form := by
  obtain ⟨⟨hm, M⟩, fd, Fd⟩ := T.fn_Checker_term_form
  exact ⟨_, fd, ["self", "term"], [], [], hm, M, ok_Checker_term_form T Fd, FunD.bindsN Fd (fun _ _ _ _ _ _ us hl => match us, hl with | [_, _], _ => rfl), .nil, fun _ => .nil, rfl⟩
theorem ok_is_name (T : Txt P w K mg) {f : Addr} {fd : FuncData} (Fd : FunD K "is_name" "is_name" (defArgs s_is_name) (defBody s_is_name) (defScope s_is_name) [] [] f fd) : FnOk P w K mg base (L2.CX P w) 1 f fd ["thing"] (spD K 1 d_is_name) := by
  unfold d_is_name
  exact fn_okX (k := 0) Fd sc_is_name (fun cdv A outer s H E hr tk po hW => by
    have nd := sc_is_name.nd
    unfold p_is_name
    exact jb_cons (js_if ((jw_or (jt_not (jt_val (je_isi (je_var (i := 0) rfl (.inl rfl)) (by rfl) T.free_isinstance (by rfl) T.free_str (by decide +kernel) (by decide +kernel)))) (jw_or1 (jt_not (jt_chain op_le od_le op_le od_le (je_int) (je_callB cr_len cd_len (by rfl) T.free_len (by decide +kernel) (ja_cons (je_var (i := 0) rfl (.inl rfl)) (ja_nil))) (je_int))))).t) (jb_one (js_ret (je_bl))) (jb_nil))
      (jb_cons (js_for po rfl (ji_str (je_var (i := 0) rfl (.inl rfl))) (jg_name (i := 1) nd rfl (Or.inl rfl)) (by unfold p_is_name_b0; exact jb_one (js_if (jt_cmp or_notin od_notin (je_var (i := 1) rfl (.inl rfl)) (je_const T.c_LETTERS (by rfl)) (by rfl)) (jb_one (js_ret (je_bl))) (jb_nil))))
      (jb_one (js_ret (je_bl)))))
theorem has_is_name (T : Txt P w K mg) : Has P w K mg base "is_name" 1 1 [] d_is_name := by
  obtain ⟨hm, fd, Fd⟩ := T.fn_is_name
  exact has_of hm Fd (ok_is_name T Fd) rfl (fun _ _ _ _ _ _ us hl => match us, hl with | [_], _ => rfl)
theorem ok_Checker_part_reason (T : Txt P w K mg) {f : Addr} {fd : FuncData} (Fd : FunD K "part_reason" "Checker.part_reason" (defArgs s_Checker_part_reason) (defBody s_Checker_part_reason) (defScope s_Checker_part_reason) [] [] f fd) : FnOk P w K mg base (L2.CX P w) 4 f fd ["self", "row", "depth"] (spD K 3 d_Checker_part_reason) := by
  unfold d_Checker_part_reason
  exact fn_okX (k := 3) Fd sc_Checker_part_reason (fun cdv A outer s H E hr tk po hW => by
    have nd := sc_Checker_part_reason.nd
    unfold p_Checker_part_reason
    exact jb_cons (js_asg (i := 3) nd rfl (Or.inl rfl) (je_ix (je_var (i := 1) rfl (.inl rfl)) (je_int)))
      (jb_cons (js_if ((jw_and (jt_cmp (op_eqD hr.units) od_eq (je_var (i := 3) rfl (.inl rfl)) (je_str (by decide +kernel)) (nomark _)) (jw_and1 (jt_cmp (op_eqD hr.units) od_eq (je_fld T.fl_side (je_var (i := 0) rfl (.inl rfl))) (je_str (by decide +kernel)) (nomark _)))).t) (jb_one (js_ret (je_str (by decide +kernel)))) (jb_nil))
      (jb_cons (js_if ((jw_and (jt_cmp or_in od_in (je_var (i := 3) rfl (.inl rfl)) (je_tup (ja_cons (je_str (by decide +kernel)) (ja_cons (je_str (by decide +kernel)) (ja_cons (je_str (by decide +kernel)) (ja_cons (je_str (by decide +kernel)) (ja_nil)))))) (by rfl)) (jw_and1 (jt_not (jt_val (je_methH (has_Checker_is_local T) (hr.mono (by decide)) tk (je_var (i := 0) rfl (.inl rfl)) (ja_cons (je_ix (je_var (i := 1) rfl (.inl rfl)) (je_int)) (ja_nil))))))).t) (jb_one (js_ret (je_str (by decide +kernel)))) (jb_nil))
      (jb_cons (js_if ((jw_or ((jw_and (jt_cmp (op_eqD hr.units) od_eq (je_var (i := 3) rfl (.inl rfl)) (je_str (by decide +kernel)) (nomark _)) (jw_and1 (jt_not (jt_val (je_callH (has_is_name T) (hr.mono (by decide)) tk (by rfl) (ja_cons (je_ix (je_var (i := 1) rfl (.inl rfl)) (je_int)) (ja_nil))))))).t) (jw_or1 ((jw_and (jt_cmp (op_eqD hr.units) od_eq (je_var (i := 3) rfl (.inl rfl)) (je_str (by decide +kernel)) (nomark _)) (jw_and1 (jt_not (jt_val (je_callH (has_is_name T) (hr.mono (by decide)) tk (by rfl) (ja_cons (je_ix (je_var (i := 1) rfl (.inl rfl)) (je_int)) (ja_nil))))))).t))).t) (jb_one (js_ret (je_str (by decide +kernel)))) (jb_nil))
      (jb_cons (js_if ((jw_and (jt_cmp (op_neD hr.units) od_ne (je_var (i := 3) rfl (.inl rfl)) (je_str (by decide +kernel)) (nomark _)) (jw_and1 (jt_cmp or_is od_is (je_methH (has_Checker_term_form T) hr tk (je_var (i := 0) rfl (.inl rfl)) (ja_cons (je_ix (je_var (i := 1) rfl (.inl rfl)) (je_if (jt_cmp (op_eqD hr.units) od_eq (je_var (i := 3) rfl (.inl rfl)) (je_str (by decide +kernel)) (nomark _)) (je_int) (je_int))) (ja_nil))) (je_non) (nomark _)))).t) (jb_one (js_ret (je_str (by decide +kernel)))) (jb_nil))
      (jb_cons (js_for po rfl (ji_seq (je_sl (je_var (i := 1) rfl (.inl rfl)) (jo_some (je_int)) (jo_none))) (jg_name (i := 4) nd rfl (Or.inl rfl)) (by unfold p_Checker_part_reason_b0; exact jb_one (js_if (jt_not (jt_val (je_callH (has_is_row T) (hr.mono (by decide)) tk (by rfl) (ja_cons (je_var (i := 4) rfl (.inl rfl)) (ja_nil))))) (jb_one (js_ret (je_str (by decide +kernel)))) (jb_nil))))
      (jb_cons (js_if ((jw_and (jt_cmp op_gt od_gt (je_callB cr_len cd_len (by rfl) T.free_len (by decide +kernel) (ja_cons (je_var (i := 1) rfl (.inl rfl)) (ja_nil))) (je_int) (nomark _)) (jw_and1 (jt_cmp (op_eqD hr.units) od_eq (je_var (i := 2) rfl (.inl rfl)) (je_const T.c_MOST_DEPTH (by rfl)) (nomark _)))).t) (jb_one (js_ret (je_str (by decide +kernel)))) (jb_nil))
      (jb_one (js_ret (je_non))))))))))
theorem has_Checker_part_reason (T : Txt P w K mg) : HasM P w K mg base "Checker" "part_reason" 2 4 [] d_Checker_part_reason := by
  obtain ⟨⟨hm, M⟩, fd, Fd⟩ := T.fn_Checker_part_reason
  exact ⟨_, fd, ["self", "row", "depth"], [], [], hm, M, ok_Checker_part_reason T Fd, FunD.bindsN Fd (fun _ _ _ _ _ _ us hl => match us, hl with | [_, _, _], _ => rfl), .nil, fun _ => .nil, rfl⟩
theorem okg_Checker_block_form (T : Txt P w K mg) : ∀ n : Nat, HasM P w K mg base "Checker" "block_form" 2 (4 + n) [] (d_Checker_block_form n) ∧ HasM P w K mg base "Checker" "statement_form" 2 (4 + n) [] (d_Checker_statement_form n)
  | 0 => ⟨by
      obtain ⟨⟨hm, M⟩, fd, Fd⟩ := T.fn_Checker_block_form
      exact ⟨_, fd, ["self", "block", "depth"], [], [], hm, M, (fn_stuck rfl), FunD.bindsN Fd (fun _ _ _ _ _ _ us hl => match us, hl with | [_, _, _], _ => rfl), .nil, fun _ => .nil, rfl⟩,
    by
      obtain ⟨⟨hm, M⟩, fd, Fd⟩ := T.fn_Checker_statement_form
      exact ⟨_, fd, ["self", "row", "depth"], [], [], hm, M, (fn_stuck rfl), FunD.bindsN Fd (fun _ _ _ _ _ _ us hl => match us, hl with | [_, _, _], _ => rfl), .nil, fun _ => .nil, rfl⟩⟩
  | n + 1 => by
    obtain ⟨H_Checker_block_form, H_Checker_statement_form⟩ := okg_Checker_block_form T n
    exact ⟨by
      obtain ⟨⟨hm, M⟩, fd, Fd⟩ := T.fn_Checker_block_form
      exact ⟨_, fd, ["self", "block", "depth"], [], [], hm, M, (by rw [d_Checker_block_form_s]; exact fn_okX (k := 4 + n) Fd sc_Checker_block_form (fun cdv A outer s H E hr tk po hW => by
      have nd := sc_Checker_block_form.nd
      unfold p_Checker_block_form
      exact jb_one (js_ret (je_callTy call_tuple_of cd_tuple (by rfl) T.free_tuple (by decide +kernel) (ja_cons (je_lc rfl nd (ji_seq (je_var (i := 1) rfl (.inl rfl))) (blkOk_by (own := [("row", 3)]) (N := N_Checker_block_form) (sc := defScope s_Checker_block_form) (by first | decide +kernel | rfl)) (own := [("row", 3)]) (gv := gName 3) (glc_name (by decide)) (fun s H C cl fp => pg_name (i := 3) nd rfl (Or.inl rfl)) (fun s H C cl fp => jts_nil) (fun s H C cl fp => je_methH (H_Checker_statement_form) (hr.mono (by omega)) takesWF (je_var (i := 0) rfl (.inr (.inl rfl))) (ja_cons (je_var (i := 3) rfl (.inl rfl)) (ja_cons (je_var (i := 2) rfl (.inr (.inl rfl))) (ja_nil))))) (ja_nil)))))), FunD.bindsN Fd (fun _ _ _ _ _ _ us hl => match us, hl with | [_, _, _], _ => rfl), .nil, fun _ => .nil, rfl⟩,
    by
      obtain ⟨⟨hm, M⟩, fd, Fd⟩ := T.fn_Checker_statement_form
      exact ⟨_, fd, ["self", "row", "depth"], [], [], hm, M, (by rw [d_Checker_statement_form_s]; exact fn_okX (k := 4 + n) Fd sc_Checker_statement_form (fun cdv A outer s H E hr tk po hW => by
      have nd := sc_Checker_statement_form.nd
      unfold p_Checker_statement_form
      exact jb_cons (js_asg (i := 3) nd rfl (Or.inl rfl) (je_fld T.fl_place (je_var (i := 0) rfl (.inl rfl))))
        (jb_cons (js_fldaug T.fl_place (je_var (i := 0) rfl (.inl rfl)) (je_int))
        (jb_cons (js_if (jt_cmp (op_eqD hr.units) od_eq (je_var (i := 3) rfl (.inl rfl)) (je_const T.c_MOST_STATEMENTS (by rfl)) (nomark _)) (jb_one (js_raise (hasX_BadProgram T) (hr.mono (by omega)) rfl tk (by rfl) (ja_cons (je_var (i := 3) rfl (.inl rfl)) (ja_cons (je_str (by decide +kernel)) (ja_nil))) (by decide))) (jb_nil))
        (jb_cons (js_if ((jw_or (jt_not (jt_val (je_callH (has_is_row T) (hr.mono (by omega)) tk (by rfl) (ja_cons (je_var (i := 1) rfl (.inl rfl)) (ja_nil))))) (jw_or (jt_cmp (op_eqD hr.units) od_eq (je_callB cr_len cd_len (by rfl) T.free_len (by decide +kernel) (ja_cons (je_var (i := 1) rfl (.inl rfl)) (ja_nil))) (je_int) (nomark _)) (jw_or1 (jt_not (jt_val (je_isi (je_ix (je_var (i := 1) rfl (.inl rfl)) (je_int)) (by rfl) T.free_isinstance (by rfl) T.free_str (by decide +kernel) (by decide +kernel))))))).t) (jb_one (js_raise (hasX_BadProgram T) (hr.mono (by omega)) rfl tk (by rfl) (ja_cons (je_var (i := 3) rfl (.inl rfl)) (ja_cons (je_str (by decide +kernel)) (ja_nil))) (by decide))) (jb_nil))
        (jb_cons (js_if ((jw_or (jt_notinK T.tab_LENGTHS (je_ix (je_var (i := 1) rfl (.inl rfl)) (je_int)) (by rfl)) (jw_or1 (jt_cmp (op_neD hr.units) od_ne (je_callB cr_len cd_len (by rfl) T.free_len (by decide +kernel) (ja_cons (je_var (i := 1) rfl (.inl rfl)) (ja_nil))) (je_getK T.tab_LENGTHS (je_ix (je_var (i := 1) rfl (.inl rfl)) (je_int)) (by rfl)) (nomark _)))).t) (jb_one (js_raise (hasX_BadProgram T) (hr.mono (by omega)) rfl tk (by rfl) (ja_cons (je_var (i := 3) rfl (.inl rfl)) (ja_cons (je_str (by decide +kernel)) (ja_nil))) (by decide))) (jb_nil))
        (jb_cons (js_asg (i := 4) nd rfl (Or.inl rfl) (je_methH (has_Checker_part_reason T) (hr.mono (by omega)) tk (je_var (i := 0) rfl (.inl rfl)) (ja_cons (je_var (i := 1) rfl (.inl rfl)) (ja_cons (je_var (i := 2) rfl (.inl rfl)) (ja_nil)))))
        (jb_cons (js_if (jt_cmp or_isnot od_isnot (je_var (i := 4) rfl (.inl rfl)) (je_non) (nomark _)) (jb_one (js_raise (hasX_BadProgram T) (hr.mono (by omega)) rfl tk (by rfl) (ja_cons (je_var (i := 3) rfl (.inl rfl)) (ja_cons (je_var (i := 4) rfl (.inl rfl)) (ja_nil))) (by decide))) (jb_nil))
        (jb_cons (js_if (jt_cmp (op_eqD hr.units) od_eq (je_ix (je_var (i := 1) rfl (.inl rfl)) (je_int)) (je_str (by decide +kernel)) (nomark _)) (jb_one (js_ret (je_tup (ja_cons (je_str (by decide +kernel)) (ja_cons (je_methH (has_Checker_term_form T) (hr.mono (by omega)) tk (je_var (i := 0) rfl (.inl rfl)) (ja_cons (je_ix (je_var (i := 1) rfl (.inl rfl)) (je_int)) (ja_nil))) (ja_nil)))))) (jb_nil))
        (jb_cons (js_if (jt_cmp (op_eqD hr.units) od_eq (je_ix (je_var (i := 1) rfl (.inl rfl)) (je_int)) (je_str (by decide +kernel)) (nomark _)) (jb_one (js_ret (je_callTy call_tuple_of cd_tuple (by rfl) T.free_tuple (by decide +kernel) (ja_cons (je_var (i := 1) rfl (.inl rfl)) (ja_nil))))) (jb_nil))
        (jb_cons (js_asg (i := 5) nd rfl (Or.inl rfl) (je_tup (ja_cons (je_ix (je_var (i := 1) rfl (.inl rfl)) (je_int)) (ja_cons (je_ix (je_var (i := 1) rfl (.inl rfl)) (je_int)) (ja_cons (je_methH (has_Checker_term_form T) (hr.mono (by omega)) tk (je_var (i := 0) rfl (.inl rfl)) (ja_cons (je_ix (je_var (i := 1) rfl (.inl rfl)) (je_int)) (ja_nil))) (ja_nil))))))
        (jb_cons (js_for po rfl (ji_seq (je_sl (je_var (i := 1) rfl (.inl rfl)) (jo_some (je_int)) (jo_none))) (jg_name (i := 6) nd rfl (Or.inl rfl)) (by unfold p_Checker_statement_form_b0; exact jb_one (js_asg (i := 5) nd rfl (Or.inl rfl) (je_op or_addD od_add (je_var (i := 5) rfl (.inl rfl)) (je_tup (ja_cons (je_methH (H_Checker_block_form) (hr.mono (by omega)) tk (je_var (i := 0) rfl (.inl rfl)) (ja_cons (je_var (i := 6) rfl (.inl rfl)) (ja_cons (je_op or_addD od_add (je_var (i := 2) rfl (.inl rfl)) (je_int)) (ja_nil)))) (ja_nil)))))))
        (jb_one (js_ret (je_var (i := 5) rfl (.inl rfl)))))))))))))))), FunD.bindsN Fd (fun _ _ _ _ _ _ us hl => match us, hl with | [_, _, _], _ => rfl), .nil, fun _ => .nil, rfl⟩⟩
theorem has_Checker_block_form (T : Txt P w K mg) : HasM P w K mg base "Checker" "block_form" 2 18 [] (d_Checker_block_form 14) := (okg_Checker_block_form T 14).1
theorem has_Checker_statement_form (T : Txt P w K mg) : HasM P w K mg base "Checker" "statement_form" 2 18 [] (d_Checker_statement_form 14) := (okg_Checker_block_form T 14).2
theorem ok_check_store (T : Txt P w K mg) {f : Addr} {fd : FuncData} (Fd : FunD K "check_store" "check_store" (defArgs s_check_store) (defBody s_check_store) (defScope s_check_store) [] [] f fd) : FnOk P w K mg base (L2.CX P w) 3 f fd ["store"] (spD K 1 d_check_store) := by
  unfold d_check_store
  exact fn_okX (k := 2) Fd sc_check_store (fun cdv A outer s H E hr tk po hW => by
    have nd := sc_check_store.nd
    unfold p_check_store
    exact jb_cons (js_if ((jw_or (jt_not (jt_val (je_isi (je_var (i := 0) rfl (.inl rfl)) (by rfl) T.free_isinstance (by rfl) T.free_dict (by decide +kernel) (by decide +kernel)))) (jw_or1 (jt_cmp op_gt od_gt (je_callB cr_lenD cd_lenD (by rfl) T.free_len (by decide +kernel) (ja_cons (je_var (i := 0) rfl (.inl rfl)) (ja_nil))) (je_const T.c_MOST_VARIABLES (by rfl)) (nomark _)))).t) (jb_one (js_raise (hasX_BadProgram T) hr rfl tk (by rfl) (ja_cons (je_un un_neg ud_neg (je_int)) (ja_cons (je_str (by decide +kernel)) (ja_nil))) (by decide))) (jb_nil))
      (jb_one (js_for po rfl (ji_items (je_var (i := 0) rfl (.inl rfl))) (jg_tup (n := 2) rfl (jgs_cons (jg_name (i := 1) nd rfl (Or.inl rfl)) (jgs_cons (jg_name (i := 2) nd rfl (Or.inl rfl)) (jgs_nil) (hW := hW)) (hW := hW)) (gs_len2)) (by unfold p_check_store_b0; exact jb_cons (js_if ((jw_or (jt_not (jt_val (je_callH (has_is_name T) (hr.mono (by decide)) tk (by rfl) (ja_cons (je_var (i := 1) rfl (.inl rfl)) (ja_nil))))) (jw_or (jt_cmp (op_eqD hr.units) od_eq (je_var (i := 1) rfl (.inl rfl)) (je_str (by decide +kernel)) (nomark _)) (jw_or (jt_not (jt_val (je_callH (has_is_row T) (hr.mono (by decide)) tk (by rfl) (ja_cons (je_var (i := 2) rfl (.inl rfl)) (ja_nil))))) (jw_or1 (jt_cmp (op_neD hr.units) od_ne (je_callB cr_len cd_len (by rfl) T.free_len (by decide +kernel) (ja_cons (je_var (i := 2) rfl (.inl rfl)) (ja_nil))) (je_int) (nomark _)))))).t) (jb_one (js_raise (hasX_BadProgram T) hr rfl tk (by rfl) (ja_cons (je_un un_neg ud_neg (je_int)) (ja_cons (je_str (by decide +kernel)) (ja_nil))) (by decide))) (jb_nil))       (jb_one (js_if ((jw_or (jt_not (jt_val (je_callH (has_is_between T) hr tk (by rfl) (ja_cons (je_ix (je_var (i := 2) rfl (.inl rfl)) (je_int)) (ja_cons (je_int) (ja_cons (je_int) (ja_nil))))))) (jw_or1 (jt_not (jt_val (je_callH (has_is_between T) hr tk (by rfl) (ja_cons (je_ix (je_var (i := 2) rfl (.inl rfl)) (je_int)) (ja_cons (je_int) (ja_cons (je_op op_sub od_sub (je_ix (je_var (i := 2) rfl (.inl rfl)) (je_int)) (je_int)) (ja_nil))))))))).t) (jb_one (js_raise (hasX_BadProgram T) hr rfl tk (by rfl) (ja_cons (je_un un_neg ud_neg (je_int)) (ja_cons (je_str (by decide +kernel)) (ja_nil))) (by decide))) (jb_nil)))))))
theorem has_check_store (T : Txt P w K mg) : Has P w K mg base "check_store" 1 3 [] d_check_store := by
  obtain ⟨hm, fd, Fd⟩ := T.fn_check_store
  exact has_of hm Fd (ok_check_store T Fd) rfl (fun _ _ _ _ _ _ us hl => match us, hl with | [_], _ => rfl)
theorem okg_has_bare_way (T : Txt P w K mg) : ∀ n : Nat, Has P w K mg base "has_bare_way" 1 (0 + n) [] (d_has_bare_way n)
  | 0 => (by
      obtain ⟨hm, fd, Fd⟩ := T.fn_has_bare_way
      exact has_of (ps := ["block"]) hm Fd (fn_stuck rfl) rfl (fun _ _ _ _ _ _ us hl => match us, hl with | [_], _ => rfl))
  | n + 1 => by
    have H_has_bare_way := okg_has_bare_way T n
    exact (by
      obtain ⟨hm, fd, Fd⟩ := T.fn_has_bare_way
      exact has_of (ps := ["block"]) hm Fd (by rw [d_has_bare_way_s]; exact fn_okX (k := 0 + n) Fd sc_has_bare_way (fun cdv A outer s H E hr tk po hW => by
      have nd := sc_has_bare_way.nd
      unfold p_has_bare_way
      exact jb_cons (js_for po rfl (ji_seq (je_var (i := 0) rfl (.inl rfl))) (jg_name (i := 1) nd rfl (Or.inl rfl)) (by unfold p_has_bare_way_b0; exact jb_cons (js_if (jt_cmp or_in od_in (je_ix (je_var (i := 1) rfl (.inl rfl)) (je_int)) (je_tup (ja_cons (je_str (by decide +kernel)) (ja_cons (je_str (by decide +kernel)) (ja_cons (je_str (by decide +kernel)) (ja_nil))))) (by rfl)) (jb_one (js_ret (je_bl))) (jb_nil))       (jb_one (js_if ((jw_and (jt_cmp (op_eqD hr.units) od_eq (je_ix (je_var (i := 1) rfl (.inl rfl)) (je_int)) (je_str (by decide +kernel)) (nomark _)) (jw_and (jt_not (jt_val (je_callH (H_has_bare_way) (hr.mono (by omega)) tk (by rfl) (ja_cons (je_ix (je_var (i := 1) rfl (.inl rfl)) (je_int)) (ja_nil))))) (jw_and1 (jt_not (jt_val (je_callH (H_has_bare_way) (hr.mono (by omega)) tk (by rfl) (ja_cons (je_ix (je_var (i := 1) rfl (.inl rfl)) (je_int)) (ja_nil)))))))).t) (jb_one (js_ret (je_bl))) (jb_nil)))))
        (jb_one (js_ret (je_bl))))) rfl (fun _ _ _ _ _ _ us hl => match us, hl with | [_], _ => rfl))
theorem has_has_bare_way (T : Txt P w K mg) : Has P w K mg base "has_bare_way" 1 7 [] (d_has_bare_way 7) := (okg_has_bare_way T 7)
theorem okg_block_ends (T : Txt P w K mg) : ∀ n : Nat, Has P w K mg base "block_ends" 1 (0 + n) [] (d_block_ends n) ∧ Has P w K mg base "statement_ends" 1 (0 + n) [] (d_statement_ends n)
  | 0 => ⟨by
      obtain ⟨hm, fd, Fd⟩ := T.fn_block_ends
      exact has_of (ps := ["block"]) hm Fd (fn_stuck rfl) rfl (fun _ _ _ _ _ _ us hl => match us, hl with | [_], _ => rfl),
    by
      obtain ⟨hm, fd, Fd⟩ := T.fn_statement_ends
      exact has_of (ps := ["statement"]) hm Fd (fn_stuck rfl) rfl (fun _ _ _ _ _ _ us hl => match us, hl with | [_], _ => rfl)⟩
  | n + 1 => by
    obtain ⟨H_block_ends, H_statement_ends⟩ := okg_block_ends T n
    exact ⟨by
      obtain ⟨hm, fd, Fd⟩ := T.fn_block_ends
      exact has_of (ps := ["block"]) hm Fd (by rw [d_block_ends_s]; exact fn_okX (k := 0 + n) Fd sc_block_ends (fun cdv A outer s H E hr tk po hW => by
      have nd := sc_block_ends.nd
      unfold p_block_ends
      exact jb_one (js_ret (je_and (je_cmp op_gt od_gt (je_callB cr_len cd_len (by rfl) T.free_len (by decide +kernel) (ja_cons (je_var (i := 0) rfl (.inl rfl)) (ja_nil))) (je_int) (nomark _)) (je_one (je_callH (H_statement_ends) (hr.mono (by omega)) tk (by rfl) (ja_cons (je_ix (je_var (i := 0) rfl (.inl rfl)) (je_un un_neg ud_neg (je_int))) (ja_nil)))))))) rfl (fun _ _ _ _ _ _ us hl => match us, hl with | [_], _ => rfl),
    by
      obtain ⟨hm, fd, Fd⟩ := T.fn_statement_ends
      exact has_of (ps := ["statement"]) hm Fd (by rw [d_statement_ends_s]; exact fn_okX (k := 0 + n) Fd sc_statement_ends (fun cdv A outer s H E hr tk po hW => by
      have nd := sc_statement_ends.nd
      unfold p_statement_ends
      exact jb_cons (js_if (jt_cmp (op_eqD hr.units) od_eq (je_ix (je_var (i := 0) rfl (.inl rfl)) (je_int)) (je_str (by decide +kernel)) (nomark _)) (jb_one (js_ret (je_and (je_callH (H_block_ends) (hr.mono (by omega)) tk (by rfl) (ja_cons (je_ix (je_var (i := 0) rfl (.inl rfl)) (je_int)) (ja_nil))) (je_one (je_callH (H_block_ends) (hr.mono (by omega)) tk (by rfl) (ja_cons (je_ix (je_var (i := 0) rfl (.inl rfl)) (je_int)) (ja_nil))))))) (jb_nil))
        (jb_one (js_ret (je_cmp (op_eqD hr.units) od_eq (je_ix (je_var (i := 0) rfl (.inl rfl)) (je_int)) (je_str (by decide +kernel)) (nomark _)))))) rfl (fun _ _ _ _ _ _ us hl => match us, hl with | [_], _ => rfl)⟩
theorem has_block_ends (T : Txt P w K mg) : Has P w K mg base "block_ends" 1 14 [] (d_block_ends 14) := (okg_block_ends T 14).1
theorem has_statement_ends (T : Txt P w K mg) : Has P w K mg base "statement_ends" 1 14 [] (d_statement_ends 14) := (okg_block_ends T 14).2
theorem okg_first_flaw (T : Txt P w K mg) : ∀ n : Nat, Has P w K mg base "first_flaw" 2 (14 + n) [] (d_first_flaw n)
  | 0 => (by
      obtain ⟨hm, fd, Fd⟩ := T.fn_first_flaw
      exact has_of (ps := ["block", "place"]) hm Fd (fn_stuck rfl) rfl (fun _ _ _ _ _ _ us hl => match us, hl with | [_, _], _ => rfl))
  | n + 1 => by
    have H_first_flaw := okg_first_flaw T n
    exact (by
      obtain ⟨hm, fd, Fd⟩ := T.fn_first_flaw
      exact has_of (ps := ["block", "place"]) hm Fd (by rw [d_first_flaw_s]; exact fn_okX (k := 14 + n) Fd sc_first_flaw (fun cdv A outer s H E hr tk po hW => by
      have nd := sc_first_flaw.nd
      unfold p_first_flaw
      exact jb_cons (js_asg (i := 2) nd rfl (Or.inl rfl) (je_bl))
        (jb_cons (js_for po rfl (ji_seq (je_var (i := 0) rfl (.inl rfl))) (jg_name (i := 3) nd rfl (Or.inl rfl)) (by unfold p_first_flaw_b1; exact jb_cons (js_asg (i := 4) nd rfl (Or.inl rfl) (je_var (i := 1) rfl (.inl rfl)))       (jb_cons (js_aug (i := 1) nd rfl (Or.inl rfl) (je_int))       (jb_cons (js_if (jt_val (je_var (i := 2) rfl (.inl rfl))) (jb_one (js_ret (je_tup (ja_cons (je_var (i := 1) rfl (.inl rfl)) (ja_cons (je_tup (ja_cons (je_var (i := 4) rfl (.inl rfl)) (ja_cons (je_str (by decide +kernel)) (ja_nil)))) (ja_nil)))))) (jb_nil))       (jb_cons (js_if ((jw_and (jt_cmp (op_eqD hr.units) od_eq (je_ix (je_var (i := 3) rfl (.inl rfl)) (je_int)) (je_str (by decide +kernel)) (nomark _)) (jw_and1 (jt_val (je_callH (has_has_bare_way T) (hr.mono (by omega)) tk (by rfl) (ja_cons (je_ix (je_var (i := 3) rfl (.inl rfl)) (je_int)) (ja_nil)))))).t) (jb_one (js_ret (je_tup (ja_cons (je_var (i := 1) rfl (.inl rfl)) (ja_cons (je_tup (ja_cons (je_var (i := 4) rfl (.inl rfl)) (ja_cons (je_str (by decide +kernel)) (ja_nil)))) (ja_nil)))))) (jb_nil))       (jb_cons (js_for po rfl (ji_seq (je_sl (je_var (i := 3) rfl (.inl rfl)) (jo_some (je_int)) (jo_none))) (jg_name (i := 5) nd rfl (Or.inl rfl)) (by unfold p_first_flaw_b0; exact jb_cons (js_asgG (je_callH (H_first_flaw) (hr.mono (by omega)) tk (by rfl) (ja_cons (je_var (i := 5) rfl (.inl rfl)) (ja_cons (je_var (i := 1) rfl (.inl rfl)) (ja_nil)))) (jg_tup (n := 2) rfl (jgs_cons (jg_name (i := 1) nd rfl (Or.inl rfl)) (jgs_cons (jg_name (i := 6) nd rfl (Or.inl rfl)) (jgs_nil) (hW := hW)) (hW := hW)) (gs_len2)))       (jb_one (js_if (jt_cmp or_isnot od_isnot (je_var (i := 6) rfl (.inl rfl)) (je_non) (nomark _)) (jb_one (js_ret (je_tup (ja_cons (je_var (i := 1) rfl (.inl rfl)) (ja_cons (je_var (i := 6) rfl (.inl rfl)) (ja_nil)))))) (jb_nil)))))       (jb_one (js_asg (i := 2) nd rfl (Or.inl rfl) (je_callH (has_statement_ends T) (hr.mono (by omega)) tk (by rfl) (ja_cons (je_var (i := 3) rfl (.inl rfl)) (ja_nil)))))))))))
        (jb_one (js_ret (je_tup (ja_cons (je_var (i := 1) rfl (.inl rfl)) (ja_cons (je_non) (ja_nil))))))))) rfl (fun _ _ _ _ _ _ us hl => match us, hl with | [_, _], _ => rfl))
theorem has_first_flaw (T : Txt P w K mg) : Has P w K mg base "first_flaw" 2 21 [] (d_first_flaw 7) := (okg_first_flaw T 7)
theorem ok_is_side (T : Txt P w K mg) {f : Addr} {fd : FuncData} (Fd : FunD K "is_side" "is_side" (defArgs s_is_side) (defBody s_is_side) (defScope s_is_side) [] [] f fd) : FnOk P w K mg base (L2.CX P w) 1 f fd ["thing"] (spD K 1 d_is_side) := by
  unfold d_is_side
  exact fn_okX (k := 0) Fd sc_is_side (fun cdv A outer s H E hr tk po hW => by
    have nd := sc_is_side.nd
    unfold p_is_side
    exact jb_one (js_ret (je_and (je_isi (je_var (i := 0) rfl (.inl rfl)) (by rfl) T.free_isinstance (by rfl) T.free_str (by decide +kernel) (by decide +kernel)) (je_one (je_cmp or_in od_in (je_var (i := 0) rfl (.inl rfl)) (je_tup (ja_cons (je_str (by decide +kernel)) (ja_cons (je_str (by decide +kernel)) (ja_nil)))) (by rfl))))))
theorem has_is_side (T : Txt P w K mg) : Has P w K mg base "is_side" 1 1 [] d_is_side := by
  obtain ⟨hm, fd, Fd⟩ := T.fn_is_side
  exact has_of hm Fd (ok_is_side T Fd) rfl (fun _ _ _ _ _ _ us hl => match us, hl with | [_], _ => rfl)
theorem okg_width (T : Txt P w K mg) : ∀ n : Nat, Has P w K mg base "width" 1 (0 + n) [] (d_width n)
  | 0 => (by
      obtain ⟨hm, fd, Fd⟩ := T.fn_width
      exact has_of (ps := ["block"]) hm Fd (fn_stuck rfl) rfl (fun _ _ _ _ _ _ us hl => match us, hl with | [_], _ => rfl))
  | n + 1 => by
    have H_width := okg_width T n
    exact (by
      obtain ⟨hm, fd, Fd⟩ := T.fn_width
      exact has_of (ps := ["block"]) hm Fd (by rw [d_width_s]; exact fn_okX (k := 0 + n) Fd sc_width (fun cdv A outer s H E hr tk po hW => by
      have nd := sc_width.nd
      unfold p_width
      exact jb_one (js_ret (je_callB (cr_sum rfl) cd_sum (by rfl) T.free_sum (by decide +kernel) (ja_cons (je_lc rfl nd (ji_seq (je_var (i := 0) rfl (.inl rfl))) (blkOk_by (own := [("statement", 1)]) (N := N_width) (sc := defScope s_width) (by first | decide +kernel | rfl)) (own := [("statement", 1)]) (gv := gName 1) (glc_name (by decide)) (fun s H C cl fp => pg_name (i := 1) nd rfl (Or.inl rfl)) (fun s H C cl fp => jts_nil) (fun s H C cl fp => je_op or_addD od_add (je_int) (je_callB (cr_sum rfl) cd_sum (by rfl) T.free_sum (by decide +kernel) (ja_cons (je_lc rfl nd (ji_seq (je_sl (je_var (i := 1) rfl (.inl rfl)) (jo_some (je_int)) (jo_none))) (blkOk_by (own := [("inner", 2)]) (N := N_width) (sc := _) (by first | decide +kernel | rfl)) (own := [("inner", 2)]) (gv := gName 2) (glc_name (by decide)) (fun s H C cl fp => pg_name (i := 2) nd rfl (Or.inl rfl)) (fun s H C cl fp => jts_nil) (fun s H C cl fp => je_callH (H_width) (hr.mono (by omega)) takesWF (by rfl) (ja_cons (je_var (i := 2) rfl (.inl rfl)) (ja_nil)))) (ja_nil))))) (ja_nil)))))) rfl (fun _ _ _ _ _ _ us hl => match us, hl with | [_], _ => rfl))
theorem has_width (T : Txt P w K mg) : Has P w K mg base "width" 1 7 [] (d_width 7) := (okg_width T 7)
theorem okg_lay_out (T : Txt P w K mg) : ∀ n : Nat, Has P w K mg base "lay_out" 4 (7 + n) [] (d_lay_out n)
  | 0 => (by
      obtain ⟨hm, fd, Fd⟩ := T.fn_lay_out
      exact has_of (ps := ["block", "place", "behind", "code"]) hm Fd (fn_stuck rfl) rfl (fun _ _ _ _ _ _ us hl => match us, hl with | [_, _, _, _], _ => rfl))
  | n + 1 => by
    have H_lay_out := okg_lay_out T n
    exact (by
      obtain ⟨hm, fd, Fd⟩ := T.fn_lay_out
      exact has_of (ps := ["block", "place", "behind", "code"]) hm Fd (by rw [d_lay_out_s]; exact fn_okX (k := 7 + n) Fd sc_lay_out (fun cdv A outer s H E hr tk po hW => by
      have nd := sc_lay_out.nd
      unfold p_lay_out
      exact jb_one (js_for po rfl (ji_enumS (by rfl) T.free_enumerate (ja_cons (je_var (i := 0) rfl (.inl rfl)) (ja_nil))) (jg_tup (n := 2) rfl (jgs_cons (jg_name (i := 4) nd rfl (Or.inl rfl)) (jgs_cons (jg_name (i := 5) nd rfl (Or.inl rfl)) (jgs_nil) (hW := hW)) (hW := hW)) (gs_len2)) (by unfold p_lay_out_b0; exact jb_cons (js_asg (i := 6) nd rfl (Or.inl rfl) (je_op or_addD od_add (je_op or_addD od_add (je_var (i := 1) rfl (.inl rfl)) (je_int)) (je_callB (cr_sum rfl) cd_sum (by rfl) T.free_sum (by decide +kernel) (ja_cons (je_lc rfl nd (ji_seq (je_sl (je_var (i := 5) rfl (.inl rfl)) (jo_some (je_int)) (jo_none))) (blkOk_by (own := [("inner", 11)]) (N := N_lay_out) (sc := defScope s_lay_out) (by first | decide +kernel | rfl)) (own := [("inner", 11)]) (gv := gName 11) (glc_name (by decide)) (fun s H C cl fp => pg_name (i := 11) nd rfl (Or.inl rfl)) (fun s H C cl fp => jts_nil) (fun s H C cl fp => je_callH (has_width T) (hr.mono (by omega)) takesWF (by rfl) (ja_cons (je_var (i := 11) rfl (.inl rfl)) (ja_nil)))) (ja_nil)))))       (jb_cons (js_asg (i := 7) nd rfl (Or.inl rfl) (je_if (jt_cmp op_lt od_lt (je_op or_addD od_add (je_var (i := 4) rfl (.inl rfl)) (je_int)) (je_callB cr_len cd_len (by rfl) T.free_len (by decide +kernel) (ja_cons (je_var (i := 0) rfl (.inl rfl)) (ja_nil))) (nomark _)) (je_var (i := 6) rfl (.inl rfl)) (je_var (i := 2) rfl (.inl rfl))))       (jb_cons (js_if (jt_cmp (op_eqD hr.units) od_eq (je_ix (je_var (i := 5) rfl (.inl rfl)) (je_int)) (je_str (by decide +kernel)) (nomark _)) (jb_cons (js_asg (i := 8) nd rfl (Or.inl rfl) (je_op or_addD od_add (je_op or_addD od_add (je_var (i := 1) rfl (.inl rfl)) (je_int)) (je_callH (has_width T) (hr.mono (by omega)) tk (by rfl) (ja_cons (je_ix (je_var (i := 5) rfl (.inl rfl)) (je_int)) (ja_nil)))))       (jb_cons (js_asg (i := 9) nd rfl (Or.inl rfl) (je_if (jt_cmp op_gt od_gt (je_callB cr_len cd_len (by rfl) T.free_len (by decide +kernel) (ja_cons (je_ix (je_var (i := 5) rfl (.inl rfl)) (je_int)) (ja_nil))) (je_int) (nomark _)) (je_op or_addD od_add (je_var (i := 1) rfl (.inl rfl)) (je_int)) (je_var (i := 7) rfl (.inl rfl))))       (jb_cons (js_asg (i := 10) nd rfl (Or.inl rfl) (je_if (jt_cmp op_gt od_gt (je_callB cr_len cd_len (by rfl) T.free_len (by decide +kernel) (ja_cons (je_ix (je_var (i := 5) rfl (.inl rfl)) (je_int)) (ja_nil))) (je_int) (nomark _)) (je_var (i := 8) rfl (.inl rfl)) (je_var (i := 7) rfl (.inl rfl))))       (jb_cons (js_expr (je_append (je_var (i := 3) rfl (.inl rfl)) (je_op or_addD od_add (je_sl (je_var (i := 5) rfl (.inl rfl)) (jo_none) (jo_some (je_int))) (je_tup (ja_cons (je_var (i := 9) rfl (.inl rfl)) (ja_cons (je_var (i := 10) rfl (.inl rfl)) (ja_nil)))))))       (jb_cons (js_expr (je_callH (H_lay_out) (hr.mono (by omega)) tk (by rfl) (ja_cons (je_ix (je_var (i := 5) rfl (.inl rfl)) (je_int)) (ja_cons (je_op or_addD od_add (je_var (i := 1) rfl (.inl rfl)) (je_int)) (ja_cons (je_var (i := 7) rfl (.inl rfl)) (ja_cons (je_var (i := 3) rfl (.inl rfl)) (ja_nil)))))))       (jb_one (js_expr (je_callH (H_lay_out) (hr.mono (by omega)) tk (by rfl) (ja_cons (je_ix (je_var (i := 5) rfl (.inl rfl)) (je_int)) (ja_cons (je_var (i := 8) rfl (.inl rfl)) (ja_cons (je_var (i := 7) rfl (.inl rfl)) (ja_cons (je_var (i := 3) rfl (.inl rfl)) (ja_nil))))))))))))) (jb_one (js_if (jt_cmp (op_eqD hr.units) od_eq (je_ix (je_var (i := 5) rfl (.inl rfl)) (je_int)) (je_str (by decide +kernel)) (nomark _)) (jb_cons (js_expr (je_append (je_var (i := 3) rfl (.inl rfl)) (je_op or_addD od_add (je_sl (je_var (i := 5) rfl (.inl rfl)) (jo_none) (jo_some (je_int))) (je_tup (ja_cons (je_op or_addD od_add (je_var (i := 1) rfl (.inl rfl)) (je_int)) (ja_cons (je_var (i := 7) rfl (.inl rfl)) (ja_nil)))))))       (jb_one (js_expr (je_callH (H_lay_out) (hr.mono (by omega)) tk (by rfl) (ja_cons (je_ix (je_var (i := 5) rfl (.inl rfl)) (je_int)) (ja_cons (je_op or_addD od_add (je_var (i := 1) rfl (.inl rfl)) (je_int)) (ja_cons (je_var (i := 1) rfl (.inl rfl)) (ja_cons (je_var (i := 3) rfl (.inl rfl)) (ja_nil))))))))) (jb_one (js_if (jt_cmp (op_eqD hr.units) od_eq (je_ix (je_var (i := 5) rfl (.inl rfl)) (je_int)) (je_str (by decide +kernel)) (nomark _)) (jb_one (js_expr (je_append (je_var (i := 3) rfl (.inl rfl)) (je_tup (ja_cons (je_str (by decide +kernel)) (ja_cons (je_str (by decide +kernel)) (ja_cons (je_ix (je_var (i := 5) rfl (.inl rfl)) (je_int)) (ja_cons (je_un un_neg ud_neg (je_int)) (ja_cons (je_un un_neg ud_neg (je_int)) (ja_nil)))))))))) (jb_one (js_expr (je_append (je_var (i := 3) rfl (.inl rfl)) (je_op or_addD od_add (je_var (i := 5) rfl (.inl rfl)) (je_tup (ja_cons (je_var (i := 7) rfl (.inl rfl)) (ja_cons (je_var (i := 7) rfl (.inl rfl)) (ja_nil)))))))))))))       (jb_one (js_asg (i := 1) nd rfl (Or.inl rfl) (je_var (i := 6) rfl (.inl rfl)))))))))) rfl (fun _ _ _ _ _ _ us hl => match us, hl with | [_, _, _, _], _ => rfl))
theorem has_lay_out (T : Txt P w K mg) : Has P w K mg base "lay_out" 4 14 [] (d_lay_out 7) := (okg_lay_out T 7)
theorem ok_Program___init__ (T : Txt P w K mg) {f : Addr} {fd : FuncData} (Fd : FunD K "__init__" "Program.__init__" (defArgs s_Program___init__) (defBody s_Program___init__) (defScope s_Program___init__) [] [] f fd) : FnOk P w K mg base (L2.CX P w) 22 f fd ["self", "side", "store", "block"] (spD K 4 d_Program___init__) := by
  unfold d_Program___init__
  exact fn_okX (k := 21) Fd sc_Program___init__ (fun cdv A outer s H E hr tk po hW => by
    have nd := sc_Program___init__.nd
    unfold p_Program___init__
    exact jb_cons (js_if (jt_not (jt_val (je_callH (has_is_side T) (hr.mono (by decide)) tk (by rfl) (ja_cons (je_var (i := 1) rfl (.inl rfl)) (ja_nil))))) (jb_one (js_raise (hasX_BadProgram T) (hr.mono (by decide)) rfl tk (by rfl) (ja_cons (je_un un_neg ud_neg (je_int)) (ja_cons (je_str (by decide +kernel)) (ja_nil))) (by decide))) (jb_nil))
      (jb_cons (js_expr (je_callH (has_check_store T) (hr.mono (by decide)) tk (by rfl) (ja_cons (je_var (i := 2) rfl (.inr (.inl rfl))) (ja_nil))))
      (jb_cons (js_if (jt_not (jt_val (je_callH (has_is_row T) (hr.mono (by decide)) tk (by rfl) (ja_cons (je_var (i := 3) rfl (.inl rfl)) (ja_nil))))) (jb_one (js_raise (hasX_BadProgram T) (hr.mono (by decide)) rfl tk (by rfl) (ja_cons (je_un un_neg ud_neg (je_int)) (ja_cons (je_str (by decide +kernel)) (ja_nil))) (by decide))) (jb_nil))
      (jb_cons (js_fld T.fl_side (je_var (i := 1) rfl (.inl rfl)) (je_var (i := 0) rfl (.inl rfl)))
      (jb_cons (js_fld T.fl_names (je_callB (call_sortedD rfl) cd_sortedD (by rfl) T.free_sorted (by decide +kernel) (ja_cons (je_var (i := 2) rfl (.inr (.inl rfl))) (ja_nil))) (je_var (i := 0) rfl (.inl rfl)))
      (jb_cons (js_fld T.fl_sizes (je_lc rfl nd (ji_seq (je_fld T.fl_names (je_var (i := 0) rfl (.inl rfl)))) (blkOk_by (own := [("name", 5)]) (N := N_Program___init__) (sc := defScope s_Program___init__) (by first | decide +kernel | rfl)) (own := [("name", 5)]) (gv := gName 5) (glc_name (by decide)) (fun s H C cl fp => pg_name (i := 5) nd rfl (Or.inl rfl)) (fun s H C cl fp => jts_nil) (fun s H C cl fp => je_ix (je_dget (hu_of hr) (je_var (i := 2) rfl (.inr (.inl rfl))) (je_var (i := 5) rfl (.inl rfl))) (je_int))) (je_var (i := 0) rfl (.inl rfl)))
      (jb_cons (js_fld T.fl_store (je_callTy call_tuple_of cd_tuple (by rfl) T.free_tuple (by decide +kernel) (ja_cons (je_lc rfl nd (ji_seq (je_fld T.fl_names (je_var (i := 0) rfl (.inl rfl)))) (blkOk_by (own := [("name", 5)]) (N := N_Program___init__) (sc := defScope s_Program___init__) (by first | decide +kernel | rfl)) (own := [("name", 5)]) (gv := gName 5) (glc_name (by decide)) (fun s H C cl fp => pg_name (i := 5) nd rfl (Or.inl rfl)) (fun s H C cl fp => jts_nil) (fun s H C cl fp => je_tup (ja_cons (je_var (i := 5) rfl (.inl rfl)) (ja_cons (je_ix (je_dget (hu_of hr) (je_var (i := 2) rfl (.inr (.inl rfl))) (je_var (i := 5) rfl (.inl rfl))) (je_int)) (ja_cons (je_ix (je_dget (hu_of hr) (je_var (i := 2) rfl (.inr (.inl rfl))) (je_var (i := 5) rfl (.inl rfl))) (je_int)) (ja_nil)))))) (ja_nil))) (je_var (i := 0) rfl (.inl rfl)))
      (jb_cons (js_fld T.fl_block (je_methH (has_Checker_block_form T) (hr.mono (by decide)) tk (je_makeH (has_Checker___init__ T) (hr.mono (by decide)) tk (by rfl) (ja_cons (je_var (i := 1) rfl (.inl rfl)) (ja_cons (je_callTy call_dictD cd_dict (by rfl) T.free_dict (by decide +kernel) (ja_cons (je_var (i := 2) rfl (.inr (.inl rfl))) (ja_nil))) (ja_nil)))) (ja_cons (je_var (i := 3) rfl (.inl rfl)) (ja_cons (je_int) (ja_nil)))) (je_var (i := 0) rfl (.inl rfl)))
      (jb_cons (js_asgG (je_callH (has_first_flaw T) hr tk (by rfl) (ja_cons (je_fld T.fl_block (je_var (i := 0) rfl (.inl rfl))) (ja_cons (je_int) (ja_nil)))) (jg_tupn (n := 2) rfl (jgs_cons (jg_fld T.fl_count (je_var (i := 0) rfl (.inl rfl))) (jgs_cons (jg_name (i := 4) nd rfl (Or.inl rfl)) (jgs_nil) (hW := hW)) (hW := hW))))
      (jb_cons (js_if (jt_cmp or_isnot od_isnot (je_var (i := 4) rfl (.inl rfl)) (je_non) (nomark _)) (jb_one (js_raise (hasX_BadProgram T) (hr.mono (by decide)) rfl tk (by rfl) (ja_cons (je_ix (je_var (i := 4) rfl (.inl rfl)) (je_int)) (ja_cons (je_ix (je_var (i := 4) rfl (.inl rfl)) (je_int)) (ja_nil))) (by decide))) (jb_nil))
      (jb_cons (js_fld T.fl_code (je_lstM (ja_nil)) (je_var (i := 0) rfl (.inl rfl)))
      (jb_cons (js_expr (je_callH (has_lay_out T) (hr.mono (by decide)) tk (by rfl) (ja_cons (je_fld T.fl_block (je_var (i := 0) rfl (.inl rfl))) (ja_cons (je_int) (ja_cons (je_un un_neg ud_neg (je_int)) (ja_cons (je_fld T.fl_code (je_var (i := 0) rfl (.inl rfl))) (ja_nil)))))))
      (jb_frzF (i := 0) (f := "code") (jb_nil))))))))))))))
theorem has_Program___init__ (T : Txt P w K mg) : HasC P w K mg base "Program" 3 22 [] d_Program___init__ := by
  obtain ⟨⟨hm, M⟩, fd, Fd⟩ := T.fn_Program___init__
  exact ⟨_, fd, ["self", "side", "store", "block"], [], [], hm, M, ok_Program___init__ T Fd, FunD.bindsN Fd (fun _ _ _ _ _ _ us hl => match us, hl with | [_, _, _, _], _ => rfl), .nil, fun _ => .nil, rfl⟩
theorem ok__law_mixed (T : Txt P w K mg) {f : Addr} {fd : FuncData} (Fd : FunD K "_law_mixed" "_law_mixed" (defArgs s__law_mixed) (defBody s__law_mixed) (defScope s__law_mixed) [] [] f fd) : FnOk P w K mg base (L2.CX P w) 1 f fd ["_law_cell", "_law_k"] (spD K 2 d__law_mixed) := by
  unfold d__law_mixed
  exact fn_okX (k := 0) Fd sc__law_mixed (fun cdv A outer s H E hr tk po hW => by
    have nd := sc__law_mixed.nd
    unfold p__law_mixed
    exact jb_cons (js_asg (i := 2) nd rfl (Or.inl rfl) (je_op or_addD od_add (je_op op_mod od_mod (je_op op_mul od_mul (je_op op_mul od_mul (je_op or_addD od_add (je_op op_mod od_mod (je_callTy call_int1 cd_int (by rfl) T.free_int (by decide +kernel) (ja_cons (je_var (i := 0) rfl (.inl rfl)) (ja_nil))) (je_op op_pow od_pow (je_int) (je_int))) (je_int)) (je_op or_addD od_add (je_var (i := 1) rfl (.inl rfl)) (je_int))) (je_int)) (je_int)) (je_op op_mul od_mul (je_int) (je_var (i := 1) rfl (.inl rfl)))))
      (jb_cons (js_asg (i := 2) nd rfl (Or.inl rfl) (je_op op_mod od_mod (je_op op_mul od_mul (je_var (i := 2) rfl (.inl rfl)) (je_op or_addD od_add (je_op op_fdiv od_div (je_var (i := 2) rfl (.inl rfl)) (je_int)) (je_int))) (je_int)))
      (jb_cons (js_asg (i := 2) nd rfl (Or.inl rfl) (je_op op_mod od_mod (je_op op_mul od_mul (je_var (i := 2) rfl (.inl rfl)) (je_op or_addD od_add (je_op op_fdiv od_div (je_var (i := 2) rfl (.inl rfl)) (je_int)) (je_int))) (je_int)))
      (jb_one (js_ret (je_op op_fdiv od_div (je_var (i := 2) rfl (.inl rfl)) (je_int)))))))
theorem has__law_mixed (T : Txt P w K mg) : Has P w K mg base "_law_mixed" 2 1 [] d__law_mixed := by
  obtain ⟨hm, fd, Fd⟩ := T.fn__law_mixed
  exact has_of hm Fd (ok__law_mixed T Fd) rfl (fun _ _ _ _ _ _ us hl => match us, hl with | [_, _], _ => rfl)
theorem ok__law_draw (T : Txt P w K mg) {f : Addr} {fd : FuncData} (Fd : FunD K "_law_draw" "_law_draw" (defArgs s__law_draw) (defBody s__law_draw) (defScope s__law_draw) [] [] f fd) : FnOk P w K mg base (L2.CX P w) 2 f fd ["_law_pool_here", "_law_size"] (spD K 2 d__law_draw) := by
  unfold d__law_draw
  exact fn_okX (k := 1) Fd sc__law_draw (fun cdv A outer s H E hr tk po hW => by
    have nd := sc__law_draw.nd
    unfold p__law_draw
    exact jb_cons (js_asg (i := 2) nd rfl (Or.inl rfl) (je_ix (je_var (i := 0) rfl (.inl rfl)) (je_int)))
      (jb_cons (js_asg (i := 3) nd rfl (Or.inl rfl) (je_ix (je_var (i := 0) rfl (.inl rfl)) (je_int)))
      (jb_cons (js_setItem (je_op or_addD od_add (je_ix (je_var (i := 0) rfl (.inl rfl)) (je_int)) (je_int)) (pg_sub (je_var (i := 0) rfl (.inl rfl)) (je_int) set_list))
      (jb_cons (js_if (jt_cmp op_ge od_ge (je_var (i := 3) rfl (.inl rfl)) (je_callB cr_len cd_len (by rfl) T.free_len (by decide +kernel) (ja_cons (je_var (i := 2) rfl (.inl rfl)) (ja_nil))) (nomark _)) (jb_one (js_ret (je_op op_mod od_mod (je_callTy call_int1 cd_int (by rfl) T.free_int (by decide +kernel) (ja_cons (je_callH (has__law_mixed T) hr tk (by rfl) (ja_cons (je_op or_addD od_add (je_ix (je_var (i := 0) rfl (.inl rfl)) (je_int)) (je_int)) (ja_cons (je_ix (je_var (i := 0) rfl (.inl rfl)) (je_int)) (ja_nil)))) (ja_nil))) (je_var (i := 1) rfl (.inl rfl))))) (jb_nil))
      (jb_cons (js_asg (i := 4) nd rfl (Or.inl rfl) (je_ix (je_var (i := 2) rfl (.inl rfl)) (je_var (i := 3) rfl (.inl rfl))))
      (jb_cons (js_if ((jw_or (jt_cmp op_ge od_ge (je_var (i := 4) rfl (.inl rfl)) (je_op op_pow od_pow (je_int) (je_int)) (nomark _)) (jw_or1 (jt_cmp op_lt od_lt (je_ix (je_var (i := 0) rfl (.inl rfl)) (je_int)) (je_int) (nomark _)))).t) (jb_cons (js_setItem (je_op op_fdiv od_div (je_var (i := 4) rfl (.inl rfl)) (je_var (i := 1) rfl (.inl rfl))) (pg_sub (je_var (i := 2) rfl (.inl rfl)) (je_var (i := 3) rfl (.inl rfl)) set_list))
      (jb_cons (js_setItem (je_un un_neg ud_neg (je_int)) (pg_sub (je_var (i := 0) rfl (.inl rfl)) (je_int) set_list))
      (jb_cons (js_if (jt_cmp (op_eqD hr.units) od_eq (je_ix (je_var (i := 2) rfl (.inl rfl)) (je_var (i := 3) rfl (.inl rfl))) (je_int) (nomark _)) (jb_cons (js_setItem (je_op or_addD od_add (je_var (i := 3) rfl (.inl rfl)) (je_int)) (pg_sub (je_var (i := 0) rfl (.inl rfl)) (je_int) set_list))
      (jb_one (js_setItem (je_int) (pg_sub (je_var (i := 0) rfl (.inl rfl)) (je_int) set_list)))) (jb_nil))
      (jb_one (js_ret (je_op op_mod od_mod (je_callTy call_int1 cd_int (by rfl) T.free_int (by decide +kernel) (ja_cons (je_var (i := 4) rfl (.inl rfl)) (ja_nil))) (je_var (i := 1) rfl (.inl rfl)))))))) (jb_nil))
      (jb_cons (js_setItem (je_op or_addD od_add (je_ix (je_var (i := 0) rfl (.inl rfl)) (je_int)) (je_int)) (pg_sub (je_var (i := 0) rfl (.inl rfl)) (je_int) set_list))
      (jb_cons (js_asg (i := 5) nd rfl (Or.inl rfl) (je_callH (has__law_mixed T) hr tk (by rfl) (ja_cons (je_var (i := 4) rfl (.inl rfl)) (ja_cons (je_ix (je_var (i := 0) rfl (.inl rfl)) (je_int)) (ja_nil)))))
      (jb_cons (js_if (jt_cmp (op_eqD hr.units) od_eq (je_ix (je_var (i := 0) rfl (.inl rfl)) (je_int)) (je_int) (nomark _)) (jb_cons (js_setItem (je_op or_addD od_add (je_var (i := 3) rfl (.inl rfl)) (je_int)) (pg_sub (je_var (i := 0) rfl (.inl rfl)) (je_int) set_list))
      (jb_one (js_setItem (je_int) (pg_sub (je_var (i := 0) rfl (.inl rfl)) (je_int) set_list)))) (jb_nil))
      (jb_one (js_ret (je_op op_mod od_mod (je_callTy call_int1 cd_int (by rfl) T.free_int (by decide +kernel) (ja_cons (je_var (i := 5) rfl (.inl rfl)) (ja_nil))) (je_var (i := 1) rfl (.inl rfl))))))))))))))
theorem has__law_draw (T : Txt P w K mg) : Has P w K mg base "_law_draw" 2 2 [] d__law_draw := by
  obtain ⟨hm, fd, Fd⟩ := T.fn__law_draw
  exact has_of hm Fd (ok__law_draw T Fd) rfl (fun _ _ _ _ _ _ us hl => match us, hl with | [_, _], _ => rfl)
theorem okg__law_bare_ways (T : Txt P w K mg) : ∀ n : Nat, Has P w K mg base "_law_bare_ways" 1 (0 + n) [] (d__law_bare_ways n)
  | 0 => (by
      obtain ⟨hm, fd, Fd⟩ := T.fn__law_bare_ways
      exact has_of (ps := ["_law_block"]) hm Fd (fn_stuck rfl) rfl (fun _ _ _ _ _ _ us hl => match us, hl with | [_], _ => rfl))
  | n + 1 => by
    have H__law_bare_ways := okg__law_bare_ways T n
    exact (by
      obtain ⟨hm, fd, Fd⟩ := T.fn__law_bare_ways
      exact has_of (ps := ["_law_block"]) hm Fd (by rw [d__law_bare_ways_s]; exact fn_okX (k := 0 + n) Fd sc__law_bare_ways (fun cdv A outer s H E hr tk po hW => by
      have nd := sc__law_bare_ways.nd
      unfold p__law_bare_ways
      exact jb_cons (js_asg (i := 1) nd rfl (Or.inl rfl) (je_int))
        (jb_cons (js_for po rfl (ji_seq (je_var (i := 0) rfl (.inl rfl))) (jg_name (i := 2) nd rfl (Or.inl rfl)) (by unfold p__law_bare_ways_b0; exact jb_cons (js_if ((jw_or (jt_cmp (op_eqD hr.units) od_eq (je_ix (je_var (i := 2) rfl (.inl rfl)) (je_int)) (je_str (by decide +kernel)) (nomark _)) (jw_or1 (jt_cmp (op_eqD hr.units) od_eq (je_ix (je_var (i := 2) rfl (.inl rfl)) (je_int)) (je_str (by decide +kernel)) (nomark _)))).t) (jb_one (js_asg (i := 1) nd rfl (Or.inl rfl) (je_int))) (jb_nil))       (jb_one (js_if (jt_cmp (op_eqD hr.units) od_eq (je_ix (je_var (i := 2) rfl (.inl rfl)) (je_int)) (je_str (by decide +kernel)) (nomark _)) (jb_one (js_asg (i := 1) nd rfl (Or.inl rfl) (je_op op_mul od_mul (je_var (i := 1) rfl (.inl rfl)) (je_callB (call_min2 rfl) cd_min2 (by rfl) T.free_min (by decide +kernel) (ja_cons (je_int) (ja_cons (je_op or_addD od_add (je_callH (H__law_bare_ways) (hr.mono (by omega)) tk (by rfl) (ja_cons (je_ix (je_var (i := 2) rfl (.inl rfl)) (je_int)) (ja_nil))) (je_callH (H__law_bare_ways) (hr.mono (by omega)) tk (by rfl) (ja_cons (je_ix (je_var (i := 2) rfl (.inl rfl)) (je_int)) (ja_nil)))) (ja_nil))))))) (jb_nil)))))
        (jb_one (js_ret (je_var (i := 1) rfl (.inl rfl))))))) rfl (fun _ _ _ _ _ _ us hl => match us, hl with | [_], _ => rfl))
theorem has__law_bare_ways (T : Txt P w K mg) : Has P w K mg base "_law_bare_ways" 1 5 [] (d__law_bare_ways 5) := (okg__law_bare_ways T 5)
theorem okg__law_open_end (T : Txt P w K mg) : ∀ n : Nat, Has P w K mg base "_law_open_end" 1 (0 + n) [] (d__law_open_end n)
  | 0 => (by
      obtain ⟨hm, fd, Fd⟩ := T.fn__law_open_end
      exact has_of (ps := ["_law_block"]) hm Fd (fn_stuck rfl) rfl (fun _ _ _ _ _ _ us hl => match us, hl with | [_], _ => rfl))
  | n + 1 => by
    have H__law_open_end := okg__law_open_end T n
    exact (by
      obtain ⟨hm, fd, Fd⟩ := T.fn__law_open_end
      exact has_of (ps := ["_law_block"]) hm Fd (by rw [d__law_open_end_s]; exact fn_okX (k := 0 + n) Fd sc__law_open_end (fun cdv A outer s H E hr tk po hW => by
      have nd := sc__law_open_end.nd
      unfold p__law_open_end
      exact jb_cons (js_for po rfl (ji_seq (je_var (i := 0) rfl (.inl rfl))) (jg_name (i := 1) nd rfl (Or.inl rfl)) (by unfold p__law_open_end_b0; exact jb_cons (js_if (jt_cmp (op_eqD hr.units) od_eq (je_ix (je_var (i := 1) rfl (.inl rfl)) (je_int)) (je_str (by decide +kernel)) (nomark _)) (jb_one (js_ret (je_bl))) (jb_nil))       (jb_one (js_if ((jw_and (jt_cmp (op_eqD hr.units) od_eq (je_ix (je_var (i := 1) rfl (.inl rfl)) (je_int)) (je_str (by decide +kernel)) (nomark _)) (jw_and (jt_not (jt_val (je_callH (H__law_open_end) (hr.mono (by omega)) tk (by rfl) (ja_cons (je_ix (je_var (i := 1) rfl (.inl rfl)) (je_int)) (ja_nil))))) (jw_and1 (jt_not (jt_val (je_callH (H__law_open_end) (hr.mono (by omega)) tk (by rfl) (ja_cons (je_ix (je_var (i := 1) rfl (.inl rfl)) (je_int)) (ja_nil)))))))).t) (jb_one (js_ret (je_bl))) (jb_nil)))))
        (jb_one (js_ret (je_bl))))) rfl (fun _ _ _ _ _ _ us hl => match us, hl with | [_], _ => rfl))
theorem has__law_open_end (T : Txt P w K mg) : Has P w K mg base "_law_open_end" 1 5 [] (d__law_open_end 5) := (okg__law_open_end T 5)
theorem okg__law_list (T : Txt P w K mg) : ∀ n : Nat, Has P w K mg base "_law_list" 2 (5 + n) [] (d__law_list n)
  | 0 => (by
      obtain ⟨hm, fd, Fd⟩ := T.fn__law_list
      exact has_of (ps := ["_law_block", "_law_rows"]) hm Fd (fn_stuck rfl) rfl (fun _ _ _ _ _ _ us hl => match us, hl with | [_, _], _ => rfl))
  | n + 1 => by
    have H__law_list := okg__law_list T n
    exact (by
      obtain ⟨hm, fd, Fd⟩ := T.fn__law_list
      exact has_of (ps := ["_law_block", "_law_rows"]) hm Fd (by rw [d__law_list_s]; exact fn_okX (k := 5 + n) Fd sc__law_list (fun cdv A outer s H E hr tk po hW => by
      have nd := sc__law_list.nd
      unfold p__law_list
      exact jb_cons (js_for po rfl (ji_range1 (by rfl) T.free_range (ja_cons (je_callB cr_len cd_len (by rfl) T.free_len (by decide +kernel) (ja_cons (je_var (i := 0) rfl (.inl rfl)) (ja_nil))) (ja_nil))) (jg_name (i := 2) nd rfl (Or.inl rfl)) (by unfold p__law_list_b1; exact jb_cons (js_asg (i := 3) nd rfl (Or.inl rfl) (je_ix (je_var (i := 0) rfl (.inl rfl)) (je_var (i := 2) rfl (.inl rfl))))       (jb_cons (js_asg (i := 4) nd rfl (Or.inl rfl) (je_str (by decide +kernel)))       (jb_cons (js_if (jt_not (jt_val (je_callH (has__law_open_end T) (hr.mono (by omega)) tk (by rfl) (ja_cons (je_sl (je_var (i := 0) rfl (.inl rfl)) (jo_none) (jo_some (je_var (i := 2) rfl (.inl rfl)))) (ja_nil))))) (jb_one (js_asg (i := 4) nd rfl (Or.inl rfl) (je_str (by decide +kernel)))) (jb_one (js_if ((jw_and (jt_cmp (op_eqD hr.units) od_eq (je_ix (je_var (i := 3) rfl (.inl rfl)) (je_int)) (je_str (by decide +kernel)) (nomark _)) (jw_and1 (jt_cmp op_gt od_gt (je_callH (has__law_bare_ways T) (hr.mono (by omega)) tk (by rfl) (ja_cons (je_ix (je_var (i := 3) rfl (.inl rfl)) (je_int)) (ja_nil))) (je_int) (nomark _)))).t) (jb_one (js_asg (i := 4) nd rfl (Or.inl rfl) (je_str (by decide +kernel)))) (jb_nil))))       (jb_cons (js_expr (je_append (je_var (i := 1) rfl (.inl rfl)) (je_var (i := 4) rfl (.inl rfl))))       (jb_one (js_for po rfl (ji_seq (je_sl (je_var (i := 3) rfl (.inl rfl)) (jo_some (je_int)) (jo_none))) (jg_name (i := 5) nd rfl (Or.inl rfl)) (by unfold p__law_list_b0; exact jb_one (js_expr (je_callH (H__law_list) (hr.mono (by omega)) tk (by rfl) (ja_cons (je_var (i := 5) rfl (.inl rfl)) (ja_cons (je_var (i := 1) rfl (.inl rfl)) (ja_nil)))))))))))))
        (jb_one (js_ret (je_var (i := 1) rfl (.inl rfl)))))) rfl (fun _ _ _ _ _ _ us hl => match us, hl with | [_, _], _ => rfl))
theorem has__law_list (T : Txt P w K mg) : Has P w K mg base "_law_list" 2 10 [] (d__law_list 5) := (okg__law_list T 5)
theorem ok__law_pool (T : Txt P w K mg) {f : Addr} {fd : FuncData} (Fd : FunD K "_law_pool" "_law_pool" (defArgs s__law_pool) (defBody s__law_pool) (defScope s__law_pool) [] [] f fd) : FnOk P w K mg base (L2.CX P w) 1 f fd ["_law_script"] (spD K 1 d__law_pool) := by
  unfold d__law_pool
  exact fn_okX (k := 0) Fd sc__law_pool (fun cdv A outer s H E hr tk po hW => by
    have nd := sc__law_pool.nd
    unfold p__law_pool
    exact jb_cons (js_setLcM (i := 1) rfl nd rfl rfl (sw_true rfl rfl rfl (by decide +kernel)) (ji_seq (je_sl (je_var (i := 0) rfl (.inl rfl)) (jo_none) (jo_some (je_int)))) (blkOk_by (own := [("_law_cell", 2)]) (N := N__law_pool) (sc := defScope s__law_pool) (by first | decide +kernel | rfl)) (own := [("_law_cell", 2)]) (gv := gName 2) (glc_name (by decide)) (fun s H C cl fp => pg_name (i := 2) nd rfl (Or.inl rfl)) (fun s H C cl fp => jts_nil) (fun s H C cl fp => je_callB call_abs cd_abs (by rfl) T.free_abs (by decide +kernel) (ja_cons (je_callTy call_int1 cd_int (by rfl) T.free_int (by decide +kernel) (ja_cons (je_var (i := 2) rfl (.inl rfl)) (ja_nil))) (ja_nil))))
      (jb_one (js_ret (je_lstM (ja_cons (je_var (i := 1) rfl (.inl rfl)) (ja_cons (je_int) (ja_cons (je_int) (ja_cons (je_int) (ja_cons (je_op op_mod od_mod (je_callB (cr_sum rfl) cd_sum (by rfl) T.free_sum (by decide +kernel) (ja_cons (je_var (i := 1) rfl (.inl rfl)) (ja_nil))) (je_int)) (ja_nil))))))))))
theorem has__law_pool (T : Txt P w K mg) : Has P w K mg base "_law_pool" 1 1 [] d__law_pool := by
  obtain ⟨hm, fd, Fd⟩ := T.fn__law_pool
  exact has_of hm Fd (ok__law_pool T Fd) rfl (fun _ _ _ _ _ _ us hl => match us, hl with | [_], _ => rfl)
theorem ok__law_int (T : Txt P w K mg) {f : Addr} {fd : FuncData} (Fd : FunD K "_law_int" "_law_int" (defArgs s__law_int) (defBody s__law_int) (defScope s__law_int) [] [] f fd) : FnOk P w K mg base (L2.CX P w) 1 f fd ["_law_thing"] (spD K 1 d__law_int) := by
  unfold d__law_int
  exact fn_okX (k := 0) Fd sc__law_int (fun cdv A outer s H E hr tk po hW => by
    have nd := sc__law_int.nd
    unfold p__law_int
    exact jb_one (js_ret (je_and (je_isi (je_var (i := 0) rfl (.inl rfl)) (by rfl) T.free_isinstance (by rfl) T.free_int (by decide +kernel) (by decide +kernel)) (je_one (je_not (je_isi (je_var (i := 0) rfl (.inl rfl)) (by rfl) T.free_isinstance (by rfl) T.free_bool (by decide +kernel) (by decide +kernel)))))))
theorem has__law_int (T : Txt P w K mg) : Has P w K mg base "_law_int" 1 1 [] d__law_int := by
  obtain ⟨hm, fd, Fd⟩ := T.fn__law_int
  exact has_of hm Fd (ok__law_int T Fd) rfl (fun _ _ _ _ _ _ us hl => match us, hl with | [_], _ => rfl)
theorem okg__law_same (T : Txt P w K mg) : ∀ n : Nat, Has P w K mg base "_law_same" 2 (1 + n) [] (d__law_same n)
  | 0 => (by
      obtain ⟨hm, fd, Fd⟩ := T.fn__law_same
      exact has_of (ps := ["_law_thing", "_law_due"]) hm Fd (fn_stuck rfl) rfl (fun _ _ _ _ _ _ us hl => match us, hl with | [_, _], _ => rfl))
  | n + 1 => by
    have H__law_same := okg__law_same T n
    exact (by
      obtain ⟨hm, fd, Fd⟩ := T.fn__law_same
      exact has_of (ps := ["_law_thing", "_law_due"]) hm Fd (by rw [d__law_same_s]; exact fn_okX (k := 1 + n) Fd sc__law_same (fun cdv A outer s H E hr tk po hW => by
      have nd := sc__law_same.nd
      unfold p__law_same
      exact jb_cons (js_if ((jw_or (jt_val (je_isi (je_var (i := 1) rfl (.inl rfl)) (by rfl) T.free_isinstance (by rfl) T.free_tuple (by decide +kernel) (by decide +kernel))) (jw_or1 (jt_val (je_isi (je_var (i := 1) rfl (.inl rfl)) (by rfl) T.free_isinstance (by rfl) T.free_list (by decide +kernel) (by decide +kernel))))).t) (jb_cons (js_if ((jw_or (jt_cmp (op_neD hr.units) od_ne (je_isi (je_var (i := 1) rfl (.inl rfl)) (by rfl) T.free_isinstance (by rfl) T.free_tuple (by decide +kernel) (by decide +kernel)) (je_isi (je_var (i := 0) rfl (.inl rfl)) (by rfl) T.free_isinstance (by rfl) T.free_tuple (by decide +kernel) (by decide +kernel)) (nomark _)) (jw_or1 (jt_cmp (op_neD hr.units) od_ne (je_isi (je_var (i := 1) rfl (.inl rfl)) (by rfl) T.free_isinstance (by rfl) T.free_list (by decide +kernel) (by decide +kernel)) (je_isi (je_var (i := 0) rfl (.inl rfl)) (by rfl) T.free_isinstance (by rfl) T.free_list (by decide +kernel) (by decide +kernel)) (nomark _)))).t) (jb_one (js_ret (je_bl))) (jb_nil))
        (jb_cons (js_if (jt_cmp (op_neD hr.units) od_ne (je_callB cr_len cd_len (by rfl) T.free_len (by decide +kernel) (ja_cons (je_var (i := 0) rfl (.inl rfl)) (ja_nil))) (je_callB cr_len cd_len (by rfl) T.free_len (by decide +kernel) (ja_cons (je_var (i := 1) rfl (.inl rfl)) (ja_nil))) (nomark _)) (jb_one (js_ret (je_bl))) (jb_nil))
        (jb_cons (js_for po rfl (ji_range1 (by rfl) T.free_range (ja_cons (je_callB cr_len cd_len (by rfl) T.free_len (by decide +kernel) (ja_cons (je_var (i := 1) rfl (.inl rfl)) (ja_nil))) (ja_nil))) (jg_name (i := 2) nd rfl (Or.inl rfl)) (by unfold p__law_same_b0; exact jb_one (js_if (jt_not (jt_val (je_callH (H__law_same) (hr.mono (by omega)) tk (by rfl) (ja_cons (je_ix (je_var (i := 0) rfl (.inl rfl)) (je_var (i := 2) rfl (.inl rfl))) (ja_cons (je_ix (je_var (i := 1) rfl (.inl rfl)) (je_var (i := 2) rfl (.inl rfl))) (ja_nil)))))) (jb_one (js_ret (je_bl))) (jb_nil))))
        (jb_one (js_ret (je_bl)))))) (jb_nil))
        (jb_cons (js_if (jt_cmp or_is od_is (je_var (i := 1) rfl (.inl rfl)) (je_non) (nomark _)) (jb_one (js_ret (je_cmp or_is od_is (je_var (i := 0) rfl (.inl rfl)) (je_non) (nomark _)))) (jb_nil))
        (jb_cons (js_if (jt_cmp or_is od_is (je_var (i := 1) rfl (.inl rfl)) (je_bl) (nomark _)) (jb_one (js_ret (je_cmp or_is od_is (je_var (i := 0) rfl (.inl rfl)) (je_bl) (nomark _)))) (jb_nil))
        (jb_cons (js_if (jt_cmp or_is od_is (je_var (i := 1) rfl (.inl rfl)) (je_bl) (nomark _)) (jb_one (js_ret (je_cmp or_is od_is (je_var (i := 0) rfl (.inl rfl)) (je_bl) (nomark _)))) (jb_nil))
        (jb_cons (js_if (jt_val (je_isi (je_var (i := 1) rfl (.inl rfl)) (by rfl) T.free_isinstance (by rfl) T.free_str (by decide +kernel) (by decide +kernel))) (jb_one (js_ret (je_and (je_isi (je_var (i := 0) rfl (.inl rfl)) (by rfl) T.free_isinstance (by rfl) T.free_str (by decide +kernel) (by decide +kernel)) (je_one (je_cmp (op_eqD hr.units) od_eq (je_var (i := 0) rfl (.inl rfl)) (je_var (i := 1) rfl (.inl rfl)) (nomark _)))))) (jb_nil))
        (jb_one (js_ret (je_and (je_callH (has__law_int T) (hr.mono (by omega)) tk (by rfl) (ja_cons (je_var (i := 0) rfl (.inl rfl)) (ja_nil))) (je_one (je_cmp (op_eqD hr.units) od_eq (je_var (i := 0) rfl (.inl rfl)) (je_var (i := 1) rfl (.inl rfl)) (nomark _)))))))))))) rfl (fun _ _ _ _ _ _ us hl => match us, hl with | [_, _], _ => rfl))
theorem has__law_same (T : Txt P w K mg) : Has P w K mg base "_law_same" 2 13 [] (d__law_same 12) := (okg__law_same T 12)
theorem okg__law_wild (T : Txt P w K mg) : ∀ n : Nat, Has P w K mg base "_law_wild" 4 (2 + n) [] (d__law_wild n)
  | 0 => (by
      obtain ⟨hm, fd, Fd⟩ := T.fn__law_wild
      exact has_of (ps := ["_law_pool_here", "_law_side", "_law_depth", "_law_room"]) hm Fd (fn_stuck rfl) rfl (fun _ _ _ _ _ _ us hl => match us, hl with | [_, _, _, _], _ => rfl))
  | n + 1 => by
    have H__law_wild := okg__law_wild T n
    exact (by
      obtain ⟨hm, fd, Fd⟩ := T.fn__law_wild
      exact has_of (ps := ["_law_pool_here", "_law_side", "_law_depth", "_law_room"]) hm Fd (by rw [d__law_wild_s]; exact fn_okX (k := 2 + n) Fd sc__law_wild (fun cdv A outer s H E hr tk po hW => by
      have nd := sc__law_wild.nd
      unfold p__law_wild
      exact jb_cons (js_asg (i := 4) nd rfl (Or.inl rfl) (je_tup (ja_nil)))
        (jb_cons (js_for po rfl (ji_range1 (by rfl) T.free_range (ja_cons (je_callH (has__law_draw T) (hr.mono (by omega)) tk (by rfl) (ja_cons (je_var (i := 0) rfl (.inl rfl)) (ja_cons (je_int) (ja_nil)))) (ja_nil))) (jg_name (i := 5) nd rfl (Or.inl rfl)) (by unfold p__law_wild_b0; exact jb_one (js_if (jt_cmp op_gt od_gt (je_ix (je_var (i := 3) rfl (.inl rfl)) (je_int)) (je_int) (nomark _)) (jb_cons (js_setItem (je_op op_sub od_sub (je_ix (je_var (i := 3) rfl (.inl rfl)) (je_int)) (je_int)) (pg_sub (je_var (i := 3) rfl (.inl rfl)) (je_int) set_list))       (jb_cons (js_asg (i := 6) nd rfl (Or.inl rfl) (je_callH (has__law_draw T) (hr.mono (by omega)) tk (by rfl) (ja_cons (je_var (i := 0) rfl (.inl rfl)) (ja_cons (je_int) (ja_nil)))))       (jb_one (js_if ((jw_and (jt_cmp op_lt od_lt (je_var (i := 6) rfl (.inl rfl)) (je_int) (nomark _)) (jw_and1 (jt_cmp (op_eqD hr.units) od_eq (je_var (i := 1) rfl (.inl rfl)) (je_str (by decide +kernel)) (nomark _)))).t) (jb_one (js_asg (i := 4) nd rfl (Or.inl rfl) (je_op or_addD od_add (je_var (i := 4) rfl (.inl rfl)) (je_tup (ja_cons (je_tup (ja_cons (je_str (by decide +kernel)) (ja_cons (je_callH (has__law_draw T) (hr.mono (by omega)) tk (by rfl) (ja_cons (je_var (i := 0) rfl (.inl rfl)) (ja_cons (je_int) (ja_nil)))) (ja_nil)))) (ja_nil)))))) (jb_one (js_if (jt_cmp op_lt od_lt (je_var (i := 6) rfl (.inl rfl)) (je_int) (nomark _)) (jb_one (js_asg (i := 4) nd rfl (Or.inl rfl) (je_op or_addD od_add (je_var (i := 4) rfl (.inl rfl)) (je_tup (ja_cons (je_tup (ja_cons (je_str (by decide +kernel)) (ja_cons (je_str (by decide +kernel)) (ja_cons (je_tup (ja_cons (je_str (by decide +kernel)) (ja_cons (je_str (by decide +kernel)) (ja_cons (je_int) (ja_nil))))) (ja_nil))))) (ja_nil)))))) (jb_one (js_if ((jw_or (jt_cmp (op_eqD hr.units) od_eq (je_var (i := 6) rfl (.inl rfl)) (je_int) (nomark _)) (jw_or1 (jt_cmp (op_eqD hr.units) od_eq (je_var (i := 2) rfl (.inl rfl)) (je_int) (nomark _)))).t) (jb_one (js_asg (i := 4) nd rfl (Or.inl rfl) (je_op or_addD od_add (je_var (i := 4) rfl (.inl rfl)) (je_tup (ja_cons (je_tup (ja_cons (je_str (by decide +kernel)) (ja_cons (je_str (by decide +kernel)) (ja_cons (je_str (by decide +kernel)) (ja_nil))))) (ja_nil)))))) (jb_one (js_if (jt_cmp (op_eqD hr.units) od_eq (je_var (i := 6) rfl (.inl rfl)) (je_int) (nomark _)) (jb_one (js_asg (i := 4) nd rfl (Or.inl rfl) (je_op or_addD od_add (je_var (i := 4) rfl (.inl rfl)) (je_tup (ja_cons (je_tup (ja_cons (je_str (by decide +kernel)) (ja_cons (je_str (by decide +kernel)) (ja_cons (je_int) (ja_cons (je_callH (H__law_wild) (hr.mono (by omega)) tk (by rfl) (ja_cons (je_var (i := 0) rfl (.inl rfl)) (ja_cons (je_var (i := 1) rfl (.inl rfl)) (ja_cons (je_op or_addD od_add (je_var (i := 2) rfl (.inl rfl)) (je_int)) (ja_cons (je_var (i := 3) rfl (.inl rfl)) (ja_nil)))))) (ja_nil)))))) (ja_nil)))))) (jb_cons (js_asg (i := 7) nd rfl (Or.inl rfl) (je_callH (H__law_wild) (hr.mono (by omega)) tk (by rfl) (ja_cons (je_var (i := 0) rfl (.inl rfl)) (ja_cons (je_var (i := 1) rfl (.inl rfl)) (ja_cons (je_op or_addD od_add (je_var (i := 2) rfl (.inl rfl)) (je_int)) (ja_cons (je_var (i := 3) rfl (.inl rfl)) (ja_nil)))))))       (jb_one (js_asg (i := 4) nd rfl (Or.inl rfl) (je_op or_addD od_add (je_var (i := 4) rfl (.inl rfl)) (je_tup (ja_cons (je_tup (ja_cons (je_str (by decide +kernel)) (ja_cons (je_str (by decide +kernel)) (ja_cons (je_int) (ja_cons (je_var (i := 7) rfl (.inl rfl)) (ja_cons (je_callH (H__law_wild) (hr.mono (by omega)) tk (by rfl) (ja_cons (je_var (i := 0) rfl (.inl rfl)) (ja_cons (je_var (i := 1) rfl (.inl rfl)) (ja_cons (je_op or_addD od_add (je_var (i := 2) rfl (.inl rfl)) (je_int)) (ja_cons (je_var (i := 3) rfl (.inl rfl)) (ja_nil)))))) (ja_nil))))))) (ja_nil))))))))))))))))) (jb_nil))))
        (jb_one (js_ret (je_var (i := 4) rfl (.inl rfl))))))) rfl (fun _ _ _ _ _ _ us hl => match us, hl with | [_, _, _, _], _ => rfl))
theorem has__law_wild (T : Txt P w K mg) : Has P w K mg base "_law_wild" 4 7 [] (d__law_wild 5) := (okg__law_wild T 5)
theorem ok_law (T : Txt P w K mg) {f : Addr} {fd : FuncData} (Fd : FunD K "law" "law" (defArgs s_law) (defBody s_law) (defScope s_law) [] [] f fd) : FnOk P w K mg base (L2.CX P w) 24 f fd ["_law_script"] (spD K 1 d_law) := by
  unfold d_law
  exact fn_okX (k := 23) Fd sc_law (fun cdv A outer s H E hr tk po hW => by
    have nd := sc_law.nd
    unfold p_law
    exact jb_cons (js_asg (i := 1) nd rfl (Or.inl rfl) (je_callH (has__law_pool T) (hr.mono (by decide)) tk (by rfl) (ja_cons (je_var (i := 0) rfl (.inl rfl)) (ja_nil))))
      (jb_cons (js_asg (i := 2) nd rfl (Or.inl rfl) (je_ix (je_lstV (ja_cons (je_str (by decide +kernel)) (ja_cons (je_str (by decide +kernel)) (ja_nil)))) (je_callH (has__law_draw T) (hr.mono (by decide)) tk (by rfl) (ja_cons (je_var (i := 1) rfl (.inl rfl)) (ja_cons (je_int) (ja_nil))))))
      (jb_cons (js_asg (i := 3) nd rfl (Or.inl rfl) (je_callH (has__law_wild T) (hr.mono (by decide)) tk (by rfl) (ja_cons (je_var (i := 1) rfl (.inl rfl)) (ja_cons (je_var (i := 2) rfl (.inl rfl)) (ja_cons (je_int) (ja_cons (je_lstM (ja_cons (je_int) (ja_nil))) (ja_nil)))))))
      (jb_cons (js_asg (i := 4) nd rfl (Or.inl rfl) (je_non))
      (jb_cons (js_asg (i := 5) nd rfl (Or.inl rfl) (je_callH (has__law_list T) (hr.mono (by decide)) tk (by rfl) (ja_cons (je_var (i := 3) rfl (.inl rfl)) (ja_cons (je_lstM (ja_nil)) (ja_nil)))))
      (jb_cons (js_for po rfl (ji_range1 (by rfl) T.free_range (ja_cons (je_callB cr_len cd_len (by rfl) T.free_len (by decide +kernel) (ja_cons (je_var (i := 5) rfl (.inl rfl)) (ja_nil))) (ja_nil))) (jg_name (i := 6) nd rfl (Or.inl rfl)) (by unfold p_law_b0; exact jb_one (js_if ((jw_and (jt_cmp or_is od_is (je_var (i := 4) rfl (.inl rfl)) (je_non) (nomark _)) (jw_and1 (jt_cmp (op_neD hr.units) od_ne (je_ix (je_var (i := 5) rfl (.inl rfl)) (je_var (i := 6) rfl (.inl rfl))) (je_str (by decide +kernel)) (nomark _)))).t) (jb_one (js_asg (i := 4) nd rfl (Or.inl rfl) (je_tup (ja_cons (je_var (i := 6) rfl (.inl rfl)) (ja_cons (je_ix (je_var (i := 5) rfl (.inl rfl)) (je_var (i := 6) rfl (.inl rfl))) (ja_nil)))))) (jb_nil))))
      (jb_cons (js_asg (i := 7) nd rfl (Or.inl rfl) (je_non))
      (jb_cons (js_asg (i := 8) nd rfl (Or.inl rfl) (je_un un_neg ud_neg (je_int)))
      (jb_cons (js_try T.err rfl rfl nd tk (fun W' pn xe tk po => jb_one (js_asg (i := 8) nd rfl (Or.inl rfl) (je_fld T.fl_count (je_makeH (has_Program___init__ T) hr tk (by rfl) (ja_cons (je_var (i := 2) rfl (.inl rfl)) (ja_cons (je_frzL (je_dispM (jp_cons (je_str (by decide +kernel)) (je_tup (ja_cons (je_int) (ja_cons (je_int) (ja_nil)))) (jp_nil)))) (ja_cons (je_var (i := 3) rfl (.inl rfl)) (ja_nil)))))))) (HdsD.cons (by decide +kernel) (names_c (by rfl) (by decide) (by decide) T.g_BadProgram) (.inr ⟨_, _, rfl, rfl, rfl, rfl⟩) (fun a oe d c pn hL hz hf => by unfold p_law_s1; exact jb_one (js_asg (i := 7) nd rfl (Or.inl rfl) (je_tup (ja_cons (je_xf T.err hL hz hf (by decide +kernel) (je_var (i := 9) rfl (.inl rfl))) (ja_cons (je_xf T.err hL hz hf (by decide +kernel) (je_var (i := 9) rfl (.inl rfl))) (ja_nil)))))) (HdsD.nil)))
      (jb_cons (js_if (jt_cmp or_is od_is (je_var (i := 4) rfl (.inl rfl)) (je_non) (nomark _)) (jb_one (js_ret (je_and (je_cmp or_is od_is (je_var (i := 7) rfl (.inl rfl)) (je_non) (nomark _)) (je_one (je_callH (has__law_same T) (hr.mono (by decide)) tk (by rfl) (ja_cons (je_var (i := 8) rfl (.inl rfl)) (ja_cons (je_callB cr_len cd_len (by rfl) T.free_len (by decide +kernel) (ja_cons (je_var (i := 5) rfl (.inl rfl)) (ja_nil))) (ja_nil)))))))) (jb_nil))
      (jb_one (js_ret (je_callH (has__law_same T) (hr.mono (by decide)) tk (by rfl) (ja_cons (je_var (i := 7) rfl (.inl rfl)) (ja_cons (je_var (i := 4) rfl (.inl rfl)) (ja_nil))))))))))))))))
theorem has_law (T : Txt P w K mg) : Has P w K mg base "law" 1 24 [] d_law := by
  obtain ⟨hm, fd, Fd⟩ := T.fn_law
  exact has_of hm Fd (ok_law T Fd) rfl (fun _ _ _ _ _ _ us hl => match us, hl with | [_], _ => rfl)
end
end My

namespace My
open PySem PySem.Spec PyProof.Rows L2 DL
def nms0 : List PySem.Str := ["_wall", "CellError", "BadProgram", "LETTERS", "is_integer", "is_between", "is_row", "is_name", "is_word_row", "is_side", "LENGTHS", "MOST_STATEMENTS", "MOST_VARIABLES", "MOST_DEPTH", "Checker"]
def nms1 : List PySem.Str := ["statement_ends", "block_ends", "has_bare_way", "first_flaw", "width", "lay_out", "check_store", "Program", "_law_pool", "_law_mixed", "_law_draw", "_law_int", "_law_same", "_law_wild", "_law_bare_ways"]
def nms2 : List PySem.Str := ["_law_open_end", "_law_list"]
def nms : List PySem.Str := nms0 ++ nms1 ++ nms2
def df_Checker___init__ : He.DefD := ⟨("Checker", some "__init__"), "__init__", "Checker.__init__", defArgs s_Checker___init__, defBody s_Checker___init__, defScope s_Checker___init__, [], []⟩
def df_Checker_is_local : He.DefD := ⟨("Checker", some "is_local"), "is_local", "Checker.is_local", defArgs s_Checker_is_local, defBody s_Checker_is_local, defScope s_Checker_is_local, [], []⟩
def df_is_integer : He.DefD := ⟨("is_integer", none), "is_integer", "is_integer", defArgs s_is_integer, defBody s_is_integer, defScope s_is_integer, [], []⟩
def df_is_between : He.DefD := ⟨("is_between", none), "is_between", "is_between", defArgs s_is_between, defBody s_is_between, defScope s_is_between, [], []⟩
def df_is_row : He.DefD := ⟨("is_row", none), "is_row", "is_row", defArgs s_is_row, defBody s_is_row, defScope s_is_row, [], []⟩
def df_is_word_row : He.DefD := ⟨("is_word_row", none), "is_word_row", "is_word_row", defArgs s_is_word_row, defBody s_is_word_row, defScope s_is_word_row, [], []⟩
def df_Checker_term_form : He.DefD := ⟨("Checker", some "term_form"), "term_form", "Checker.term_form", defArgs s_Checker_term_form, defBody s_Checker_term_form, defScope s_Checker_term_form, [], []⟩
def df_is_name : He.DefD := ⟨("is_name", none), "is_name", "is_name", defArgs s_is_name, defBody s_is_name, defScope s_is_name, [], []⟩
def df_Checker_part_reason : He.DefD := ⟨("Checker", some "part_reason"), "part_reason", "Checker.part_reason", defArgs s_Checker_part_reason, defBody s_Checker_part_reason, defScope s_Checker_part_reason, [], []⟩
def df_Checker_block_form : He.DefD := ⟨("Checker", some "block_form"), "block_form", "Checker.block_form", defArgs s_Checker_block_form, defBody s_Checker_block_form, defScope s_Checker_block_form, [], []⟩
def df_Checker_statement_form : He.DefD := ⟨("Checker", some "statement_form"), "statement_form", "Checker.statement_form", defArgs s_Checker_statement_form, defBody s_Checker_statement_form, defScope s_Checker_statement_form, [], []⟩
def df_check_store : He.DefD := ⟨("check_store", none), "check_store", "check_store", defArgs s_check_store, defBody s_check_store, defScope s_check_store, [], []⟩
def df_has_bare_way : He.DefD := ⟨("has_bare_way", none), "has_bare_way", "has_bare_way", defArgs s_has_bare_way, defBody s_has_bare_way, defScope s_has_bare_way, [], []⟩
def df_block_ends : He.DefD := ⟨("block_ends", none), "block_ends", "block_ends", defArgs s_block_ends, defBody s_block_ends, defScope s_block_ends, [], []⟩
def df_statement_ends : He.DefD := ⟨("statement_ends", none), "statement_ends", "statement_ends", defArgs s_statement_ends, defBody s_statement_ends, defScope s_statement_ends, [], []⟩
def df_first_flaw : He.DefD := ⟨("first_flaw", none), "first_flaw", "first_flaw", defArgs s_first_flaw, defBody s_first_flaw, defScope s_first_flaw, [], []⟩
def df_is_side : He.DefD := ⟨("is_side", none), "is_side", "is_side", defArgs s_is_side, defBody s_is_side, defScope s_is_side, [], []⟩
def df_width : He.DefD := ⟨("width", none), "width", "width", defArgs s_width, defBody s_width, defScope s_width, [], []⟩
def df_lay_out : He.DefD := ⟨("lay_out", none), "lay_out", "lay_out", defArgs s_lay_out, defBody s_lay_out, defScope s_lay_out, [], []⟩
def df_Program___init__ : He.DefD := ⟨("Program", some "__init__"), "__init__", "Program.__init__", defArgs s_Program___init__, defBody s_Program___init__, defScope s_Program___init__, [], []⟩
def df__law_mixed : He.DefD := ⟨("_law_mixed", none), "_law_mixed", "_law_mixed", defArgs s__law_mixed, defBody s__law_mixed, defScope s__law_mixed, [], []⟩
def df__law_draw : He.DefD := ⟨("_law_draw", none), "_law_draw", "_law_draw", defArgs s__law_draw, defBody s__law_draw, defScope s__law_draw, [], []⟩
def df__law_bare_ways : He.DefD := ⟨("_law_bare_ways", none), "_law_bare_ways", "_law_bare_ways", defArgs s__law_bare_ways, defBody s__law_bare_ways, defScope s__law_bare_ways, [], []⟩
def df__law_open_end : He.DefD := ⟨("_law_open_end", none), "_law_open_end", "_law_open_end", defArgs s__law_open_end, defBody s__law_open_end, defScope s__law_open_end, [], []⟩
def df__law_list : He.DefD := ⟨("_law_list", none), "_law_list", "_law_list", defArgs s__law_list, defBody s__law_list, defScope s__law_list, [], []⟩
def df__law_pool : He.DefD := ⟨("_law_pool", none), "_law_pool", "_law_pool", defArgs s__law_pool, defBody s__law_pool, defScope s__law_pool, [], []⟩
def df__law_int : He.DefD := ⟨("_law_int", none), "_law_int", "_law_int", defArgs s__law_int, defBody s__law_int, defScope s__law_int, [], []⟩
def df__law_same : He.DefD := ⟨("_law_same", none), "_law_same", "_law_same", defArgs s__law_same, defBody s__law_same, defScope s__law_same, [], []⟩
def df__law_wild : He.DefD := ⟨("_law_wild", none), "_law_wild", "_law_wild", defArgs s__law_wild, defBody s__law_wild, defScope s__law_wild, [], []⟩
def df_law : He.DefD := ⟨("law", none), "law", "law", defArgs s_law, defBody s_law, defScope s_law, [], []⟩
def fn0 : List He.DefD := [df_Checker___init__, df_Checker_is_local, df_is_integer, df_is_between, df_is_row, df_is_word_row, df_Checker_term_form, df_is_name, df_Checker_part_reason, df_Checker_block_form, df_Checker_statement_form, df_check_store, df_has_bare_way, df_block_ends, df_statement_ends]
def fn1 : List He.DefD := [df_first_flaw, df_is_side, df_width, df_lay_out, df_Program___init__, df__law_mixed, df__law_draw, df__law_bare_ways, df__law_open_end, df__law_list, df__law_pool, df__law_int, df__law_same, df__law_wild, df_law]
def fn : List He.DefD := fn0 ++ fn1
def xd_BadProgram : XInD := ⟨"BadProgram", "BadProgram.__init__", defArgs s_BadProgram___init__, defBody s_BadProgram___init__, defScope s_BadProgram___init__⟩
def fa0 : List He.Fa := [.glo "Checker", .mkr "Checker", .cls "Checker", .meth "Checker" "is_local", .glo "is_integer", .glo "is_between", .glo "is_row", .glo "is_word_row", .meth "Checker" "term_form", .glo "is_name", .meth "Checker" "part_reason", .meth "Checker" "block_form", .meth "Checker" "statement_form", .glo "check_store", .glo "has_bare_way"]
def fa1 : List He.Fa := [.glo "block_ends", .glo "statement_ends", .glo "first_flaw", .glo "is_side", .glo "width", .glo "lay_out", .glo "Program", .mkr "Program", .glo "_law_mixed", .glo "_law_draw", .glo "_law_bare_ways", .glo "_law_open_end", .glo "_law_list", .glo "_law_pool", .glo "_law_int"]
def fa2 : List He.Fa := [.glo "_law_same", .glo "_law_wild", .glo "law", .cls "Program", .noat "Program" "block", .noat "Program" "code", .noat "Program" "count", .noat "Program" "names", .noat "Checker" "place", .noat "Checker" "side", .noat "Program" "side", .noat "Checker" "sizes", .noat "Program" "sizes", .noat "Program" "store", .free "abs"]
def fa3 : List He.Fa := [.free "bool", .free "dict", .free "enumerate", .free "int", .free "isinstance", .free "len", .free "list", .free "min", .free "range", .free "sorted", .free "str", .free "sum", .free "tuple", .glo "BadProgram", .free "super"]
def fa4 : List He.Fa := [.noat "BadProgram" "place", .noat "BadProgram" "why", .str "LETTERS" "abcdefghijklmnopqrstuvwxyz", .int "MOST_DEPTH" 3, .int "MOST_STATEMENTS" 16, .int "MOST_VARIABLES" 4, .glo "LENGTHS"]
def fa : List He.Fa := fa0 ++ fa1 ++ fa2 ++ fa3 ++ fa4
def exB (K : PySem.W.Frag) : Bool := errB K errL errC errF && (He.valsB K (He.ga K "LENGTHS") tab_LENGTHS && (true))
abbrev R : PySem.W.OpenRow := PySem.W.OpenLaw.row PySem.Challenge.rw_cellsatonce_k18_dead_and_idle
def pds : List PropD := []
def xds : List XInD := [xd_BadProgram]
def tbs : List TabD := [("LENGTHS", tab_LENGTHS)]
abbrev hk : PySem.W.Hook := hookR 5 fa fn pds xds tbs FILE exB
def ob (s : PySem.W.SharedT) : AlR := obsR 5 fa fn pds xds tbs FILE exB (HandSHeadRun.getT s)
theorem ob_eq (s : PySem.W.SharedT) : ob s = hk.obs s.abs := obsR_eq (HandSHeadRun.getT_eq s)
theorem run (w : World) : HandSHeadRun.RunEq R (PySem.W.view R.prog [37]) hk ob 20000 nms w := by
  refine PySem.W.byRow2 "special-get-raises" (P := fun w => HandSHeadRun.RunEq R (PySem.W.view R.prog [37]) hk ob 20000 nms w) (fun w => ?_) (fun w => ?_) w
  · intro os; kernel_rfl
  · intro os; kernel_rfl
theorem facts {P : Program} {w : World} (hP : PrOk P FILE) {K : PySem.W.Frag} {h : Heap} {mg : Str → Option Value} (X : K.In h) (G : h.Ns mainGlobals mg) (c : He.SaysD fa fn K) (cq : SaysR fa fn pds xds tbs FILE exB w K) (hx : exB K = true) : Txt P w K mg where
  pr := hP
  err := errB_ok (Bool.and_eq_true_iff.mp hx).1
  g_BadProgram := He.glo_ok X G (c.fact 58 rfl)
  no_BadProgram_place := He.noat_ok (c.fact 60 rfl)
  no_BadProgram_why := He.noat_ok (c.fact 61 rfl)
  su_BadProgram := ⟨He.glo_ok X G (c.fact 58 rfl), cq.init (He.free_ok X G (c.fact 59 rfl)) 0 (d := xd_BadProgram) rfl⟩
  free_abs := He.free_ok X G (c.fact 44 rfl)
  free_bool := He.free_ok X G (c.fact 45 rfl)
  free_dict := He.free_ok X G (c.fact 46 rfl)
  free_enumerate := He.free_ok X G (c.fact 47 rfl)
  free_int := He.free_ok X G (c.fact 48 rfl)
  free_isinstance := He.free_ok X G (c.fact 49 rfl)
  free_len := He.free_ok X G (c.fact 50 rfl)
  free_list := He.free_ok X G (c.fact 51 rfl)
  free_min := He.free_ok X G (c.fact 52 rfl)
  free_range := He.free_ok X G (c.fact 53 rfl)
  free_sorted := He.free_ok X G (c.fact 54 rfl)
  free_str := He.free_ok X G (c.fact 55 rfl)
  free_sum := He.free_ok X G (c.fact 56 rfl)
  free_tuple := He.free_ok X G (c.fact 57 rfl)
  c_LETTERS := const_str X G (c.fact 62 rfl) (by decide +kernel)
  c_MOST_DEPTH := const_int X G (c.fact 63 rfl)
  c_MOST_STATEMENTS := const_int X G (c.fact 64 rfl)
  c_MOST_VARIABLES := const_int X G (c.fact 65 rfl)
  tab_LENGTHS := cq.tab 0 (t := ("LENGTHS", tab_LENGTHS)) rfl (He.glo_ok X G (c.fact 66 rfl)) (Bool.and_eq_true_iff.mp (Bool.and_eq_true_iff.mp hx).2).1 (by decide +kernel)
  fl_block := FldOk.cons (He.cls_ok (c.fact 33 rfl)) (He.noat_ok (c.fact 34 rfl)) (FldOk.nil)
  fl_code := FldOk.cons (He.cls_ok (c.fact 33 rfl)) (He.noat_ok (c.fact 35 rfl)) (FldOk.nil)
  fl_count := FldOk.cons (He.cls_ok (c.fact 33 rfl)) (He.noat_ok (c.fact 36 rfl)) (FldOk.nil)
  fl_names := FldOk.cons (He.cls_ok (c.fact 33 rfl)) (He.noat_ok (c.fact 37 rfl)) (FldOk.nil)
  fl_place := FldOk.cons (He.cls_ok (c.fact 2 rfl)) (He.noat_ok (c.fact 38 rfl)) (FldOk.nil)
  fl_side := FldOk.cons (He.cls_ok (c.fact 2 rfl)) (He.noat_ok (c.fact 39 rfl)) (FldOk.cons (He.cls_ok (c.fact 33 rfl)) (He.noat_ok (c.fact 40 rfl)) (FldOk.nil))
  fl_sizes := FldOk.cons (He.cls_ok (c.fact 2 rfl)) (He.noat_ok (c.fact 41 rfl)) (FldOk.cons (He.cls_ok (c.fact 33 rfl)) (He.noat_ok (c.fact 42 rfl)) (FldOk.nil))
  fl_store := FldOk.cons (He.cls_ok (c.fact 33 rfl)) (He.noat_ok (c.fact 43 rfl)) (FldOk.nil)
  fn_Checker___init__ := ⟨⟨He.glo_ok X G (c.fact 0 rfl), He.mkr_ok (c.fact 1 rfl)⟩, c.def_ 0 (d := df_Checker___init__) rfl⟩
  fn_Checker_is_local := ⟨⟨He.cls_ok (c.fact 2 rfl), He.meth_ok (c.fact 3 rfl)⟩, c.def_ 1 (d := df_Checker_is_local) rfl⟩
  fn_is_integer := ⟨He.glo_ok X G (c.fact 4 rfl), c.def_ 2 (d := df_is_integer) rfl⟩
  fn_is_between := ⟨He.glo_ok X G (c.fact 5 rfl), c.def_ 3 (d := df_is_between) rfl⟩
  fn_is_row := ⟨He.glo_ok X G (c.fact 6 rfl), c.def_ 4 (d := df_is_row) rfl⟩
  fn_is_word_row := ⟨He.glo_ok X G (c.fact 7 rfl), c.def_ 5 (d := df_is_word_row) rfl⟩
  fn_Checker_term_form := ⟨⟨He.cls_ok (c.fact 2 rfl), He.meth_ok (c.fact 8 rfl)⟩, c.def_ 6 (d := df_Checker_term_form) rfl⟩
  fn_is_name := ⟨He.glo_ok X G (c.fact 9 rfl), c.def_ 7 (d := df_is_name) rfl⟩
  fn_Checker_part_reason := ⟨⟨He.cls_ok (c.fact 2 rfl), He.meth_ok (c.fact 10 rfl)⟩, c.def_ 8 (d := df_Checker_part_reason) rfl⟩
  fn_Checker_block_form := ⟨⟨He.cls_ok (c.fact 2 rfl), He.meth_ok (c.fact 11 rfl)⟩, c.def_ 9 (d := df_Checker_block_form) rfl⟩
  fn_Checker_statement_form := ⟨⟨He.cls_ok (c.fact 2 rfl), He.meth_ok (c.fact 12 rfl)⟩, c.def_ 10 (d := df_Checker_statement_form) rfl⟩
  fn_check_store := ⟨He.glo_ok X G (c.fact 13 rfl), c.def_ 11 (d := df_check_store) rfl⟩
  fn_has_bare_way := ⟨He.glo_ok X G (c.fact 14 rfl), c.def_ 12 (d := df_has_bare_way) rfl⟩
  fn_block_ends := ⟨He.glo_ok X G (c.fact 15 rfl), c.def_ 13 (d := df_block_ends) rfl⟩
  fn_statement_ends := ⟨He.glo_ok X G (c.fact 16 rfl), c.def_ 14 (d := df_statement_ends) rfl⟩
  fn_first_flaw := ⟨He.glo_ok X G (c.fact 17 rfl), c.def_ 15 (d := df_first_flaw) rfl⟩
  fn_is_side := ⟨He.glo_ok X G (c.fact 18 rfl), c.def_ 16 (d := df_is_side) rfl⟩
  fn_width := ⟨He.glo_ok X G (c.fact 19 rfl), c.def_ 17 (d := df_width) rfl⟩
  fn_lay_out := ⟨He.glo_ok X G (c.fact 20 rfl), c.def_ 18 (d := df_lay_out) rfl⟩
  fn_Program___init__ := ⟨⟨He.glo_ok X G (c.fact 21 rfl), He.mkr_ok (c.fact 22 rfl)⟩, c.def_ 19 (d := df_Program___init__) rfl⟩
  fn__law_mixed := ⟨He.glo_ok X G (c.fact 23 rfl), c.def_ 20 (d := df__law_mixed) rfl⟩
  fn__law_draw := ⟨He.glo_ok X G (c.fact 24 rfl), c.def_ 21 (d := df__law_draw) rfl⟩
  fn__law_bare_ways := ⟨He.glo_ok X G (c.fact 25 rfl), c.def_ 22 (d := df__law_bare_ways) rfl⟩
  fn__law_open_end := ⟨He.glo_ok X G (c.fact 26 rfl), c.def_ 23 (d := df__law_open_end) rfl⟩
  fn__law_list := ⟨He.glo_ok X G (c.fact 27 rfl), c.def_ 24 (d := df__law_list) rfl⟩
  fn__law_pool := ⟨He.glo_ok X G (c.fact 28 rfl), c.def_ 25 (d := df__law_pool) rfl⟩
  fn__law_int := ⟨He.glo_ok X G (c.fact 29 rfl), c.def_ 26 (d := df__law_int) rfl⟩
  fn__law_same := ⟨He.glo_ok X G (c.fact 30 rfl), c.def_ 27 (d := df__law_same) rfl⟩
  fn__law_wild := ⟨He.glo_ok X G (c.fact 31 rfl), c.def_ 28 (d := df__law_wild) rfl⟩
  fn_law := ⟨He.glo_ok X G (c.fact 32 rfl), c.def_ 29 (d := df_law) rfl⟩
end My
open PySem PySem.W PySem.Calls PyProof.Rows
set_option maxRecDepth 100000 in
set_option maxHeartbeats 0 in
theorem PySem.Challenge.cw_cellsatonce_k18_dead_and_idle_holds : PySem.Challenge.rw_cellsatonce_k18_dead_and_idle.Holds := by
  w_on; o_law
  refine HandSHeadRun.head_any (r := OpenLaw.row PySem.Challenge.rw_cellsatonce_k18_dead_and_idle) (q := view (OpenLaw.row PySem.Challenge.rw_cellsatonce_k18_dead_and_idle).prog [37]) (H := My.hk) (ob := My.ob) (M := 20000) (loose := My.nms) (d := HandSHeadRun.topDef (OpenLaw.row PySem.Challenge.rw_cellsatonce_k18_dead_and_idle).prog 37) (kwd := []) My.ob_eq
    (by kernel_rfl) (fun s => by kernel_rfl) My.run (by kernel_rfl) (by kernel_rfl) (by kernel_rfl) (by rfl) (by first | assumption | decide +kernel) (by decide +kernel) ⟨rfl, rfl, rfl, rfl, rfl, by decide +kernel⟩ ?hw ?hc
  case hw => w_witness2
  case hc =>
    refine L2.walk_ofE (l := PySem.Challenge.rw_cellsatonce_k18_dead_and_idle) (n := 63) (k := 24) (x := "_law_script") (CX := L2.CX0) rfl (by decide) (by kernel_rfl) ⟨rfl, by decide, by decide⟩ ?F (fun _ _ _ _ z => z)
    intro w mg fa h Y G hmg0
    obtain ⟨K, KX, c⟩ := Y
    have hmg : mg ("law" : PySem.Str) = some (.ref fa) := by
      have e : (HandSHeadRun.topDef (OpenLaw.row PySem.Challenge.rw_cellsatonce_k18_dead_and_idle).prog 37).name = ("law" : PySem.Str) := by kernel_rfl
      rw [← e]
      exact hmg0
    have T := My.facts (P := (OpenLaw.row PySem.Challenge.rw_cellsatonce_k18_dead_and_idle).prog) ⟨by kernel_rfl, by kernel_rfl⟩ KX G c.toSaysQ.d c c.toSaysQ.more
    obtain ⟨hm, fd, Fd⟩ := T.fn_law
    obtain rfl : He.ga K "law" = fa := by
      exact PySem.Value.ref.inj (Option.some.inj (hm.symm.trans hmg))
    refine ⟨K, fd, (fun vs H Q _ => DL.spD K 1 My.d_law vs H Q fun _ _ _ => False), KX, fun s v => L2.FunD.bindsA (ps := ["_law_script"]) Fd (fun _ _ _ _ _ _ us hl => match us, hl with | [_], _ => rfl) s [v] rfl, fun H a ns hl _ hS => DL.law_sp My.law_true H a ns hl hS, fun base _ _ => DL.fn_cx0 (My.ok_law T Fd)⟩

