import PyProof.Rows.All
import Wide.All
import OpenK.AllK
import Wide.FinOn
import HandS.ForMost
import HandS.Deep
import HandS.TupAny
import HandS.TupMul
import HandS.TupLe
import PyProof.StrOps2
import KE.LtData
import HandS.Conv
import HandS.IsInst
import KE.SortData
import HandS.SortInts
import HandS.Walk
import HandS.Zip
import HandS.Defaults
import HandS.WideBits
import HandS.NoneIn
import HandS.SetFor
import HandS.TupSets
import KE.KStateDown
import Lean
import HandS.Base
import HandS.Call
import HandS.Ends
import HandS.More
import HandS.Words
import HandS.WordsExc
import HandS.Head0
import HandS.Head1
import HandS.Head2
import HandS.HeadEnd
import HandS.HeadHook1
import HandS.HeadHook2
import PySem.Challenge.RW_soundsjoined_k20_whole_beats_counted
set_option Elab.async false
set_option linter.all false
set_option maxRecDepth 100000
/-! Pu: a layer of values over HandS: pure data, owned lists, readings by functions. -/
namespace Pu
open PySem PySem.Spec PyProof.Rows L2

abbrev D := PyData
def keyD : Key → D
  | .inl i => .int i
  | .inr s => .str s

/-- an address of a changeable thing -/
def Mutk : Option HO → Prop
  | some (.lst _) => True
  | some (.dK _) => True
  | some (.dT _) => True
  | _ => False
def MK (H : Hp) (M : Addr → Prop) : Prop := ∀ a, M a → Mutk (H a)
theorem MK.some {H : Hp} {M : Addr → Prop} (m : MK H M) {a : Addr} (h : M a) : H a ≠ none := fun e => by
  have := m a h; rw [e] at this; exact this

/-- a list of the written part -/
def KLst (K : PySem.W.Frag) (a : Addr) (xs : List V) : Prop :=
  ∃ (o : Obj) (its : Array Value) (n : Nat), K.lookup a = some o ∧ o.cls = .type "list" ∧ o.dict = none ∧ o.data = .seq its n ∧ its.size ≤ sizeLine ∧ Vals xs its.toList
def LO (K : PySem.W.Frag) (H : Hp) (M : Addr → Prop) (a : Addr) (xs : List V) : Prop := (Rd H a (.lst xs) ∧ ¬ M a) ∨ KLst K a xs
theorem LO.sq {K : PySem.W.Frag} {H : Hp} {M : Addr → Prop} {a : Addr} {xs : List V} (h : LO K H M a xs) : SqL K H a xs := h.imp (·.1) id

mutual
/-- the data d stands at v; none of its lists and dicts is in M -/
inductive Rep (K : PySem.W.Frag) (H : Hp) (M : Addr → Prop) : D → V → Prop
  | non : Rep K H M .none .non
  | bl (b : Bool) : Rep K H M (.bool b) (.bl b)
  | int (i : Int) : Rep K H M (.int i) (.int i)
  | str (x : Str) : Rep K H M (.str x) (.str x)
  | tup {a : Addr} {vs : List V} {ds : List D} : SqT K H a vs → Reps K H M ds vs → Rep K H M (.tuple ds) (.ref a)
  | lst {a : Addr} {vs : List V} {ds : List D} : LO K H M a vs → Reps K H M ds vs → Rep K H M (.list ds) (.ref a)
  | dK {a : Addr} {kvs : List (Key × V)} {ps : List (D × D)} : H a = some (.dK kvs) → ¬ M a → RepK K H M ps kvs → Rep K H M (.dict ps) (.ref a)
  | dT {a : Addr} {kvs : List (List Key × V)} {ps : List (D × D)} : H a = some (.dT kvs) → ¬ M a → RepT K H M ps kvs → Rep K H M (.dict ps) (.ref a)
inductive Reps (K : PySem.W.Frag) (H : Hp) (M : Addr → Prop) : List D → List V → Prop
  | nil : Reps K H M [] []
  | cons {d : D} {v : V} {ds : List D} {vs : List V} : Rep K H M d v → Reps K H M ds vs → Reps K H M (d :: ds) (v :: vs)
inductive RepK (K : PySem.W.Frag) (H : Hp) (M : Addr → Prop) : List (D × D) → List (Key × V) → Prop
  | nil : RepK K H M [] []
  | cons {d : D} {k : Key} {v : V} {ps : List (D × D)} {kvs : List (Key × V)} : Rep K H M d v → RepK K H M ps kvs → RepK K H M ((keyD k, d) :: ps) ((k, v) :: kvs)
inductive RepT (K : PySem.W.Frag) (H : Hp) (M : Addr → Prop) : List (D × D) → List (List Key × V) → Prop
  | nil : RepT K H M [] []
  | cons {d : D} {k : List Key} {v : V} {ps : List (D × D)} {kvs : List (List Key × V)} : Rep K H M d v → RepT K H M ps kvs → RepT K H M ((.tuple (k.map keyD), d) :: ps) ((k, v) :: kvs)
end

/-- what is not in M stays -/
def Stay (H : Hp) (M : Addr → Prop) (H' : Hp) : Prop := ∀ a o, H a = some o → ¬ M a → H' a = some o
theorem Stay.of_same {H H' : Hp} {M : Addr → Prop} (s : Same H H') : Stay H M H' := fun a o h _ => s a o h
theorem not_mutk_tup {H : Hp} {M : Addr → Prop} (m : MK H M) {a : Addr} {xs : List V} (h : H a = some (.tup xs)) : ¬ M a := fun z => by
  have := m a z; rw [h] at this; exact this
theorem not_mutk_frz {H : Hp} {M : Addr → Prop} (m : MK H M) {a : Addr} {o : Obj} {u : HO} (h : H a = some (.frz o u)) : ¬ M a := fun z => by
  have := m a z; rw [h] at this; exact this
theorem Stay.sqT {K : PySem.W.Frag} {H H' : Hp} {M : Addr → Prop} (m : MK H M) (s : Stay H M H') {a : Addr} {xs : List V} (h : SqT K H a xs) : SqT K H' a xs := by
  rcases h with (h | ⟨o, h⟩) | h
  · exact .inl (.inl (s _ _ h (not_mutk_tup m h)))
  · exact .inl (.inr ⟨o, s _ _ h (not_mutk_frz m h)⟩)
  · exact .inr h
/-- new members of M' were free -/
def New (H : Hp) (M M' : Addr → Prop) : Prop := ∀ a, M' a → ¬ M a → H a = none
theorem New.refl {H : Hp} {M : Addr → Prop} : New H M M := fun _ h n => absurd h n
theorem Stay.lo {K : PySem.W.Frag} {H H' : Hp} {M M' : Addr → Prop} (m : MK H M) (s : Stay H M H') (n : New H M M') {a : Addr} {xs : List V} (h : LO K H M a xs) : LO K H' M' a xs := by
  rcases h with ⟨h, nm⟩ | h
  · rcases h with h | ⟨o, h⟩
    · exact .inl ⟨.inl (s _ _ h nm), fun z => by rw [n a z nm] at h; cases h⟩
    · exact .inl ⟨.inr ⟨o, s _ _ h nm⟩, fun z => by rw [n a z nm] at h; cases h⟩
  · exact .inr h
mutual
theorem Rep.stay {K : PySem.W.Frag} {H H' : Hp} {M M' : Addr → Prop} (m : MK H M) (s : Stay H M H') (n : New H M M') : ∀ {d : D} {v : V}, Rep K H M d v → Rep K H' M' d v
  | _, _, .non => .non
  | _, _, .bl b => .bl b
  | _, _, .int i => .int i
  | _, _, .str x => .str x
  | _, _, .tup h r => .tup (s.sqT m h) (Reps.stay m s n r)
  | _, _, .lst h r => .lst (s.lo m n h) (Reps.stay m s n r)
  | _, _, .dK h nm r => .dK (s _ _ h nm) (fun z => by rw [n _ z nm] at h; cases h) (RepK.stay m s n r)
  | _, _, .dT h nm r => .dT (s _ _ h nm) (fun z => by rw [n _ z nm] at h; cases h) (RepT.stay m s n r)
theorem Reps.stay {K : PySem.W.Frag} {H H' : Hp} {M M' : Addr → Prop} (m : MK H M) (s : Stay H M H') (n : New H M M') : ∀ {ds : List D} {vs : List V}, Reps K H M ds vs → Reps K H' M' ds vs
  | _, _, .nil => .nil
  | _, _, .cons h r => .cons (Rep.stay m s n h) (Reps.stay m s n r)
theorem RepK.stay {K : PySem.W.Frag} {H H' : Hp} {M M' : Addr → Prop} (m : MK H M) (s : Stay H M H') (n : New H M M') : ∀ {ps : List (D × D)} {kvs : List (Key × V)}, RepK K H M ps kvs → RepK K H' M' ps kvs
  | _, _, .nil => .nil
  | _, _, .cons h r => .cons (Rep.stay m s n h) (RepK.stay m s n r)
theorem RepT.stay {K : PySem.W.Frag} {H H' : Hp} {M M' : Addr → Prop} (m : MK H M) (s : Stay H M H') (n : New H M M') : ∀ {ps : List (D × D)} {kvs : List (List Key × V)}, RepT K H M ps kvs → RepT K H' M' ps kvs
  | _, _, .nil => .nil
  | _, _, .cons h r => .cons (Rep.stay m s n h) (RepT.stay m s n r)
end
mutual
/-- fewer in M -/
theorem Rep.anti {K : PySem.W.Frag} {H : Hp} {M M' : Addr → Prop} (s : ∀ a, M' a → M a) : ∀ {d : D} {v : V}, Rep K H M d v → Rep K H M' d v
  | _, _, .non => .non
  | _, _, .bl b => .bl b
  | _, _, .int i => .int i
  | _, _, .str x => .str x
  | _, _, .tup h r => .tup h (Reps.anti s r)
  | _, _, .lst h r => .lst (h.imp (fun z => ⟨z.1, fun y => z.2 (s _ y)⟩) id) (Reps.anti s r)
  | _, _, .dK h nm r => .dK h (fun y => nm (s _ y)) (RepK.anti s r)
  | _, _, .dT h nm r => .dT h (fun y => nm (s _ y)) (RepT.anti s r)
theorem Reps.anti {K : PySem.W.Frag} {H : Hp} {M M' : Addr → Prop} (s : ∀ a, M' a → M a) : ∀ {ds : List D} {vs : List V}, Reps K H M ds vs → Reps K H M' ds vs
  | _, _, .nil => .nil
  | _, _, .cons h r => .cons (Rep.anti s h) (Reps.anti s r)
theorem RepK.anti {K : PySem.W.Frag} {H : Hp} {M M' : Addr → Prop} (s : ∀ a, M' a → M a) : ∀ {ps : List (D × D)} {kvs : List (Key × V)}, RepK K H M ps kvs → RepK K H M' ps kvs
  | _, _, .nil => .nil
  | _, _, .cons h r => .cons (Rep.anti s h) (RepK.anti s r)
theorem RepT.anti {K : PySem.W.Frag} {H : Hp} {M M' : Addr → Prop} (s : ∀ a, M' a → M a) : ∀ {ps : List (D × D)} {kvs : List (List Key × V)}, RepT K H M ps kvs → RepT K H M' ps kvs
  | _, _, .nil => .nil
  | _, _, .cons h r => .cons (Rep.anti s h) (RepT.anti s r)
end
/-- no list, no dict in it -/
def nolst : D → Bool
  | .list _ => false
  | .dict _ => false
  | .tuple ds => nolsts ds
  | _ => true
where nolsts : List D → Bool
  | [] => true
  | d :: ds => nolst d && nolsts ds
mutual
theorem Rep.nol {K : PySem.W.Frag} {H : Hp} {M M' : Addr → Prop} : ∀ {d : D} {v : V}, nolst d = true → Rep K H M d v → Rep K H M' d v
  | _, _, _, .non => .non
  | _, _, _, .bl b => .bl b
  | _, _, _, .int i => .int i
  | _, _, _, .str x => .str x
  | _, _, e, .tup h r => .tup h (Reps.nol (by simpa [nolst] using e) r)
  | _, _, e, .lst _ _ => by simp [nolst] at e
  | _, _, e, .dK _ _ _ => by simp [nolst] at e
  | _, _, e, .dT _ _ _ => by simp [nolst] at e
theorem Reps.nol {K : PySem.W.Frag} {H : Hp} {M M' : Addr → Prop} : ∀ {ds : List D} {vs : List V}, nolst.nolsts ds = true → Reps K H M ds vs → Reps K H M' ds vs
  | _, _, _, .nil => .nil
  | _, _, e, .cons h r => by
    simp only [nolst.nolsts, Bool.and_eq_true] at e
    exact .cons (Rep.nol e.1 h) (Reps.nol e.2 r)
end
mutual
theorem Rep.dp {K : PySem.W.Frag} {H : Hp} {M : Addr → Prop} : ∀ {d : D} {v : V}, d.canLay0 = true → Rep K H M d v → Dp K H v d
  | _, _, _, .non => .non
  | _, _, _, .bl b => .bl b
  | _, _, _, .int i => .int i
  | _, _, _, .str x => .str x
  | _, _, e, .tup h r => .tup h (Reps.dp (by simpa [PyData.canLay0] using e) r)
  | _, _, e, .lst h r => .lst h.sq (Reps.dp (by simpa [PyData.canLay0] using e) r)
  | _, _, e, .dK _ _ _ => by simp [PyData.canLay0] at e
  | _, _, e, .dT _ _ _ => by simp [PyData.canLay0] at e
theorem Reps.dp {K : PySem.W.Frag} {H : Hp} {M : Addr → Prop} : ∀ {ds : List D} {vs : List V}, PyData.canLayAll0 ds = true → Reps K H M ds vs → DpAll K H vs ds
  | _, _, _, .nil => .nil
  | _, _, e, .cons h r => by
    simp only [PyData.canLayAll0, Bool.and_eq_true] at e
    exact .cons (Rep.dp e.1 h) (Reps.dp e.2 r)
end
section
variable {K : PySem.W.Frag} {H H' : Hp} {M M' : Addr → Prop} {ds : List D} {vs : List V}
theorem Reps.length : ∀ {ds : List D} {vs : List V}, Reps K H M ds vs → ds.length = vs.length
  | _, _, .nil => rfl
  | _, _, .cons _ r => congrArg (· + 1) r.length
theorem Reps.get : ∀ {ds : List D} {vs : List V} {i : Nat} {d : D}, Reps K H M ds vs → ds[i]? = some d → ∃ v, vs[i]? = some v ∧ Rep K H M d v
  | _, _, _, _, .nil, e => by simp at e
  | _, _, 0, _, .cons r _, e => by simp at e; subst e; exact ⟨_, rfl, r⟩
  | _, _, i + 1, d, .cons _ t, e => by
    obtain ⟨v, h1, h2⟩ := Reps.get (i := i) (d := d) t (by simpa using e)
    exact ⟨v, by simpa using h1, h2⟩
theorem Reps.getV : ∀ {ds : List D} {vs : List V} {i : Nat} {v : V}, Reps K H M ds vs → vs[i]? = some v → ∃ d, ds[i]? = some d ∧ Rep K H M d v
  | _, _, _, _, .nil, e => by simp at e
  | _, _, 0, _, .cons r _, e => by simp at e; subst e; exact ⟨_, rfl, r⟩
  | _, _, i + 1, d, .cons _ t, e => by
    obtain ⟨v, h1, h2⟩ := Reps.getV (i := i) (v := d) t (by simpa using e)
    exact ⟨v, by simpa using h1, h2⟩
theorem Reps.append : ∀ {ds es : List D} {vs us : List V}, Reps K H M ds vs → Reps K H M es us → Reps K H M (ds ++ es) (vs ++ us)
  | _, _, _, _, .nil, s => s
  | _, _, _, _, .cons r t, s => .cons r (t.append s)
theorem Reps.set {d : D} {v : V} (r : Rep K H M d v) : ∀ {ds : List D} {vs : List V} (i : Nat), Reps K H M ds vs → Reps K H M (ds.set i d) (vs.set i v)
  | _, _, _, .nil => .nil
  | _, _, 0, .cons _ t => .cons r t
  | _, _, i + 1, .cons q t => .cons q (Reps.set r i t)
theorem Reps.take : ∀ {ds : List D} {vs : List V} (n : Nat), Reps K H M ds vs → Reps K H M (ds.take n) (vs.take n)
  | _, _, 0, _ => .nil
  | _, _, _ + 1, .nil => .nil
  | _, _, n + 1, .cons r t => .cons r (Reps.take n t)
theorem Reps.drop : ∀ {ds : List D} {vs : List V} (n : Nat), Reps K H M ds vs → Reps K H M (ds.drop n) (vs.drop n)
  | _, _, 0, r => r
  | _, _, _ + 1, .nil => .nil
  | _, _, n + 1, .cons _ t => Reps.drop n t
theorem Rep.same (m : MK H M) (s : Same H H') {d : D} {v : V} (r : Rep K H M d v) : Rep K H' M d v := r.stay m (.of_same s) .refl
theorem Reps.same (m : MK H M) (s : Same H H') (r : Reps K H M ds vs) : Reps K H' M ds vs := r.stay m (.of_same s) .refl
theorem MK.same (m : MK H M) (s : Same H H') : MK H' M := fun a h => by
  have q := m a h
  cases e : H a with
  | none => rw [e] at q; exact q.elim
  | some o => rw [s a o e]; rw [e] at q; exact q
theorem same_upd {p : Addr} {o : HO} (h : H p = none) : Same H (upd H p o) := fun b x e => by
  rw [upd_ne (ne_of_none e h)]; exact e
end
end Pu

set_option Elab.async false
set_option linter.all false
set_option maxRecDepth 100000
namespace Pu
open PySem PySem.Spec PyProof.Rows L2

/-- a slot: nothing known, shared data, an owned list or dict -/
inductive Sl where
  | no
  | sh (d : D)
  | ow (d : D)
abbrev Env := List Sl
abbrev Ev := Env → Option D
section
variable {K : PySem.W.Frag} {H H' H0 : Hp} {M M' : Addr → Prop}
/-- the owned thing at a -/
def Own (K : PySem.W.Frag) (H : Hp) (M : Addr → Prop) : D → Addr → Prop
  | .list ds, a => ∃ vs, H a = some (.lst vs) ∧ Reps K H M ds vs
  | .dict ps, a => (∃ kvs, H a = some (.dK kvs) ∧ RepK K H M ps kvs) ∨ ∃ kvs, H a = some (.dT kvs) ∧ RepT K H M ps kvs
  | _, _ => False
theorem Own.rep {d : D} {a : Addr} (o : Own K H M d a) (n : ¬ M a) : Rep K H M d (.ref a) := by
  cases d with
  | list ds => obtain ⟨vs, h, r⟩ := o; exact .lst (.inl ⟨.inl h, n⟩) r
  | dict ps =>
    rcases o with ⟨kvs, h, r⟩ | ⟨kvs, h, r⟩
    · exact .dK h n r
    · exact .dT h n r
  | _ => exact o.elim
theorem Own.stay {d : D} {a : Addr} (o : Own K H M d a) (m : MK H M) (s : Stay H M H') (n : New H M M') (ha : H' a = H a) : Own K H' M' d a := by
  cases d with
  | list ds => obtain ⟨vs, h, r⟩ := o; exact ⟨vs, ha.trans h, r.stay m s n⟩
  | dict ps =>
    rcases o with ⟨kvs, h, r⟩ | ⟨kvs, h, r⟩
    · exact .inl ⟨kvs, ha.trans h, r.stay m s n⟩
    · exact .inr ⟨kvs, ha.trans h, r.stay m s n⟩
  | _ => exact o.elim
theorem Own.anti {d : D} {a : Addr} (o : Own K H M d a) (s : ∀ a, M' a → M a) : Own K H M' d a := by
  cases d with
  | list ds => obtain ⟨vs, h, r⟩ := o; exact ⟨vs, h, r.anti s⟩
  | dict ps =>
    rcases o with ⟨kvs, h, r⟩ | ⟨kvs, h, r⟩
    · exact .inl ⟨kvs, h, r.anti s⟩
    · exact .inr ⟨kvs, h, r.anti s⟩
  | _ => exact o.elim
theorem Own.mutk {d : D} {a : Addr} (o : Own K H M d a) : Mutk (H a) := by
  cases d with
  | list ds => obtain ⟨vs, h, r⟩ := o; rw [h]; trivial
  | dict ps =>
    rcases o with ⟨kvs, h, r⟩ | ⟨kvs, h, r⟩ <;> (rw [h]; trivial)
  | _ => exact o.elim
theorem Own.some {d : D} {a : Addr} (o : Own K H M d a) : ∃ u, H a = some u := by
  have := o.mutk
  cases e : H a with
  | none => rw [e] at this; exact this.elim
  | some u => exact ⟨u, rfl⟩
theorem Own.same {d : D} {a : Addr} (o : Own K H M d a) (m : MK H M) (s : Same H H') : Own K H' M d a := by
  obtain ⟨u, e⟩ := o.some
  exact o.stay m (.of_same s) .refl ((s a u e).trans e.symm)

/-- borrowed: data, or an owned thing to be read at once -/
def RepB (K : PySem.W.Frag) (H : Hp) (M : Addr → Prop) (d : D) (v : V) : Prop := Rep K H M d v ∨ ∃ a, v = .ref a ∧ Own K H M d a
theorem Rep.b {d : D} {v : V} (r : Rep K H M d v) : RepB K H M d v := .inl r
theorem RepB.same {d : D} {v : V} (r : RepB K H M d v) (m : MK H M) (s : Same H H') : RepB K H' M d v := by
  rcases r with r | ⟨a, e, o⟩
  · exact .inl (r.same m s)
  · exact .inr ⟨a, e, o.same m s⟩
theorem RepB.int {i : Int} {v : V} (r : RepB K H M (.int i) v) : v = .int i := by
  rcases r with r | ⟨a, _, o⟩
  · cases r; rfl
  · exact o.elim
theorem RepB.bl {b : Bool} {v : V} (r : RepB K H M (.bool b) v) : v = .bl b := by
  rcases r with r | ⟨a, _, o⟩
  · cases r; rfl
  · exact o.elim
theorem RepB.str {x : Str} {v : V} (r : RepB K H M (.str x) v) : v = .str x := by
  rcases r with r | ⟨a, _, o⟩
  · cases r; rfl
  · exact o.elim
theorem RepB.non {v : V} (r : RepB K H M .none v) : v = .non := by
  rcases r with r | ⟨a, _, o⟩
  · cases r; rfl
  · exact o.elim
theorem RepB.tup {ds : List D} {v : V} (r : RepB K H M (.tuple ds) v) : ∃ a vs, v = .ref a ∧ SqT K H a vs ∧ Reps K H M ds vs := by
  rcases r with r | ⟨a, _, o⟩
  · cases r with
    | tup h r => exact ⟨_, _, rfl, h, r⟩
  · exact o.elim
theorem RepB.lst {ds : List D} {v : V} (r : RepB K H M (.list ds) v) : ∃ a vs, v = .ref a ∧ SqL K H a vs ∧ Reps K H M ds vs := by
  rcases r with r | ⟨a, e, vs, h, r⟩
  · cases r with
    | lst h r => exact ⟨_, _, rfl, h.sq, r⟩
  · exact ⟨a, vs, e, .of h, r⟩
theorem RepB.dp {d : D} {v : V} (r : RepB K H M d v) (c : d.canLay0 = true) : Dp K H v d := by
  rcases r with r | ⟨a, e, o⟩
  · exact r.dp c
  · subst e
    cases d with
    | list ds => obtain ⟨vs, h, r⟩ := o; exact .lst (.of h) (r.dp (by simpa [PyData.canLay0] using c))
    | dict ps => simp [PyData.canLay0] at c
    | _ => exact o.elim

/-- the entry's heap and its changeable things, the heap and the changeable things now -/
structure EnvOk (K : PySem.W.Frag) (H0 : Hp) (M0 : Addr → Prop) (H : Hp) (M : Addr → Prop) (ρ : Env) (σ : L2.St) : Prop where
  len : ρ.length = σ.length
  same : Same H0 H
  mkh0 : MK H0 M0
  sub : ∀ a, M0 a → M a
  mkh : MK H M
  sh : ∀ (i : Nat) d, ρ[i]? = some (.sh d) → ∃ v, σ[i]? = some (some v) ∧ Rep K H M d v
  ow : ∀ (i : Nat) d, ρ[i]? = some (.ow d) → ∃ a, σ[i]? = some (some (.ref a)) ∧ M a ∧ H0 a = none ∧ Own K H M d a
  ap : ∀ (i j : Nat) d d' a, ρ[i]? = some (.ow d) → ρ[j]? = some (.ow d') → σ[i]? = some (some (.ref a)) → σ[j]? = some (some (.ref a)) → i = j
theorem EnvOk.to {M0 : Addr → Prop} {ρ : Env} {σ : L2.St} (E : EnvOk K H0 M0 H M ρ σ) (s : Same H H') : EnvOk K H0 M0 H' M ρ σ where
  len := E.len
  same := E.same.trans s
  mkh0 := E.mkh0
  sub := E.sub
  mkh := E.mkh.same s
  sh := fun i d h => let ⟨v, e, r⟩ := E.sh i d h; ⟨v, e, r.same E.mkh s⟩
  ow := fun i d h => let ⟨a, e, m, n, o⟩ := E.ow i d h; ⟨a, e, m, n, o.same E.mkh s⟩
  ap := E.ap
/-- M grows by what was free -/
theorem EnvOk.more {M0 : Addr → Prop} {ρ : Env} {σ : L2.St} (E : EnvOk K H0 M0 H M ρ σ) (mk' : MK H' M') (sub : ∀ a, M a → M' a) (st : Stay H M H') (s0 : Same H0 H') (n : New H M M') (hm : ∀ a, M a → H' a = H a) : EnvOk K H0 M0 H' M' ρ σ where
  len := E.len
  same := s0
  mkh0 := E.mkh0
  sub := fun a h => sub a (E.sub a h)
  mkh := mk'
  sh := fun i d h => let ⟨v, e, r⟩ := E.sh i d h; ⟨v, e, r.stay E.mkh st n⟩
  ow := fun i d h => let ⟨a, e, m, n', o⟩ := E.ow i d h; ⟨a, e, sub a m, n', o.stay E.mkh st n (hm a m)⟩
  ap := E.ap
/-- from here to there: what is not changeable stays, what becomes changeable was free -/
structure Step (H : Hp) (M : Addr → Prop) (H' : Hp) (M' : Addr → Prop) : Prop where
  st : Stay H M H'
  nw : New H M M'
theorem Step.refl : Step H M H M := ⟨fun _ _ h _ => h, .refl⟩
theorem Step.of_same (s : Same H H') : Step H M H' M := ⟨.of_same s, .refl⟩
theorem Step.trans {H2 : Hp} {M2 : Addr → Prop} (a : Step H M H' M') (b : Step H' M' H2 M2) : Step H M H2 M2 where
  st := fun x o h n => b.st x o (a.st x o h n) fun m' => by rw [a.nw x m' n] at h; cases h
  nw := fun x m2 n => by
    by_cases m' : M' x
    · exact a.nw x m' n
    · cases e : H x with
      | none => rfl
      | some o => have q := b.nw x m2 m'; rw [a.st x o e n] at q; cases q
end

/-- p besides -/
def plus (M : Addr → Prop) (p : Addr) : Addr → Prop := fun a => M a ∨ a = p
theorem new_plus {H : Hp} {M : Addr → Prop} {p : Addr} (n : H p = none) : New H M (plus M p) := fun a h nm => by
  rcases h with h | h
  · exact absurd h nm
  · rw [h]; exact n
/-! ### expressions -/
def GE (K : PySem.W.Frag) (t : TE) (f : Ev) : Prop := ∀ ⦃H0 : Hp⦄ ⦃M0 : Addr → Prop⦄ ⦃H : Hp⦄ ⦃M : Addr → Prop⦄ ⦃ρ : Env⦄ ⦃σ : L2.St⦄ ⦃Q : VK⦄ ⦃d : D⦄, EnvOk K H0 M0 H M ρ σ → f ρ = some d → (∀ v H', Same H H' → Rep K H' M d v → Q v H') → t σ H Q
def GB (K : PySem.W.Frag) (t : TE) (f : Ev) : Prop := ∀ ⦃H0 : Hp⦄ ⦃M0 : Addr → Prop⦄ ⦃H : Hp⦄ ⦃M : Addr → Prop⦄ ⦃ρ : Env⦄ ⦃σ : L2.St⦄ ⦃Q : VK⦄ ⦃d : D⦄, EnvOk K H0 M0 H M ρ σ → f ρ = some d → (∀ v H', Same H H' → RepB K H' M d v → Q v H') → t σ H Q
def GN (K : PySem.W.Frag) (t : TE) (f : Ev) : Prop := ∀ ⦃H0 : Hp⦄ ⦃M0 : Addr → Prop⦄ ⦃H : Hp⦄ ⦃M : Addr → Prop⦄ ⦃ρ : Env⦄ ⦃σ : L2.St⦄ ⦃Q : VK⦄ ⦃d : D⦄, EnvOk K H0 M0 H M ρ σ → f ρ = some d → (∀ p H', H p = none → Same H H' → Own K H' (plus M p) d p → Q (.ref p) H') → t σ H Q
structure EE (X : Cx) (e : Expr) (t : TE) (f : Ev) : Prop where
  pe : PE X e t
  g : GE X.K t f
structure EB (X : Cx) (e : Expr) (t : TE) (f : Ev) : Prop where
  pe : PE X e t
  g : GB X.K t f
structure EN (X : Cx) (e : Expr) (t : TE) (f : Ev) : Prop where
  pe : PE X e t
  g : GN X.K t f
section
variable {X : Cx} {e : Expr} {t : TE} {f : Ev}
theorem EE.b (h : EE X e t f) : EB X e t f := ⟨h.pe, fun H0 M0 H M ρ σ Q d E hf q => h.g E hf fun v H' s r => q v H' s r.b⟩
theorem EN.toE (h : EN X e t f) : EE X e t f := ⟨h.pe, fun H0 M0 H M ρ σ Q d E hf q => h.g E hf fun p H' n s o => q _ H' s ((o.anti fun a h => .inl h).rep fun m => E.mkh.some m n)⟩
theorem EN.b (h : EN X e t f) : EB X e t f := h.toE.b

def vr (i : Nat) : Ev := fun ρ => match ρ[i]? with
  | some (.sh d) => some d
  | _ => none
def vb (i : Nat) : Ev := fun ρ => match ρ[i]? with
  | some (.sh d) => some d
  | some (.ow d) => some d
  | _ => none
def cst (d : D) : Ev := fun _ => some d
theorem g_vr {K : PySem.W.Frag} (i : Nat) : GE K (tVar i) (vr i) := fun H0 M0 H M ρ σ Q d E hf q => by
  unfold vr at hf
  split at hf
  · rename_i d' h
    cases hf
    obtain ⟨v, e, r⟩ := E.sh i _ h
    exact ⟨v, e, q v H (Same.refl H) r⟩
  · cases hf
theorem g_vb {K : PySem.W.Frag} (i : Nat) : GB K (tVar i) (vb i) := fun H0 M0 H M ρ σ Q d E hf q => by
  unfold vb at hf
  split at hf
  · rename_i d' h
    cases hf
    obtain ⟨v, e, r⟩ := E.sh i _ h
    exact ⟨v, e, q v H (Same.refl H) r.b⟩
  · rename_i d' h
    cases hf
    obtain ⟨a, e, _, _, o⟩ := E.ow i _ h
    exact ⟨_, e, q _ H (Same.refl H) (.inr ⟨a, rfl, o⟩)⟩
  · cases hf
theorem ev (i : Nat) {x : Str} {pos : Pos} (hN : X.N[i]? = some x := by rfl) (hv : Vis X.env.scope x := by first | exact Or.inl rfl | exact Or.inr (Or.inl rfl) | exact Or.inr (Or.inr rfl)) (hd : (x == ("__debug__" : Str)) = false := by decide)
    (hcd : (x == ("__classdict__" : Str)) = false := by decide) : EE X (.Name x pos) (tVar i) (vr i) := ⟨pe_var hN hv hd hcd, g_vr i⟩
theorem bv (i : Nat) {x : Str} {pos : Pos} (hN : X.N[i]? = some x := by rfl) (hv : Vis X.env.scope x := by first | exact Or.inl rfl | exact Or.inr (Or.inl rfl) | exact Or.inr (Or.inr rfl)) (hd : (x == ("__debug__" : Str)) = false := by decide)
    (hcd : (x == ("__classdict__" : Str)) = false := by decide) : EB X (.Name x pos) (tVar i) (vb i) := ⟨pe_var hN hv hd hcd, g_vb i⟩
theorem g_cst {K : PySem.W.Frag} {v : V} {d : D} (h : ∀ H M, Rep K H M d v) : GE K (tC v) (cst d) := fun H0 M0 H M ρ σ Q d' E hf q => by
  have e : d = d' := Option.some.inj hf
  subst e
  exact q v H (Same.refl H) (h H M)
theorem e_int {i : Int} {j : Nat} {pos : Pos} : EE X (.Constant (.int i) j pos) (tC (.int i)) (cst (.int i)) := ⟨pe_int, g_cst fun _ _ => .int i⟩
theorem e_bl {b : Bool} {j : Nat} {pos : Pos} : EE X (.Constant (.bool b) j pos) (tC (.bl b)) (cst (.bool b)) := ⟨pe_bl, g_cst fun _ _ => .bl b⟩
theorem e_non {j : Nat} {pos : Pos} : EE X (.Constant .none j pos) (tC .non) (cst .none) := ⟨pe_non, g_cst fun _ _ => .non⟩
theorem e_str {x : Str} {j : Nat} {pos : Pos} : EE X (.Constant (.str x) j pos) (tC (.str x)) (cst (.str x)) := ⟨pe_str, g_cst fun _ _ => .str x⟩
/-- a constant of the module -/
theorem e_glob {x : Str} {v : V} {u : Value} {pos : Pos} {d : D} (hg : Gl X x) (hm : X.mg x = some u) (r : RelV v u) (hr : ∀ H M, Rep X.K H M d v) (hd : (x == ("__debug__" : Str)) = false := by decide) : EE X (.Name x pos) (tC v) (cst d) :=
  ⟨pe_glob hg hm r hd, g_cst hr⟩
end

/-! ### two in a row -/
def bn (op : D → D → Option D) (f g : Ev) : Ev := fun ρ => (f ρ).bind fun x => (g ρ).bind fun y => op x y
def un (op : D → Option D) (f : Ev) : Ev := fun ρ => (f ρ).bind op
theorem bind_some {α β : Type} {o : Option α} {k : α → Option β} {b : β} (h : o.bind k = some b) : ∃ a, o = some a ∧ k a = some b := by
  cases o with
  | none => cases h
  | some a => exact ⟨a, rfl, h⟩
/-- what a rule by values r does is told by op -/
def Does2 (K : PySem.W.Frag) (r : R2) (op : D → D → Option D) : Prop := ∀ ⦃H : Hp⦄ ⦃M : Addr → Prop⦄ ⦃x y : V⦄ ⦃a b d : D⦄ ⦃Q : VK⦄, MK H M → RepB K H M a x → RepB K H M b y → op a b = some d → (∀ v H', Same H H' → Rep K H' M d v → Q v H') → r x y H Q
def Does2N (K : PySem.W.Frag) (r : R2) (op : D → D → Option D) : Prop := ∀ ⦃H : Hp⦄ ⦃M : Addr → Prop⦄ ⦃x y : V⦄ ⦃a b d : D⦄ ⦃Q : VK⦄, MK H M → RepB K H M a x → RepB K H M b y → op a b = some d → (∀ p H', H p = none → Same H H' → Own K H' (plus M p) d p → Q (.ref p) H') → r x y H Q
theorem g_op {K : PySem.W.Frag} {r : R2} {op : D → D → Option D} {ta tb : TE} {f g : Ev} (h : Does2 K r op) (ha : GB K ta f) (hb : GB K tb g) : GE K (tOp r ta tb) (bn op f g) := fun H0 M0 H M ρ σ Q d E hf q => by
  obtain ⟨a, e1, hf⟩ := bind_some hf
  obtain ⟨b, e2, hf⟩ := bind_some hf
  refine ha E e1 fun x H1 s1 r1 => ?_
  refine hb (E.to s1) e2 fun y H2 s2 r2 => ?_
  exact h ((E.mkh.same s1).same s2) (r1.same (E.mkh.same s1) s2) r2 hf fun v H' s r => q v H' (s1.trans (s2.trans s)) r
theorem g_opN {K : PySem.W.Frag} {r : R2} {op : D → D → Option D} {ta tb : TE} {f g : Ev} (h : Does2N K r op) (ha : GB K ta f) (hb : GB K tb g) : GN K (tOp r ta tb) (bn op f g) := fun H0 M0 H M ρ σ Q d E hf q => by
  obtain ⟨a, e1, hf⟩ := bind_some hf
  obtain ⟨b, e2, hf⟩ := bind_some hf
  refine ha E e1 fun x H1 s1 r1 => ?_
  refine hb (E.to s1) e2 fun y H2 s2 r2 => ?_
  exact h ((E.mkh.same s1).same s2) (r1.same (E.mkh.same s1) s2) r2 hf fun p H' n s r => q p H' (s1.free (s2.free n)) (s1.trans (s2.trans s)) r
section
variable {X : Cx} {a b c : Expr} {ta tb tc : TE} {f g k : Ev} {pos : Pos} {r r' : R2} {op' op'' : D → D → Option D}
theorem e_op {o : Operator} (h1 : OpR X (binaryOp o) r) (h2 : Does2 X.K r op') (ha : EB X a ta f) (hb : EB X b tb g) : EE X (.BinOp a o b pos) (tOp r ta tb) (bn op' f g) := ⟨pe_op h1 ha.pe hb.pe, g_op h2 ha.g hb.g⟩
theorem n_op {o : Operator} (h1 : OpR X (binaryOp o) r) (h2 : Does2N X.K r op') (ha : EB X a ta f) (hb : EB X b tb g) : EN X (.BinOp a o b pos) (tOp r ta tb) (bn op' f g) := ⟨pe_op h1 ha.pe hb.pe, g_opN h2 ha.g hb.g⟩
theorem e_cmp {o : CmpOp} (h1 : OpR X (compareOp o) r) (h2 : Does2 X.K r op') (ha : EB X a ta f) (hb : EB X b tb g) (hm : behindInMarks o b = false := by first | exact nomark _ | rfl) : EE X (.Compare a [o] [b] pos) (tOp r ta tb) (bn op' f g) := ⟨pe_cmpR h1 ha.pe hb.pe hm, g_op h2 ha.g hb.g⟩
/-- a chain of two comparisons -/
def chn (op op' : D → D → Option D) (f g k : Ev) : Ev := fun ρ => (f ρ).bind fun x => (g ρ).bind fun y => match op x y with
  | some (.bool true) => (k ρ).bind fun z => op' y z
  | some (.bool false) => some (.bool false)
  | _ => none
theorem e_chain {o o' : CmpOp} (h1 : OpR X (compareOp o) r) (h1' : OpR X (compareOp o') r') (h2 : Does2 X.K r op') (h2' : Does2 X.K r' op'') (ha : EB X a ta f) (hb : EB X b tb g) (hc : EB X c tc k) (hm : lastMarks [o, o'] [b, c] = false := by with_unfolding_all rfl) : EE X (.Compare a [o, o'] [b, c] pos) (tChain r r' ta tb tc) (chn op' op'' f g k) :=
  ⟨pe_chain h1 h1' ha.pe hb.pe hc.pe hm, fun H0 M0 H M ρ σ Q d E hf q => by
    obtain ⟨x, e1, hf⟩ := bind_some hf
    obtain ⟨y, e2, hf⟩ := bind_some hf
    refine ha.g E e1 fun v H1 s1 r1 => hb.g (E.to s1) e2 fun u H2 s2 r2 => ?_
    have m2 := (E.mkh.same s1).same s2
    split at hf
    · rename_i e3
      refine h2 m2 (r1.same (E.mkh.same s1) s2) r2 e3 fun w H3 s3 r3 => ?_
      obtain ⟨z, e4, hf⟩ := bind_some hf
      cases r3
      refine ⟨true, rfl, ?_⟩
      rw [if_pos rfl]
      refine hc.g ((E.to s1).to (s2.trans s3)) e4 fun w' H4 s4 r4 => ?_
      exact h2' ((m2.same s3).same s4) (r2.same m2 (s3.trans s4)) r4 hf fun v' H' s r => q v' H' (s1.trans (s2.trans (s3.trans (s4.trans s)))) r
    · rename_i e3
      cases hf
      refine h2 m2 (r1.same (E.mkh.same s1) s2) r2 e3 fun w H3 s3 r3 => ?_
      cases r3
      refine ⟨false, rfl, ?_⟩
      rw [if_neg Bool.false_ne_true]
      exact q _ H3 (s1.trans (s2.trans s3)) (.bl false)
    · cases hf⟩
end
end Pu

set_option Elab.async false
set_option linter.all false
set_option maxRecDepth 100000
namespace Pu
open PySem PySem.Spec PyProof.Rows L2

/-! ### operators by values -/
def intsOp (g : Int → Int → D) : D → D → Option D
  | .int i, .int j => some (g i j)
  | _, _ => none
def intsOpC (C : Int → Int → Bool) (g : Int → Int → D) : D → D → Option D
  | .int i, .int j => if C i j = true then some (g i j) else none
  | _, _ => none
def subD : D → D → Option D
  | .int i, .int j => some (.int (i - j))
  | .bool a, .bool b => some (.int (b2i a - b2i b))
  | _, _ => none
/-- products where one side is below 2 ^ 64 -/
def mulOk (i j : Int) : Bool := decide (i.natAbs < 2 ^ 64) || decide (j.natAbs < 2 ^ 64)
def divOk (j : Int) : Bool := decide (j ≠ 0) && decide (j.natAbs < 1073741824)
def fdivD : D → D → Option D := intsOpC (fun _ j => divOk j) fun i j => .int (i.fdiv j)
def modD : D → D → Option D := intsOpC (fun _ j => decide (j ≠ 0)) fun i j => .int (i.fmod j)
def powOk (i j : Int) : Bool := decide (0 ≤ j) && decide (j ≤ 1000000) && decide (i.natAbs < 2 ^ 64)
def powD : D → D → Option D := intsOpC powOk fun i j => .int (i ^ j.toNat)
def shlD : D → D → Option D := intsOpC powOk fun i j => .int (i * 2 ^ j.toNat)
def shrD : D → D → Option D := intsOpC (fun _ j => decide (0 ≤ j)) fun i j => .int (i / 2 ^ j.toNat)
def bandD : D → D → Option D := intsOp fun i j => .int (Builtin.bitAnd i j)
def borD : D → D → Option D := intsOp fun i j => .int (Builtin.bitOr i j)
def addD : D → D → Option D
  | .int i, .int j => some (.int (i + j))
  | .str x, .str y => if x.length + y.length ≤ sizeLine then some (.str (x ++ y)) else none
  | .tuple xs, .tuple ys => if xs.length + ys.length ≤ sizeLine then some (.tuple (xs ++ ys)) else none
  | _, _ => none
def addL : D → D → Option D
  | .list xs, .list ys => if xs.length + ys.length ≤ sizeLine then some (.list (xs ++ ys)) else none
  | _, _ => none
def repS (x : Str) (n : Nat) : Str := ⟨(List.replicate n x.cps).foldl (· ++ ·) #[]⟩
def mulD : D → D → Option D
  | .int i, .int j => if mulOk i j = true then some (.int (i * j)) else none
  | .str x, .int n => if n ≤ 1000 ∧ -(2 ^ 62) < n ∧ x.length ≤ 1000 then some (.str (if n < 1 then Str.empty else if (n == 1 || x.length == 0) = true then x else repS x n.toNat)) else none
  | .tuple xs, .int k => if xs ≠ [] ∧ 2 ≤ k ∧ k ≤ 1000 ∧ xs.length ≤ 1000 then some (.tuple (List.replicate k.toNat xs).flatten) else none
  | _, _ => none
def mulL : D → D → Option D
  | .list xs, .int k => if -(2 ^ 62) < k ∧ k < 2 ^ 62 ∧ xs.length * k.toNat ≤ 2 ^ 24 then some (.list (List.replicate k.toNat xs).flatten) else none
  | _, _ => none

section
variable {X : Cx}
theorem op_sub_bb : OpR X (binaryOp .Sub) (fun x y H Q => ∃ a b, x = .bl a ∧ y = .bl b ∧ Q (.int (b2i a - b2i b)) H) := by
  intro pins s σ H x y v u Q I rx ry h
  obtain ⟨a, b, rfl, rfl, q⟩ := h
  cases (show v = Value.bool a from rx)
  cases (show u = Value.bool b from ry)
  exact sub_bool ⟨.int _, H, I.tok _, ⟨_, rfl⟩, q⟩
/-- lists of any standing put together -/
def rCatL (K : PySem.W.Frag) : R2 := fun x y H Q => ∃ a b xs zs, x = .ref a ∧ y = .ref b ∧ SqL K H a xs ∧ SqL K H b zs ∧ xs.length + zs.length ≤ sizeLine ∧ ∀ p, H p = none → Q (.ref p) (upd H p (.lst (xs ++ zs)))
theorem op_catL : OpR X (binaryOp .Add) (rCatL X.K) := by
  intro pins s σ H x y v u Q I rx ry h
  obtain ⟨a, b, xs, zs, rfl, rfl, ha, hb, hz, q⟩ := h
  cases rx
  cases ry
  obtain ⟨vs, r1, ⟨⟨cls, dd, data, sl⟩, n, ho, hc, _, hd⟩, l1⟩ := I.list ha
  obtain ⟨ws, r2, ⟨⟨cls2, dd2, data2, sl2⟩, n2, ho2, hc2, _, hd2⟩, l2⟩ := I.list hb
  simp only at hc hd hc2 hd2
  subst hc hd hc2 hd2
  have e : vs.toArray ++ ws.toArray = (vs ++ ws).toArray := by simp
  have h1 := r1.length
  have h2 := r2.length
  refine concat_meets ⟨_, ho, rfl⟩ ⟨_, ho2, rfl⟩ noFill_list_add seq_list_add PySem.F.slot_list_add PySem.F.entry_list_add (PySem.F.args_list_add_2 _ _)
    (list_addW a b vs.toArray ws.toArray n n2 dd dd2 sl sl2 (by simp only [List.size_toArray]; omega)) ⟨ho, ho2, ?_⟩
  rw [e]
  exact ⟨.ref _, _, I.lnew (t' := s.toks) (r1.append r2) (by rw [List.length_append]; omega), rfl, q _ I.fresh⟩
def rRepL (K : PySem.W.Frag) : R2 := fun x y H Q => ∃ a xs k, x = .ref a ∧ y = .int k ∧ SqL K H a xs ∧ -(2 ^ 62) < k ∧ k < 2 ^ 62 ∧ xs.length * k.toNat ≤ 2 ^ 24 ∧ ∀ p, H p = none → Q (.ref p) (upd H p (.lst (List.replicate k.toNat xs).flatten))
theorem op_repL : OpR X (binaryOp .Mult) (rRepL X.K) := by
  intro pins s σ H x y v u Q I rx ry h
  obtain ⟨a, xs, k, rfl, rfl, ha, k1, k2, hz, q⟩ := h
  cases rx
  obtain ⟨t, rfl⟩ := ry
  obtain ⟨vs, r1, ⟨⟨cls, dd, data, sl⟩, n, ho, hc, _, hd⟩, l1⟩ := I.list ha
  simp only at hc hd
  subst hc hd
  have hl := r1.length
  have hsz' : vs.toArray.size * k.toNat ≤ 2 ^ 24 := by rw [List.size_toArray, ← hl]; exact hz
  refine wpAny_binaryOp_repeat_ref (T := "list") (U := "int") (by decide) ⟨_, ho, rfl⟩ (fun s' => typeIs_int s' k t) noFill_list_mul PySem.F.fills_int_mul PySem.F.slot_int_rmul repeat_list PySem.F.slot_int_index.lookup
    (call_meets PySem.F.slot_int_rmul (typeIs_int s k t) PySem.F.entry_int_rmul (PySem.F.args_int_rmul_2 _ _) (lm_int_rmul_list_any k t a vs.toArray n dd sl)
      ⟨ho, rfl, ⟨_, ho, rfl⟩, call_meets PySem.F.slot_list_mul ⟨_, ho, rfl⟩ PySem.F.entry_list_mul (PySem.F.args_list_mul_2 _ _)
        (lm_list_mul_any a vs.toArray n dd sl k t (by simp [Builtin.List.listFitsIndex]; omega) (by omega) (by simp [Builtin.List.listTooLong, sizeLine]; omega))
        ⟨ho, ?_⟩⟩)
  rw [listMul_foldl_if]
  exact ⟨.ref _, _, I.lnew (t' := s.toks) (r1.rep k.toNat) (by rw [PyProof.Rows.lm_len_rep_flat, sizeLine_eq, Nat.mul_comm]; omega), rfl, q _ I.fresh⟩
theorem op_mul_str : OpR X (binaryOp .Mult) (fun x y H Q => ∃ z n, x = .str z ∧ y = .int n ∧ n ≤ 1000 ∧ -(2 ^ 62) < n ∧ z.length ≤ 1000 ∧ Q (.str (if n < 1 then Str.empty else if (n == 1 || z.length == 0) = true then z else repS z n.toNat)) H) := by
  intro pins s σ H x y v u Q I rx ry h
  obtain ⟨z, n, rfl, rfl, n1, n2, hz, q⟩ := h
  obtain ⟨t, rfl⟩ := rx
  obtain ⟨t', rfl⟩ := ry
  have hn : (decide (n < -(2 ^ 63 : Int)) || decide (n ≥ 2 ^ 63)) = false := by rw [decide_eq_false (by omega), decide_eq_false (by omega)]; rfl
  refine PySem.P.mul_str hn (fun h1 _ => ?_) (fun h1 _ => ?_) ?_
  · have : (1000 : Int) ≤ (2 ^ 63 - 1) / n := by
      rw [Int.le_ediv_iff_mul_le (by omega)]; omega
    omega
  · have a1 : z.length * n.toNat ≤ 1000 * 1000 := Nat.mul_le_mul hz (by omega)
    unfold Builtin.Str.tooLong
    simp only [decide_eq_false_iff_not, sizeLine_eq]
    omega
  · split
    · rename_i h1
      rw [if_pos h1] at q
      exact ⟨by decide, ⟨.str Str.empty, H, I.tok _, ⟨_, rfl⟩, q⟩⟩
    · rename_i h1
      rw [if_neg h1] at q
      split
      · rename_i h2
        rw [if_pos h2] at q
        exact ⟨.str z, H, I, ⟨_, rfl⟩, q⟩
      · rename_i h2
        rw [if_neg h2] at q
        refine ⟨?_, ⟨.str _, H, I.tok _, ⟨_, rfl⟩, q⟩⟩
        have e1 : ∀ (m : Nat) (a : Array Nat), ((List.replicate m z.cps).foldl (· ++ ·) a).size = a.size + m * z.cps.size := by
          intro m
          induction m with
          | zero => intro a; simp
          | succ m ih => intro a; rw [List.replicate_succ, List.foldl_cons, ih, Array.size_append, Nat.succ_mul]; omega
        show ((List.replicate n.toNat z.cps).foldl (· ++ ·) #[]).size ≤ sizeLine
        rw [e1]
        have a1 : n.toNat * z.cps.size ≤ 1000 * 1000 := Nat.mul_le_mul (by omega) hz
        rw [sizeLine_eq]
        simp only [List.size_toArray, List.length_nil]
        omega
/-- < of alike data -/
def rLtA (K : PySem.W.Frag) : R2 := fun x y H Q => ∃ d e, Dp K H x d ∧ Dp K H y e ∧ PySem.W.alike d e = true ∧ d ≠ .none ∧ d.depth ≤ 60 ∧ Q (.bl (PySem.W.dataLt d e)) H
theorem op_ltA (hu : X.A.units + 64 < cLine) : OpR X (compareOp .Lt) (rLtA X.K) := by
  intro pins s σ H x y v u Q I rx ry h
  obtain ⟨d, e, hd, he, al, nn, dp, q⟩ := h
  obtain ⟨as, r1⟩ := Dp.reads I d x v hd rx
  obtain ⟨bs, r2⟩ := Dp.reads I e y u he ry
  exact PySem.W.rcLt_alike d e X.A s v u as bs r1 r2 al nn (by have := Nat.min_le_left d.depth e.depth; omega) _ _ _ _ ⟨.bl _, H, I, rfl, q⟩
/-- in a tuple, data at any depth -/
def rInT (K : PySem.W.Frag) (neg : Bool) : R2 := fun x y H Q => ∃ d ds, Dp K H x d ∧ Dp K H y (.tuple ds) ∧ SeqAt.shaped d = true ∧ SeqAt.shaped (.tuple ds) = true ∧ Q (.bl (if neg then !(ds.any fun z => PyData.eqv z d) else ds.any fun z => PyData.eqv z d)) H
theorem op_inT (hu : X.A.units + 65 < cLine) : OpR X (compareOp .In) (rInT X.K false) := by
  intro pins s σ H x y v u Q I rx ry h
  obtain ⟨d, ds, hd, he, sd, se, q⟩ := h
  obtain ⟨as, r1⟩ := Dp.reads I d x v hd rx
  obtain ⟨bs, r2⟩ := Dp.reads I (.tuple ds) y u he ry
  exact SeqAt.in_tuple_reads r2 r1 (SeqAt.canLay_of_shaped se) (SeqAt.canLay_of_shaped sd) (room_in_shaped sd hu) ⟨.bl _, H, I, rfl, q⟩
theorem op_notInT (hu : X.A.units + 65 < cLine) : OpR X (compareOp .NotIn) (rInT X.K true) := by
  intro pins s σ H x y v u Q I rx ry h
  obtain ⟨d, ds, hd, he, sd, se, q⟩ := h
  obtain ⟨as, r1⟩ := Dp.reads I d x v hd rx
  obtain ⟨bs, r2⟩ := Dp.reads I (.tuple ds) y u he ry
  exact SeqAt.notIn_tuple_reads r2 r1 (SeqAt.canLay_of_shaped se) (SeqAt.canLay_of_shaped sd) (room_in_shaped sd hu) ⟨.bl _, H, I, rfl, q⟩
end
end Pu

set_option Elab.async false
set_option linter.all false
set_option maxRecDepth 100000
namespace Pu
open PySem PySem.Spec PyProof.Rows L2

/-! ### ints -/
theorem does_ints {K : PySem.W.Frag} {g : Int → Int → V} {g' : Int → Int → D} (h : ∀ i j H M, Rep K H M (g' i j) (g i j)) : Does2 K (rI0 g) (intsOp g') := fun H M x y a b d Q m ra rb e q => by
  cases a <;> cases b <;> first | (simp [intsOp] at e; done) | skip
  simp only [intsOp, Option.some.injEq] at e
  subst e
  exact ⟨_, _, ra.int, rb.int, q _ H (Same.refl H) (h _ _ _ _)⟩
theorem does_intsC {K : PySem.W.Frag} {C : Int → Int → Prop} {C' : Int → Int → Bool} {g : Int → Int → V} {g' : Int → Int → D} (hc : ∀ i j, C' i j = true → C i j) (h : ∀ i j H M, Rep K H M (g' i j) (g i j)) : Does2 K (rI C g) (intsOpC C' g') := fun H M x y a b d Q m ra rb e q => by
  cases a <;> cases b <;> first | (simp [intsOpC] at e; done) | skip
  unfold intsOpC at e
  simp only at e
  split at e
  · rename_i hcc
    cases e
    exact ⟨_, _, ra.int, rb.int, hc _ _ hcc, q _ H (Same.refl H) (h _ _ _ _)⟩
  · cases e
theorem mulOk_C {i j : Int} (h : mulOk i j = true) : CMul i j := by
  unfold mulOk at h
  simp only [Bool.or_eq_true, decide_eq_true_eq] at h
  unfold CMul
  omega
theorem divOk_C {i j : Int} (h : divOk j = true) : CDivN i j := by
  unfold divOk at h
  simp only [Bool.and_eq_true, decide_eq_true_eq] at h
  exact h
theorem powOk_C {i j : Int} (h : powOk i j = true) : CPow i j := by
  unfold powOk at h
  simp only [Bool.and_eq_true, decide_eq_true_eq] at h
  exact ⟨h.1.1, h.1.2, h.2⟩
section
variable {K : PySem.W.Frag}
theorem does_fdiv : Does2 K (rI CDivN fun i j => .int (i.fdiv j)) fdivD := does_intsC (fun _ _ h => divOk_C h) fun _ _ _ _ => .int _
theorem does_mod : Does2 K (rI (fun _ j => j ≠ 0) fun i j => .int (i.fmod j)) modD := does_intsC (fun _ _ h => of_decide_eq_true h) fun _ _ _ _ => .int _
theorem does_pow : Does2 K (rI CPow fun i j => .int (i ^ j.toNat)) powD := does_intsC (fun _ _ h => powOk_C h) fun _ _ _ _ => .int _
theorem does_shl : Does2 K (rI CPow fun i j => .int (i * 2 ^ j.toNat)) shlD := does_intsC (fun _ _ h => powOk_C h) fun _ _ _ _ => .int _
theorem does_shr : Does2 K (rI (fun _ j => 0 ≤ j) fun i j => .int (i / 2 ^ j.toNat)) shrD := does_intsC (fun _ _ h => of_decide_eq_true h) fun _ _ _ _ => .int _
theorem does_band : Does2 K (rI0 fun i j => .int (Builtin.bitAnd i j)) bandD := does_ints fun _ _ _ _ => .int _
theorem does_bor : Does2 K (rI0 fun i j => .int (Builtin.bitOr i j)) borD := does_ints fun _ _ _ _ => .int _
/-! ### +, -, * of several kinds -/
def rAddD (K : PySem.W.Frag) : R2 := fun x y H Q => (rI0 (fun i j => .int (i + j)) x y H Q) ∨ ((∃ i j, x = .str i ∧ y = .str j ∧ i.length + j.length ≤ sizeLine ∧ Q (.str (i ++ j)) H) ∨ rCatA K x y H Q)
theorem does_add : Does2 K (rAddD K) addD := fun H M x y a b d Q m ra rb e q => by
  unfold addD at e
  split at e
  · cases e
    exact .inl ⟨_, _, ra.int, rb.int, q _ H (Same.refl H) (.int _)⟩
  · split at e
    · rename_i hz
      cases e
      exact .inr (.inl ⟨_, _, ra.str, rb.str, hz, q _ H (Same.refl H) (.str _)⟩)
    · cases e
  · split at e
    · rename_i hz
      cases e
      obtain ⟨a1, vs, rfl, h1, r1⟩ := ra.tup
      obtain ⟨b1, us, rfl, h2, r2⟩ := rb.tup
      refine .inr (.inr ⟨_, _, vs, us, rfl, rfl, h1, h2, by rw [← r1.length, ← r2.length]; exact hz, fun e1 => ?_, fun _ e2 => ?_, fun _ _ p np => ?_⟩)
      · subst e1
        cases r1
        exact q _ H (Same.refl H) (.tup h2 r2)
      · subst e2
        cases r2
        rw [List.append_nil] at q
        exact q _ H (Same.refl H) (.tup h1 r1)
      · have s := same_upd (o := .tup (vs ++ us)) np
        exact q _ _ s (.tup (.of upd_same) ((r1.append r2).same m s))
    · cases e
  · cases e
def rSubD : R2 := fun x y H Q => (rI0 (fun i j => .int (i - j)) x y H Q) ∨ (∃ a b, x = .bl a ∧ y = .bl b ∧ Q (.int (b2i a - b2i b)) H)
theorem does_sub : Does2 K rSubD subD := fun H M x y a b d Q m ra rb e q => by
  unfold subD at e
  split at e
  · cases e
    exact .inl ⟨_, _, ra.int, rb.int, q _ H (Same.refl H) (.int _)⟩
  · cases e
    exact .inr ⟨_, _, ra.bl, rb.bl, q _ H (Same.refl H) (.int _)⟩
  · cases e
theorem reps_rep {H : Hp} {M : Addr → Prop} {ds : List D} {vs : List V} (r : Reps K H M ds vs) : ∀ n : Nat, Reps K H M (List.replicate n ds).flatten (List.replicate n vs).flatten
  | 0 => .nil
  | n + 1 => by rw [List.replicate_succ, List.replicate_succ, List.flatten_cons, List.flatten_cons]; exact r.append (reps_rep r n)
def rMulS : R2 := fun x y H Q => ∃ z n, x = .str z ∧ y = .int n ∧ n ≤ 1000 ∧ -(2 ^ 62) < n ∧ z.length ≤ 1000 ∧ Q (.str (if n < 1 then Str.empty else if (n == 1 || z.length == 0) = true then z else repS z n.toNat)) H
def rMulD (K : PySem.W.Frag) : R2 := fun x y H Q => (rI CMul (fun i j => .int (i * j)) x y H Q) ∨ (rMulS x y H Q ∨ rRepT K x y H Q)
theorem does_mul : Does2 K (rMulD K) mulD := fun H M x y a b d Q m ra rb e q => by
  unfold mulD at e
  split at e
  · split at e
    · rename_i hc
      cases e
      exact .inl ⟨_, _, ra.int, rb.int, mulOk_C hc, q _ H (Same.refl H) (.int _)⟩
    · cases e
  · split at e
    · rename_i hc
      cases e
      exact .inr (.inl ⟨_, _, ra.str, rb.int, hc.1, hc.2.1, hc.2.2, q _ H (Same.refl H) (.str _)⟩)
    · cases e
  · split at e
    · rename_i hc
      cases e
      obtain ⟨a1, vs, rfl, h1, r1⟩ := ra.tup
      refine .inr (.inr ⟨_, _, vs, rfl, rb.int, h1, fun z => ?_, hc.2.1, hc.2.2.1, by rw [← r1.length]; exact hc.2.2.2, fun p np => ?_⟩)
      · subst z
        cases r1
        exact hc.1 rfl
      · exact q _ _ (same_upd np) (.tup (.of upd_same) ((reps_rep r1 _).same m (same_upd np)))
    · cases e
  · cases e
theorem does_addL : Does2N K (rCatL K) addL := fun H M x y a b d Q m ra rb e q => by
  unfold addL at e
  split at e
  · split at e
    · rename_i hz
      cases e
      obtain ⟨a1, vs, rfl, h1, r1⟩ := ra.lst
      obtain ⟨b1, us, rfl, h2, r2⟩ := rb.lst
      refine ⟨_, _, vs, us, rfl, rfl, h1, h2, by rw [← r1.length, ← r2.length]; exact hz, fun p np => ?_⟩
      have s := same_upd (o := .lst (vs ++ us)) np
      exact q _ _ np s ⟨_, upd_same, (r1.append r2).stay m (.of_same s) (new_plus np)⟩
    · cases e
  · cases e
theorem does_mulL : Does2N K (rRepL K) mulL := fun H M x y a b d Q m ra rb e q => by
  unfold mulL at e
  split at e
  · split at e
    · rename_i hc
      cases e
      obtain ⟨a1, vs, rfl, h1, r1⟩ := ra.lst
      refine ⟨_, vs, _, rfl, rb.int, h1, hc.1, hc.2.1, by rw [← r1.length]; exact hc.2.2, fun p np => ?_⟩
      exact q _ _ np (same_upd np) ⟨_, upd_same, (reps_rep r1 _).stay m (.of_same (same_upd np)) (new_plus np)⟩
    · cases e
  · cases e
/-! ### comparisons -/
def eqD (a b : D) : Option D := if (SeqAt.shaped a && SeqAt.shaped b) = true then some (.bool (PyData.eqv a b)) else none
def neD (a b : D) : Option D := if (SeqAt.shaped a && SeqAt.shaped b) = true then some (.bool (!PyData.eqv a b)) else none
theorem does_eq : Does2 K (rEqD K) eqD := fun H M x y a b d Q m ra rb e q => by
  unfold eqD at e
  split at e
  · rename_i hc
    cases e
    rw [Bool.and_eq_true] at hc
    exact ⟨a, b, ra.dp (SeqAt.canLay_of_shaped hc.1), rb.dp (SeqAt.canLay_of_shaped hc.2), hc.1, hc.2, q _ H (Same.refl H) (.bl _)⟩
  · cases e
theorem does_ne : Does2 K (rNeD K) neD := fun H M x y a b d Q m ra rb e q => by
  unfold neD at e
  split at e
  · rename_i hc
    cases e
    rw [Bool.and_eq_true] at hc
    exact ⟨a, b, ra.dp (SeqAt.canLay_of_shaped hc.1), rb.dp (SeqAt.canLay_of_shaped hc.2), hc.1, hc.2, q _ H (Same.refl H) (.bl _)⟩
  · cases e
def isNon : D → Bool
  | .none => true
  | _ => false
theorem isNon_of {d : D} (h : isNon d = false) : d ≠ .none := fun e => by subst e; cases h
def ltD : D → D → Option D
  | .int i, .int j => some (.bool (decide (i < j)))
  | a, b => if (a.canLay0 && b.canLay0 && PySem.W.alike a b && decide (a.depth ≤ 60) && !isNon a) = true then some (.bool (PySem.W.dataLt a b)) else none
def rLtD (K : PySem.W.Frag) : R2 := fun x y H Q => (rI0 (fun i j => .bl (decide (i < j))) x y H Q) ∨ rLtA K x y H Q
theorem does_lt : Does2 K (rLtD K) ltD := fun H M x y a b d Q m ra rb e q => by
  unfold ltD at e
  split at e
  · cases e
    exact .inl ⟨_, _, ra.int, rb.int, q _ H (Same.refl H) (.bl _)⟩
  · split at e
    · rename_i hc
      cases e
      simp only [Bool.and_eq_true, decide_eq_true_eq, Bool.not_eq_true'] at hc
      exact .inr ⟨a, b, ra.dp hc.1.1.1.1, rb.dp hc.1.1.1.2, hc.1.1.2, isNon_of hc.2, hc.1.2, q _ H (Same.refl H) (.bl _)⟩
    · cases e
def leD : D → D → Option D := intsOp fun i j => .bool (decide (i ≤ j))
def gtD : D → D → Option D := intsOp fun i j => .bool (decide (j < i))
def geD : D → D → Option D := intsOp fun i j => .bool (decide (j ≤ i))
theorem does_le : Does2 K (rI0 fun i j => .bl (decide (i ≤ j))) leD := does_ints fun _ _ _ _ => .bl _
theorem does_gt : Does2 K (rI0 fun i j => .bl (decide (j < i))) gtD := does_ints fun _ _ _ _ => .bl _
theorem does_ge : Does2 K (rI0 fun i j => .bl (decide (j ≤ i))) geD := does_ints fun _ _ _ _ => .bl _
/-- in a list, a tuple, a text -/
def isIn (d : D) (ds : List D) : Bool := ds.any fun z => PyData.eqv z d
def strIn (i j : Str) : Bool := !(Builtin.Str.occurrences j i 0 j.length 1).isEmpty
def inD : D → D → Option D
  | .str i, .str j => some (.bool (strIn i j))
  | d, .list ds => if (SeqAt.shaped d && SeqAt.shaped (.list ds)) = true then some (.bool (isIn d ds)) else none
  | d, .tuple ds => if (SeqAt.shaped d && SeqAt.shaped (.tuple ds)) = true then some (.bool (isIn d ds)) else none
  | _, _ => none
def notB : D → Option D
  | .bool b => some (.bool (!b))
  | _ => none
def notInD (a b : D) : Option D := (inD a b).bind notB
def rInA (K : PySem.W.Frag) : R2 := fun x y H Q => (∃ i j, x = .str i ∧ y = .str j ∧ Q (.bl (!(Builtin.Str.occurrences j i 0 j.length 1).isEmpty)) H) ∨ (rInD K x y H Q ∨ rInT K false x y H Q)
def rNotInA (K : PySem.W.Frag) : R2 := fun x y H Q => (∃ i j, x = .str i ∧ y = .str j ∧ Q (.bl (!(!(Builtin.Str.occurrences j i 0 j.length 1).isEmpty))) H) ∨ (rNotInD K x y H Q ∨ rInT K true x y H Q)
theorem does_in : Does2 K (rInA K) inD := fun H M x y a b d Q m ra rb e q => by
  unfold inD at e
  split at e
  · cases e
    exact .inl ⟨_, _, ra.str, rb.str, q _ H (Same.refl H) (.bl _)⟩
  · split at e
    · rename_i hc
      cases e
      rw [Bool.and_eq_true] at hc
      exact .inr (.inl ⟨_, _, ra.dp (SeqAt.canLay_of_shaped hc.1), rb.dp (SeqAt.canLay_of_shaped hc.2), hc.1, hc.2, q _ H (Same.refl H) (.bl _)⟩)
    · cases e
  · split at e
    · rename_i hc
      cases e
      rw [Bool.and_eq_true] at hc
      exact .inr (.inr ⟨_, _, ra.dp (SeqAt.canLay_of_shaped hc.1), rb.dp (SeqAt.canLay_of_shaped hc.2), hc.1, hc.2, q _ H (Same.refl H) (.bl _)⟩)
    · cases e
  · cases e
theorem does_notIn : Does2 K (rNotInA K) notInD := fun H M x y a b d Q m ra rb e q => by
  unfold notInD inD at e
  split at e
  · cases e
    exact .inl ⟨_, _, ra.str, rb.str, q _ H (Same.refl H) (.bl _)⟩
  · split at e
    · rename_i hc
      cases e
      rw [Bool.and_eq_true] at hc
      exact .inr (.inl ⟨_, _, ra.dp (SeqAt.canLay_of_shaped hc.1), rb.dp (SeqAt.canLay_of_shaped hc.2), hc.1, hc.2, q _ H (Same.refl H) (.bl _)⟩)
    · cases e
  · split at e
    · rename_i hc
      cases e
      rw [Bool.and_eq_true] at hc
      exact .inr (.inr ⟨_, _, ra.dp (SeqAt.canLay_of_shaped hc.1), rb.dp (SeqAt.canLay_of_shaped hc.2), hc.1, hc.2, q _ H (Same.refl H) (.bl _)⟩)
    · cases e
  · cases e
def isD : D → D → Option D
  | .bool a, .bool b => some (.bool (decide (a = b)))
  | a, .none => some (.bool (isNon a))
  | _, _ => none
def isNotD (a b : D) : Option D := (isD a b).bind notB
def rIsA : R2 := fun x y H Q => (y = .non ∧ Q (.bl (decide (x = .non))) H) ∨ (∃ a b, x = .bl a ∧ y = .bl b ∧ Q (.bl (decide (a = b))) H)
def rIsNotA : R2 := fun x y H Q => (y = .non ∧ Q (.bl (!decide (x = .non))) H) ∨ (∃ a b, x = .bl a ∧ y = .bl b ∧ Q (.bl (!decide (a = b))) H)
theorem RepB.isNon {H : Hp} {M : Addr → Prop} {a : D} {x : V} (r : RepB K H M a x) : decide (x = .non) = isNon a := by
  rcases r with r | ⟨p, rfl, o⟩
  · cases r <;> simp [Pu.isNon]
  · cases a <;> first | (simp [Pu.isNon]; done) | exact o.elim
theorem does_is : Does2 K rIsA isD := fun H M x y a b d Q m ra rb e q => by
  unfold isD at e
  split at e
  · cases e
    exact .inr ⟨_, _, ra.bl, rb.bl, q _ H (Same.refl H) (.bl _)⟩
  · cases e
    exact .inl ⟨rb.non, by rw [ra.isNon]; exact q _ H (Same.refl H) (.bl _)⟩
  · cases e
theorem does_isNot : Does2 K rIsNotA isNotD := fun H M x y a b d Q m ra rb e q => by
  unfold isNotD isD at e
  split at e
  · cases e
    exact .inr ⟨_, _, ra.bl, rb.bl, q _ H (Same.refl H) (.bl _)⟩
  · cases e
    exact .inl ⟨rb.non, by rw [ra.isNon]; exact q _ H (Same.refl H) (.bl _)⟩
  · cases e
end
section
variable {X : Cx} {a b c : Expr} {ta tb tc : TE} {f g k : Ev} {pos : Pos} {n : Nat}
theorem x_add (ha : EB X a ta f) (hb : EB X b tb g) : EE X (.BinOp a .Add b pos) (tOp (rAddD X.K) ta tb) (bn addD f g) := e_op (op_add.or (op_add_str.or op_catA)) does_add ha hb
theorem x_sub (ha : EB X a ta f) (hb : EB X b tb g) : EE X (.BinOp a .Sub b pos) (tOp rSubD ta tb) (bn subD f g) := e_op (op_sub.or op_sub_bb) does_sub ha hb
theorem x_mul (ha : EB X a ta f) (hb : EB X b tb g) : EE X (.BinOp a .Mult b pos) (tOp (rMulD X.K) ta tb) (bn mulD f g) := e_op (op_mul.or (op_mul_str.or op_repT)) does_mul ha hb
theorem x_fdiv (ha : EB X a ta f) (hb : EB X b tb g) : EE X (.BinOp a .FloorDiv b pos) (tOp (rI CDivN fun i j => .int (i.fdiv j)) ta tb) (bn fdivD f g) := e_op op_fdivN does_fdiv ha hb
theorem x_mod (ha : EB X a ta f) (hb : EB X b tb g) : EE X (.BinOp a .Mod b pos) (tOp (rI (fun _ j => j ≠ 0) fun i j => .int (i.fmod j)) ta tb) (bn modD f g) := e_op op_modN does_mod ha hb
theorem x_pow (ha : EB X a ta f) (hb : EB X b tb g) : EE X (.BinOp a .Pow b pos) (tOp (rI CPow fun i j => .int (i ^ j.toNat)) ta tb) (bn powD f g) := e_op op_pow does_pow ha hb
theorem x_shl (ha : EB X a ta f) (hb : EB X b tb g) : EE X (.BinOp a .LShift b pos) (tOp (rI CPow fun i j => .int (i * 2 ^ j.toNat)) ta tb) (bn shlD f g) := e_op op_shl does_shl ha hb
theorem x_shr (ha : EB X a ta f) (hb : EB X b tb g) : EE X (.BinOp a .RShift b pos) (tOp (rI (fun _ j => 0 ≤ j) fun i j => .int (i / 2 ^ j.toNat)) ta tb) (bn shrD f g) := e_op op_shr does_shr ha hb
theorem x_band (ha : EB X a ta f) (hb : EB X b tb g) : EE X (.BinOp a .BitAnd b pos) (tOp (rI0 fun i j => .int (Builtin.bitAnd i j)) ta tb) (bn bandD f g) := e_op op_and does_band ha hb
theorem x_bor (ha : EB X a ta f) (hb : EB X b tb g) : EE X (.BinOp a .BitOr b pos) (tOp (rI0 fun i j => .int (Builtin.bitOr i j)) ta tb) (bn borD f g) := e_op op_or does_bor ha hb
theorem n_add (ha : EB X a ta f) (hb : EB X b tb g) : EN X (.BinOp a .Add b pos) (tOp (rCatL X.K) ta tb) (bn addL f g) := n_op op_catL does_addL ha hb
theorem n_mul (ha : EB X a ta f) (hb : EB X b tb g) : EN X (.BinOp a .Mult b pos) (tOp (rRepL X.K) ta tb) (bn mulL f g) := n_op op_repL does_mulL ha hb
theorem x_eq (hr : Room n X.A) (ha : EB X a ta f) (hb : EB X b tb g) : EE X (.Compare a [.Eq] [b] pos) (tOp (rEqD X.K) ta tb) (bn eqD f g) := e_cmp (op_eqD hr.units) does_eq ha hb
theorem x_ne (hr : Room n X.A) (ha : EB X a ta f) (hb : EB X b tb g) : EE X (.Compare a [.NotEq] [b] pos) (tOp (rNeD X.K) ta tb) (bn neD f g) := e_cmp (op_neD hr.units) does_ne ha hb
theorem x_lt (hr : Room n X.A) (ha : EB X a ta f) (hb : EB X b tb g) : EE X (.Compare a [.Lt] [b] pos) (tOp (rLtD X.K) ta tb) (bn ltD f g) := e_cmp (op_lt.or (op_ltA hr.units)) does_lt ha hb
theorem x_le (ha : EB X a ta f) (hb : EB X b tb g) : EE X (.Compare a [.LtE] [b] pos) (tOp (rI0 fun i j => .bl (decide (i ≤ j))) ta tb) (bn leD f g) := e_cmp op_le does_le ha hb
theorem x_gt (ha : EB X a ta f) (hb : EB X b tb g) : EE X (.Compare a [.Gt] [b] pos) (tOp (rI0 fun i j => .bl (decide (j < i))) ta tb) (bn gtD f g) := e_cmp op_gt does_gt ha hb
theorem x_ge (ha : EB X a ta f) (hb : EB X b tb g) : EE X (.Compare a [.GtE] [b] pos) (tOp (rI0 fun i j => .bl (decide (j ≤ i))) ta tb) (bn geD f g) := e_cmp op_ge does_ge ha hb
theorem hu65 {n : Nat} {A : Around} (hr : Room n A) : A.units + 65 < cLine := by have := hr.un; omega
theorem x_in (hr : Room n X.A) (ha : EB X a ta f) (hb : EB X b tb g) (hm : behindInMarks .In b = false := by rfl) : EE X (.Compare a [.In] [b] pos) (tOp (rInA X.K) ta tb) (bn inD f g) := e_cmp (op_in_str.or ((op_inD (hu65 hr)).or (op_inT (hu65 hr)))) does_in ha hb hm
theorem x_notIn (hr : Room n X.A) (ha : EB X a ta f) (hb : EB X b tb g) (hm : behindInMarks .NotIn b = false := by rfl) : EE X (.Compare a [.NotIn] [b] pos) (tOp (rNotInA X.K) ta tb) (bn notInD f g) := e_cmp (op_notin_str.or ((op_notInD (hu65 hr)).or (op_notInT (hu65 hr)))) does_notIn ha hb hm
theorem x_is (ha : EB X a ta f) (hb : EB X b tb g) : EE X (.Compare a [.Is] [b] pos) (tOp rIsA ta tb) (bn isD f g) := e_cmp (op_isN.or op_is_bl) does_is ha hb
theorem x_isNot (ha : EB X a ta f) (hb : EB X b tb g) : EE X (.Compare a [.IsNot] [b] pos) (tOp rIsNotA ta tb) (bn isNotD f g) := e_cmp (op_notN.or op_isnot_bl) does_isNot ha hb
end
end Pu

set_option Elab.async false
set_option linter.all false
set_option maxRecDepth 100000
namespace Pu
open PySem PySem.Spec PyProof.Rows L2

/-! ### tests -/
abbrev Et := Env → Option Bool
def GT (K : PySem.W.Frag) (t : TT) (g : Et) : Prop := ∀ ⦃H0 : Hp⦄ ⦃M0 : Addr → Prop⦄ ⦃H : Hp⦄ ⦃M : Addr → Prop⦄ ⦃ρ : Env⦄ ⦃σ : L2.St⦄ ⦃Q : Bool → Hp → Prop⦄ ⦃b : Bool⦄, EnvOk K H0 M0 H M ρ σ → g ρ = some b → (∀ H', Same H H' → Q b H') → t σ H Q
structure ET (X : Cx) (e : Expr) (t : TT) (g : Et) : Prop where
  pt : PT X e t
  g : GT X.K t g
structure EW (X : Cx) (e : Expr) (t : TT) (g : Et) : Prop where
  pw : PW X e t
  g : GT X.K t g
def boolOf : D → Option Bool
  | .bool b => some b
  | _ => none
def truD : D → Option Bool
  | .none => some false
  | .bool b => some b
  | .int i => some (i != 0)
  | .str x => if x.length ≤ sizeLine then some ((x.length : Int) != 0) else none
  | .list ds => some (!ds.isEmpty)
  | .tuple ds => some (!ds.isEmpty)
  | .dict _ => none
def ts (k : D → Option Bool) (f : Ev) : Et := fun ρ => (f ρ).bind k
theorem isEmpty_reps {K : PySem.W.Frag} {H : Hp} {M : Addr → Prop} {ds : List D} {vs : List V} (r : Reps K H M ds vs) : ds.isEmpty = vs.isEmpty := by cases r <;> rfl
theorem g_test {K : PySem.W.Frag} {t : TE} {f : Ev} (h : GE K t f) : GT K (tTest t) (ts boolOf f) := fun H0 M0 H M ρ σ Q b E hf q => by
  obtain ⟨d, e1, hf⟩ := bind_some hf
  refine h E e1 fun v H' s r => ?_
  unfold boolOf at hf
  split at hf
  · cases hf
    cases r
    exact ⟨_, rfl, q H' s⟩
  · cases hf
theorem g_tru {K : PySem.W.Frag} {t : TE} {f : Ev} (h : GB K t f) : GT K (fun σ H Q => t σ H fun x H' => ∃ k, TruV K x H' k ∧ Q k H') (ts truD f) := fun H0 M0 H M ρ σ Q b E hf q => by
  obtain ⟨d, e1, hf⟩ := bind_some hf
  refine h E e1 fun v H' s r => ⟨b, ?_, q H' s⟩
  unfold truD at hf
  split at hf
  · cases hf; rw [r.non]; rfl
  · cases hf; rw [r.bl]; rfl
  · cases hf; rw [r.int]; rfl
  · split at hf
    · rename_i hz
      cases hf; rw [r.str]; exact ⟨hz, rfl⟩
    · cases hf
  · cases hf
    obtain ⟨a, vs, rfl, h1, r1⟩ := r.lst
    exact .inl ⟨vs, h1, by rw [isEmpty_reps r1]⟩
  · cases hf
    obtain ⟨a, vs, rfl, h1, r1⟩ := r.tup
    exact .inr (.inl ⟨vs, h1, by rw [isEmpty_reps r1]⟩)
  · cases hf
section
variable {X : Cx} {a b c e : Expr} {ta tb tc te : TE} {f g k : Ev} {pos : Pos} {r r' : R2} {op' op'' : D → D → Option D} {t u : TT} {gt gu : Et} {rest : List Expr} {n : Nat}
theorem t_cmp {o : CmpOp} (h1 : OpR X (compareOp o) r) (h2 : Does2 X.K r op') (ha : EB X a ta f) (hb : EB X b tb g) (hm : behindInMarks o b = false := by first | exact nomark _ | rfl) : ET X (.Compare a [o] [b] pos) (tTest (tOp r ta tb)) (ts boolOf (bn op' f g)) := ⟨pt_cmpR h1 ha.pe hb.pe hm, g_test (g_op h2 ha.g hb.g)⟩
theorem g_chain (h2 : Does2 X.K r op') (h2' : Does2 X.K r' op'') (ha : GB X.K ta f) (hb : GB X.K tb g) (hc : GB X.K tc k) : GE X.K (tChain r r' ta tb tc) (chn op' op'' f g k) := fun H0 M0 H M ρ σ Q d E hf q => by
    obtain ⟨x, e1, hf⟩ := bind_some hf
    obtain ⟨y, e2, hf⟩ := bind_some hf
    refine ha E e1 fun v H1 s1 r1 => hb (E.to s1) e2 fun u H2 s2 r2 => ?_
    have m2 := (E.mkh.same s1).same s2
    split at hf
    · rename_i e3
      refine h2 m2 (r1.same (E.mkh.same s1) s2) r2 e3 fun w H3 s3 r3 => ?_
      obtain ⟨z, e4, hf⟩ := bind_some hf
      cases r3
      refine ⟨true, rfl, ?_⟩
      rw [if_pos rfl]
      refine hc ((E.to s1).to (s2.trans s3)) e4 fun w' H4 s4 r4 => ?_
      exact h2' ((m2.same s3).same s4) (r2.same m2 (s3.trans s4)) r4 hf fun v' H' s r => q v' H' (s1.trans (s2.trans (s3.trans (s4.trans s)))) r
    · rename_i e3
      cases hf
      refine h2 m2 (r1.same (E.mkh.same s1) s2) r2 e3 fun w H3 s3 r3 => ?_
      cases r3
      refine ⟨false, rfl, ?_⟩
      rw [if_neg Bool.false_ne_true]
      exact q _ H3 (s1.trans (s2.trans s3)) (.bl false)
    · cases hf
theorem t_chain {o o' : CmpOp} (h1 : OpR X (compareOp o) r) (h1' : OpR X (compareOp o') r') (h2 : Does2 X.K r op') (h2' : Does2 X.K r' op'') (ha : EB X a ta f) (hb : EB X b tb g) (hc : EB X c tc k) (hm : lastMarks [o, o'] [b, c] = false := by with_unfolding_all rfl) :
    ET X (.Compare a [o, o'] [b, c] pos) (tTest (tChain r r' ta tb tc)) (ts boolOf (chn op' op'' f g k)) := ⟨pt_chain h1 h1' ha.pe hb.pe hc.pe hm, g_test (g_chain h2 h2' ha.g hb.g hc.g)⟩
theorem t_tru (ha : EB X a ta f) (he : ∀ whole, isTrue a X.env whole = (do let v ← whole; standAt a.pos; holding [v] (truthy v)) := by intro _; rfl) : ET X a (fun σ H Q => ta σ H fun x H' => ∃ k, TruV X.K x H' k ∧ Q k H') (ts truD f) := ⟨pt_truth ha.pe he, g_tru ha.g⟩
theorem EW.toT (h : EW X e t gt) : ET X e t gt := ⟨h.pw.pt, h.g⟩
def andB (f g : Et) : Et := fun ρ => (f ρ).bind fun b => if b = true then g ρ else some false
def orB (f g : Et) : Et := fun ρ => (f ρ).bind fun b => if b = true then some true else g ρ
theorem g_and {K : PySem.W.Frag} (h1 : GT K t gt) (h2 : GT K u gu) : GT K (tAnd t u) (andB gt gu) := fun H0 M0 H M ρ σ Q b E hf q => by
  obtain ⟨d, e1, hf⟩ := bind_some hf
  refine h1 E e1 fun H1 s1 => ?_
  cases d with
  | true => rw [if_pos rfl] at hf ⊢; exact h2 (E.to s1) hf fun H2 s2 => q H2 (s1.trans s2)
  | false => rw [if_neg Bool.false_ne_true] at hf ⊢; cases hf; exact q H1 s1
theorem g_or {K : PySem.W.Frag} (h1 : GT K t gt) (h2 : GT K u gu) : GT K (tOr t u) (orB gt gu) := fun H0 M0 H M ρ σ Q b E hf q => by
  obtain ⟨d, e1, hf⟩ := bind_some hf
  refine h1 E e1 fun H1 s1 => ?_
  cases d with
  | true => rw [if_pos rfl] at hf ⊢; cases hf; exact q H1 s1
  | false => rw [if_neg Bool.false_ne_true] at hf ⊢; exact h2 (E.to s1) hf fun H2 s2 => q H2 (s1.trans s2)
theorem w_and1 (h : ET X a t gt) : EW X (.BoolOp .And [a] pos) t gt := ⟨pw_and1 h.pt, h.g⟩
theorem w_or1 (h : ET X a t gt) : EW X (.BoolOp .Or [a] pos) t gt := ⟨pw_or1 h.pt, h.g⟩
theorem w_and (h : ET X a t gt) (h2 : EW X (.BoolOp .And (b :: rest) pos) u gu) : EW X (.BoolOp .And (a :: b :: rest) pos) (tAnd t u) (andB gt gu) := ⟨pw_and h.pt h2.pw, g_and h.g h2.g⟩
theorem w_or (h : ET X a t gt) (h2 : EW X (.BoolOp .Or (b :: rest) pos) u gu) : EW X (.BoolOp .Or (a :: b :: rest) pos) (tOr t u) (orB gt gu) := ⟨pw_or h.pt h2.pw, g_or h.g h2.g⟩
def notT (f : Et) : Et := fun ρ => (f ρ).map (!·)
theorem t_not (h : ET X a t gt) : ET X (.UnaryOp .Not a pos) (tNot t) (notT gt) := ⟨pt_not h.pt, fun H0 M0 H M ρ σ Q b E hf q => by
  unfold notT at hf
  cases e1 : gt ρ with
  | none => rw [e1] at hf; cases hf
  | some c =>
    rw [e1] at hf
    cases hf
    exact h.g E e1 fun H' s => q H' s⟩
/-! as values -/
def andV (f g : Ev) : Ev := fun ρ => (f ρ).bind fun d => match d with
  | .bool true => g ρ
  | .bool false => some (.bool false)
  | _ => none
def orV (f g : Ev) : Ev := fun ρ => (f ρ).bind fun d => match d with
  | .bool true => some (.bool true)
  | .bool false => g ρ
  | _ => none
theorem v_one {op : PySem.BoolOp} (h : EE X a ta f) : EE X (.BoolOp op [a] pos) ta f := ⟨pe_one h.pe, h.g⟩
theorem v_and (h : EE X a ta f) (h2 : EE X (.BoolOp .And (b :: rest) pos) tb g) : EE X (.BoolOp .And (a :: b :: rest) pos) (tAndV ta tb) (andV f g) := ⟨pe_and h.pe h2.pe, fun H0 M0 H M ρ σ Q d E hf q => by
  obtain ⟨x, e1, hf⟩ := bind_some hf
  refine h.g E e1 fun v H1 s1 r1 => ?_
  split at hf
  · cases r1
    refine ⟨true, rfl, ?_⟩
    rw [if_pos rfl]
    exact h2.g (E.to s1) hf fun v H2 s2 r => q v H2 (s1.trans s2) r
  · cases r1
    cases hf
    refine ⟨false, rfl, ?_⟩
    rw [if_neg Bool.false_ne_true]
    exact q _ H1 s1 (.bl false)
  · cases hf⟩
theorem v_or (h : EE X a ta f) (h2 : EE X (.BoolOp .Or (b :: rest) pos) tb g) : EE X (.BoolOp .Or (a :: b :: rest) pos) (tOrV ta tb) (orV f g) := ⟨pe_or h.pe h2.pe, fun H0 M0 H M ρ σ Q d E hf q => by
  obtain ⟨x, e1, hf⟩ := bind_some hf
  refine h.g E e1 fun v H1 s1 r1 => ?_
  split at hf
  · cases r1
    cases hf
    refine ⟨true, rfl, ?_⟩
    rw [if_pos rfl]
    exact q _ H1 s1 (.bl true)
  · cases r1
    refine ⟨false, rfl, ?_⟩
    rw [if_neg Bool.false_ne_true]
    exact h2.g (E.to s1) hf fun v H2 s2 r => q v H2 (s1.trans s2) r
  · cases hf⟩
/-- not a, a truth value -/
theorem v_not (h : EE X a ta f) : EE X (.UnaryOp .Not a pos) (tNotV ta) (un notB f) := ⟨pe_not h.pe, fun H0 M0 H M ρ σ Q d E hf q => by
  obtain ⟨x, e1, hf⟩ := bind_some hf
  refine h.g E e1 fun v H1 s1 r1 => ?_
  unfold notB at hf
  split at hf
  · cases hf
    cases r1
    exact ⟨_, rfl, q _ H1 s1 (.bl _)⟩
  · cases hf⟩
/-- a if c else b -/
def ifV (c : Et) (f g : Ev) : Ev := fun ρ => (c ρ).bind fun b => if b = true then f ρ else g ρ
theorem v_if (hc : ET X c t gt) (ha : EE X a ta f) (hb : EE X b tb g) : EE X (.IfExp c a b pos) (tIf t ta tb) (ifV gt f g) := ⟨pe_ifExp hc.pt ha.pe hb.pe, fun H0 M0 H M ρ σ Q d E hf q => by
  obtain ⟨x, e1, hf⟩ := bind_some hf
  refine hc.g E e1 fun H1 s1 => ?_
  cases x with
  | true => rw [if_pos rfl] at hf ⊢; exact ha.g (E.to s1) hf fun v H2 s2 r => q v H2 (s1.trans s2) r
  | false => rw [if_neg Bool.false_ne_true] at hf ⊢; exact hb.g (E.to s1) hf fun v H2 s2 r => q v H2 (s1.trans s2) r⟩
def negD : D → Option D
  | .int i => some (.int (-i))
  | _ => none
theorem v_neg (h : EE X a ta f) : EE X (.UnaryOp .USub a pos) (tUn (rU fun i => .int (-i)) ta) (un negD f) := ⟨pe_un un_neg h.pe, fun H0 M0 H M ρ σ Q d E hf q => by
  obtain ⟨x, e1, hf⟩ := bind_some hf
  refine h.g E e1 fun v H1 s1 r1 => ?_
  unfold negD at hf
  split at hf
  · cases hf
    cases r1
    exact ⟨_, rfl, q _ H1 s1 (.int _)⟩
  · cases hf⟩
end

/-! ### argument lists -/
inductive RepsB (K : PySem.W.Frag) (H : Hp) (M : Addr → Prop) : List D → List V → Prop
  | nil : RepsB K H M [] []
  | cons {d : D} {v : V} {ds : List D} {vs : List V} : RepB K H M d v → RepsB K H M ds vs → RepsB K H M (d :: ds) (v :: vs)
theorem RepsB.same {K : PySem.W.Frag} {H H' : Hp} {M : Addr → Prop} (m : MK H M) (s : Same H H') : ∀ {ds : List D} {vs : List V}, RepsB K H M ds vs → RepsB K H' M ds vs
  | _, _, .nil => .nil
  | _, _, .cons r t => .cons (r.same m s) (RepsB.same m s t)
theorem Reps.b {K : PySem.W.Frag} {H : Hp} {M : Addr → Prop} : ∀ {ds : List D} {vs : List V}, Reps K H M ds vs → RepsB K H M ds vs
  | _, _, .nil => .nil
  | _, _, .cons r t => .cons r.b (Reps.b t)
abbrev Es := Env → Option (List D)
def GA (K : PySem.W.Frag) (t : TA) (f : Es) : Prop := ∀ ⦃H0 : Hp⦄ ⦃M0 : Addr → Prop⦄ ⦃H : Hp⦄ ⦃M : Addr → Prop⦄ ⦃ρ : Env⦄ ⦃σ : L2.St⦄ ⦃Q : List V → Hp → Prop⦄ ⦃ds : List D⦄, EnvOk K H0 M0 H M ρ σ → f ρ = some ds → (∀ vs H', Same H H' → Reps K H' M ds vs → Q vs H') → t σ H Q
def GAB (K : PySem.W.Frag) (t : TA) (f : Es) : Prop := ∀ ⦃H0 : Hp⦄ ⦃M0 : Addr → Prop⦄ ⦃H : Hp⦄ ⦃M : Addr → Prop⦄ ⦃ρ : Env⦄ ⦃σ : L2.St⦄ ⦃Q : List V → Hp → Prop⦄ ⦃ds : List D⦄, EnvOk K H0 M0 H M ρ σ → f ρ = some ds → (∀ vs H', Same H H' → RepsB K H' M ds vs → Q vs H') → t σ H Q
structure AE (X : Cx) (es : List Expr) (t : TA) (f : Es) : Prop where
  pa : PA X es t
  g : GA X.K t f
  ln : ∀ ρ ds, f ρ = some ds → ds.length = es.length
structure AB (X : Cx) (es : List Expr) (t : TA) (f : Es) : Prop where
  pa : PA X es t
  g : GAB X.K t f
  ln : ∀ ρ ds, f ρ = some ds → ds.length = es.length
def nl : Es := fun _ => some []
def cs (f : Ev) (g : Es) : Es := fun ρ => (f ρ).bind fun d => (g ρ).bind fun ds => some (d :: ds)
theorem cs_len {f : Ev} {g : Es} {n : Nat} (h : ∀ ρ ds, g ρ = some ds → ds.length = n) : ∀ ρ ds, cs f g ρ = some ds → ds.length = n + 1 := fun ρ ds e => by
  obtain ⟨x, _, e⟩ := bind_some e
  obtain ⟨xs, e2, e⟩ := bind_some e
  cases e
  exact congrArg (· + 1) (h ρ xs e2)
section
variable {X : Cx} {a b e : Expr} {es : List Expr} {ta tb te : TE} {t : TA} {f g : Ev} {fs : Es} {pos : Pos}
theorem a_nil : AE X [] tNil nl := ⟨pa_nil, fun H0 M0 H M ρ σ Q ds E hf q => by cases hf; exact q [] H (Same.refl H) .nil, fun _ _ e => by cases e; rfl⟩
theorem b_nil : AB X [] tNil nl := ⟨pa_nil, fun H0 M0 H M ρ σ Q ds E hf q => by cases hf; exact q [] H (Same.refl H) .nil, fun _ _ e => by cases e; rfl⟩
theorem a_cons (h : EE X a ta f) (h2 : AE X es t fs) (hs : starEach (a :: es) X.env = (false, eval a X.env) :: starEach es X.env := by rfl) : AE X (a :: es) (tCons ta t) (cs f fs) := ⟨pa_cons h.pe h2.pa hs, fun H0 M0 H M ρ σ Q ds E hf q => by
  obtain ⟨x, e1, hf⟩ := bind_some hf
  obtain ⟨xs, e2, hf⟩ := bind_some hf
  cases hf
  exact h.g E e1 fun v H1 s1 r1 => h2.g (E.to s1) e2 fun vs H2 s2 r2 => q _ H2 (s1.trans s2) (.cons (r1.same (E.mkh.same s1) s2) r2), cs_len h2.ln⟩
theorem b_cons (h : EB X a ta f) (h2 : AB X es t fs) (hs : starEach (a :: es) X.env = (false, eval a X.env) :: starEach es X.env := by rfl) : AB X (a :: es) (tCons ta t) (cs f fs) := ⟨pa_cons h.pe h2.pa hs, fun H0 M0 H M ρ σ Q ds E hf q => by
  obtain ⟨x, e1, hf⟩ := bind_some hf
  obtain ⟨xs, e2, hf⟩ := bind_some hf
  cases hf
  exact h.g E e1 fun v H1 s1 r1 => h2.g (E.to s1) e2 fun vs H2 s2 r2 => q _ H2 (s1.trans s2) (.cons (r1.same (E.mkh.same s1) s2) r2), cs_len h2.ln⟩
/-! ### displays -/
def mkT (fs : Es) : Ev := fun ρ => (fs ρ).bind fun ds => if ds.length ≤ sizeLine then some (.tuple ds) else none
def mkL (fs : Es) : Ev := fun ρ => (fs ρ).bind fun ds => if ds.length ≤ sizeLine then some (.list ds) else none
theorem d_tup {x1 : Nat} (h : AE X es t fs) : EE X (.Tuple es x1 pos) (tTup t) (mkT fs) := ⟨pe_tup h.pa, fun H0 M0 H M ρ σ Q d E hf q => by
  obtain ⟨xs, e1, hf⟩ := bind_some hf
  split at hf
  · rename_i hz
    cases hf
    refine h.g E e1 fun vs H1 s1 r1 => ⟨by rw [← r1.length]; exact hz, fun p np => ?_⟩
    have s := same_upd (o := .tup vs) np
    exact q _ _ (s1.trans s) (.tup (.of upd_same) (r1.same (E.mkh.same s1) s))
  · cases hf⟩
theorem d_lst (h : AE X es t fs) : EN X (.List es pos) (tLst t) (mkL fs) := ⟨pe_lst h.pa, fun H0 M0 H M ρ σ Q d E hf q => by
  obtain ⟨xs, e1, hf⟩ := bind_some hf
  split at hf
  · rename_i hz
    cases hf
    refine h.g E e1 fun vs H1 s1 r1 => ⟨by rw [← r1.length]; exact hz, fun p np => ?_⟩
    have s := same_upd (o := .lst vs) np
    exact q _ _ (s1.free np) (s1.trans s) ⟨_, upd_same, r1.stay (E.mkh.same s1) (.of_same s) (new_plus np)⟩
  · cases hf⟩
end
/-! ### subscripts -/
def ixD : D → D → Option D
  | .list ds, .int i => atI ds i
  | .tuple ds, .int i => atI ds i
  | .str z, .int i => if z.length ≤ sizeLine then (atI z.cps.toList i).map fun c => .str ⟨#[c]⟩ else none
  | _, _ => none
section
variable {K : PySem.W.Frag} {H : Hp} {M : Addr → Prop}
theorem Reps.atI {ds : List D} {vs : List V} {i : Int} {d : D} (r : Reps K H M ds vs) (e : L2.atI ds i = some d) : ∃ v, L2.atI vs i = some v ∧ Rep K H M d v := by
  unfold L2.atI at e ⊢
  rw [← r.length]
  obtain ⟨j, e1, e2⟩ := bind_some e
  obtain ⟨v, h1, h2⟩ := r.get e2
  exact ⟨v, by rw [e1]; exact h1, h2⟩
theorem does_ix : Does2 K (rIx K) ixD := fun H M x y a b d Q m ra rb e q => by
  unfold ixD at e
  split at e
  · obtain ⟨p, vs, rfl, h1, r1⟩ := ra.lst
    obtain ⟨v, e1, r⟩ := r1.atI e
    exact .inl ⟨p, vs, _, v, rfl, rb.int, h1, e1, q _ H (Same.refl H) r⟩
  · obtain ⟨p, vs, rfl, h1, r1⟩ := ra.tup
    obtain ⟨v, e1, r⟩ := r1.atI e
    exact .inr (.inl ⟨p, vs, _, v, rfl, rb.int, h1, e1, q _ H (Same.refl H) r⟩)
  · split at e
    · rename_i hz
      obtain ⟨c, e1, e2⟩ := Option.map_eq_some_iff.mp e
      subst e2
      exact .inr (.inr ⟨_, _, c, ra.str, rb.int, hz, e1, q _ H (Same.refl H) (.str _)⟩)
    · cases e
  · cases e
end
/-! ### slices -/
abbrev Eo := Env → Option (Option Int)
def GO (K : PySem.W.Frag) (t : TO) (f : Eo) : Prop := ∀ ⦃H0 : Hp⦄ ⦃M0 : Addr → Prop⦄ ⦃H : Hp⦄ ⦃M : Addr → Prop⦄ ⦃ρ : Env⦄ ⦃σ : L2.St⦄ ⦃Q : Option Int → Hp → Prop⦄ ⦃o : Option Int⦄, EnvOk K H0 M0 H M ρ σ → f ρ = some o → (∀ H', Same H H' → Q o H') → t σ H Q
structure EO (X : Cx) (e : Option Expr) (t : TO) (f : Eo) : Prop where
  po : PO X e t
  g : GO X.K t f
def noPart : Eo := fun _ => some none
def intOf : D → Option (Option Int)
  | .int i => some (some i)
  | _ => none
def part (f : Ev) : Eo := fun ρ => (f ρ).bind intOf
def cutD (ds : List D) (lo hi : Option Int) : List D := (ds.drop (HT.sIx ds.length 0 lo)).take (HT.sIx ds.length ds.length hi - HT.sIx ds.length 0 lo)
def slD (x : D) (lo hi : Option Int) : Option D := match x with
  | .tuple ds => some (.tuple (cutD ds lo hi))
  | .str z => if z.length ≤ sizeLine then some (.str (cutS z lo hi)) else none
  | _ => none
def slL (x : D) (lo hi : Option Int) : Option D := match x with
  | .list ds => some (.list (cutD ds lo hi))
  | _ => none
def sl (k : D → Option Int → Option Int → Option D) (f : Ev) (lo hi : Eo) : Ev := fun ρ => (f ρ).bind fun x => (lo ρ).bind fun l => (hi ρ).bind fun h => k x l h
theorem Reps.cut {K : PySem.W.Frag} {H : Hp} {M : Addr → Prop} {ds : List D} {vs : List V} (r : Reps K H M ds vs) (lo hi : Option Int) : Reps K H M (cutD ds lo hi) (cutV vs lo hi) := by
  unfold cutD cutV
  rw [r.length]
  exact (r.drop _).take _
theorem cut_whole {ds : List D} {lo hi : Option Int} (h : HT.sIx ds.length 0 lo = 0 ∧ HT.sIx ds.length ds.length hi = ds.length) : cutD ds lo hi = ds := by
  unfold cutD
  rw [h.1, h.2, List.drop_zero, Nat.sub_zero, List.take_length]
section
variable {X : Cx} {a b e : Expr} {lo hi : Option Expr} {ta tb te : TE} {tl th : TO} {f g : Ev} {fl fh : Eo} {pos p2 : Pos}
theorem s_no : EO X none tNoPart noPart := ⟨po_none, fun H0 M0 H M ρ σ Q o E hf q => by cases hf; exact q H (Same.refl H)⟩
theorem s_at (h : EE X e te f) : EO X (some e) (tPart te) (part f) := ⟨po_some h.pe, fun H0 M0 H M ρ σ Q o E hf q => by
  obtain ⟨x, e1, hf⟩ := bind_some hf
  refine h.g E e1 fun v H1 s1 r1 => ?_
  unfold intOf at hf
  split at hf
  · cases hf; cases r1; exact ⟨_, rfl, q H1 s1⟩
  · cases hf⟩
def rSlX (K : PySem.W.Frag) : V → Option Int → Option Int → Hp → VK → Prop := fun x lo hi H Q => rSlA K x lo hi H Q ∨ rSlS x lo hi H Q
theorem x_sl (he : EB X e te f) (hl : EO X lo tl fl) (hh : EO X hi th fh) : EE X (.Subscript e (.Slice lo hi none p2) pos) (tSl (rSlX X.K) te tl th) (sl slD f fl fh) := ⟨pe_slice (sl_tupA.or sl_str) he.pe hl.po hh.po, fun H0 M0 H M ρ σ Q d E hf q => by
  obtain ⟨x, e1, hf⟩ := bind_some hf
  obtain ⟨l, e2, hf⟩ := bind_some hf
  obtain ⟨h, e3, hf⟩ := bind_some hf
  refine he.g E e1 fun v H1 s1 r1 => hl.g (E.to s1) e2 fun H2 s2 => hh.g ((E.to s1).to s2) e3 fun H3 s3 => ?_
  have m3 := E.mkh.same (s1.trans (s2.trans s3))
  have r3 := r1.same (E.mkh.same s1) (s2.trans s3)
  unfold slD at hf
  split at hf
  · cases hf
    obtain ⟨p, vs, rfl, h1, r⟩ := r3.tup
    refine .inl ⟨p, vs, rfl, h1, fun w => ?_, fun _ p' np => ?_⟩
    · rw [← r.length] at w
      rw [cut_whole w] at q
      exact q _ H3 (s1.trans (s2.trans s3)) (.tup h1 r)
    · have s := same_upd (o := .tup (cutV vs l h)) np
      exact q _ _ ((s1.trans (s2.trans s3)).trans s) (.tup (.of upd_same) ((r.cut l h).same m3 s))
  · split at hf
    · rename_i hz
      cases hf
      exact .inr ⟨_, r3.str, hz, q _ H3 (s1.trans (s2.trans s3)) (.str _)⟩
    · cases hf
  · cases hf⟩
theorem n_sl (he : EB X e te f) (hl : EO X lo tl fl) (hh : EO X hi th fh) : EN X (.Subscript e (.Slice lo hi none p2) pos) (tSl (rSlL X.K) te tl th) (sl slL f fl fh) := ⟨pe_slice sl_list he.pe hl.po hh.po, fun H0 M0 H M ρ σ Q d E hf q => by
  obtain ⟨x, e1, hf⟩ := bind_some hf
  obtain ⟨l, e2, hf⟩ := bind_some hf
  obtain ⟨h, e3, hf⟩ := bind_some hf
  refine he.g E e1 fun v H1 s1 r1 => hl.g (E.to s1) e2 fun H2 s2 => hh.g ((E.to s1).to s2) e3 fun H3 s3 => ?_
  have m3 := E.mkh.same (s1.trans (s2.trans s3))
  have r3 := r1.same (E.mkh.same s1) (s2.trans s3)
  unfold slL at hf
  split at hf
  · cases hf
    obtain ⟨p, vs, rfl, h1, r⟩ := r3.lst
    refine ⟨p, vs, rfl, h1, fun p' np => ?_⟩
    have s := same_upd (o := .lst (cutV vs l h)) np
    exact q _ _ ((s1.trans (s2.trans s3)).free np) ((s1.trans (s2.trans s3)).trans s) ⟨_, upd_same, (r.cut l h).stay m3 (.of_same s) (new_plus np)⟩
  · cases hf⟩
theorem x_ix (ha : EB X a ta f) (hb : EB X b tb g) (hs : PlainIx b := by exact fun _ _ => rfl) : EE X (.Subscript a b pos) (tOp (rIx X.K) ta tb) (bn ixD f g) := ⟨pe_ix ix_seq ha.pe hb.pe hs, g_op does_ix ha.g hb.g⟩
end
end Pu

set_option Elab.async false
set_option linter.all false
set_option maxRecDepth 100000
namespace Pu
open PySem PySem.Spec PyProof.Rows L2

/-! ### sorted of a list or a tuple of alike data -/
section
variable {prog : Program} {w : World} {A : Around} {E : Value → Shared → Prop} {s : Shared}
/-- what a list or a tuple holds, gathered -/
theorem gather {l : Addr} {T : String} {o : Obj} {vs : List Value} {n : Nat} {Q : List Value → Shared → Prop} (hT : T = "list" ∨ T = "tuple") (ho : s.heap.get? l = some o) (hc : o.cls = .type T) (hd : o.data = .seq vs.toArray n) (hsz : vs.length ≤ sizeLine)
    (h : Q vs { s with heap := (s.heap.push (seqObj "list" #[] 0)).update s.heap.objs.size (Obj.mapSeq (· ++ vs.toArray)) }) : wpAny (model prog w) A (collect (.ref l)) Q E s := by
  unfold collect
  refine wpAny_bind (wpAny_runValue (codeAny_builtin entry_proto_collect' ?_))
  show wpAny _ _ (do
    let made ← newList []
    again (.builtin "list.__iadd__" ⟨[made, .ref l], []⟩)) _ _ s
  refine wpAny_bind (wpAny_newList (wpAny_pure ⟨Code.quiet_builtin _ (by decide +kernel), codeAny_builtin entry_list_iadd' ?_⟩))
  show wpAny _ _ (Builtin.List.listExtendWith (.ref s.heap.objs.size) (.ref l) (.ref s.heap.objs.size)) _ _ _
  unfold Builtin.List.listExtendWith
  have ho' : (s.heap.push (seqObj "list" #[] 0)).get? l = some o := Heap.get?_push_of_some _ ho
  refine wpAny_bind (wpAny_typeOf (T := T) ⟨o, ho', hc⟩ ?_)
  rw [if_pos (by rcases hT with e | e <;> subst e <;> simp)]
  refine wpAny_bind (listItems_at ho' hd (wpAny_bind (listItems_at (xs := #[]) (n := 0) (Heap.get?_push_size _ rfl) rfl ?_)))
  rw [if_neg (by simp)]
  refine wpAny_bind (listUpdate_at (xs := #[]) (n := 0) (Heap.get?_push_size _ rfl) rfl (wpAny_pure ?_) (Nat.zero_le _) (by
    show (#[] ++ vs.toArray).size ≤ sizeLine + 1
    simp only [Array.size_append, List.size_toArray, List.length_nil]; omega))
  show wpAny (model prog w) A (load s.heap.objs.size >>= fun o => match o.data with
      | .seq xs _ => pure xs.toList
      | _ => unsupported "internal:collect") Q E { s with heap := (s.heap.push (seqObj "list" #[] 0)).update s.heap.objs.size (Obj.mapSeq (· ++ vs.toArray)) }
  refine wpAny_bind (wpAny_load (get?_update_seq (Heap.get?_push_size _ rfl) _) ?_)
  show wpAny _ _ (pure ((#[] : Array Value) ++ vs.toArray).toList) Q E _
  rw [show ((#[] : Array Value) ++ vs.toArray).toList = vs by simp]
  exact wpAny_pure h
/-- sorted(..) by the sort of the new list -/
theorem sorted_by {l : Addr} {T : String} {o : Obj} {vs : List Value} {n : Nat} {kw : List (Str × Value)} {Q : Value → Shared → Prop} (hT : T = "list" ∨ T = "tuple") (ho : s.heap.get? l = some o) (hc : o.cls = .type T) (hd : o.data = .seq vs.toArray n) (hL : vs.length ≤ sizeLine)
    (ha1 : argsOk "sorted" ⟨[.ref l], kw⟩) (ha2 : ∀ x, argsOk "list.sort" ⟨[.ref x], kw⟩)
    (body : ∀ E' : Value → Shared → Prop, wpAny (model prog w) A.in1.in1 (Builtin.«list.sort» ⟨[.ref (s.heap.objs.size + 1)], kw⟩) (fun f s' => f = .done (.ret .none) ∧ Q (.ref (s.heap.objs.size + 1)) s') E' { s with heap := PySem.W.copyHeap s.heap vs }) :
    wpAny (model prog w) A (call (.builtin "sorted") [.ref l] kw) Q E s := by
  refine call_function_entry_kw kind_sorted plain_sorted entry_sorted ha1 ?_
  unfold Builtin.«sorted»
  refine wpAny_bind (m := checkCount "sorted" 1 1 _) (wpAny_pure (wpAny_bind (gather hT ho hc hd hL (wpAny_bind (wpAny_newList ?_ hL)))))
  have hsz : ((s.heap.push (seqObj "list" #[] 0)).update s.heap.objs.size (Obj.mapSeq (· ++ vs.toArray))).objs.size = s.heap.objs.size + 1 := by
    rw [Heap.size_update, size_push']
  show wpAny _ _ _ _ _ { s with heap := PySem.W.copyHeap s.heap vs }
  rw [hsz]
  refine wpAny_bind (wpAny_holding (wpAny_call_entry_kw slot_list_sort ⟨_, PySem.W.copyHeap_at s.heap vs, rfl⟩ entry_list_sort ?body (ha2 _)))
  case body =>
    refine wpAny_mono (body _) (fun f s' hf => ?_) fun _ _ e => e
    exact ⟨_, hf.1, wpAny_pure ⟨_, rfl, hf.2⟩⟩
end
section
variable {X : Cx}
theorem each_dp {pins : List (Addr × Obj)} {σ : L2.St} {H : Hp} {s : Shared} (I : Inv X pins σ H s) : ∀ {vs : List V} {ds : List D} {us : List Value}, DpAll X.K H vs ds → Vals vs us →
    PySem.W.EachIs (fun (u : Value) (b : V × D) => L2.RelV b.1 u) us (vs.zip ds) ∧ PySem.W.EachIs (fun (u : Value) (b : V × D) => ∃ as, Reads s.heap u b.2 as) us (vs.zip ds) ∧ (vs.zip ds).map Prod.snd = ds
  | _, _, _, .nil, .nil => ⟨.nil, .nil, rfl⟩
  | _, _, _, .cons h t, .cons r rt => by
    obtain ⟨h1, h2, h3⟩ := each_dp I t rt
    exact ⟨.cons r h1, .cons (Dp.reads I _ _ _ h r) h2, by rw [List.zip_cons_cons, List.map_cons, h3]⟩
theorem vals_each : ∀ {us : List Value} {bs : List (V × D)}, PySem.W.EachIs (fun (u : Value) (b : V × D) => L2.RelV b.1 u) us bs → Vals (bs.map Prod.fst) us
  | _, _, .nil => .nil
  | _, _, .cons h t => .cons h (vals_each t)
def sortV (vs : List V) (ds : List D) : List V := ((vs.zip ds).mergeSort (PySem.W.dataLe false Prod.snd)).map Prod.fst
def rSortD (K : PySem.W.Frag) : List V → Hp → VK → Prop := fun xs H Q => ∃ a vs ds, xs = [.ref a] ∧ (SqL K H a vs ∨ SqT K H a vs) ∧ DpAll K H vs ds ∧ PySem.W.AllAlike ds ∧ PySem.W.Sortable ds ∧ (∀ d ∈ ds, d.depth ≤ 60) ∧
  ∀ p, H p = none → Q (.ref p) (upd H p (.lst (sortV vs ds)))
theorem call_sortedD {n : Nat} (hr : Room n X.A) : CallR X (.builtin "sorted") (rSortD X.K) := by
  intro pins s σ H xs us Q I r h
  obtain ⟨a, vs, ds, rfl, hs, hd, al, so, dp, q⟩ := h
  rw [Vals.ref1 r]
  have hsrc : ∃ (T : String) (o : Obj) (its : List Value) (c : Nat), (T = "list" ∨ T = "tuple") ∧ s.heap.get? a = some o ∧ o.cls = .type T ∧ o.data = .seq its.toArray c ∧ Vals vs its ∧ vs.length ≤ sizeLine := by
    rcases hs with hs | hs
    · obtain ⟨its, rv, ⟨o, c, ho, hc, _, hdt⟩, hz⟩ := I.list hs
      exact ⟨"list", o, its, c, .inl rfl, ho, hc, hdt, rv, hz⟩
    · obtain ⟨its, rv, ⟨o, ho, hc, c, hdt⟩, hz⟩ := I.tuple hs
      exact ⟨"tuple", o, its, c, .inr rfl, ho, hc, hdt, rv, hz⟩
  obtain ⟨T, o, its, c, hT, ho, hc, hdt, rv, hz⟩ := hsrc
  obtain ⟨e, er, em⟩ := each_dp I hd rv
  have hL : its.length ≤ sizeLine := by rw [← rv.length]; exact hz
  have er' : PySem.W.EachIs (fun (u : Value) (b : V × D) => ∃ as, Reads (PySem.W.sortingHeap (PySem.W.copyHeap s.heap its) (s.heap.objs.size + 1) its) u b.2 as) its (vs.zip ds) := er.mono fun _ _ ⟨as, r⟩ => ⟨as, PyProof.Rows.Reads.keeps (fun _ _ => PySem.W.sorting_copy_old) r⟩
  have hal : PySem.W.AllAlike ((vs.zip ds).map Prod.snd) := by rw [em]; exact al
  have hk : PySem.W.Sortable ((vs.zip ds).map Prod.snd) := by rw [em]; exact so
  have hu : ∀ b, b ∈ vs.zip ds → X.A.units + 2 + (Prod.snd b : D).depth < cLine := fun b hb => by
    have := dp b.2 (by rw [← em]; exact List.mem_map.mpr ⟨b, hb, rfl⟩)
    have := hr.un
    omega
  refine sorted_by hT ho hc hdt hL (args_sorted1 _) (fun _ => args_list_sort _) fun E' => ?_
  refine PySem.W.list_sort_vals (κ := PySem.W.dataKind (PySem.W.sortingHeap (PySem.W.copyHeap s.heap its) (s.heap.objs.size + 1) its) ((vs.zip ds).map Prod.snd)) (s := { s with heap := PySem.W.copyHeap s.heap its }) (PySem.W.copyHeap_at s.heap its)
    (PySem.W.SortsAt.data (s := { s with heap := PySem.W.sortingHeap (PySem.W.copyHeap s.heap its) (s.heap.objs.size + 1) its }) (PySem.W.each_map (R := fun u d => ∃ as, Reads (PySem.W.sortingHeap (PySem.W.copyHeap s.heap its) (s.heap.objs.size + 1) its) u d as) Prod.snd er') hal hk (PySem.W.bound_map (A := X.A.in1.in1) hu)) hL ⟨rfl, ?_⟩
  have eo := PySem.W.sortVals_data (h' := PySem.W.sortingHeap (PySem.W.copyHeap s.heap its) (s.heap.objs.size + 1) its) (enc := Prod.snd) false e er' hal
  generalize hout : PySem.W.sortVals (PySem.W.dataKind (PySem.W.sortingHeap (PySem.W.copyHeap s.heap its) (s.heap.objs.size + 1) its) ((vs.zip ds).map Prod.snd)) false its its = out at eo ⊢
  obtain ⟨ep, he'⟩ := PyProof.Rows.sortedAll_at s.heap its out.toArray
  have vo := vals_each eo
  have hlen : (sortV vs ds).length ≤ sizeLine := by
    have h1 : (sortV vs ds).length ≤ vs.length := by
      unfold sortV
      rw [List.length_map, List.length_mergeSort, List.length_zip]
      omega
    omega
  exact ⟨.ref _, upd H (s.heap.objs.size + 1) (.lst (sortV vs ds)), I.laid (t' := s.toks) (fun _ _ => PyProof.Rows.sortedAll_old) (Nat.le_succ _) ⟨hlen, out, ep, vo, he'⟩, rfl, q _ (I.hok.fresh (Nat.le_succ _))⟩
end
end Pu

set_option Elab.async false
set_option linter.all false
set_option maxRecDepth 100000
namespace Pu
open PySem PySem.Spec PyProof.Rows L2

def DoesC (K : PySem.W.Frag) (r : List V → Hp → VK → Prop) (op : List D → Option D) : Prop := ∀ ⦃H : Hp⦄ ⦃M : Addr → Prop⦄ ⦃vs : List V⦄ ⦃ds : List D⦄ ⦃d : D⦄ ⦃Q : VK⦄, MK H M → RepsB K H M ds vs → op ds = some d → (∀ v H', Same H H' → Rep K H' M d v → Q v H') → r vs H Q
def DoesCN (K : PySem.W.Frag) (r : List V → Hp → VK → Prop) (op : List D → Option D) : Prop := ∀ ⦃H : Hp⦄ ⦃M : Addr → Prop⦄ ⦃vs : List V⦄ ⦃ds : List D⦄ ⦃d : D⦄ ⦃Q : VK⦄, MK H M → RepsB K H M ds vs → op ds = some d → (∀ p H', H p = none → Same H H' → Own K H' (plus M p) d p → Q (.ref p) H') → r vs H Q
def ap (op : List D → Option D) (fs : Es) : Ev := fun ρ => (fs ρ).bind op
theorem g_ap {K : PySem.W.Frag} {r : List V → Hp → VK → Prop} {op : List D → Option D} {t : TA} {fs : Es} (h : DoesC K r op) (ha : GAB K t fs) : GE K (tCB r t) (ap op fs) := fun H0 M0 H M ρ σ Q d E hf q => by
  obtain ⟨ds, e1, hf⟩ := bind_some hf
  exact ha E e1 fun vs H1 s1 r1 => h (E.mkh.same s1) r1 hf fun v H2 s2 r2 => q v H2 (s1.trans s2) r2
theorem g_apN {K : PySem.W.Frag} {r : List V → Hp → VK → Prop} {op : List D → Option D} {t : TA} {fs : Es} (h : DoesCN K r op) (ha : GAB K t fs) : GN K (tCB r t) (ap op fs) := fun H0 M0 H M ρ σ Q d E hf q => by
  obtain ⟨ds, e1, hf⟩ := bind_some hf
  exact ha E e1 fun vs H1 s1 r1 => h (E.mkh.same s1) r1 hf fun p H2 n s2 r2 => q p H2 (s1.free n) (s1.trans s2) r2
section
variable {X : Cx} {x : Str} {p pos : Pos} {e : Expr} {es : List Expr} {t : TA} {id T : String} {r : List V → Hp → VK → Prop} {op : List D → Option D} {fs : Es}
theorem c_bi (hc : CallR X (.builtin id) r) (hd : DoesC X.K r op) (hg : Gl X x) (hm : X.mg x = none) (hv : bootBuiltins x = some (.builtin id)) (ha : AB X (e :: es) t fs) (hn : x ≠ "__name__" := by decide) (hdb : (x == ("__debug__" : Str)) = false := by decide)
    (he : starEach (e :: es) X.env = (false, eval e X.env) :: starEach es X.env := by rfl) (hpl : (backTo pos (starEach es X.env)).any (·.1) = false := by rfl) : EE X (.Call (.Name x p) (e :: es) [] pos) (tCB r t) (ap op fs) := ⟨pe_callB hc hg hm hv ha.pa hn hdb he hpl, g_ap hd ha.g⟩
theorem c_ty (hc : CallR X (.type T) r) (hd : DoesC X.K r op) (hg : Gl X x) (hm : X.mg x = none) (hv : bootBuiltins x = some (.type T)) (ha : AB X (e :: es) t fs) (hn : x ≠ "__name__" := by decide) (hdb : (x == ("__debug__" : Str)) = false := by decide)
    (he : starEach (e :: es) X.env = (false, eval e X.env) :: starEach es X.env := by rfl) (hpl : (backTo pos (starEach es X.env)).any (·.1) = false := by rfl) : EE X (.Call (.Name x p) (e :: es) [] pos) (tCB r t) (ap op fs) := ⟨pe_callTy hc hg hm hv ha.pa hn hdb he hpl, g_ap hd ha.g⟩
theorem cn_bi (hc : CallR X (.builtin id) r) (hd : DoesCN X.K r op) (hg : Gl X x) (hm : X.mg x = none) (hv : bootBuiltins x = some (.builtin id)) (ha : AB X (e :: es) t fs) (hn : x ≠ "__name__" := by decide) (hdb : (x == ("__debug__" : Str)) = false := by decide)
    (he : starEach (e :: es) X.env = (false, eval e X.env) :: starEach es X.env := by rfl) (hpl : (backTo pos (starEach es X.env)).any (·.1) = false := by rfl) : EN X (.Call (.Name x p) (e :: es) [] pos) (tCB r t) (ap op fs) := ⟨pe_callB hc hg hm hv ha.pa hn hdb he hpl, g_apN hd ha.g⟩
theorem cn_ty (hc : CallR X (.type T) r) (hd : DoesCN X.K r op) (hg : Gl X x) (hm : X.mg x = none) (hv : bootBuiltins x = some (.type T)) (ha : AB X (e :: es) t fs) (hn : x ≠ "__name__" := by decide) (hdb : (x == ("__debug__" : Str)) = false := by decide)
    (he : starEach (e :: es) X.env = (false, eval e X.env) :: starEach es X.env := by rfl) (hpl : (backTo pos (starEach es X.env)).any (·.1) = false := by rfl) : EN X (.Call (.Name x p) (e :: es) [] pos) (tCB r t) (ap op fs) := ⟨pe_callTy hc hg hm hv ha.pa hn hdb he hpl, g_apN hd ha.g⟩
end

/-! ### the built-ins as functions -/
def lenD : List D → Option D
  | [.list ds] => some (.int ds.length)
  | [.tuple ds] => some (.int ds.length)
  | [.str x] => if x.length ≤ sizeLine then some (.int x.length) else none
  | _ => none
def absD : List D → Option D
  | [.int i] => some (.int (if i < 0 then -i else i))
  | _ => none
def min2D : List D → Option D
  | [.int i, .int j] => some (.int (if j < i then j else i))
  | _ => none
def max2D : List D → Option D
  | [.int i, .int j] => some (.int (if j > i then j else i))
  | _ => none
def intD : List D → Option D
  | [.int i] => some (.int i)
  | [.bool b] => some (.int (if b then 1 else 0))
  | _ => none
def ints? : List D → Option (List Int)
  | [] => some []
  | .int i :: ds => (ints? ds).map (i :: ·)
  | _ => none
def bools? : List D → Option (List Bool)
  | [] => some []
  | .bool i :: ds => (bools? ds).map (i :: ·)
  | _ => none
theorem ints?_map : ∀ ns : List Int, ints? (ns.map PyData.int) = some ns
  | [] => rfl
  | n :: ns => by simp [ints?, ints?_map ns]
theorem bools?_map : ∀ ns : List Bool, bools? (ns.map PyData.bool) = some ns
  | [] => rfl
  | n :: ns => by simp [bools?, bools?_map ns]
theorem ints?_some : ∀ {ds : List D} {ns : List Int}, ints? ds = some ns → ds = ns.map PyData.int
  | [], ns, h => by cases h; rfl
  | d :: ds, ns, h => by
    unfold ints? at h
    split at h
    · rename_i e; cases e
    · rename_i i ds' e
      cases e
      obtain ⟨ms, e1, e2⟩ := Option.map_eq_some_iff.mp h
      subst e2
      rw [ints?_some e1]; rfl
    · cases h
theorem bools?_some : ∀ {ds : List D} {ns : List Bool}, bools? ds = some ns → ds = ns.map PyData.bool
  | [], ns, h => by cases h; rfl
  | d :: ds, ns, h => by
    unfold bools? at h
    split at h
    · rename_i e; cases e
    · rename_i i ds' e
      cases e
      obtain ⟨ms, e1, e2⟩ := Option.map_eq_some_iff.mp h
      subst e2
      rw [bools?_some e1]; rfl
    · cases h
theorem reps_ints {K : PySem.W.Frag} {H : Hp} {M : Addr → Prop} : ∀ {ns : List Int} {vs : List V}, Reps K H M (ns.map PyData.int) vs → vs = ns.map V.int
  | [], _, r => by cases r; rfl
  | n :: ns, _, r => by
    cases r with
    | cons h t => cases h; rw [reps_ints t]; rfl
theorem reps_bools {K : PySem.W.Frag} {H : Hp} {M : Addr → Prop} : ∀ {ns : List Bool} {vs : List V}, Reps K H M (ns.map PyData.bool) vs → vs = ns.map V.bl
  | [], _, r => by cases r; rfl
  | n :: ns, _, r => by
    cases r with
    | cons h t => cases h; rw [reps_bools t]; rfl
def seqOf : D → Option (List D)
  | .list ds => some ds
  | .tuple ds => some ds
  | _ => none
def sumD : List D → Option D
  | [.list ds] => (ints? ds).map fun ns => .int ns.sum
  | _ => none
def anyD : List D → Option D
  | [.list ds] => (bools? ds).map fun bs => .bool (bs.any id)
  | _ => none
def allD : List D → Option D
  | [.list ds] => (bools? ds).map fun bs => .bool (bs.all id)
  | _ => none
def leastI : List Int → Int
  | [] => 0
  | x :: xs => xs.foldl min x
def greatestI : List Int → Int
  | [] => 0
  | x :: xs => xs.foldl max x
def minI : List D → Option D
  | [.list ds] => (ints? ds).bind fun ns => if ns.isEmpty then none else some (.int (leastI ns))
  | _ => none
def maxI : List D → Option D
  | [.list ds] => (ints? ds).bind fun ns => if ns.isEmpty then none else some (.int (greatestI ns))
  | _ => none
def tupD : List D → Option D
  | [.list ds] => some (.tuple ds)
  | [.tuple ds] => some (.tuple ds)
  | _ => none
def lstD : List D → Option D
  | [.list ds] => some (.list ds)
  | [.tuple ds] => some (.list ds)
  | _ => none
def strD : List D → Option D
  | [.int i] => if i.natAbs.log2 < 1920 then some (.str (toString i)) else none
  | _ => none
/-- may be sorted -/
def isNE : D → Bool
  | .tuple (_ :: _) => true
  | _ => false
def isTup : D → Bool
  | .tuple _ => true
  | _ => false
def srtOk (ds : List D) : Bool := ds.all (fun d => d.canLay0 && decide (d.depth ≤ 60)) && (ds.all fun d => ds.all fun e => PySem.W.alike d e) && (ds.all isNE || ds.all fun d => !isNon d && !isTup d)
def leA (a b : D) : Bool := !PySem.W.dataLt b a
def sortedD : List D → Option D
  | [x] => (seqOf x).bind fun ds => if srtOk ds = true then some (.list (ds.mergeSort leA)) else none
  | _ => none
theorem foldl_min_le : ∀ (xs : List Int) (a : Int), xs.foldl min a ≤ a ∧ (∀ x ∈ xs, xs.foldl min a ≤ x) ∧ (xs.foldl min a = a ∨ xs.foldl min a ∈ xs)
  | [], a => ⟨Int.le_refl _, (fun _ h => nomatch h), .inl rfl⟩
  | x :: xs, a => by
    obtain ⟨h1, h2, h3⟩ := foldl_min_le xs (min a x)
    rw [List.foldl_cons]
    refine ⟨by omega, fun y hy => ?_, ?_⟩
    · rcases List.mem_cons.mp hy with e | hy
      · subst e; omega
      · exact h2 y hy
    · rcases h3 with e | e
      · by_cases hx : a ≤ x
        · left; omega
        · right; rw [e]; simp; left; omega
      · right; exact List.mem_cons_of_mem _ e
theorem foldl_max_ge : ∀ (xs : List Int) (a : Int), a ≤ xs.foldl max a ∧ (∀ x ∈ xs, x ≤ xs.foldl max a) ∧ (xs.foldl max a = a ∨ xs.foldl max a ∈ xs)
  | [], a => ⟨Int.le_refl _, (fun _ h => nomatch h), .inl rfl⟩
  | x :: xs, a => by
    obtain ⟨h1, h2, h3⟩ := foldl_max_ge xs (max a x)
    rw [List.foldl_cons]
    refine ⟨by omega, fun y hy => ?_, ?_⟩
    · rcases List.mem_cons.mp hy with e | hy
      · subst e; omega
      · exact h2 y hy
    · rcases h3 with e | e
      · by_cases hx : x ≤ a
        · left; omega
        · right; rw [e]; simp; left; omega
      · right; exact List.mem_cons_of_mem _ e
theorem leastI_mem {ns : List Int} (h : ns ≠ []) : leastI ns ∈ ns := by
  cases ns with
  | nil => exact absurd rfl h
  | cons x xs =>
    rcases (foldl_min_le xs x).2.2 with e | e
    · show xs.foldl min x ∈ x :: xs; rw [e]; exact List.mem_cons_self
    · exact List.mem_cons_of_mem _ e
theorem leastI_le {ns : List Int} {y : Int} (h : y ∈ ns) : leastI ns ≤ y := by
  cases ns with
  | nil => cases h
  | cons x xs =>
    rcases List.mem_cons.mp h with e | e
    · subst e; exact (foldl_min_le xs y).1
    · exact (foldl_min_le xs x).2.1 y e
theorem greatestI_mem {ns : List Int} (h : ns ≠ []) : greatestI ns ∈ ns := by
  cases ns with
  | nil => exact absurd rfl h
  | cons x xs =>
    rcases (foldl_max_ge xs x).2.2 with e | e
    · show xs.foldl max x ∈ x :: xs; rw [e]; exact List.mem_cons_self
    · exact List.mem_cons_of_mem _ e
theorem greatestI_ge {ns : List Int} {y : Int} (h : y ∈ ns) : y ≤ greatestI ns := by
  cases ns with
  | nil => cases h
  | cons x xs =>
    rcases List.mem_cons.mp h with e | e
    · subst e; exact (foldl_max_ge xs y).1
    · exact (foldl_max_ge xs x).2.1 y e

/-! ### what they do -/
section
variable {K : PySem.W.Frag} {H : Hp} {M : Addr → Prop}
theorem RepsB.one {d : D} {vs : List V} (r : RepsB K H M [d] vs) : ∃ v, vs = [v] ∧ RepB K H M d v := by
  cases r with
  | cons h t => cases t; exact ⟨_, rfl, h⟩
theorem RepsB.two {d d' : D} {vs : List V} (r : RepsB K H M [d, d'] vs) : ∃ v v', vs = [v, v'] ∧ RepB K H M d v ∧ RepB K H M d' v' := by
  cases r with
  | cons h t => obtain ⟨v', rfl, h'⟩ := t.one; exact ⟨_, _, rfl, h, h'⟩
theorem does_len : DoesC K (fun xs H Q => ∃ x n, xs = [x] ∧ LenV K x H n ∧ Q (.int n) H) lenD := fun H M vs ds d Q m r e q => by
  unfold lenD at e
  split at e
  · cases e
    obtain ⟨v, rfl, z⟩ := r.one
    obtain ⟨a, us, rfl, h, y⟩ := z.lst
    refine ⟨_, us.length, rfl, .inl ⟨us, h, rfl⟩, ?_⟩
    rw [← y.length]
    exact q _ H (Same.refl H) (.int _)
  · cases e
    obtain ⟨v, rfl, z⟩ := r.one
    obtain ⟨a, us, rfl, h, y⟩ := z.tup
    refine ⟨_, us.length, rfl, .inr ⟨us, h, rfl⟩, ?_⟩
    rw [← y.length]
    exact q _ H (Same.refl H) (.int _)
  · split at e
    · rename_i hz
      cases e
      obtain ⟨v, rfl, z⟩ := r.one
      rw [z.str]
      exact ⟨_, _, rfl, ⟨hz, rfl⟩, q _ H (Same.refl H) (.int _)⟩
    · cases e
  · cases e
theorem does_abs : DoesC K (fun xs H Q => ∃ i, xs = [.int i] ∧ Q (.int (if i < 0 then -i else i)) H) absD := fun H M vs ds d Q m r e q => by
  unfold absD at e
  split at e
  · cases e
    obtain ⟨v, rfl, z⟩ := r.one
    exact ⟨_, by rw [z.int], q _ H (Same.refl H) (.int _)⟩
  · cases e
theorem does_min2 : DoesC K (fun xs H Q => ∃ i j, xs = [.int i, .int j] ∧ Q (.int (if j < i then j else i)) H) min2D := fun H M vs ds d Q m r e q => by
  unfold min2D at e
  split at e
  · cases e
    obtain ⟨v, v', rfl, z, z'⟩ := r.two
    exact ⟨_, _, by rw [z.int, z'.int], q _ H (Same.refl H) (.int _)⟩
  · cases e
theorem does_max2 : DoesC K (fun xs H Q => ∃ i j, xs = [.int i, .int j] ∧ Q (.int (if j > i then j else i)) H) max2D := fun H M vs ds d Q m r e q => by
  unfold max2D at e
  split at e
  · cases e
    obtain ⟨v, v', rfl, z, z'⟩ := r.two
    exact ⟨_, _, by rw [z.int, z'.int], q _ H (Same.refl H) (.int _)⟩
  · cases e
theorem does_int : DoesC K (fun xs H Q => (∃ i, xs = [.int i] ∧ Q (.int i) H) ∨ ∃ k, xs = [.bl k] ∧ Q (.int (if k then 1 else 0)) H) intD := fun H M vs ds d Q m r e q => by
  unfold intD at e
  split at e
  · cases e
    obtain ⟨v, rfl, z⟩ := r.one
    exact .inl ⟨_, by rw [z.int], q _ H (Same.refl H) (.int _)⟩
  · cases e
    obtain ⟨v, rfl, z⟩ := r.one
    exact .inr ⟨_, by rw [z.bl], q _ H (Same.refl H) (.int _)⟩
  · cases e
theorem does_str : DoesC K (fun xs H Q => ∃ i, xs = [.int i] ∧ i.natAbs.log2 < 1920 ∧ Q (.str (toString i)) H) strD := fun H M vs ds d Q m r e q => by
  unfold strD at e
  split at e
  · split at e
    · rename_i hz
      cases e
      obtain ⟨v, rfl, z⟩ := r.one
      exact ⟨_, by rw [z.int], hz, q _ H (Same.refl H) (.str _)⟩
    · cases e
  · cases e
theorem one_ints {ds : List D} {ns : List Int} {vs : List V} (r : RepsB K H M [.list ds] vs) (e : ints? ds = some ns) : ∃ a, vs = [.ref a] ∧ SqL K H a (ns.map V.int) := by
  obtain ⟨v, rfl, z⟩ := r.one
  obtain ⟨a, us, rfl, h, y⟩ := z.lst
  rw [ints?_some e] at y
  rw [reps_ints y] at h
  exact ⟨a, rfl, h⟩
theorem one_bools {ds : List D} {ns : List Bool} {vs : List V} (r : RepsB K H M [.list ds] vs) (e : bools? ds = some ns) : ∃ a, vs = [.ref a] ∧ SqL K H a (ns.map V.bl) := by
  obtain ⟨v, rfl, z⟩ := r.one
  obtain ⟨a, us, rfl, h, y⟩ := z.lst
  rw [bools?_some e] at y
  rw [reps_bools y] at h
  exact ⟨a, rfl, h⟩
theorem does_sum : DoesC K (rSum K) sumD := fun H M vs ds d Q m r e q => by
  unfold sumD at e
  split at e
  · obtain ⟨ns, e1, e2⟩ := Option.map_eq_some_iff.mp e
    subst e2
    obtain ⟨a, rfl, h⟩ := one_ints r e1
    exact ⟨a, ns, rfl, h, q _ H (Same.refl H) (.int _)⟩
  · cases e
theorem does_any : DoesC K (rAny K) anyD := fun H M vs ds d Q m r e q => by
  unfold anyD at e
  split at e
  · obtain ⟨ns, e1, e2⟩ := Option.map_eq_some_iff.mp e
    subst e2
    obtain ⟨a, rfl, h⟩ := one_bools r e1
    exact ⟨a, ns, rfl, h, q _ H (Same.refl H) (.bl _)⟩
  · cases e
theorem does_all : DoesC K (rAll K) allD := fun H M vs ds d Q m r e q => by
  unfold allD at e
  split at e
  · obtain ⟨ns, e1, e2⟩ := Option.map_eq_some_iff.mp e
    subst e2
    obtain ⟨a, rfl, h⟩ := one_bools r e1
    exact ⟨a, ns, rfl, h, q _ H (Same.refl H) (.bl _)⟩
  · cases e
theorem does_minI : DoesC K (rMin K) minI := fun H M vs ds d Q m r e q => by
  unfold minI at e
  split at e
  · obtain ⟨ns, e1, e2⟩ := bind_some e
    split at e2
    · cases e2
    · rename_i hne
      cases e2
      have hne' : ns ≠ [] := fun z => hne (by rw [z]; rfl)
      obtain ⟨a, rfl, h⟩ := one_ints r e1
      refine ⟨a, ns, rfl, h, List.length_pos_iff.mpr hne', fun x hx hle => ?_⟩
      have e3 : x = leastI ns := Int.le_antisymm (hle _ (leastI_mem hne')) (leastI_le hx)
      rw [e3]
      exact q _ H (Same.refl H) (.int _)
  · cases e
theorem does_maxI : DoesC K (rMax K) maxI := fun H M vs ds d Q m r e q => by
  unfold maxI at e
  split at e
  · obtain ⟨ns, e1, e2⟩ := bind_some e
    split at e2
    · cases e2
    · rename_i hne
      cases e2
      have hne' : ns ≠ [] := fun z => hne (by rw [z]; rfl)
      obtain ⟨a, rfl, h⟩ := one_ints r e1
      refine ⟨a, ns, rfl, h, List.length_pos_iff.mpr hne', fun x hx hle => ?_⟩
      have e3 : x = greatestI ns := Int.le_antisymm (greatestI_ge hx) (hle _ (greatestI_mem hne'))
      rw [e3]
      exact q _ H (Same.refl H) (.int _)
  · cases e
def rTupOf (K : PySem.W.Frag) : List V → Hp → VK → Prop := fun xs H Q => ∃ p ys, xs = [.ref p] ∧ ((SqL K H p ys ∧ ∀ l, H l = none → Q (.ref l) (upd H l (.tup ys))) ∨ (SqT K H p ys ∧ Q (.ref p) H))
theorem does_tup : DoesC K (rTupOf K) tupD := fun H M vs ds d Q m r e q => by
  unfold tupD at e
  split at e
  · cases e
    obtain ⟨v, rfl, z⟩ := r.one
    obtain ⟨a, us, rfl, h, y⟩ := z.lst
    refine ⟨a, us, rfl, .inl ⟨h, fun p np => ?_⟩⟩
    have s := same_upd (o := .tup us) np
    exact q _ _ s (.tup (.of upd_same) (y.same m s))
  · cases e
    obtain ⟨v, rfl, z⟩ := r.one
    obtain ⟨a, us, rfl, h, y⟩ := z.tup
    exact ⟨a, us, rfl, .inr ⟨h, q _ H (Same.refl H) (.tup h y)⟩⟩
  · cases e
def rLstOf (K : PySem.W.Frag) : List V → Hp → VK → Prop := fun xs H Q => ∃ p ys, xs = [.ref p] ∧ (SqL K H p ys ∨ SqT K H p ys) ∧ ∀ l, H l = none → Q (.ref l) (upd H l (.lst ys))
theorem does_lst : DoesCN K (rLstOf K) lstD := fun H M vs ds d Q m r e q => by
  unfold lstD at e
  split at e
  · cases e
    obtain ⟨v, rfl, z⟩ := r.one
    obtain ⟨a, us, rfl, h, y⟩ := z.lst
    refine ⟨a, us, rfl, .inl h, fun p np => ?_⟩
    have s := same_upd (o := .lst us) np
    exact q _ _ np s ⟨us, upd_same, y.stay m (.of_same s) (new_plus np)⟩
  · cases e
    obtain ⟨v, rfl, z⟩ := r.one
    obtain ⟨a, us, rfl, h, y⟩ := z.tup
    refine ⟨a, us, rfl, .inr h, fun p np => ?_⟩
    have s := same_upd (o := .lst us) np
    exact q _ _ np s ⟨us, upd_same, y.stay m (.of_same s) (new_plus np)⟩
  · cases e
theorem reps_zip : ∀ {vs : List V} {ds : List D}, Reps K H M ds vs → ∀ b ∈ vs.zip ds, Rep K H M b.2 b.1
  | _, _, .nil, b, hb => by cases hb
  | _, _, .cons h t, b, hb => by
    rw [List.zip_cons_cons] at hb
    rcases List.mem_cons.mp hb with e | hb
    · rw [e]; exact h
    · exact reps_zip t b hb
theorem reps_of : ∀ {bs : List (V × D)}, (∀ b ∈ bs, Rep K H M b.2 b.1) → Reps K H M (bs.map Prod.snd) (bs.map Prod.fst)
  | [], _ => .nil
  | b :: bs, h => .cons (h b List.mem_cons_self) (reps_of fun c hc => h c (List.mem_cons_of_mem _ hc))
theorem zip_snd {vs : List V} {ds : List D} (h : ds.length = vs.length) : (vs.zip ds).map Prod.snd = ds := by
  rw [← List.unzip_snd, List.unzip_zip_right]; omega
theorem reps_sort {vs : List V} {ds : List D} (r : Reps K H M ds vs) : Reps K H M (ds.mergeSort leA) (sortV vs ds) := by
  have e : ((vs.zip ds).mergeSort (PySem.W.dataLe false Prod.snd)).map Prod.snd = ds.mergeSort leA := by
    rw [PySem.W.sort_maps (r := PySem.W.dataLe false Prod.snd) (s := leA) Prod.snd (fun a _ b _ => rfl), zip_snd r.length]
  rw [← e]
  exact reps_of fun b hb => reps_zip r b ((List.mergeSort_perm _ _).mem_iff.mp hb)
theorem srt_premises {ds : List D} (h : srtOk ds = true) : PyData.canLayAll0 ds = true ∧ PySem.W.AllAlike ds ∧ PySem.W.Sortable ds ∧ ∀ d ∈ ds, d.depth ≤ 60 := by
  unfold srtOk at h
  simp only [Bool.and_eq_true, Bool.or_eq_true] at h
  obtain ⟨⟨h1, h2⟩, h3⟩ := h
  simp only [List.all_eq_true, Bool.and_eq_true, decide_eq_true_eq] at h1 h2
  refine ⟨?_, fun d hd e he => h2 d hd e he, ?_, fun d hd => (h1 d hd).2⟩
  · clear h2 h3
    induction ds with
    | nil => rfl
    | cons d ds ih => simp only [PyData.canLayAll0, Bool.and_eq_true]; exact ⟨(h1 d List.mem_cons_self).1, ih fun e he => h1 e (List.mem_cons_of_mem _ he)⟩
  · rcases h3 with h3 | h3
    · left
      intro d hd
      have := List.all_eq_true.mp h3 d hd
      unfold isNE at this
      split at this
      · exact ⟨_, _, rfl⟩
      · cases this
    · right
      intro d hd
      have := List.all_eq_true.mp h3 d hd
      simp only [Bool.and_eq_true, Bool.not_eq_true'] at this
      refine ⟨isNon_of this.1, fun xs e => ?_⟩
      subst e
      simp [isTup] at this
theorem does_sorted : DoesCN K (rSortD K) sortedD := fun H M vs ds d Q m r e q => by
  unfold sortedD at e
  split at e
  · rename_i x
    obtain ⟨v, rfl, z⟩ := r.one
    obtain ⟨es, e1, e2⟩ := bind_some e
    split at e2
    · rename_i ok
      cases e2
      obtain ⟨c, al, so, dp⟩ := srt_premises ok
      have hsrc : ∃ a us, v = .ref a ∧ (SqL K H a us ∨ SqT K H a us) ∧ Reps K H M es us := by
        unfold seqOf at e1
        split at e1
        · cases e1; obtain ⟨a, us, e3, h, y⟩ := z.lst; exact ⟨a, us, e3, .inl h, y⟩
        · cases e1; obtain ⟨a, us, e3, h, y⟩ := z.tup; exact ⟨a, us, e3, .inr h, y⟩
        · cases e1
      obtain ⟨a, us, rfl, h, y⟩ := hsrc
      refine ⟨a, us, es, rfl, h, y.dp c, al, so, dp, fun p np => ?_⟩
      have s := same_upd (o := .lst (sortV us es)) np
      exact q _ _ np s ⟨_, upd_same, (reps_sort y).stay m (.of_same s) (new_plus np)⟩
    · cases e2
  · cases e
end
end Pu

set_option Elab.async false
set_option linter.all false
set_option maxRecDepth 100000
namespace Pu
open PySem PySem.Spec PyProof.Rows L2

/-! ### calls of defs -/
def spP (K : PySem.W.Frag) (n : Nat) (sem : List D → Option D) : Sp := fun vs H Q _ => ∃ (M : Addr → Prop) (ds : List D) (d : D), MK H M ∧ Reps K H M ds vs ∧ ds.length = n ∧ sem ds = some d ∧ ∀ v H', Same H H' → Rep K H' M d v → Q v H'
section
variable {X : Cx} {k n : Nat} {f : Addr} {fd : FuncData} {ps : List Str} {sem : List D → Option D} {x : Str} {p pos : Pos} {e : Expr} {es : List Expr} {t : TA} {fs : Es}
theorem c_def (F : FnOk X.prog X.w X.K X.mg X.base CX0 k f fd ps (spP X.K n sem)) (hr : Room k X.A) (hg : Gl X x) (hm : X.mg x = some (.ref f)) (hk : PySem.W.keepIn X.K (.ref f) = true) (hb : Binds X.K fd ps []) (ha : AE X (e :: es) t fs) (hn : (e :: es).length = n := by rfl)
    (hdb : (x == ("__debug__" : Str)) = false := by decide) (he : starEach (e :: es) X.env = (false, eval e X.env) :: starEach es X.env := by rfl) (hpl : (backTo pos (starEach es X.env)).any (·.1) = false := by rfl) :
    EE X (.Call (.Name x p) (e :: es) [] pos) (tCall (spP X.K n sem) [] E0 t) (ap sem fs) := ⟨pe_call F hr hg hm hk hb .nil pass0 ha.pa hdb he hpl, fun H0 M0 H M ρ σ Q d E hf q => by
  obtain ⟨ds, e1, hf⟩ := bind_some hf
  refine ha.g E e1 fun vs H1 s1 r1 => ⟨M, ds, d, E.mkh.same s1, ?_, (ha.ln _ _ e1).trans hn, hf, fun v H2 s2 r2 => q v H2 (s1.trans s2) r2⟩
  rw [List.append_nil]
  exact r1⟩
theorem RepsB.none {K : PySem.W.Frag} {H : Hp} {M : Addr → Prop} : ∀ {ds : List D} {vs : List V}, RepsB K H M ds vs → Reps K H (fun _ => False) ds vs
  | _, _, .nil => .nil
  | _, _, .cons r t => .cons (by
      rcases r with r | ⟨a, e, o⟩
      · exact r.anti fun _ h => h.elim
      · subst e; exact (o.anti (M' := fun _ => False) fun _ h => h.elim).rep fun h => h) t.none
def flat (f : Ev) : Ev := fun ρ => (f ρ).bind fun d => if nolst d = true then some d else none
/-- .. with owned lists handed in: what comes back has no lists -/
theorem c_defB (F : FnOk X.prog X.w X.K X.mg X.base CX0 k f fd ps (spP X.K n sem)) (hr : Room k X.A) (hg : Gl X x) (hm : X.mg x = some (.ref f)) (hk : PySem.W.keepIn X.K (.ref f) = true) (hb : Binds X.K fd ps []) (ha : AB X (e :: es) t fs) (hn : (e :: es).length = n := by rfl)
    (hdb : (x == ("__debug__" : Str)) = false := by decide) (he : starEach (e :: es) X.env = (false, eval e X.env) :: starEach es X.env := by rfl) (hpl : (backTo pos (starEach es X.env)).any (·.1) = false := by rfl) :
    EE X (.Call (.Name x p) (e :: es) [] pos) (tCall (spP X.K n sem) [] E0 t) (flat (ap sem fs)) := ⟨pe_call F hr hg hm hk hb .nil pass0 ha.pa hdb he hpl, fun H0 M0 H M ρ σ Q d E hf q => by
  obtain ⟨d', hf', hf⟩ := bind_some hf
  obtain ⟨ds, e1, hf'⟩ := bind_some hf'
  split at hf
  · rename_i hn'
    cases hf
    refine ha.g E e1 fun vs H1 s1 r1 => ⟨fun _ => False, ds, _, fun _ h => h.elim, ?_, (ha.ln _ _ e1).trans hn, hf', fun v H2 s2 r2 => q v H2 (s1.trans s2) (r2.nol hn')⟩
    rw [List.append_nil]
    exact r1.none
  · cases hf⟩
end

/-! ### statements -/
inductive Out where
  | nx (ρ : Env)
  | rt (d : D)
  | bk (ρ : Env)
  | ct (ρ : Env)
abbrev Eg := Env → Option Out
def OutOk (K : PySem.W.Frag) (H0 : Hp) (M0 : Addr → Prop) (H : Hp) (M : Addr → Prop) (D : Ends) : Out → Prop
  | .nx ρ => ∀ σ' H' M', Step H M H' M' → EnvOk K H0 M0 H' M' ρ σ' → D.nx σ' H'
  | .bk ρ => ∀ σ' H' M', Step H M H' M' → EnvOk K H0 M0 H' M' ρ σ' → D.bk σ' H'
  | .ct ρ => ∀ σ' H' M', Step H M H' M' → EnvOk K H0 M0 H' M' ρ σ' → D.ct σ' H'
  | .rt d => ∀ v H', Same H0 H' → Rep K H' M0 d v → D.rt v H'
def GS (K : PySem.W.Frag) (t : TS) (g : Eg) : Prop := ∀ ⦃H0 : Hp⦄ ⦃M0 : Addr → Prop⦄ ⦃H : Hp⦄ ⦃M : Addr → Prop⦄ ⦃ρ : Env⦄ ⦃σ : L2.St⦄ ⦃D : Ends⦄ ⦃o : Out⦄, EnvOk K H0 M0 H M ρ σ → g ρ = some o → OutOk K H0 M0 H M D o → t D σ H
structure SS (X : Cx) (st : Stmt) (t : TS) (g : Eg) : Prop where
  ps : PS X st t
  g : GS X.K t g
structure SB (X : Cx) (st : List Stmt) (t : TS) (g : Eg) : Prop where
  ps : PSs X st t
  g : GS X.K t g
section
variable {K : PySem.W.Frag} {H0 : Hp} {M0 : Addr → Prop} {H H' : Hp} {M M' : Addr → Prop} {ρ : Env} {σ : L2.St}
theorem get_set_sl {l : List Sl} {i j : Nat} {a b : Sl} (h : (l.set i a)[j]? = some b) : (j = i ∧ b = a ∧ i < l.length) ∨ (j ≠ i ∧ l[j]? = some b) := by
  by_cases e : i = j
  · subst e
    by_cases hl : i < l.length
    · rw [List.getElem?_set_self hl] at h; cases h; exact .inl ⟨rfl, rfl, hl⟩
    · rw [List.getElem?_eq_none (by simpa using hl)] at h; cases h
  · rw [List.getElem?_set_ne e] at h; exact .inr ⟨fun z => e z.symm, h⟩
/-- shared data comes into a slot -/
theorem EnvOk.put (E : EnvOk K H0 M0 H M ρ σ) {i : Nat} {d : D} {v : V} (r : Rep K H M d v) : EnvOk K H0 M0 H M (ρ.set i (.sh d)) (σ.set i (some v)) where
  len := by simp [E.len]
  same := E.same
  mkh0 := E.mkh0
  sub := E.sub
  mkh := E.mkh
  sh := fun j d' h => by
    rcases get_set_sl h with ⟨e, e2, hl⟩ | ⟨e, h⟩
    · subst e
      injection e2 with e2
      subst e2
      exact ⟨v, by rw [List.getElem?_set_self (by rw [← E.len]; exact hl)], r⟩
    · obtain ⟨u, h1, h2⟩ := E.sh j d' h
      exact ⟨u, by rw [List.getElem?_set_ne (Ne.symm e)]; exact h1, h2⟩
  ow := fun j d' h => by
    rcases get_set_sl h with ⟨_, e2, _⟩ | ⟨e, h⟩
    · cases e2
    · obtain ⟨u, h1, h2⟩ := E.ow j d' h
      exact ⟨u, by rw [List.getElem?_set_ne (Ne.symm e)]; exact h1, h2⟩
  ap := fun j l d1 d2 a h1 h2 h3 h4 => by
    rcases get_set_sl h1 with ⟨_, e2, _⟩ | ⟨e, h1⟩
    · cases e2
    rcases get_set_sl h2 with ⟨_, e2, _⟩ | ⟨e', h2⟩
    · cases e2
    rw [List.getElem?_set_ne (Ne.symm e)] at h3
    rw [List.getElem?_set_ne (Ne.symm e')] at h4
    exact E.ap j l d1 d2 a h1 h2 h3 h4
/-- a new list or dict comes into a slot -/
theorem EnvOk.own (E : EnvOk K H0 M0 H M ρ σ) {i : Nat} {d : D} {p : Addr} (np : H p = none) (s : Same H H') (o : Own K H' (plus M p) d p) : EnvOk K H0 M0 H' (plus M p) (ρ.set i (.ow d)) (σ.set i (some (.ref p))) ∧ Step H M H' (plus M p) := by
  have st : Step H M H' (plus M p) := ⟨.of_same s, new_plus np⟩
  have mk' : MK H' (plus M p) := fun a h => by
    rcases h with h | h
    · exact E.mkh.same s a h
    · rw [h]; exact o.mutk
  have E' : EnvOk K H0 M0 H' (plus M p) ρ σ := E.more mk' (fun a h => .inl h) st.st (E.same.trans s) st.nw fun a h => by
    have := E.mkh a h
    cases e : H a with
    | none => rw [e] at this; exact this.elim
    | some u => exact s a u e
  have n0 : H0 p = none := E.same.free np
  refine ⟨⟨by simp [E.len], E'.same, E.mkh0, E'.sub, mk', fun j d' h => ?_, fun j d' h => ?_, fun j l d1 d2 a h1 h2 h3 h4 => ?_⟩, st⟩
  · rcases get_set_sl h with ⟨_, e2, _⟩ | ⟨e, h⟩
    · cases e2
    · obtain ⟨u, h1, h2⟩ := E'.sh j d' h
      exact ⟨u, by rw [List.getElem?_set_ne (Ne.symm e)]; exact h1, h2⟩
  · rcases get_set_sl h with ⟨e, e2, hl⟩ | ⟨e, h⟩
    · subst e
      injection e2 with e2
      subst e2
      exact ⟨p, by rw [List.getElem?_set_self (by rw [← E.len]; exact hl)], .inr rfl, n0, o⟩
    · obtain ⟨u, h1, h2⟩ := E'.ow j d' h
      exact ⟨u, by rw [List.getElem?_set_ne (Ne.symm e)]; exact h1, h2⟩
  · have none_at : ∀ (j : Nat) d', ρ[j]? = some (.ow d') → σ[j]? ≠ some (some (.ref p)) := fun j d' h z => by
      obtain ⟨u, e1, m, _, o'⟩ := E.ow j d' h
      rw [e1] at z
      cases z
      exact E.mkh.some m np
    rcases get_set_sl h1 with ⟨e, _, hl⟩ | ⟨e, h1⟩
    · subst e
      rw [List.getElem?_set_self (by rw [← E.len]; exact hl)] at h3
      cases h3
      rcases get_set_sl h2 with ⟨e', _, _⟩ | ⟨e', h2⟩
      · exact e'.symm
      · rw [List.getElem?_set_ne (Ne.symm e')] at h4
        exact absurd h4 (none_at l _ h2)
    · rw [List.getElem?_set_ne (Ne.symm e)] at h3
      rcases get_set_sl h2 with ⟨e', _, hl⟩ | ⟨e', k2⟩
      · have nj := none_at j _ h1
        rw [e', List.getElem?_set_self (by rw [← E.len]; exact hl)] at h4
        cases h4
        exact absurd h3 nj
      · rw [List.getElem?_set_ne (Ne.symm e')] at h4
        exact E.ap j l d1 d2 a h1 k2 h3 h4
/-- an owned thing is changed -/
theorem EnvOk.mut (E : EnvOk K H0 M0 H M ρ σ) {i : Nat} {d d' : D} {a : Addr} {u : HO} (h : ρ[i]? = some (.ow d)) (hs : σ[i]? = some (some (.ref a))) (mu : Mutk (some u)) (o : Own K (upd H a u) M d' a) : EnvOk K H0 M0 (upd H a u) M (ρ.set i (.ow d')) σ ∧ Step H M (upd H a u) M := by
  obtain ⟨a', e1, ma, n0, o0⟩ := E.ow i d h
  rw [hs] at e1
  cases e1
  have st : Stay H M (upd H a u) := fun b x hb nb => by rw [upd_ne (fun z => nb (by rw [z]; exact ma))]; exact hb
  have mk' : MK (upd H a u) M := fun b hb => by
    by_cases e : b = a
    · rw [e, upd_same]; exact mu
    · rw [upd_ne e]; exact E.mkh b hb
  refine ⟨⟨by simp [E.len], fun b x hb => ?_, E.mkh0, E.sub, mk', fun j d1 h1 => ?_, fun j d1 h1 => ?_, fun j l d1 d2 c h1 h2 h3 h4 => ?_⟩, ⟨st, .refl⟩⟩
  · rw [upd_ne (ne_of_none hb n0)]; exact E.same b x hb
  · rcases get_set_sl h1 with ⟨_, e2, _⟩ | ⟨e, h1⟩
    · cases e2
    · obtain ⟨v, e1, r⟩ := E.sh j d1 h1
      exact ⟨v, e1, r.stay E.mkh st .refl⟩
  · rcases get_set_sl h1 with ⟨e, e2, hl⟩ | ⟨e, h1⟩
    · subst e
      injection e2 with e2
      subst e2
      exact ⟨a, hs, ma, n0, o⟩
    · obtain ⟨b, e1, mb, nb, ob⟩ := E.ow j d1 h1
      have nab : b ≠ a := fun z => by subst z; exact e (E.ap j i _ _ _ h1 h e1 hs)
      exact ⟨b, e1, mb, nb, ob.stay E.mkh st .refl (upd_ne nab)⟩
  · have at_ : ∀ (m : Nat) dm, (ρ.set i (.ow d'))[m]? = some (.ow dm) → ∃ dm', ρ[m]? = some (.ow dm') := fun m dm hm => by
      rcases get_set_sl hm with ⟨e, _, _⟩ | ⟨_, hm⟩
      · subst e; exact ⟨d, h⟩
      · exact ⟨_, hm⟩
    obtain ⟨d3, h1⟩ := at_ j d1 h1
    obtain ⟨d4, h2⟩ := at_ l d2 h2
    exact E.ap j l d3 d4 c h1 h2 h3 h4
/-- an owned thing is given up: from here on shared -/
theorem EnvOk.freeze (E : EnvOk K H0 M0 H M ρ σ) {i : Nat} {d : D} (h : ρ[i]? = some (.ow d)) : ∃ M', EnvOk K H0 M0 H M' (ρ.set i (.sh d)) σ ∧ Step H M H M' := by
  obtain ⟨a, hs, ma, n0, o0⟩ := E.ow i d h
  have le : ∀ b, (M b ∧ b ≠ a) → M b := fun b z => z.1
  refine ⟨fun b => M b ∧ b ≠ a, ⟨by simp [E.len], E.same, E.mkh0, fun b hb => ⟨E.sub b hb, fun z => E.mkh0.some hb (by rw [z]; exact n0)⟩, fun b hb => E.mkh b hb.1, fun j d1 h1 => ?_, fun j d1 h1 => ?_, fun j l d1 d2 c h1 h2 h3 h4 => ?_⟩, ⟨fun _ _ hb _ => hb, fun b hb nb => absurd hb.1 nb⟩⟩
  · rcases get_set_sl h1 with ⟨e, e2, hl⟩ | ⟨e, h1⟩
    · subst e
      injection e2 with e2
      subst e2
      exact ⟨_, hs, (o0.anti le).rep fun z => z.2 rfl⟩
    · obtain ⟨v, e1, r⟩ := E.sh j d1 h1
      exact ⟨v, e1, r.anti le⟩
  · rcases get_set_sl h1 with ⟨_, e2, _⟩ | ⟨e, h1⟩
    · cases e2
    · obtain ⟨b, e1, mb, nb, ob⟩ := E.ow j d1 h1
      have nab : b ≠ a := fun z => by subst z; exact e (E.ap j i _ _ _ h1 h e1 hs)
      exact ⟨b, e1, ⟨mb, nab⟩, nb, ob.anti le⟩
  · rcases get_set_sl h1 with ⟨_, e2, _⟩ | ⟨e, h1⟩
    · cases e2
    rcases get_set_sl h2 with ⟨_, e2, _⟩ | ⟨e', h2⟩
    · cases e2
    exact E.ap j l d1 d2 c h1 h2 h3 h4
end
section
variable {K : PySem.W.Frag} {H0 : Hp} {M0 : Addr → Prop} {H H' : Hp} {M M' : Addr → Prop} {D : Ends} {o : Out}
theorem OutOk.step (q : OutOk K H0 M0 H M D o) (s : Step H M H' M') : OutOk K H0 M0 H' M' D o := by
  cases o with
  | nx ρ => exact fun σ' H2 M2 s2 E => q σ' H2 M2 (s.trans s2) E
  | bk ρ => exact fun σ' H2 M2 s2 E => q σ' H2 M2 (s.trans s2) E
  | ct ρ => exact fun σ' H2 M2 s2 E => q σ' H2 M2 (s.trans s2) E
  | rt d => exact q
end
def nxt : Eg := fun ρ => some (.nx ρ)
def seq (f g : Eg) : Eg := fun ρ => (f ρ).bind fun o => match o with
  | .nx ρ' => g ρ'
  | o => some o
section
variable {X : Cx} {st : Stmt} {rest : List Stmt} {t u : TS} {f g : Eg} {pos : Pos} {e : Expr} {te : TE} {fe : Ev}
theorem s_nil : SB X [] tNext nxt := ⟨pss_nil, fun H0 M0 H M ρ σ D o E hf q => by cases hf; exact q σ H M .refl E⟩
theorem s_one (h : SS X st t f) : SB X [st] t f := ⟨pss_one h.ps, h.g⟩
theorem s_cons (h : SS X st t f) (h2 : SB X rest u g) : SB X (st :: rest) (tSeq t u) (seq f g) := ⟨pss_cons h.ps h2.ps, fun H0 M0 H M ρ σ D o E hf q => by
  obtain ⟨o1, e1, hf⟩ := bind_some hf
  refine h.g E e1 ?_
  cases o1 with
  | nx ρ' => exact fun σ' H' M' s E' => h2.g E' hf (q.step s)
  | rt d => cases hf; exact q
  | bk ρ' => cases hf; exact q
  | ct ρ' => cases hf; exact q⟩
theorem s_pass : SS X (.Pass pos) tNext nxt := ⟨ps_pass, fun H0 M0 H M ρ σ D o E hf q => by cases hf; exact q σ H M .refl E⟩
def brk : Eg := fun ρ => some (.bk ρ)
theorem s_break : SS X (.Break pos) tBreak brk := ⟨ps_break, fun H0 M0 H M ρ σ D o E hf q => by cases hf; exact q σ H M .refl E⟩
def ret (f : Ev) : Eg := fun ρ => (f ρ).map .rt
theorem s_ret (h : EE X e te fe) : SS X (.Return (some e) pos) (tRet te) (ret fe) := ⟨ps_ret h.pe, fun H0 M0 H M ρ σ D o E hf q => by
  obtain ⟨d, e1, e2⟩ := Option.map_eq_some_iff.mp hf
  subst e2
  exact h.g E e1 fun v H' s r => q v H' (E.same.trans s) (r.anti E.sub)⟩
/-- return of a name, owned or not -/
theorem s_retV (i : Nat) {x : Str} {p2 : Pos} (hN : X.N[i]? = some x := by rfl) (hv : Vis X.env.scope x := by first | exact Or.inl rfl | exact Or.inr (Or.inl rfl) | exact Or.inr (Or.inr rfl)) (hd : (x == ("__debug__" : Str)) = false := by decide)
    (hcd : (x == ("__classdict__" : Str)) = false := by decide) : SS X (.Return (some (.Name x p2)) pos) (tRet (tVar i)) (ret (vb i)) := ⟨ps_ret (pe_var hN hv hd hcd), fun H0 M0 H M ρ σ D o E hf q => by
  obtain ⟨d, e1, e2⟩ := Option.map_eq_some_iff.mp hf
  subst e2
  unfold vb at e1
  split at e1
  · rename_i d' h
    cases e1
    obtain ⟨v, e, r⟩ := E.sh i _ h
    exact ⟨v, e, q v H E.same (r.anti E.sub)⟩
  · rename_i d' h
    cases e1
    obtain ⟨a, e, _, n0, o⟩ := E.ow i _ h
    exact ⟨_, e, q _ H E.same ((o.anti E.sub).rep fun z => E.mkh0.some z n0)⟩
  · cases e1⟩
theorem s_retN : SS X (.Return none pos) tRetN (ret (cst .none)) := ⟨ps_retN, fun H0 M0 H M ρ σ D o E hf q => by
  cases hf
  exact q _ H E.same .non⟩
def ifS (c : Et) (f g : Eg) : Eg := fun ρ => (c ρ).bind fun b => if b = true then f ρ else g ρ
theorem s_if {c : Expr} {a b : List Stmt} {tc : TT} {gc : Et} (hc : ET X c tc gc) (ha : SB X a t f) (hb : SB X b u g) : SS X (.If c a b pos) (tIfS tc t u) (ifS gc f g) := ⟨ps_if hc.pt ha.ps hb.ps, fun H0 M0 H M ρ σ D o E hf q => by
  obtain ⟨x, e1, hf⟩ := bind_some hf
  refine hc.g E e1 fun H1 s1 => ?_
  cases x with
  | true => rw [if_pos rfl] at hf ⊢; exact ha.g (E.to s1) hf (q.step (.of_same s1))
  | false => rw [if_neg Bool.false_ne_true] at hf ⊢; exact hb.g (E.to s1) hf (q.step (.of_same s1))⟩
/-- name = e -/
def setS (i : Nat) (f : Ev) : Eg := fun ρ => (f ρ).map fun d => .nx (ρ.set i (.sh d))
def ownS (i : Nat) (f : Ev) : Eg := fun ρ => (f ρ).map fun d => .nx (ρ.set i (.ow d))
theorem g_set {i : Nat} (h : GE X.K te fe) : GS X.K (tAsg te (gName i)) (setS i fe) := fun H0 M0 H M ρ σ D o E hf q => by
  obtain ⟨d, e1, e2⟩ := Option.map_eq_some_iff.mp hf
  subst e2
  exact h E e1 fun v H' s r => q _ H' M (.of_same s) ((E.to s).put r)
theorem g_own {i : Nat} (h : GN X.K te fe) : GS X.K (tAsg te (gName i)) (ownS i fe) := fun H0 M0 H M ρ σ D o E hf q => by
  obtain ⟨d, e1, e2⟩ := Option.map_eq_some_iff.mp hf
  subst e2
  refine h E e1 fun p H' np s ow => ?_
  obtain ⟨E', st⟩ := E.own np s ow (i := i)
  exact q _ H' _ st E'
theorem s_set (i : Nat) {x : Str} {p2 : Pos} (h : EE X e te fe) (hN : X.N.Nodup) (hi : X.N[i]? = some x := by rfl) (hx : Loc X.env.scope x := by first | exact Or.inl rfl | exact Or.inr rfl) (hs : swapsWith e (some (.Name x p2)) pos.line X.env = pure false := by rfl)
    (hf : X.fn x = true ∨ X.env.scope.names.lookup x = some .local := by first | exact .inl rfl | exact .inr rfl) : SS X (.Assign [.Name x p2] e pos) (tAsg te (gName i)) (setS i fe) := ⟨L2.ps_set hN hi hx h.pe hs hf, g_set h.g⟩
theorem s_own (i : Nat) {x : Str} {p2 : Pos} (h : EN X e te fe) (hN : X.N.Nodup) (hi : X.N[i]? = some x := by rfl) (hx : Loc X.env.scope x := by first | exact Or.inl rfl | exact Or.inr rfl) (hs : swapsWith e (some (.Name x p2)) pos.line X.env = pure false := by rfl)
    (hf : X.fn x = true ∨ X.env.scope.names.lookup x = some .local := by first | exact .inl rfl | exact .inr rfl) : SS X (.Assign [.Name x p2] e pos) (tAsg te (gName i)) (ownS i fe) := ⟨L2.ps_set hN hi hx h.pe hs hf, g_own h.g⟩
/-- an owned name is given up ahead of a statement -/
def frz (i : Nat) (ρ : Env) : Env := match ρ[i]? with
  | some (.ow d) => ρ.set i (.sh d)
  | _ => ρ
def frzS (i : Nat) (f : Eg) : Eg := fun ρ => f (frz i ρ)
theorem g_frz {i : Nat} {K : PySem.W.Frag} (h : GS K t f) : GS K t (frzS i f) := fun H0 M0 H M ρ σ D o E hf q => by
  unfold frzS frz at hf
  split at hf
  · rename_i d hd
    obtain ⟨M', E', st⟩ := E.freeze hd
    exact h E' hf (q.step st)
  · exact h E hf q
theorem s_frz (i : Nat) (h : SS X st t f) : SS X st t (frzS i f) := ⟨h.ps, g_frz h.g⟩
end
section
variable {X : Cx} {st : Stmt} {body : List Stmt} {t u tb : TS} {f gb : Eg} {pos : Pos} {e : Expr} {te : TE} {fe fi : Ev}
/-! ### changes -/
def appS (i : Nat) (f : Ev) : Eg := fun ρ => (f ρ).bind fun d => match ρ[i]? with
  | some (.ow (.list ds)) => if ds.length < sizeLine then some (.nx (ρ.set i (.ow (.list (ds ++ [d]))))) else none
  | _ => none
theorem g_app {i : Nat} (h : GE X.K te fe) : GS X.K (tDrop (tBM X.K "list" rAppend (tVar i) (tCons te tNil))) (appS i fe) := fun H0 M0 H M ρ σ D o E hf q => by
  obtain ⟨d, e1, hf⟩ := bind_some hf
  split at hf
  · rename_i ds hi
    split at hf
    · rename_i hz
      cases hf
      obtain ⟨a, hs, ma, n0, vs, ha, r0⟩ := E.ow i _ hi
      refine ⟨_, hs, .inl ⟨rfl, vs, .of ha⟩, h E e1 fun v H1 s1 r1 => ⟨a, vs, v, rfl, rfl, s1 _ _ ha, by rw [← r0.length]; exact hz, ?_⟩⟩
      have E1 := E.to s1
      have r2 : Reps X.K H1 M (ds ++ [d]) (vs ++ [v]) := (r0.same E.mkh s1).append (.cons r1 .nil)
      obtain ⟨a', e', _, _, _⟩ := E1.ow i _ hi
      have stay : Stay H1 M (upd H1 a (.lst (vs ++ [v]))) := fun b x hb nb => by rw [upd_ne (fun z => nb (by rw [z]; exact ma))]; exact hb
      obtain ⟨E2, st⟩ := E1.mut (u := .lst (vs ++ [v])) (d' := .list (ds ++ [d])) hi hs True.intro ⟨_, upd_same, r2.stay E1.mkh stay .refl⟩
      exact q _ _ _ ((Step.of_same s1).trans st) E2
    · cases hf
  · cases hf
structure BmOk (X : Cx) (o e : Expr) (es : List Expr) (name : Str) (apos cpos : Pos) : Prop where
  hbase : attributeBase o name X.env (eval o X.env) = eval o X.env
  hfew : ((backTo cpos (starEach (e :: es) X.env)).all (fun x => !x.1) && (backToKw cpos (keywordEach [] X.env)).all (fun x => x.1.isSome)
      && decide ((e :: es).length + ([] : List Keyword).length + (if ([] : List Keyword).isEmpty then 0 else 1) < 30)) = true
  hline : (apos.endLine == cpos.line) = true
  hs : starEach (e :: es) X.env = (false, eval e X.env) :: starEach es X.env
  hplain : (backTo cpos (starEach es X.env)).any (·.1) = false
structure NmOk (X : Cx) (i : Nat) (x : Str) : Prop where
  hN : X.N[i]? = some x
  hv : Vis X.env.scope x
  hd : (x == ("__debug__" : Str)) = false
  hcd : (x == ("__classdict__" : Str)) = false
theorem nm_l {i : Nat} {x : Str} (hN : X.N[i]? = some x) (h : X.env.scope.names.lookup x = some .local) (hd : (x == ("__debug__" : Str)) = false := by decide) (hcd : (x == ("__classdict__" : Str)) = false := by decide) : NmOk X i x := ⟨hN, .inl h, hd, hcd⟩
theorem nm_c {i : Nat} {x : Str} (hN : X.N[i]? = some x) (h : X.env.scope.names.lookup x = some .cell) (hd : (x == ("__debug__" : Str)) = false := by decide) (hcd : (x == ("__classdict__" : Str)) = false := by decide) : NmOk X i x := ⟨hN, .inr (.inl h), hd, hcd⟩
theorem NmOk.pe {i : Nat} {x : Str} {pos : Pos} (h : NmOk X i x) : PE X (.Name x pos) (tVar i) := pe_var h.hN h.hv h.hd h.hcd
theorem pe_bmB {T id : String} {name : Str} {o e : Expr} {es : List Expr} {to : TE} {t : TA} {r : V → List V → Hp → VK → Prop} {apos cpos : Pos} (pa : PlainAttrs T) (slot : Slot T name id) (hty : typeOf (.builtin id) = pure (.type "method_descriptor")) (hm : MtR X id r) (ho : PE X o to) (ha : PA X (e :: es) t) (b : BmOk X o e es name apos cpos) :
    PE X (.Call (.Attribute o name apos) (e :: es) [] cpos) (tBM X.K T r to t) := pe_bm pa slot hty hm ho ha b.hbase b.hfew b.hline b.hs b.hplain
theorem s_app (i : Nat) {x : Str} {apos p1 p2 : Pos} (h : EE X e te fe) (nm : NmOk X i x := by first | exact nm_l rfl rfl | exact nm_c rfl rfl) (b : BmOk X (.Name x p1) e [] "append" apos p2 := by exact ⟨rfl, rfl, rfl, rfl, rfl⟩)
    (hs : swapsWith (.Call (.Attribute (.Name x p1) "append" apos) [e] [] p2) none pos.line X.env = pure false := by rfl) : SS X (.Expr (.Call (.Attribute (.Name x p1) "append" apos) [e] [] p2) pos) (tDrop (tBM X.K "list" rAppend (tVar i) (tCons te tNil))) (appS i fe) :=
  ⟨ps_expr (pe_bmB PySem.F.plainAttrs_list PySem.F.slot_list_append PySem.F.type_list_append mt_append nm.pe (pa_cons h.pe pa_nil b.hs) b) hs, g_app h.g⟩
/-! xs.extend(ys), ys a list or a tuple of any standing -/
theorem extend_any (T : String) (hT : T = "list" ∨ T = "tuple") (l : Addr) (items : Array Value) (n : Nat) (b : Addr) (items2 : Array Value) (n2 : Nat) (dd : Option Addr) (slx : Array (Option Value)) (hc0 : ¬(!items.isEmpty && Builtin.List.listTooLong (items.size + items2.size)) = true) (hc1 : items.size ≤ sizeLine) (hs2 : items.size + items2.size ≤ sizeLine + 1) :
    Meets (Builtin.«list.extend» ⟨[.ref l, .ref b], []⟩) (fun _ R s => s.heap.get? l = some { cls := .type "list", dict := none, data := .seq items n, slots := #[] } ∧ s.heap.get? b = some { cls := .type T, dict := dd, data := .seq items2 n2, slots := slx } ∧
      R (.ok (.ret Value.none)) { s with heap := s.heap.update l (Obj.mapSeq fun x => x ++ items2), toks := s.toks }) :=
  .of_wp fun prog w A R s h => by
    obtain ⟨hp, g, d, tk, os⟩ := s
    obtain ⟨hl, hb, h⟩ := h
    have hz' : (items ++ items2).size ≤ sizeLine + 1 := by rw [Array.size_append]; exact hs2
    have f1 := AutoSeq1.idx_int; have f2 := AutoSeq1.sub_tuple_tuple; have f3 := AutoSeq1.sub_list_list
    have f4 := AutoSeq1.sub_tuple_list; have f5 := AutoSeq1.sub_list_tuple
    rcases hT with e | e <;> subst e <;>
    · wp_walk using (wpAny_updateSeq hl rfl (hz := hc1) (_hz' := hz')), AutoSeq1.wpAny_loadPart' hl, AutoSeq1.wpAny_loadPart' hb
      exact ⟨_, rfl, h⟩
def rExtA (K : PySem.W.Frag) : V → List V → Hp → VK → Prop := fun x vs H Q => ∃ l b xs zs, x = .ref l ∧ vs = [.ref b] ∧ H l = some (.lst xs) ∧ (SqL K H b zs ∨ SqT K H b zs) ∧ xs.length + zs.length ≤ sizeLine ∧ Q .non (upd H l (.lst (xs ++ zs)))
theorem mt_extendA : MtR X "list.extend" (rExtA X.K) := by
  intro pins s σ H x vs v us Q I rx rv h
  obtain ⟨l, b, xs, zs, rfl, rfl, hH, hB, hz, q⟩ := h
  cases rx
  rw [Vals.ref1 rv]
  obtain ⟨z, its, n, r, hl, e⟩ := I.lstM hH
  have hsrc : ∃ (T : String) (o : Obj) (its2 : List Value) (c : Nat), (T = "list" ∨ T = "tuple") ∧ s.heap.get? b = some o ∧ o.cls = .type T ∧ o.data = .seq its2.toArray c ∧ Vals zs its2 := by
    rcases hB with hs | hs
    · obtain ⟨its2, rv, ⟨o, c, ho, hc, _, hdt⟩, _⟩ := I.list hs
      exact ⟨"list", o, its2, c, .inl rfl, ho, hc, hdt, rv⟩
    · obtain ⟨its2, rv, ⟨o, ho, hc, c, hdt⟩, _⟩ := I.tuple hs
      exact ⟨"tuple", o, its2, c, .inr rfl, ho, hc, hdt, rv⟩
  obtain ⟨T, ⟨cls, dd, data, slx⟩, its2, n2, hT, e2, hc, hdt, r2⟩ := hsrc
  simp only at hc hdt
  subst hc hdt
  have hl2 := r2.length
  have hsz : its.toArray.size + its2.toArray.size ≤ sizeLine := by rw [List.size_toArray, List.size_toArray]; omega
  have hlong : ¬ (!its.toArray.isEmpty && Builtin.List.listTooLong (its.toArray.size + its2.toArray.size)) = true := by
    rw [notLongL hsz, Bool.and_false]; decide
  refine call_meets PySem.F.slot_list_extend ⟨_, e, rfl⟩ PySem.F.entry_list_extend (PySem.F.args_list_extend_2 _ _)
    (extend_any T hT l its.toArray n b its2.toArray n2 dd slx hlong (by rw [List.size_toArray]; omega) (by omega)) ⟨e, e2, ?_⟩
  exact ⟨.non, _, I.lset (its' := its ++ its2) hH e (by simp) (r.append r2) (by rw [List.length_append]; omega), rfl, q⟩
def extS (i : Nat) (f : Ev) : Eg := fun ρ => (f ρ).bind fun d => (seqOf d).bind fun es => match ρ[i]? with
  | some (.ow (.list ds)) => if ds.length + es.length ≤ sizeLine then some (.nx (ρ.set i (.ow (.list (ds ++ es))))) else none
  | _ => none
theorem RepB.seqOf {K : PySem.W.Frag} {H : Hp} {M : Addr → Prop} {d : D} {es : List D} {v : V} (r : RepB K H M d v) (e : Pu.seqOf d = some es) : ∃ a us, v = .ref a ∧ (SqL K H a us ∨ SqT K H a us) ∧ Reps K H M es us := by
  unfold Pu.seqOf at e
  split at e
  · cases e; obtain ⟨a, us, e3, h, y⟩ := r.lst; exact ⟨a, us, e3, .inl h, y⟩
  · cases e; obtain ⟨a, us, e3, h, y⟩ := r.tup; exact ⟨a, us, e3, .inr h, y⟩
  · cases e
theorem g_ext {i : Nat} (h : GB X.K te fe) : GS X.K (tDrop (tBM X.K "list" (rExtA X.K) (tVar i) (tCons te tNil))) (extS i fe) := fun H0 M0 H M ρ σ D o E hf q => by
  obtain ⟨d, e1, hf⟩ := bind_some hf
  obtain ⟨es, e2, hf⟩ := bind_some hf
  split at hf
  · rename_i ds hi
    split at hf
    · rename_i hz
      cases hf
      obtain ⟨a, hs, ma, n0, vs, ha, r0⟩ := E.ow i _ hi
      refine ⟨_, hs, .inl ⟨rfl, vs, .of ha⟩, h E e1 fun v H1 s1 r1 => ?_⟩
      obtain ⟨b, us, rfl, hb, r1⟩ := r1.seqOf e2
      refine ⟨a, b, vs, us, rfl, rfl, s1 _ _ ha, hb, by rw [← r0.length, ← r1.length]; exact hz, ?_⟩
      have E1 := E.to s1
      have r2 : Reps X.K H1 M (ds ++ es) (vs ++ us) := (r0.same E.mkh s1).append r1
      have stay : Stay H1 M (upd H1 a (.lst (vs ++ us))) := fun b x hb nb => by rw [upd_ne (fun z => nb (by rw [z]; exact ma))]; exact hb
      obtain ⟨E2, st⟩ := E1.mut (u := .lst (vs ++ us)) (d' := .list (ds ++ es)) hi hs True.intro ⟨_, upd_same, r2.stay E1.mkh stay .refl⟩
      exact q _ _ _ ((Step.of_same s1).trans st) E2
    · cases hf
  · cases hf
theorem s_ext (i : Nat) {x : Str} {apos p1 p2 : Pos} (h : EB X e te fe) (nm : NmOk X i x := by first | exact nm_l rfl rfl | exact nm_c rfl rfl) (b : BmOk X (.Name x p1) e [] "extend" apos p2 := by exact ⟨rfl, rfl, rfl, rfl, rfl⟩)
    (hs : swapsWith (.Call (.Attribute (.Name x p1) "extend" apos) [e] [] p2) none pos.line X.env = pure false := by rfl) : SS X (.Expr (.Call (.Attribute (.Name x p1) "extend" apos) [e] [] p2) pos) (tDrop (tBM X.K "list" (rExtA X.K) (tVar i) (tCons te tNil))) (extS i fe) :=
  ⟨ps_expr (pe_bmB PySem.F.plainAttrs_list PySem.F.slot_list_extend PySem.F.type_list_extend mt_extendA nm.pe (pa_cons h.pe pa_nil b.hs) b) hs, g_ext h.g⟩
/-! xs[k] = e -/
def stoS (i : Nat) (f fi : Ev) : Eg := fun ρ => (f ρ).bind fun d => (fi ρ).bind fun j => match ρ[i]?, j with
  | some (.ow (.list ds)), .int k => (ixN ds.length k).bind fun j => some (.nx (ρ.set i (.ow (.list (ds.set j d)))))
  | _, _ => none
theorem g_sto {i : Nat} {ti : TE} (h : GE X.K te fe) (h2 : GE X.K ti fi) : GS X.K (tAsg te (gSub (tVar i) ti rSetL)) (stoS i fe fi) := fun H0 M0 H M ρ σ D o E hf q => by
  obtain ⟨d, e1, hf⟩ := bind_some hf
  obtain ⟨j, e2, hf⟩ := bind_some hf
  split at hf
  · rename_i ds k hi
    obtain ⟨j, ej, hf⟩ := bind_some hf
    cases hf
    obtain ⟨a, hs, ma, n0, vs, ha, r0⟩ := E.ow i _ hi
    refine h E e1 fun v H1 s1 r1 => ⟨_, hs, h2 (E.to s1) e2 fun w H2 s2 r2 => ?_⟩
    cases r2
    refine ⟨a, vs, k, j, rfl, rfl, s2 _ _ (s1 _ _ ha), by rw [← r0.length]; exact ej, ?_⟩
    have E2 := (E.to s1).to s2
    have r3 : Reps X.K H2 M (ds.set j d) (vs.set j v) := Reps.set (r1.same (E.mkh.same s1) s2) j ((r0.same E.mkh s1).same (E.mkh.same s1) s2)
    have stay : Stay H2 M (upd H2 a (.lst (vs.set j v))) := fun b x hb nb => by rw [upd_ne (fun z => nb (by rw [z]; exact ma))]; exact hb
    obtain ⟨E3, st⟩ := E2.mut (u := .lst (vs.set j v)) (d' := .list (ds.set j d)) hi hs True.intro ⟨_, upd_same, r3.stay E2.mkh stay .refl⟩
    exact q _ _ _ ((Step.of_same (s1.trans s2)).trans st) E3
  · cases hf
structure SubOk (X : Cx) (o i e : Expr) (p2 pos : Pos) : Prop where
  ha : ∀ v, assign (.Subscript o i p2) X.env v = (do
      let ov ← holding [v] (eval o X.env)
      let iv ← holding [v, ov] (eval i X.env)
      standAt p2
      holding [v, ov, iv] (setItem ov iv v)
      release [v, ov, iv] [])
  hs : swapsWithSole [.Subscript o i p2] e pos.line X.env = pure false
  hw : swappedStores [.Subscript o i p2] e X.env = pure none
  h1 : (assignEach [.Subscript o i p2] X.env).map (·.2) = [assign (.Subscript o i p2) X.env]
theorem s_sto (i : Nat) {x : Str} {ie : Expr} {ti : TE} {p1 p2 : Pos} (h : EE X e te fe) (h2 : EE X ie ti fi) (nm : NmOk X i x := by first | exact nm_l rfl rfl | exact nm_c rfl rfl) (b : SubOk X (.Name x p1) ie e p2 pos := by exact ⟨fun _ => rfl, rfl, rfl, rfl⟩) :
    SS X (.Assign [.Subscript (.Name x p1) ie p2] e pos) (tAsg te (gSub (tVar i) ti rSetL)) (stoS i fe fi) := ⟨L2.ps_asg h.pe (pg_sub nm.pe h2.pe set_list b.ha) b.hs b.hw b.h1, g_sto h.g h2.g⟩
/-! x op= e, ints -/
def augS (i : Nat) (op : D → D → Option D) (f : Ev) : Eg := fun ρ => (vr i ρ).bind fun x => (f ρ).bind fun y => (op x y).map fun d => .nx (ρ.set i (.sh d))
theorem g_aug {i : Nat} {r : R2} {op : D → D → Option D} (hd : Does2 X.K r op) (h : GE X.K te fe) : GS X.K (tAug i te r) (augS i op fe) := fun H0 M0 H M ρ σ D o E hf q => by
  obtain ⟨x, e0, hf⟩ := bind_some hf
  obtain ⟨y, e1, hf⟩ := bind_some hf
  obtain ⟨d, e2, e3⟩ := Option.map_eq_some_iff.mp hf
  subst e3
  unfold vr at e0
  split at e0
  · rename_i d' hi
    cases e0
    obtain ⟨v, hv, r0⟩ := E.sh i _ hi
    refine ⟨v, hv, h E e1 fun w H1 s1 r1 => hd (E.mkh.same s1) (r0.same E.mkh s1).b r1.b e2 fun u H2 s2 r2 => ?_⟩
    exact q _ H2 M (.of_same (s1.trans s2)) (((E.to s1).to s2).put r2)
  · cases e0
structure LcOk (X : Cx) (i : Nat) (x : Str) : Prop where
  hN : X.N[i]? = some x
  hx : Loc X.env.scope x
  hf : X.fn x = true ∨ X.env.scope.names.lookup x = some .local
theorem lc_l {i : Nat} {x : Str} (hN : X.N[i]? = some x) (h : X.env.scope.names.lookup x = some .local) : LcOk X i x := ⟨hN, .inl h, .inr h⟩
theorem lc_c {i : Nat} {x : Str} (hN : X.N[i]? = some x) (h : X.env.scope.names.lookup x = some .cell) (hf : X.fn x = true) : LcOk X i x := ⟨hN, .inr h, .inl hf⟩
theorem s_aug {o : Operator} {r : R2} {op : D → D → Option D} (hr : OpR X (inplaceOp o) r) (hd : Does2 X.K r op) (i : Nat) {x : Str} {p1 : Pos} (h : EE X e te fe) (hN : X.N.Nodup) (lc : LcOk X i x) : SS X (.AugAssign (.Name x p1) o e pos) (tAug i te r) (augS i op fe) :=
  ⟨L2.ps_aug hN lc.hN lc.hx h.pe hr lc.hf, g_aug hd h.g⟩
def addI : D → D → Option D := intsOp fun i j => .int (i + j)
def subI : D → D → Option D := intsOp fun i j => .int (i - j)
def mulI : D → D → Option D := intsOpC mulOk fun i j => .int (i * j)
theorem s_augAdd (i : Nat) {x : Str} {p1 : Pos} (h : EE X e te fe) (hN : X.N.Nodup) (lc : LcOk X i x := by first | exact lc_l rfl rfl | exact lc_c rfl rfl rfl) : SS X (.AugAssign (.Name x p1) .Add e pos) (tAug i te (rI0 fun i j => .int (i + j))) (augS i addI fe) := s_aug iop_add (does_ints fun _ _ _ _ => .int _) i h hN lc
theorem s_augSub (i : Nat) {x : Str} {p1 : Pos} (h : EE X e te fe) (hN : X.N.Nodup) (lc : LcOk X i x := by first | exact lc_l rfl rfl | exact lc_c rfl rfl rfl) : SS X (.AugAssign (.Name x p1) .Sub e pos) (tAug i te (rI0 fun i j => .int (i - j))) (augS i subI fe) := s_aug iop_sub (does_ints fun _ _ _ _ => .int _) i h hN lc
theorem s_augMul (i : Nat) {x : Str} {p1 : Pos} (h : EE X e te fe) (hN : X.N.Nodup) (lc : LcOk X i x := by first | exact lc_l rfl rfl | exact lc_c rfl rfl rfl) : SS X (.AugAssign (.Name x p1) .Mult e pos) (tAug i te (rI CMul fun i j => .int (i * j))) (augS i mulI fe) := s_aug iop_mul (does_intsC (fun _ _ h => mulOk_C h) fun _ _ _ _ => .int _) i h hN lc
theorem s_augOr (i : Nat) {x : Str} {p1 : Pos} (h : EE X e te fe) (hN : X.N.Nodup) (lc : LcOk X i x := by first | exact lc_l rfl rfl | exact lc_c rfl rfl rfl) : SS X (.AugAssign (.Name x p1) .BitOr e pos) (tAug i te (rI0 fun i j => .int (Builtin.bitOr i j))) (augS i borD fe) := s_aug iop_or does_bor i h hN lc
end
end Pu

set_option Elab.async false
set_option linter.all false
set_option maxRecDepth 100000
namespace Pu
open PySem PySem.Spec PyProof.Rows L2

/-! ### targets -/
abbrev Tg := D → Env → Option Env
def GG (K : PySem.W.Frag) (g : TG) (ix : List Nat) (t : Tg) : Prop := ∀ ⦃H0 : Hp⦄ ⦃M0 : Addr → Prop⦄ ⦃H : Hp⦄ ⦃M : Addr → Prop⦄ ⦃ρ : Env⦄ ⦃σ : L2.St⦄ ⦃v : V⦄ ⦃d : D⦄ ⦃ρ' : Env⦄ ⦃Q : L2.St → Hp → Prop⦄, EnvOk K H0 M0 H M ρ σ → Rep K H M d v → t d ρ = some ρ' →
  (∀ σ', EnvOk K H0 M0 H M ρ' σ' → (∀ vs : List Nat, (∀ i ∈ ix, i ∈ vs) → wipe σ' vs = wipe σ vs) → Q σ' H) → g v σ H Q
def tEach : List Tg → List D → Env → Option Env
  | [], [], ρ => some ρ
  | t :: ts, d :: ds, ρ => (t d ρ).bind (tEach ts ds)
  | _, _, _ => none
def GGs (K : PySem.W.Frag) (g : TGs) (ix : List Nat) (t : List Tg) : Prop := ∀ ⦃H0 : Hp⦄ ⦃M0 : Addr → Prop⦄ ⦃H : Hp⦄ ⦃M : Addr → Prop⦄ ⦃ρ : Env⦄ ⦃σ : L2.St⦄ ⦃vs : List V⦄ ⦃ds : List D⦄ ⦃ρ' : Env⦄ ⦃Q : L2.St → Hp → Prop⦄, EnvOk K H0 M0 H M ρ σ → Reps K H M ds vs → tEach t ds ρ = some ρ' →
  (∀ σ', EnvOk K H0 M0 H M ρ' σ' → (∀ vs : List Nat, (∀ i ∈ ix, i ∈ vs) → wipe σ' vs = wipe σ vs) → Q σ' H) → g vs σ H Q
structure EG (X : Cx) (tg : Expr) (g : TG) (ix : List Nat) (t : Tg) : Prop where
  pg : PG X tg g
  g : GG X.K g ix t
structure EGs (X : Cx) (tg : List Expr) (g : TGs) (ix : List Nat) (t : List Tg) : Prop where
  pgs : PGs X tg g
  g : GGs X.K g ix t
def tN (i : Nat) : Tg := fun d ρ => some (ρ.set i (.sh d))
def tT (ts : List Tg) : Tg := fun d ρ => match d with
  | .tuple ds => tEach ts ds ρ
  | _ => none
theorem wipe_set {σ : L2.St} {i : Nat} {x : Option V} : ∀ {vs : List Nat}, i ∈ vs → wipe (σ.set i x) vs = wipe σ vs
  | v :: vs, h => by
    unfold wipe
    rcases List.mem_cons.mp h with e | h
    · subst e
      have out : ∀ us : List Nat, (wipe (σ.set i x) us).set i none = (wipe σ us).set i none := by
        intro us
        induction us with
        | nil => unfold wipe; rw [List.set_set]
        | cons u us ih =>
          unfold wipe
          by_cases e : u = i
          · subst e; rw [List.set_set, List.set_set]; exact ih
          · rw [List.set_comm _ _ e, ih, List.set_comm _ _ (Ne.symm e)]
      exact out vs
    · rw [wipe_set h]
section
variable {X : Cx} {e : Expr} {es : List Expr} {g : TG} {gs : TGs} {ix jx : List Nat} {t : Tg} {ts : List Tg} {pos : Pos}
theorem t_name (i : Nat) {x : Str} (hN : X.N.Nodup) (lc : LcOk X i x := by first | exact lc_l rfl rfl | exact lc_c rfl rfl rfl) : EG X (.Name x pos) (gName i) [i] (tN i) := ⟨pg_name hN lc.hN lc.hx lc.hf, fun H0 M0 H M ρ σ v d ρ' Q E r e q => by
  cases e
  exact q _ (E.put r) fun vs h => wipe_set (h i (by simp))⟩
theorem ts_nil : EGs X [] gNil [] [] := ⟨pgs_nil, fun H0 M0 H M ρ σ vs ds ρ' Q E r e q => by
  cases r
  · cases e
    exact ⟨rfl, q _ E fun _ _ => rfl⟩
  · cases e⟩
theorem ts_cons (h : EG X e g ix t) (h2 : EGs X es gs jx ts) (hs : (assignEach (e :: es) X.env).map (·.2) = assign e X.env :: (assignEach es X.env).map (·.2) := by rfl) : EGs X (e :: es) (gCons g gs) (ix ++ jx) (t :: ts) := ⟨pgs_cons h.pg h2.pgs hs, fun H0 M0 H M ρ σ vs ds ρ' Q E r e q => by
  cases r with
  | nil => cases e
  | cons r rs =>
    obtain ⟨ρ1, e1, e⟩ := bind_some e
    refine ⟨_, _, rfl, h.g E r e1 fun σ1 E1 w1 => h2.g E1 rs e fun σ2 E2 w2 => q σ2 E2 fun vs hv => ?_⟩
    rw [w2 vs fun i hi => hv i (List.mem_append_right _ hi), w1 vs fun i hi => hv i (List.mem_append_left _ hi)]⟩
theorem tEach_len : ∀ {ts : List Tg} {ds : List D} {ρ ρ' : Env}, tEach ts ds ρ = some ρ' → ds.length = ts.length
  | [], [], _, _, _ => rfl
  | _ :: _, _ :: _, _, _, h => by obtain ⟨_, _, h⟩ := bind_some h; exact congrArg (· + 1) (tEach_len h)
  | [], _ :: _, _, _, h => by cases h
  | _ :: _, [], _, _, h => by cases h
theorem t_tup {k : Nat} (hc : X.calm = true) (h : EGs X es gs ix ts) (hn : (assignEach es X.env).length = ts.length := by rfl) (hst : (assignEach es X.env).findIdx? (·.1) = none := by rfl) : EG X (.Tuple es k pos) (gTup X.K ts.length gs) ix (tT ts) := ⟨pg_tup hc h.pgs hn hst, fun H0 M0 H M ρ σ v d ρ' Q E r e q => by
  unfold tT at e
  split at e
  · cases r with
    | tup h1 r1 => exact ⟨_, _, rfl, h1, r1.length.symm.trans (tEach_len e), h.g E r1 e q⟩
  · cases e⟩
end
/-- target = e, e told by its value -/
def asgS (t : Tg) (f : Ev) : Eg := fun ρ => (f ρ).bind fun d => (t d ρ).map .nx
section
variable {X : Cx} {e tg : Expr} {te : TE} {fe : Ev} {g : TG} {ix : List Nat} {t : Tg} {pos : Pos}
structure AsOk (X : Cx) (tg e : Expr) (pos : Pos) : Prop where
  hs : swapsWithSole [tg] e pos.line X.env = pure false
  hw : swappedStores [tg] e X.env = pure none
  h1 : (assignEach [tg] X.env).map (·.2) = [assign tg X.env]
theorem s_asg (h : EE X e te fe) (h2 : EG X tg g ix t) (b : AsOk X tg e pos := by exact ⟨rfl, rfl, rfl⟩) : SS X (.Assign [tg] e pos) (tAsg te g) (asgS t fe) := ⟨L2.ps_asg h.pe h2.pg b.hs b.hw b.h1, fun H0 M0 H M ρ σ D o E hf q => by
  obtain ⟨d, e1, hf⟩ := bind_some hf
  obtain ⟨ρ', e2, e3⟩ := Option.map_eq_some_iff.mp hf
  subst e3
  exact h.g E e1 fun v H1 s1 r1 => h2.g (E.to s1) r1 e2 fun σ' E' _ => q σ' H1 M (.of_same s1) E'⟩
/-- x, y = a, b with plain local names -/
def parS (i j : Nat) (fs : Es) : Eg := fun ρ => (fs ρ).bind fun ds => match ds with
  | [d, d'] => some (.nx ((ρ.set i (.sh d)).set j (.sh d')))
  | _ => none
theorem s_par (i j : Nat) {x y : Str} {a b : Expr} {ta : TA} {fs : Es} {px py pt : Pos} {kt k2 : Nat} {pt2 : Pos} (hc : X.calm = true) (hN : X.N.Nodup) (h : AE X [a, b] ta fs) (hi : X.N[i]? = some x := by rfl) (hj : X.N[j]? = some y := by rfl) (hij : i ≠ j := by decide)
    (hx : X.env.scope.names.lookup x = some .local := by rfl) (hy : X.env.scope.names.lookup y = some .local := by rfl)
    (hw : swappedStores [.Tuple [.Name x px, .Name y py] kt pt] (.Tuple [a, b] k2 pt2) X.env = pure (some [x, y]) := by rfl)
    (hs : swapsWithSole [.Tuple [.Name x px, .Name y py] kt pt] (.Tuple [a, b] k2 pt2) pos.line X.env = pure false := by rfl) :
    SS X (.Assign [.Tuple [.Name x px, .Name y py] kt pt] (.Tuple [a, b] k2 pt2) pos) (tPar i j ta) (parS i j fs) := ⟨ps_par hc hN hi hj hij hx hy h.pa hw hs, fun H0 M0 H M ρ σ D o E hf q => by
  obtain ⟨ds, e1, hf⟩ := bind_some hf
  split at hf
  · cases hf
    refine h.g E e1 fun vs H1 s1 r1 => ?_
    cases r1 with
    | cons r1 r =>
      cases r with
      | cons r2 r =>
        cases r
        exact ⟨_, _, rfl, q _ H1 M (.of_same s1) (((E.to s1).put r1).put r2)⟩
  · cases hf⟩
end

/-! ### what is walked -/
def Walks (K : PySem.W.Frag) (J : It) (ds : List D) (P : Hp → (Addr → Prop) → Prop) : Prop := ∃ (G : Hp → Prop) (Y : Nat → Hp → V → Hp → Prop), Walk J ds.length G Y ∧ (∀ H M, P H M → MK H M → G H) ∧
  ∀ i H x H' M, i < ds.length → P H M → MK H M → Y i H x H' → Same H H' ∧ ∀ d, ds[i]? = some d → Rep K H' M d x
theorem Walks.mono {K : PySem.W.Frag} {J : It} {ds : List D} {P P' : Hp → (Addr → Prop) → Prop} (w : Walks K J ds P) (h : ∀ H M, P' H M → P H M) : Walks K J ds P' := by
  obtain ⟨G, Y, w, g, y⟩ := w
  exact ⟨G, Y, w, fun H M p => g H M (h H M p), fun i H x H' M hi p => y i H x H' M hi (h H M p)⟩
/-- in a loop; in a comprehension -/
abbrev PL (H1 : Hp) (M : Addr → Prop) : Hp → (Addr → Prop) → Prop := fun H2 M2 => Step H1 M H2 M2
abbrev PC' (H1 : Hp) (M : Addr → Prop) : Hp → (Addr → Prop) → Prop := fun H2 M2 => Same H1 H2 ∧ New H1 M M2
abbrev Src := Env → Option (List D)
def GI (K : PySem.W.Frag) (wi : TI) (f : Src) : Prop := ∀ ⦃H0 : Hp⦄ ⦃M0 : Addr → Prop⦄ ⦃H : Hp⦄ ⦃M : Addr → Prop⦄ ⦃ρ : Env⦄ ⦃σ : L2.St⦄ ⦃R : It → Hp → Prop⦄ ⦃ds : List D⦄, EnvOk K H0 M0 H M ρ σ → f ρ = some ds → (∀ J H1, Same H H1 → Walks K J ds (PL H1 M) → R J H1) → wi σ H R
def GC (K : PySem.W.Frag) (wi : TI) (f : Src) : Prop := ∀ ⦃H0 : Hp⦄ ⦃M0 : Addr → Prop⦄ ⦃H : Hp⦄ ⦃M : Addr → Prop⦄ ⦃ρ : Env⦄ ⦃σ : L2.St⦄ ⦃R : It → Hp → Prop⦄ ⦃ds : List D⦄, EnvOk K H0 M0 H M ρ σ → f ρ = some ds → (∀ J H1, Same H H1 → Walks K J ds (PC' H1 M) → R J H1) → wi σ H R
structure EI (X : Cx) (tg e : Expr) (wi : TI) (f : Src) : Prop where
  pi : PI X tg e wi
  g : GI X.K wi f
/-- the source of a comprehension -/
structure EC (X : Cx) (tg e : Expr) (wi : TI) (f : Src) : Prop where
  pi : PI X tg e wi
  g : GC X.K wi f
theorem EI.c {X : Cx} {tg e : Expr} {wi : TI} {f : Src} (h : EI X tg e wi f) : EC X tg e wi f := ⟨h.pi, fun H0 M0 H M ρ σ R ds E hf q => h.g E hf fun J H1 s w => q J H1 s (w.mono fun H2 M2 p => ⟨.of_same p.1, p.2⟩)⟩

def iAny (K : PySem.W.Frag) (tl : TE) : TI := fun σ H R => tl σ H fun x H1 => (∃ a, x = .ref a ∧ (∃ xs, SqL K H1 a xs) ∧ R (Itl K a) H1) ∨ (∃ a, x = .ref a ∧ (∃ xs, SqT K H1 a xs) ∧ R (Itt K a) H1) ∨ (∃ z, x = .str z ∧ R (Its z) H1)
theorem pi_any {X : Cx} {tg l : Expr} {tl : TE} (hl : PE X l tl) : PI X tg l (iAny X.K tl) := by
  refine ⟨fun pins s σ H R I h => thn (hl.run pins s σ H _ I h) fun v s1 ⟨x, H1, I1, r1, q1⟩ => ?_⟩
  rcases q1 with ⟨a, e, ⟨xs, hq⟩, q⟩ | ⟨a, e, ⟨xs, hq⟩, q⟩ | ⟨z, e, q⟩
  · subst e
    cases r1
    obtain ⟨its, rv, p, hz⟩ := I1.list hq
    exact wpAny_pyIter_list p.isList (pi_one (tk := s1.toks) I1 _ (turn_list a _) ⟨_, Heap.get?_push_size _ rfl, rfl, rfl⟩ q)
  · subst e
    cases r1
    obtain ⟨its, rv, p, hz⟩ := I1.tuple hq
    exact wpAny_pyIter_tuple (show s1.heap.IsTuple a its.toArray from p) (pi_one (tk := s1.toks) I1 _ (turn_tuple a _) ⟨_, Heap.get?_push_size _ rfl, rfl, rfl⟩ q)
  · subst e
    obtain ⟨t, rfl⟩ := r1
    cases ha : z.cps.all (· < 128)
    · exact wpAny_pyIter_wide ha (pi_one (tk := s1.toks) I1 _ (turn_str _ z t "str_iterator" (.inr rfl)) ⟨_, Heap.get?_push_size _ rfl, rfl, rfl⟩ q)
    · exact wpAny_pyIter_ascii ha (pi_one (tk := s1.toks) I1 _ (turn_str _ z t "str_ascii_iterator" (.inl rfl)) ⟨_, Heap.get?_push_size _ rfl, rfl, rfl⟩ q)
def itemsOf : D → Option (List D)
  | .list ds => some ds
  | .tuple ds => some ds
  | .str z => some (z.cps.toList.map fun c => .str ⟨#[c]⟩)
  | _ => none
def srcOf (f : Ev) : Src := fun ρ => (f ρ).bind itemsOf
theorem walks_str {K : PySem.W.Frag} {z : Str} {P : Hp → (Addr → Prop) → Prop} : Walks K (Its z) (z.cps.toList.map fun c => .str ⟨#[c]⟩) P := by
  refine ⟨fun _ => True, fun i H v H' => H' = H ∧ ∃ c, z.cps[i]? = some c ∧ v = .str ⟨#[c]⟩, ?_, fun _ _ _ _ => True.intro, ?_⟩
  · rw [List.length_map, Array.length_toList]; exact walk_str
  · rintro i H x H' M hi p m ⟨rfl, c, hc, rfl⟩
    refine ⟨Same.refl _, fun d hd => ?_⟩
    have e : (z.cps.toList.map fun c => PyData.str ⟨#[c]⟩)[i]? = some (PyData.str ⟨#[c]⟩) := by
      rw [List.getElem?_map, Array.getElem?_toList, hc]; rfl
    rw [e] at hd
    cases hd
    exact .str _
/-- sources that stand still: walked by a loop -/
theorem g_srcI {K : PySem.W.Frag} {te : TE} {f : Ev} (h : GE K te f) : GI K (iAny K te) (srcOf f) := fun H0 M0 H M ρ σ R ds E hf q => by
  obtain ⟨d, e1, hf⟩ := bind_some hf
  refine h E e1 fun v H1 s1 r1 => ?_
  have m1 := E.mkh.same s1
  unfold itemsOf at hf
  split at hf
  · cases hf
    cases r1 with
    | @lst a vs ds hl r =>
      refine .inl ⟨a, rfl, ⟨vs, hl.sq⟩, q _ H1 s1 ⟨fun H => SqL K H a vs, YAt vs, by rw [r.length]; exact walk_list, fun H2 M2 p m => (p.st.lo m1 p.nw hl).sq, ?_⟩⟩
      rintro i H2 x H3 M2 hi p m ⟨rfl, hx⟩
      refine ⟨Same.refl _, fun d hd => ?_⟩
      obtain ⟨v, hv, r⟩ := r.get hd
      rw [hx] at hv; cases hv
      exact r.stay m1 p.st p.nw
  · cases hf
    cases r1 with
    | @tup a vs ds hl r =>
      refine .inr (.inl ⟨a, rfl, ⟨vs, hl⟩, q _ H1 s1 ⟨fun H => SqT K H a vs, YAt vs, by rw [r.length]; exact walk_tup, fun H2 M2 p m => p.st.sqT m1 hl, ?_⟩⟩)
      rintro i H2 x H3 M2 hi p m ⟨rfl, hx⟩
      refine ⟨Same.refl _, fun d hd => ?_⟩
      obtain ⟨v, hv, r⟩ := r.get hd
      rw [hx] at hv; cases hv
      exact r.stay m1 p.st p.nw
  · cases hf
    cases r1
    exact .inr (.inr ⟨_, rfl, q _ H1 s1 walks_str⟩)
  · cases hf
theorem g_srcC {K : PySem.W.Frag} {te : TE} {f : Ev} (h : GB K te f) : GC K (iAny K te) (srcOf f) := fun H0 M0 H M ρ σ R ds E hf q => by
  obtain ⟨d, e1, hf⟩ := bind_some hf
  refine h E e1 fun v H1 s1 r1 => ?_
  have m1 := E.mkh.same s1
  unfold itemsOf at hf
  split at hf
  · cases hf
    obtain ⟨a, vs, rfl, hl, r⟩ := r1.lst
    refine .inl ⟨a, rfl, ⟨vs, hl⟩, q _ H1 s1 ⟨fun H => SqL K H a vs, YAt vs, by rw [r.length]; exact walk_list, fun H2 M2 p m => p.1.seq hl, ?_⟩⟩
    rintro i H2 x H3 M2 hi p m ⟨rfl, hx⟩
    refine ⟨Same.refl _, fun d hd => ?_⟩
    obtain ⟨v, hv, r⟩ := r.get hd
    rw [hx] at hv; cases hv
    exact r.stay m1 (.of_same p.1) p.2
  · cases hf
    obtain ⟨a, vs, rfl, hl, r⟩ := r1.tup
    refine .inr (.inl ⟨a, rfl, ⟨vs, hl⟩, q _ H1 s1 ⟨fun H => SqT K H a vs, YAt vs, by rw [r.length]; exact walk_tup, fun H2 M2 p m => (Stay.of_same p.1).sqT m1 hl, ?_⟩⟩)
    rintro i H2 x H3 M2 hi p m ⟨rfl, hx⟩
    refine ⟨Same.refl _, fun d hd => ?_⟩
    obtain ⟨v, hv, r⟩ := r.get hd
    rw [hx] at hv; cases hv
    exact r.stay m1 (.of_same p.1) p.2
  · cases hf
    rw [r1.str]
    exact .inr (.inr ⟨_, rfl, q _ H1 s1 walks_str⟩)
  · cases hf
section
variable {X : Cx} {tg e e2 : Expr} {te : TE} {f : Ev} {ta : TA} {fs : Es} {p pos : Pos}
theorem i_any (h : EE X e te f) : EI X tg e (iAny X.K te) (srcOf f) := ⟨pi_any h.pe, g_srcI h.g⟩
theorem ic_any (h : EB X e te f) : EC X tg e (iAny X.K te) (srcOf f) := ⟨pi_any h.pe, g_srcC h.g⟩
/-! ranges -/
def rng (lo : Int) (n : Nat) : List D := (List.range n).map fun i => .int (lo + (i : Nat))
def rg1 (fs : Es) : Src := fun ρ => (fs ρ).bind fun ds => match ds with
  | [.int j] => if -(2 ^ 62) ≤ j ∧ j < 2 ^ 62 then some (rng 0 j.toNat) else none
  | _ => none
def rg2 (fs : Es) : Src := fun ρ => (fs ρ).bind fun ds => match ds with
  | [.int i, .int j] => if -(2 ^ 62) ≤ i ∧ i < 2 ^ 62 ∧ -(2 ^ 62) ≤ j ∧ j < 2 ^ 62 then some (rng i (j - i).toNat) else none
  | _ => none
theorem walks_range {K : PySem.W.Frag} {lo : Int} {n : Nat} {P : Hp → (Addr → Prop) → Prop} : Walks K (Itr lo n) (rng lo n) P := by
  refine ⟨fun _ => True, YFn fun i => .int (lo + i), by unfold rng; rw [List.length_map, List.length_range]; exact walk_range, fun _ _ _ _ => True.intro, ?_⟩
  rintro i H x H' M hi p m ⟨rfl, rfl⟩
  refine ⟨Same.refl _, fun d hd => ?_⟩
  unfold rng at hd
  rw [List.getElem?_map] at hd
  obtain ⟨j, e1, e2⟩ := Option.map_eq_some_iff.mp hd
  obtain ⟨hj, e3⟩ := List.getElem?_eq_some_iff.mp e1
  rw [List.getElem_range] at e3
  subst e3 e2
  exact .int _
theorem i_rng1 (hg : Gl X "range") (hm : X.mg "range" = none) (h : AE X [e] ta fs) (hs : starEach [e] X.env = [(false, eval e X.env)] := by rfl) : EI X tg (.Call (.Name "range" p) [e] [] pos) (iRng1 ta) (rg1 fs) := ⟨pi_range1 hg hm h.pa hs, fun H0 M0 H M ρ σ R ds E hf q => by
  obtain ⟨as, e1, hf⟩ := bind_some hf
  split at hf
  · split at hf
    · rename_i hb
      cases hf
      refine h.g E e1 fun vs H1 s1 r1 => ?_
      cases r1 with
      | cons r rs =>
        cases rs
        cases r
        exact ⟨_, rfl, hb.1, hb.2, q _ H1 s1 walks_range⟩
    · cases hf
  · cases hf⟩
theorem i_rng2 (hg : Gl X "range") (hm : X.mg "range" = none) (h : AE X [e, e2] ta fs) (hs : starEach [e, e2] X.env = [(false, eval e X.env), (false, eval e2 X.env)] := by rfl) (hs2 : starEach [e2] X.env = [(false, eval e2 X.env)] := by rfl) : EI X tg (.Call (.Name "range" p) [e, e2] [] pos) (iRng2 ta) (rg2 fs) := ⟨pi_range2 hg hm h.pa hs hs2, fun H0 M0 H M ρ σ R ds E hf q => by
  obtain ⟨as, e1, hf⟩ := bind_some hf
  split at hf
  · split at hf
    · rename_i hb
      cases hf
      refine h.g E e1 fun vs H1 s1 r1 => ?_
      cases r1 with
      | cons r rs =>
        cases rs with
        | cons r' rs =>
          cases rs
          cases r
          cases r'
          exact ⟨_, _, rfl, hb, q _ H1 s1 walks_range⟩
    · cases hf
  · cases hf⟩
end

/-! ### for -/
def forL (t : Tg) (gb : Eg) : List D → Env → Option Out
  | [], ρ => some (.nx ρ)
  | d :: ds, ρ => (t d ρ).bind fun ρ1 => (gb ρ1).bind fun o => match o with
    | .nx ρ2 => forL t gb ds ρ2
    | .ct ρ2 => forL t gb ds ρ2
    | .bk ρ2 => some (.nx ρ2)
    | .rt r => some (.rt r)
def forS (f : Src) (t : Tg) (gb : Eg) : Eg := fun ρ => (f ρ).bind fun ds => forL t gb ds ρ
theorem g_for {K : PySem.W.Frag} {wi : TI} {g : TG} {tb : TS} {f : Src} {ix : List Nat} {t : Tg} {gb : Eg} (hi : GI K wi f) (hg : GG K g ix t) (hb : GS K tb gb) : GS K (tFor wi g tb) (forS f t gb) := fun H0 M0 H M ρ σ D o E hf q => by
  obtain ⟨ds, e1, hf⟩ := bind_some hf
  refine hi E e1 fun J H1 s1 w => ?_
  obtain ⟨G, Y, w, gG, yY⟩ := w
  refine for_it w (fun i σ' H' => ∃ ρ' M', Step H1 M H' M' ∧ EnvOk K H0 M0 H' M' ρ' σ' ∧ forL t gb (ds.drop i) ρ' = some o) ⟨ρ, M, .refl, E.to s1, by rw [List.drop_zero]; exact hf⟩ ?_ ?_ ?_
  · rintro i σ' H' hi ⟨ρ', M', st, E', _⟩
    exact gG H' M' st E'.mkh
  · rintro i x σ' H' H2 hi ⟨ρ', M', st, E', e2⟩ y
    obtain ⟨s2, rr⟩ := yY i H' x H2 M' hi st E'.mkh y
    have hd : ds[i]? = some ds[i] := List.getElem?_eq_getElem hi
    rw [List.drop_eq_getElem_cons hi] at e2
    obtain ⟨ρ1, e3, e2⟩ := bind_some e2
    obtain ⟨o1, e4, e2⟩ := bind_some e2
    refine hg (E'.to s2) (rr _ hd) e3 fun σ3 E3 _ => hb E3 e4 ?_
    have st2 : Step H1 M H2 M' := st.trans (.of_same s2)
    cases o1 with
    | nx ρ2 => exact fun σ4 H4 M4 st4 E4 => ⟨ρ2, M4, st2.trans st4, E4, e2⟩
    | ct ρ2 => exact fun σ4 H4 M4 st4 E4 => ⟨ρ2, M4, st2.trans st4, E4, e2⟩
    | bk ρ2 =>
      cases e2
      exact fun σ4 H4 M4 st4 E4 => q σ4 H4 M4 ((Step.of_same s1).trans (st2.trans st4)) E4
    | rt r =>
      cases e2
      exact q
  · rintro σ' H' ⟨ρ', M', st, E', e2⟩
    rw [List.drop_length] at e2
    cases e2
    exact q σ' H' M' ((Step.of_same s1).trans st) E'
theorem s_for {X : Cx} {tg iter : Expr} {body : List Stmt} {wi : TI} {g : TG} {tb : TS} {pos : Pos} {f : Src} {ix : List Nat} {t : Tg} {gb : Eg} (hp : PassesOwn (model X.prog X.w) X.A X.env X.xe) (hc : X.calm = true) (hi : EI X tg iter wi f) (hg : EG X tg g ix t) (hb : SB X body tb gb)
    (hs : ∀ x, foldedSetIterable iter X.env x = pure x := by intro _; rfl) : SS X (.For tg iter body [] pos) (tFor wi g tb) (forS f t gb) := ⟨ps_for hp hc hi.pi hg.pg hb.ps hs, g_for hi.g hg.g hb.g⟩

/-! ### while -/
def whL (c : Et) (gb : Eg) : Nat → Env → Option Out
  | 0, _ => none
  | n + 1, ρ => (c ρ).bind fun b => if b = true then (gb ρ).bind fun o => (match o with
      | .nx ρ2 => whL c gb n ρ2
      | .ct ρ2 => whL c gb n ρ2
      | .bk ρ2 => some (.nx ρ2)
      | .rt r => some (.rt r)) else some (.nx ρ)
theorem g_while {K : PySem.W.Frag} {tc : TT} {tb : TS} {c : Et} {gb : Eg} {n : Nat} (hc : GT K tc c) (hb : GS K tb gb) : GS K (tWhile tc tb) (whL c gb n) := fun H0 M0 H M ρ σ D o E hf q => by
  refine ⟨fun m σ' H' => ∃ ρ' M', Step H M H' M' ∧ EnvOk K H0 M0 H' M' ρ' σ' ∧ whL c gb m ρ' = some o, ⟨n, ρ, M, .refl, E, hf⟩, ?_⟩
  rintro m σ' H' ⟨ρ', M', st, E', e⟩
  cases m with
  | zero => cases e
  | succ m =>
    obtain ⟨b, e1, e⟩ := bind_some e
    refine hc E' e1 fun H2 s2 => ?_
    have st2 : Step H M H2 M' := st.trans (.of_same s2)
    cases b with
    | false =>
      rw [if_neg Bool.false_ne_true] at e ⊢
      cases e
      exact q σ' H2 M' st2 (E'.to s2)
    | true =>
      rw [if_pos rfl] at e ⊢
      obtain ⟨o1, e4, e⟩ := bind_some e
      refine ⟨fun σ4 H4 => ∃ ρ2 M4, Step H M H4 M4 ∧ EnvOk K H0 M0 H4 M4 ρ2 σ4 ∧ whL c gb m ρ2 = some o, fun σ4 H4 h => ⟨m, Nat.lt_succ_self m, h⟩, hb (E'.to s2) e4 ?_⟩
      cases o1 with
      | nx ρ2 => exact fun σ4 H4 M4 st4 E4 => ⟨ρ2, M4, st2.trans st4, E4, e⟩
      | ct ρ2 => exact fun σ4 H4 M4 st4 E4 => ⟨ρ2, M4, st2.trans st4, E4, e⟩
      | bk ρ2 =>
        cases e
        exact fun σ4 H4 M4 st4 E4 => q σ4 H4 M4 (st2.trans st4) E4
      | rt r =>
        cases e
        exact q
/-- the most turns of a while -/
def FU : Nat := 1000000
def whS (c : Et) (gb : Eg) : Eg := whL c gb FU
theorem s_while {X : Cx} {c : Expr} {body : List Stmt} {tc : TT} {tb : TS} {pos : Pos} {gc : Et} {gb : Eg} (hp : PassesOwn (model X.prog X.w) X.A X.env X.xe) (hc : ET X c tc gc) (hb : SB X body tb gb) : SS X (.While c body [] pos) (tWhile tc tb) (whS gc gb) := ⟨ps_while hp hc.pt hb.ps, g_while hc.g hb.g⟩
end Pu

set_option Elab.async false
set_option linter.all false
set_option maxRecDepth 100000
namespace Pu
open PySem PySem.Spec PyProof.Rows L2

/-! ### comprehensions -/
def wipeE (ρ : Env) : List Nat → Env
  | [] => ρ
  | v :: vs => (wipeE ρ vs).set v .no
theorem wipeE_len (ρ : Env) : ∀ vs : List Nat, (wipeE ρ vs).length = ρ.length
  | [] => rfl
  | v :: vs => by unfold wipeE; rw [List.length_set, wipeE_len ρ vs]
theorem wipe_none {σ : L2.St} {i : Nat} : ∀ {vs : List Nat}, i ∉ vs → (wipe σ vs)[i]? = σ[i]?
  | [], _ => rfl
  | v :: vs, h => by
    unfold wipe
    rw [List.getElem?_set_ne (fun e => h (by rw [e]; exact List.mem_cons_self))]
    exact wipe_none fun m => h (List.mem_cons_of_mem _ m)
theorem wipeE_some {ρ : Env} {i : Nat} {s : Sl} (hs : s ≠ .no) : ∀ {vs : List Nat}, (wipeE ρ vs)[i]? = some s → ρ[i]? = some s ∧ i ∉ vs
  | [], h => ⟨h, by simp⟩
  | v :: vs, h => by
    unfold wipeE at h
    rcases get_set_sl h with ⟨_, e, _⟩ | ⟨e, h⟩
    · exact absurd e hs
    · obtain ⟨h1, h2⟩ := wipeE_some hs h
      exact ⟨h1, by simp only [List.mem_cons, not_or]; exact ⟨e, h2⟩⟩
theorem EnvOk.wiped {K : PySem.W.Frag} {H0 : Hp} {M0 : Addr → Prop} {H : Hp} {M : Addr → Prop} {ρ : Env} {σ : L2.St} (E : EnvOk K H0 M0 H M ρ σ) (vs : List Nat) : EnvOk K H0 M0 H M (wipeE ρ vs) (wipe σ vs) where
  len := by rw [wipeE_len, wipe_length, E.len]
  same := E.same
  mkh0 := E.mkh0
  sub := E.sub
  mkh := E.mkh
  sh := fun i d h => by
    obtain ⟨h1, h2⟩ := wipeE_some (by intro z; cases z) h
    rw [wipe_none h2]
    exact E.sh i d h1
  ow := fun i d h => by
    obtain ⟨h1, h2⟩ := wipeE_some (by intro z; cases z) h
    rw [wipe_none h2]
    exact E.ow i d h1
  ap := fun i j d d' a h1 h2 h3 h4 => by
    obtain ⟨k1, n1⟩ := wipeE_some (by intro z; cases z) h1
    obtain ⟨k2, n2⟩ := wipeE_some (by intro z; cases z) h2
    rw [wipe_none n1] at h3
    rw [wipe_none n2] at h4
    exact E.ap i j d d' a k1 k2 h3 h4
def yes : Et := fun _ => some true
def lcL (t : Tg) (tt : Et) (f : Ev) (ρ : Env) : List D → Option (List D)
  | [] => some []
  | d :: ds => (t d ρ).bind fun ρ1 => (tt ρ1).bind fun b => if b = true then (f ρ1).bind fun x => (lcL t tt f ρ ds).bind fun xs => some (x :: xs) else lcL t tt f ρ ds
def lcS (src : Src) (t : Tg) (tt : Et) (f : Ev) (own : List Nat) : Ev := fun ρ => (src ρ).bind fun ds => if ds.length ≤ sizeLine then (lcL t tt f (wipeE ρ own) ds).bind fun xs => some (.list xs) else none
/-- .. within it the new list at A -/
theorem g_lc {K : PySem.W.Frag} {wi : TI} {g : TG} {tt : TT} {te : TE} {own ix : List Nat} {src : Src} {t : Tg} {gt : Et} {f : Ev} (hi : GC K wi src) (hg : GG K g ix t) (hix : ∀ i ∈ ix, i ∈ own) (ht : GT K tt gt) (he : GE K te f) : GN K (tLc wi g tt te own) (lcS src t gt f own) := fun H0 M0 H M ρ σ Q d E hf q => by
  obtain ⟨ds, e1, hf⟩ := bind_some hf
  split at hf
  · rename_i hz
    obtain ⟨fin, e2, hf⟩ := bind_some hf
    cases hf
    refine hi E e1 fun J H1 s1 w A nA => ?_
    obtain ⟨G, Y, w, gG, yY⟩ := w
    have nw : New H1 M (plus M A) := new_plus nA
    have m1 := E.mkh.same s1
    -- the state at a turn
    have mkA : ∀ {H' : Hp} {vs : List V}, Same H1 H' → H' A = some (.lst vs) → MK H' (plus M A) := fun {H' vs} s hA a h => by
      rcases h with h | h
      · exact m1.same s a h
      · rw [h, hA]; trivial
    have envA : ∀ {H' : Hp} {vs : List V}, Same H1 H' → H' A = some (.lst vs) → EnvOk K H0 M0 H' (plus M A) (wipeE ρ own) (wipe σ own) := fun {H' vs} s hA =>
      ((E.to s1).more (mkA s hA) (fun a h => .inl h) (.of_same s) ((E.to s1).same.trans s) nw fun a h => by
        have := m1 a h
        cases e : H1 a with
        | none => rw [e] at this; exact this.elim
        | some u => exact s a u e).wiped own
    refine lc_it w (fun i H' => Same H1 H' ∧ ∃ acc rest vs, H' A = some (.lst vs) ∧ Reps K H' (plus M A) acc vs ∧ lcL t gt f (wipeE ρ own) (ds.drop i) = some rest ∧ acc ++ rest = fin ∧ acc.length ≤ i) ⟨same_upd nA, [], fin, [], upd_same, .nil, by rw [List.drop_zero]; exact e2, rfl, Nat.le_refl _⟩ ?_ ?_ ?_
    · rintro i H' hi ⟨s, acc, rest, vs, hA, _⟩
      exact gG H' _ ⟨s, nw⟩ (mkA s hA)
    · rintro i x H' H2 hi ⟨s, acc, rest, vs, hA, r, e3, e4, hl⟩ y
      have E' := envA s hA
      obtain ⟨s2, rr⟩ := yY i H' x H2 _ hi ⟨s, nw⟩ E'.mkh y
      rw [List.drop_eq_getElem_cons hi] at e3
      obtain ⟨ρ1, e5, e3⟩ := bind_some e3
      obtain ⟨b, e6, e3⟩ := bind_some e3
      refine hg (E'.to s2) (rr _ (List.getElem?_eq_getElem hi)) e5 fun σ3 E3 hw => ⟨?_, ht E3 e6 fun H3 s3 => ?_⟩
      · rw [hw own hix]
        have out : ∀ us : List Nat, (∀ i ∈ us, i ∈ own) → wipe (wipe σ own) us = wipe σ own := by
          intro us
          induction us with
          | nil => intro _; rfl
          | cons u us ih =>
            intro hu
            show (wipe (wipe σ own) us).set u none = wipe σ own
            rw [ih fun i hi => hu i (List.mem_cons_of_mem _ hi)]
            refine List.ext_getElem? fun j => ?_
            by_cases e : u = j
            · subst e
              by_cases hl : u < (wipe σ own).length
              · rw [List.getElem?_set_self hl]
                have gone : ∀ ws : List Nat, u ∈ ws → u < (wipe σ ws).length → (wipe σ ws)[u]? = some none := by
                  intro ws
                  induction ws with
                  | nil => intro h; cases h
                  | cons z ws ih2 =>
                    intro h hl
                    show ((wipe σ ws).set z none)[u]? = some none
                    have hl' : u < (wipe σ ws).length := by rw [wipe_length] at hl ⊢; exact hl
                    by_cases e : z = u
                    · subst e; rw [List.getElem?_set_self hl']
                    · rw [List.getElem?_set_ne e]
                      rcases List.mem_cons.mp h with z' | z'
                      · exact absurd z'.symm e
                      · exact ih2 z' hl'
                exact (gone own (hu u List.mem_cons_self) hl).symm
              · rw [List.getElem?_eq_none (by simpa using hl), List.getElem?_eq_none (by simpa using hl)]
            · rw [List.getElem?_set_ne e]
        exact out own fun i hi => hi
      · have sA3 := s.trans (s2.trans s3)
        have hA3 : H3 A = some (.lst vs) := s3 _ _ (s2 _ _ hA)
        have r3 := (r.same E'.mkh s2).same (E'.mkh.same s2) s3
        cases b with
        | false =>
          rw [if_neg Bool.false_ne_true] at e3 ⊢
          exact ⟨sA3, acc, rest, vs, hA3, r3, e3, e4, by omega⟩
        | true =>
          rw [if_pos rfl] at e3 ⊢
          obtain ⟨z, e7, e3⟩ := bind_some e3
          obtain ⟨rest', e8, e3⟩ := bind_some e3
          cases e3
          refine he (E3.to s3) e7 fun u H4 s4 r4 => ⟨vs, s4 _ _ hA3, by rw [← r.length]; omega, ?_⟩
          have mA4 : MK H4 (plus M A) := (E3.to s3).mkh.same s4
          have stay : Stay H4 (plus M A) (upd H4 A (.lst (vs ++ [u]))) := fun b o hb nb => by rw [upd_ne (fun z => nb (.inr z))]; exact hb
          refine ⟨fun b o hb => ?_, acc ++ [z], rest', vs ++ [u], upd_same, ?_, e8, by rw [List.append_assoc]; exact e4, by rw [List.length_append]; simp; omega⟩
          · have : b ≠ A := ne_of_none hb nA
            rw [upd_ne this]
            exact s4 b o (sA3 b o hb)
          · exact ((r3.same (E3.to s3).mkh s4).append (.cons r4 .nil)).stay mA4 stay .refl
    · rintro H' ⟨s, acc, rest, vs, hA, r, e3, e4, _⟩
      rw [List.drop_length] at e3
      cases e3
      rw [List.append_nil] at e4
      subst e4
      exact q A H' (s1.free nA) (s1.trans s) ⟨vs, hA, r⟩
  · cases hf
structure PTsE (X : Cx) (ifs : List Expr) (t : TT) (g : Et) : Prop where
  pts : PTs X ifs t
  g : GT X.K t g
theorem k_nil {X : Cx} : PTsE X [] tYes yes := ⟨pts_nil, fun H0 M0 H M ρ σ Q b E hf q => by cases hf; exact q H (Same.refl H)⟩
theorem k_one {X : Cx} {c : Expr} {t : TT} {g : Et} (h : ET X c t g) : PTsE X [c] t g := ⟨pts_one h.pt, h.g⟩
section
variable {X : Cx}
abbrev Blk (X : Cx) (scope : Scope) (P : Cx → Prop) : Prop := ∀ (s : Shared) (H : Hp) (C : Addr) (cl : List (Str × Addr)) (fp : List Addr), P (X.blk s H scope (compEnvC scope cl C X.env) fp)
theorem Blk.at {scope : Scope} {P : Cx → Prop} (h : Blk X scope P) : P (X.blk X.s_0 X.H_0 scope (compEnvC scope [] 0 X.env) []) := h _ _ _ _ _
theorem n_lc {elt tg iter : Expr} {ifs : List Expr} {scope : Scope} {own : List (Str × Nat)} {pos : Pos} {wi : TI} {g : TG} {tt : TT} {te : TE} {src : Src} {ix : List Nat} {t : Tg} {gt : Et} {f : Ev} (hc : X.calm = true) (hN : X.N.Nodup) (hi : EC X tg iter wi src) (ok : blkC X.N X.env.scope scope own = true)
    (hg : Blk X scope fun Y => EG Y tg g ix t) (ht : Blk X scope fun Y => PTsE Y ifs tt gt) (he : Blk X scope fun Y => EE Y elt te f) (hix : ∀ i ∈ ix, i ∈ own.map (·.2) := by decide) (hs : ∀ x, foldedSetIterable iter X.env x = pure x := by intro _; rfl) :
    EN X (.ListComp elt [⟨tg, iter, ifs, 0⟩] scope pos) (tLc wi g tt te (own.map (·.2))) (lcS src t gt f (own.map (·.2))) :=
  ⟨pe_lc hc hN hi.pi (blkOk_by ok) (fun s H C cl fp => (hg s H C cl fp).pg) (fun s H C cl fp => (ht s H C cl fp).pts) (fun s H C cl fp => (he s H C cl fp).pe) hs, g_lc hi.g (Blk.at hg).g hix (Blk.at ht).g (Blk.at he).g⟩
/-- name = [..] -/
theorem s_lc (i : Nat) {y : Str} {py : Pos} {elt tg iter : Expr} {ifs : List Expr} {scope : Scope} {own : List (Str × Nat)} {pos spos : Pos} {wi : TI} {g : TG} {tt : TT} {te : TE} {src : Src} {ix : List Nat} {t : Tg} {gt : Et} {f : Ev} (hc : X.calm = true) (hN : X.N.Nodup)
    (hi : EC X tg iter wi src) (ok : blkC X.N X.env.scope scope own = true)
    (hg : Blk X scope fun Y => EG Y tg g ix t) (ht : Blk X scope fun Y => PTsE Y ifs tt gt) (he : Blk X scope fun Y => EE Y elt te f) (hy : X.N[i]? = some y := by rfl) (hyl : X.env.scope.names.lookup y = some .local := by rfl)
    (hsw : swapsWith (.ListComp elt [⟨tg, iter, ifs, 0⟩] scope pos) (some (.Name y py)) spos.line X.env = pure true := by exact sw_true rfl rfl rfl (by decide +kernel))
    (hix : ∀ i ∈ ix, i ∈ own.map (·.2) := by decide) (hs : ∀ x, foldedSetIterable iter X.env x = pure x := by intro _; rfl) :
    SS X (.Assign [.Name y py] (.ListComp elt [⟨tg, iter, ifs, 0⟩] scope pos) spos) (tAsg (tLc wi g tt te (own.map (·.2))) (gName i)) (ownS i (lcS src t gt f (own.map (·.2)))) :=
  ⟨ps_setLc hc hN hy hyl hsw hi.pi (blkOk_by ok) (fun s H C cl fp => (hg s H C cl fp).pg) (fun s H C cl fp => (ht s H C cl fp).pts) (fun s H C cl fp => (he s H C cl fp).pe) hs, g_own (g_lc hi.g (Blk.at hg).g hix (Blk.at ht).g (Blk.at he).g)⟩
end

/-! ### defs -/
def startE (n : Nat) (ds : List D) : Env := ds.map .sh ++ List.replicate (n - ds.length) .no
def outD : Out → Option D
  | .rt d => some d
  | .nx _ => some .none
  | _ => none
def run (n : Nat) (g : Eg) : List D → Option D := fun ds => (g (startE n ds)).bind outD
theorem env_start {K : PySem.W.Frag} {H : Hp} {M : Addr → Prop} {ds : List D} {vs : List V} {N : List Str} (m : MK H M) (r : Reps K H M ds vs) : EnvOk K H M H M (startE N.length ds) (L2.start N vs) where
  len := by unfold startE L2.start; simp [r.length]
  same := Same.refl H
  mkh0 := m
  sub := fun _ h => h
  mkh := m
  sh := fun i d h => by
    unfold startE at h
    by_cases hi : i < ds.length
    · rw [List.getElem?_append_left (by simpa using hi), List.getElem?_map] at h
      obtain ⟨d', e1, e2⟩ := Option.map_eq_some_iff.mp h
      injection e2 with e2
      subst e2
      obtain ⟨v, h1, h2⟩ := r.get e1
      refine ⟨v, ?_, h2⟩
      unfold L2.start
      rw [List.getElem?_append_left (by rw [List.length_map, ← r.length]; exact hi), List.getElem?_map, h1]
      rfl
    · rw [List.getElem?_append_right (by simpa using hi), List.getElem?_replicate] at h
      split at h <;> cases h
  ow := fun i d h => by
    unfold startE at h
    by_cases hi : i < ds.length
    · rw [List.getElem?_append_left (by simpa using hi), List.getElem?_map] at h
      obtain ⟨d', e1, e2⟩ := Option.map_eq_some_iff.mp h
      cases e2
    · rw [List.getElem?_append_right (by simpa using hi), List.getElem?_replicate] at h
      split at h <;> cases h
  ap := fun i j d d' a h => by
    unfold startE at h
    by_cases hi : i < ds.length
    · rw [List.getElem?_append_left (by simpa using hi), List.getElem?_map] at h
      obtain ⟨d', e1, e2⟩ := Option.map_eq_some_iff.mp h
      cases e2
    · rw [List.getElem?_append_right (by simpa using hi), List.getElem?_replicate] at h
      split at h <;> cases h
section
variable {P : Program} {w : World} {K : PySem.W.Frag} {mg : Str → Option Value} {base : Heap} {x qual : Str} {params : Arguments} {body : List Stmt} {scope : Scope} {f : Addr} {fd : FuncData}
theorem def_ok {N ps : List Str} {k : Nat} {g : Eg} (F : FunD K x qual params body scope [] [] f fd) (S : FnScope N ps scope)
    (hb : ∀ (cdv : Value) (A : Around) (outer : List PySem.Env) (s : Shared) (H : Hp) (E : XK), Room k (A.deeper (envOfC qual scope s.heap.objs.size f cdv)) →
      ∃ t, SB (cxOf CX0 P w K mg base N qual scope f cdv A outer s H E).nox body t g) : FnOk P w K mg base CX0 (k + 1) f fd ps (spP K ps.length (run N.length g)) := by
  refine F.ok S (fun vs H Q E h => ?_) fun cdv A outer s H vs Q E hr h => ?_
  · obtain ⟨M, ds, d, m, r, hl, _⟩ := h
    rw [← r.length]; exact hl
  · obtain ⟨M, ds, d, m, r, hl, e, q⟩ := h
    obtain ⟨t, ht⟩ := hb cdv A outer s H E hr
    refine ⟨t, ht.ps.nox, ?_⟩
    obtain ⟨o, e1, e2⟩ := bind_some e
    refine ht.g (env_start m r) e1 ?_
    cases o with
    | rt d' => cases e2; exact fun v H' s r => q v H' s r
    | nx ρ => cases e2; exact fun σ' H' M' st E' => q _ H' E'.same .non
    | bk ρ => cases e2
    | ct ρ => cases e2
/-- the law's def: a script of ints -/
theorem law_sp {n : Nat} {sem : List D → Option D} (hn : n = 1) (h : ∀ ns : List Int, ns.length ≤ 63 → sem [.list (ns.map .int)] = some (.bool true)) {H : Hp} {a : Addr} {ns : List Int} (hl : ns.length ≤ 63) (hS : SqL K H a (ns.map V.int)) :
    spP K n sem [.ref a] H (fun v _ => v = .bl true) fun _ _ _ => False := by
  have r : ∀ ns : List Int, Reps K H (fun _ => False) (ns.map PyData.int) (ns.map V.int) := fun ns => by
    induction ns with
    | nil => exact .nil
    | cons x xs ih => exact .cons (.int x) ih
  refine ⟨fun _ => False, [.list (ns.map .int)], .bool true, fun _ h => h.elim, .cons (.lst ?_ (r ns)) .nil, hn.symm, h ns hl, fun v H' _ r => by cases r; rfl⟩
  rcases hS with h | h
  · exact .inl ⟨h, fun z => z⟩
  · exact .inr h
end
end Pu

set_option Elab.async false
set_option linter.all false
set_option maxRecDepth 100000
namespace Pu
open PySem PySem.Spec PyProof.Rows L2

/-! ### the built-ins by their names -/
theorem bo_len : bootBuiltins "len" = some (.builtin "len") := by decide +kernel
theorem bo_abs : bootBuiltins "abs" = some (.builtin "abs") := by decide +kernel
theorem bo_min : bootBuiltins "min" = some (.builtin "min") := by decide +kernel
theorem bo_max : bootBuiltins "max" = some (.builtin "max") := by decide +kernel
theorem bo_sum : bootBuiltins "sum" = some (.builtin "sum") := by decide +kernel
theorem bo_any : bootBuiltins "any" = some (.builtin "any") := by decide +kernel
theorem bo_all : bootBuiltins "all" = some (.builtin "all") := by decide +kernel
theorem bo_sorted : bootBuiltins "sorted" = some (.builtin "sorted") := by decide +kernel
theorem bo_isinstance : bootBuiltins "isinstance" = some (.builtin "isinstance") := by decide +kernel
theorem bo_int : bootBuiltins "int" = some (.type "int") := by decide +kernel
theorem bo_str : bootBuiltins "str" = some (.type "str") := by decide +kernel
theorem bo_tuple : bootBuiltins "tuple" = some (.type "tuple") := by decide +kernel
theorem bo_list : bootBuiltins "list" = some (.type "list") := by decide +kernel
theorem bo_bool : bootBuiltins "bool" = some (.type "bool") := by decide +kernel
section
variable {X : Cx} {p pos : Pos} {e a b : Expr} {es : List Expr} {t : TA} {te ta tb : TE} {f g : Ev} {n : Nat}
structure CaOk (X : Cx) (e : Expr) (es : List Expr) (pos : Pos) : Prop where
  he : starEach (e :: es) X.env = (false, eval e X.env) :: starEach es X.env
  hpl : (backTo pos (starEach es X.env)).any (·.1) = false
def one (f : Ev) : Es := cs f nl
def two (f g : Ev) : Es := cs f (cs g nl)
theorem ab1 (h : EB X e te f) (c : CaOk X e [] pos) : AB X [e] (tCons te tNil) (one f) := b_cons h b_nil c.he
theorem x_len (hm : X.mg "len" = none) (h : EB X e te f) (hg : Gl X "len" := by rfl) (c : CaOk X e [] pos := by exact ⟨rfl, rfl⟩) : EE X (.Call (.Name "len" p) [e] [] pos) (tCB (fun xs H Q => ∃ x n, xs = [x] ∧ LenV X.K x H n ∧ Q (.int n) H) (tCons te tNil)) (ap lenD (one f)) :=
  c_bi call_len does_len hg hm bo_len (ab1 h c) (he := c.he) (hpl := c.hpl)
theorem x_abs (hm : X.mg "abs" = none) (h : EB X e te f) (hg : Gl X "abs" := by rfl) (c : CaOk X e [] pos := by exact ⟨rfl, rfl⟩) : EE X (.Call (.Name "abs" p) [e] [] pos) (tCB (fun xs H Q => ∃ i, xs = [.int i] ∧ Q (.int (if i < 0 then -i else i)) H) (tCons te tNil)) (ap absD (one f)) :=
  c_bi call_abs does_abs hg hm bo_abs (ab1 h c) (he := c.he) (hpl := c.hpl)
theorem x_sum (hc : X.calm = true) (hm : X.mg "sum" = none) (h : EB X e te f) (hg : Gl X "sum" := by rfl) (c : CaOk X e [] pos := by exact ⟨rfl, rfl⟩) : EE X (.Call (.Name "sum" p) [e] [] pos) (tCB (rSum X.K) (tCons te tNil)) (ap sumD (one f)) :=
  c_bi (cr_sum hc) does_sum hg hm bo_sum (ab1 h c) (he := c.he) (hpl := c.hpl)
theorem x_any (hc : X.calm = true) (hm : X.mg "any" = none) (h : EB X e te f) (hg : Gl X "any" := by rfl) (c : CaOk X e [] pos := by exact ⟨rfl, rfl⟩) : EE X (.Call (.Name "any" p) [e] [] pos) (tCB (rAny X.K) (tCons te tNil)) (ap anyD (one f)) :=
  c_bi (cr_any hc) does_any hg hm bo_any (ab1 h c) (he := c.he) (hpl := c.hpl)
theorem x_all (hc : X.calm = true) (hm : X.mg "all" = none) (h : EB X e te f) (hg : Gl X "all" := by rfl) (c : CaOk X e [] pos := by exact ⟨rfl, rfl⟩) : EE X (.Call (.Name "all" p) [e] [] pos) (tCB (rAll X.K) (tCons te tNil)) (ap allD (one f)) :=
  c_bi (cr_all hc) does_all hg hm bo_all (ab1 h c) (he := c.he) (hpl := c.hpl)
theorem x_minI (hc : X.calm = true) (hm : X.mg "min" = none) (h : EB X e te f) (hg : Gl X "min" := by rfl) (c : CaOk X e [] pos := by exact ⟨rfl, rfl⟩) : EE X (.Call (.Name "min" p) [e] [] pos) (tCB (rMin X.K) (tCons te tNil)) (ap minI (one f)) :=
  c_bi (cr_min hc) does_minI hg hm bo_min (ab1 h c) (he := c.he) (hpl := c.hpl)
theorem x_maxI (hc : X.calm = true) (hm : X.mg "max" = none) (h : EB X e te f) (hg : Gl X "max" := by rfl) (c : CaOk X e [] pos := by exact ⟨rfl, rfl⟩) : EE X (.Call (.Name "max" p) [e] [] pos) (tCB (rMax X.K) (tCons te tNil)) (ap maxI (one f)) :=
  c_bi (cr_max hc) does_maxI hg hm bo_max (ab1 h c) (he := c.he) (hpl := c.hpl)
theorem x_min2 (hc : X.calm = true) (hm : X.mg "min" = none) (h : EB X a ta f) (h2 : EB X b tb g) (hg : Gl X "min" := by rfl) (c : CaOk X a [b] pos := by exact ⟨rfl, rfl⟩) (c2 : CaOk X b [] pos := by exact ⟨rfl, rfl⟩) : EE X (.Call (.Name "min" p) [a, b] [] pos) (tCB (fun xs H Q => ∃ i j, xs = [.int i, .int j] ∧ Q (.int (if j < i then j else i)) H) (tCons ta (tCons tb tNil))) (ap min2D (two f g)) :=
  c_bi (call_min2 hc) does_min2 hg hm bo_min (b_cons h (b_cons h2 b_nil c2.he) c.he) (he := c.he) (hpl := c.hpl)
theorem x_max2 (hc : X.calm = true) (hm : X.mg "max" = none) (h : EB X a ta f) (h2 : EB X b tb g) (hg : Gl X "max" := by rfl) (c : CaOk X a [b] pos := by exact ⟨rfl, rfl⟩) (c2 : CaOk X b [] pos := by exact ⟨rfl, rfl⟩) : EE X (.Call (.Name "max" p) [a, b] [] pos) (tCB (fun xs H Q => ∃ i j, xs = [.int i, .int j] ∧ Q (.int (if j > i then j else i)) H) (tCons ta (tCons tb tNil))) (ap max2D (two f g)) :=
  c_bi (call_max2 hc) does_max2 hg hm bo_max (b_cons h (b_cons h2 b_nil c2.he) c.he) (he := c.he) (hpl := c.hpl)
theorem n_sorted (hr : Room n X.A) (hm : X.mg "sorted" = none) (h : EB X e te f) (hg : Gl X "sorted" := by rfl) (c : CaOk X e [] pos := by exact ⟨rfl, rfl⟩) : EN X (.Call (.Name "sorted" p) [e] [] pos) (tCB (rSortD X.K) (tCons te tNil)) (ap sortedD (one f)) :=
  cn_bi (call_sortedD hr) does_sorted hg hm bo_sorted (ab1 h c) (he := c.he) (hpl := c.hpl)
theorem x_int (hm : X.mg "int" = none) (h : EB X e te f) (hg : Gl X "int" := by rfl) (c : CaOk X e [] pos := by exact ⟨rfl, rfl⟩) : EE X (.Call (.Name "int" p) [e] [] pos) (tCB (fun xs H Q => (∃ i, xs = [.int i] ∧ Q (.int i) H) ∨ ∃ k, xs = [.bl k] ∧ Q (.int (if k then 1 else 0)) H) (tCons te tNil)) (ap intD (one f)) :=
  c_ty call_int1 does_int hg hm bo_int (ab1 h c) (he := c.he) (hpl := c.hpl)
theorem x_str (hm : X.mg "str" = none) (h : EB X e te f) (hg : Gl X "str" := by rfl) (c : CaOk X e [] pos := by exact ⟨rfl, rfl⟩) : EE X (.Call (.Name "str" p) [e] [] pos) (tCB (fun xs H Q => ∃ i, xs = [.int i] ∧ i.natAbs.log2 < 1920 ∧ Q (.str (toString i)) H) (tCons te tNil)) (ap strD (one f)) :=
  c_ty call_str_int does_str hg hm bo_str (ab1 h c) (he := c.he) (hpl := c.hpl)
theorem x_tuple (hm : X.mg "tuple" = none) (h : EB X e te f) (hg : Gl X "tuple" := by rfl) (c : CaOk X e [] pos := by exact ⟨rfl, rfl⟩) : EE X (.Call (.Name "tuple" p) [e] [] pos) (tCB (rTupOf X.K) (tCons te tNil)) (ap tupD (one f)) :=
  c_ty call_tuple_of does_tup hg hm bo_tuple (ab1 h c) (he := c.he) (hpl := c.hpl)
theorem n_list (hm : X.mg "list" = none) (h : EB X e te f) (hg : Gl X "list" := by rfl) (c : CaOk X e [] pos := by exact ⟨rfl, rfl⟩) : EN X (.Call (.Name "list" p) [e] [] pos) (tCB (rLstOf X.K) (tCons te tNil)) (ap lstD (one f)) :=
  cn_ty call_list_of does_lst hg hm bo_list (ab1 h c) (he := c.he) (hpl := c.hpl)
/-! ### isinstance(e, T) -/
def tyD : D → String
  | .none => "NoneType"
  | .bool _ => "bool"
  | .int _ => "int"
  | .str _ => "str"
  | .list _ => "list"
  | .tuple _ => "tuple"
  | .dict _ => "dict"
def isiD (T : String) : List D → Option D
  | [d] => (kitB (tyD d) T).map .bool
  | _ => none
theorem RepB.tyx {K : PySem.W.Frag} {H : Hp} {M : Addr → Prop} {d : D} {v : V} (r : RepB K H M d v) : TyX K H v (.type (tyD d)) := by
  cases d with
  | none => rw [r.non]; exact .base .non
  | bool b => rw [r.bl]; exact .base (.bl b)
  | int i => rw [r.int]; exact .base (.int i)
  | str x => rw [r.str]; exact .base (.str x)
  | list ds =>
    obtain ⟨a, vs, rfl, h, _⟩ := r.lst
    rcases h with (h | ⟨o, h⟩) | ⟨o, its, n, h, hc, _⟩
    · exact .base (.lst h)
    · exact .base (.frz h)
    · exact .kList h hc
  | tuple ds =>
    obtain ⟨a, vs, rfl, h, _⟩ := r.tup
    rcases h with (h | ⟨o, h⟩) | ⟨o, its, n, h, hc, _⟩
    · exact .base (.tup h)
    · exact .fTuple h
    · exact .kTuple h hc
  | dict ps =>
    rcases r with r | ⟨a, rfl, o⟩
    · cases r with
      | dK h _ _ => exact .base (.dK h)
      | dT h _ _ => exact .base (.dT h)
    · rcases o with ⟨kvs, h, _⟩ | ⟨kvs, h, _⟩
      · exact .base (.dK h)
      · exact .base (.dT h)
theorem x_isi (T : Str) {T' : String} {k2 : Pos} (hm : X.mg "isinstance" = none) (h : EB X e te f) (hT : bootBuiltins T = some (.type T')) (hmT : X.mg T = none) (hgT : Gl X T := by rfl) (hnT : T ≠ "__name__" := by decide) (hdT : (T == ("__debug__" : Str)) = false := by decide) (hg : Gl X "isinstance" := by rfl)
    (c : CaOk X e [.Name T k2] pos := by exact ⟨rfl, rfl⟩) (c2 : CaOk X (.Name T k2) [] pos := by exact ⟨rfl, rfl⟩) :
    EE X (.Call (.Name "isinstance" p) [e, .Name T k2] [] pos) (tCB (rIsi X.K) (tCons te (tCons (tC (.ty T')) tNil))) (ap (isiD T') (one f)) :=
  ⟨pe_callB call_isi hg hm bo_isinstance (pa_cons h.pe (pa_cons (pe_bltn hgT hmT hT rfl hnT hdT) pa_nil c2.he) c.he) (by decide) (by decide) c.he c.hpl, fun H0 M0 H M ρ σ Q d E hf q => by
    obtain ⟨ds, e1, hf⟩ := bind_some hf
    obtain ⟨x, e2, e1⟩ := bind_some e1
    obtain ⟨xs, e3, e1⟩ := bind_some e1
    cases e3
    cases e1
    unfold isiD at hf
    obtain ⟨b, e4, e5⟩ := Option.map_eq_some_iff.mp hf
    subst e5
    exact h.g E e2 fun v H1 s1 r1 => ⟨v, .ty T', .type (tyD x), .type T', b, rfl, .ty T', r1.tyx, kit_ty e4, q _ H1 s1 (.bl b)⟩⟩
/-! ### list(range(..)), tuple(range(..)) -/
theorem reps_rgV {K : PySem.W.Frag} {H : Hp} {M : Addr → Prop} (a b : Int) : Reps K H M (rng a (b - a).toNat) (rgV a b) := by
  unfold rng rgV
  induction List.range (b - a).toNat with
  | nil => exact .nil
  | cons x xs ih => exact .cons (.int _) ih
def rgOk (a b : Int) : Bool := decide (-(2 ^ 62) ≤ a) && decide (a < 2 ^ 62) && decide (-(2 ^ 62) ≤ b) && decide (b < 2 ^ 62) && decide ((b - a).toNat ≤ 2 ^ 24)
theorem rgOk_of {a b : Int} (h : rgOk a b = true) : RgOk a b := by
  unfold rgOk at h
  simp only [Bool.and_eq_true, decide_eq_true_eq] at h
  exact ⟨h.1.1.1.1, h.1.1.1.2, h.1.1.2, h.1.2, h.2⟩
def rgD (mk : List D → D) : List D → Option D
  | [.int n] => if rgOk 0 n = true then some (mk (rng 0 n.toNat)) else none
  | [.int a, .int b] => if rgOk a b = true then some (mk (rng a (b - a).toNat)) else none
  | _ => none
theorem rg1_some {mk : List D → D} {x d : D} (h : rgD mk [x] = some d) : ∃ n, x = .int n ∧ RgOk 0 n ∧ d = mk (rng 0 (n - 0).toNat) := by
  unfold rgD at h
  split at h
  · rename_i n e
    cases e
    split at h
    · rename_i ok; cases h; exact ⟨_, rfl, rgOk_of ok, by rw [Int.sub_zero]⟩
    · cases h
  · rename_i e; cases e
  · cases h
theorem rg2_some {mk : List D → D} {x y d : D} (h : rgD mk [x, y] = some d) : ∃ a b, x = .int a ∧ y = .int b ∧ RgOk a b ∧ d = mk (rng a (b - a).toNat) := by
  unfold rgD at h
  split at h
  · rename_i e; cases e
  · rename_i a b e
    cases e
    split at h
    · rename_i ok; cases h; exact ⟨_, _, rfl, rfl, rgOk_of ok, rfl⟩
    · cases h
  · cases h
theorem x_tupRg1 {p2 pos2 : Pos} (hc : X.calm = true) (hm : X.mg "tuple" = none) (hm2 : X.mg "range" = none) (h : EE X a ta f) (hg : Gl X "tuple" := by rfl) (hg2 : Gl X "range" := by rfl) (na : starEach [a] X.env = (false, eval a X.env) :: starEach [] X.env := by rfl)
    (nb : starEach [Expr.Call (.Name "range" p2) [a] [] pos2] X.env = (false, eval (Expr.Call (.Name "range" p2) [a] [] pos2) X.env) :: starEach [] X.env := by rfl) : EE X (.Call (.Name "tuple" p) [.Call (.Name "range" p2) [a] [] pos2] [] pos) (tTupRg (tRg1 ta)) (ap (rgD .tuple) (one f)) :=
  ⟨pe_tupRg hc hg hm (prg_1 hg2 hm2 h.pe na) nb, fun H0 M0 H M ρ σ Q d E hf q => by
    obtain ⟨ds, e1, hf⟩ := bind_some hf
    obtain ⟨x, e2, e1⟩ := bind_some e1
    cases e1
    obtain ⟨n, rfl, ok, rfl⟩ := rg1_some hf
    refine h.g E e2 fun v H1 s1 r1 => ?_
    cases r1
    refine ⟨n, rfl, ok, fun p np => ?_⟩
    exact q _ _ (s1.trans (same_upd np)) (.tup (.of upd_same) (reps_rgV 0 n))⟩
theorem x_tupRg2 {p2 pos2 : Pos} (hc : X.calm = true) (hm : X.mg "tuple" = none) (hm2 : X.mg "range" = none) (h : EE X a ta f) (h2 : EE X b tb g) (hg : Gl X "tuple" := by rfl) (hg2 : Gl X "range" := by rfl) (c : CaOk X a [b] pos2 := by exact ⟨rfl, rfl⟩) (c2 : CaOk X b [] pos2 := by exact ⟨rfl, rfl⟩)
    (nb : starEach [Expr.Call (.Name "range" p2) [a, b] [] pos2] X.env = (false, eval (Expr.Call (.Name "range" p2) [a, b] [] pos2) X.env) :: starEach [] X.env := by rfl) : EE X (.Call (.Name "tuple" p) [.Call (.Name "range" p2) [a, b] [] pos2] [] pos) (tTupRg (tRg2 ta tb)) (ap (rgD .tuple) (two f g)) :=
  ⟨pe_tupRg hc hg hm (prg_2 hg2 hm2 h.pe h2.pe c.he c2.he c.hpl) nb, fun H0 M0 H M ρ σ Q d E hf q => by
    obtain ⟨ds, e1, hf⟩ := bind_some hf
    obtain ⟨x, e2, e1⟩ := bind_some e1
    obtain ⟨xs, e3, e1⟩ := bind_some e1
    obtain ⟨y, e4, e3⟩ := bind_some e3
    cases e3
    cases e1
    obtain ⟨i, j, rfl, rfl, ok, rfl⟩ := rg2_some hf
    refine h.g E e2 fun v H1 s1 r1 => h2.g (E.to s1) e4 fun w H2 s2 r2 => ?_
    cases r1
    cases r2
    refine ⟨i, j, rfl, rfl, ok, fun p np => ?_⟩
    exact q _ _ ((s1.trans s2).trans (same_upd np)) (.tup (.of upd_same) (reps_rgV i j))⟩
theorem n_lstRg1 {p2 pos2 : Pos} (hc : X.calm = true) (hm : X.mg "list" = none) (hm2 : X.mg "range" = none) (h : EE X a ta f) (hg : Gl X "list" := by rfl) (hg2 : Gl X "range" := by rfl) (na : starEach [a] X.env = (false, eval a X.env) :: starEach [] X.env := by rfl)
    (nb : starEach [Expr.Call (.Name "range" p2) [a] [] pos2] X.env = (false, eval (Expr.Call (.Name "range" p2) [a] [] pos2) X.env) :: starEach [] X.env := by rfl) : EN X (.Call (.Name "list" p) [.Call (.Name "range" p2) [a] [] pos2] [] pos) (tLstRg (tRg1 ta)) (ap (rgD .list) (one f)) :=
  ⟨pe_listRg hc hg hm (prg_1 hg2 hm2 h.pe na) nb, fun H0 M0 H M ρ σ Q d E hf q => by
    obtain ⟨ds, e1, hf⟩ := bind_some hf
    obtain ⟨x, e2, e1⟩ := bind_some e1
    cases e1
    obtain ⟨n, rfl, ok, rfl⟩ := rg1_some hf
    refine h.g E e2 fun v H1 s1 r1 => ?_
    cases r1
    refine ⟨n, rfl, ok, fun p np => ?_⟩
    exact q _ _ (s1.free np) (s1.trans (same_upd np)) ⟨_, upd_same, reps_rgV 0 n⟩⟩
theorem n_lstRg2 {p2 pos2 : Pos} (hc : X.calm = true) (hm : X.mg "list" = none) (hm2 : X.mg "range" = none) (h : EE X a ta f) (h2 : EE X b tb g) (hg : Gl X "list" := by rfl) (hg2 : Gl X "range" := by rfl) (c : CaOk X a [b] pos2 := by exact ⟨rfl, rfl⟩) (c2 : CaOk X b [] pos2 := by exact ⟨rfl, rfl⟩)
    (nb : starEach [Expr.Call (.Name "range" p2) [a, b] [] pos2] X.env = (false, eval (Expr.Call (.Name "range" p2) [a, b] [] pos2) X.env) :: starEach [] X.env := by rfl) : EN X (.Call (.Name "list" p) [.Call (.Name "range" p2) [a, b] [] pos2] [] pos) (tLstRg (tRg2 ta tb)) (ap (rgD .list) (two f g)) :=
  ⟨pe_listRg hc hg hm (prg_2 hg2 hm2 h.pe h2.pe c.he c2.he c.hpl) nb, fun H0 M0 H M ρ σ Q d E hf q => by
    obtain ⟨ds, e1, hf⟩ := bind_some hf
    obtain ⟨x, e2, e1⟩ := bind_some e1
    obtain ⟨xs, e3, e1⟩ := bind_some e1
    obtain ⟨y, e4, e3⟩ := bind_some e3
    cases e3
    cases e1
    obtain ⟨i, j, rfl, rfl, ok, rfl⟩ := rg2_some hf
    refine h.g E e2 fun v H1 s1 r1 => h2.g (E.to s1) e4 fun w H2 s2 r2 => ?_
    cases r1
    cases r2
    refine ⟨i, j, rfl, rfl, ok, fun p np => ?_⟩
    exact q _ _ (s1.free (s2.free np)) ((s1.trans s2).trans (same_upd np)) ⟨_, upd_same, reps_rgV i j⟩⟩
end
/-- a promise that asks what never is -/
theorem fn_never {P : Program} {w : World} {K : PySem.W.Frag} {mg : Str → Option Value} {base : Heap} {k n : Nat} {f : Addr} {fd : FuncData} {ps : List Str} : FnOk P w K mg base CX0 k f fd ps (spP K n fun _ => none) :=
  ⟨fun vs H Q E h => (by obtain ⟨M, ds, d, m, r, hl, e, q⟩ := h; cases e), fun A outer s H args us vs Q E _ _ _ _ h => (by obtain ⟨M, ds, d, m, r, hl, e, q⟩ := h; cases e)⟩
end Pu

set_option Elab.async false
set_option linter.all false
set_option maxRecDepth 100000
namespace Pu
open PySem PySem.Spec PyProof.Rows L2

/-! ### pairs walked: zip, enumerate -/
def zipD : List D → List D → List D := List.zipWith fun x y => .tuple [x, y]
theorem zipD_get {xs ys : List D} {i : Nat} {d : D} (h : (zipD xs ys)[i]? = some d) : ∃ x y, xs[i]? = some x ∧ ys[i]? = some y ∧ d = .tuple [x, y] := by
  unfold zipD at h
  rw [List.getElem?_zipWith] at h
  split at h
  · cases h; exact ⟨_, _, ‹_›, ‹_›, rfl⟩
  · cases h
theorem walk_zipT {K : PySem.W.Frag} {a b : Addr} {xs ys : List V} {n : Nat} (hn : n = min xs.length ys.length) : Walk (RZ.ItzT K a b) n (fun H => SqT K H a xs ∧ SqT K H b ys) (YPair (fun i => xs[i]?) (fun i => ys[i]?)) := by
  subst hn
  refine ⟨fun i _ hi q => ?_, fun _ q => ⟨xs, ys, q.1, q.2, by omega⟩, fun i H v H' _ q y => ?_⟩
  · have h1 : i < xs.length := by omega
    have h2 : i < ys.length := by omega
    exact ⟨xs, ys, xs[i], ys[i], q.1, q.2, by simp [h1], by simp [h2]⟩
  · obtain ⟨T, x, z, h1, h2, h3, h4, h5⟩ := y
    exact ⟨T, x, z, h1, h2, h3, h4 xs q.1, h5 ys q.2⟩
theorem rep_pair {K : PySem.W.Frag} {H : Hp} {M : Addr → Prop} (m : MK H M) {p : Addr} {x y : D} {u v : V} (np : H p = none) (r1 : Rep K H M x u) (r2 : Rep K H M y v) : Rep K (upd H p (.tup [u, v])) M (.tuple [x, y]) (.ref p) :=
  .tup (.of upd_same) (.cons (r1.same m (same_upd np)) (.cons (r2.same m (same_upd np)) .nil))
section
variable {X : Cx} {e e2 : Expr} {te te2 : TE} {f f2 : Ev} {ta : TA} {fs : Es} {p pos tpos : Pos} {elts : List Expr} {kk : Nat}
def zipOf : List D → Option (List D)
  | [.list xs, .list ys] => some (zipD xs ys)
  | [.tuple xs, .tuple ys] => some (zipD xs ys)
  | _ => none
def zipS (fs : Es) : Src := fun ρ => (fs ρ).bind zipOf
theorem i_zip (hm : X.mg "zip" = none) (ha : EE X e te f) (ha2 : EE X e2 te2 f2) (hg : Gl X "zip" := by rfl)
    (c : CaOk X e [e2] pos := by exact ⟨rfl, rfl⟩) (c2 : CaOk X e2 [] pos := by exact ⟨rfl, rfl⟩) :
    EI X (.Tuple elts kk tpos) (.Call (.Name "zip" p) [e, e2] [] pos) (RZ.iZipA X.K (tCons te (tCons te2 tNil))) (zipS (two f f2)) :=
  have A : AE X [e, e2] (tCons te (tCons te2 tNil)) (two f f2) := a_cons ha (a_cons ha2 a_nil c2.he) c.he
  ⟨RZ.pi_zipA hg hm A.pa c.he c.hpl, fun H0 M0 H M ρ σ R ds E hf q => by
    obtain ⟨as, e1, hf⟩ := bind_some hf
    refine A.g E e1 fun vs H1 s1 r1 => ?_
    have m1 := E.mkh.same s1
    unfold zipOf at hf
    split at hf
    · cases hf
      cases r1 with
      | cons r r' =>
        cases r' with
        | cons r' r'' =>
          cases r''
          cases r with
          | @lst a us xs hl rr =>
            cases r' with
            | @lst b us' ys hl' rr' =>
              refine ⟨a, b, us, us', rfl, .inl ⟨hl.sq, hl'.sq, q _ H1 s1 ⟨fun H => SqL X.K H a us ∧ SqL X.K H b us', YPair (fun i => us[i]?) (fun i => us'[i]?), walk_zip (by unfold zipD; rw [List.length_zipWith, rr.length, rr'.length]), fun H2 M2 p m => ⟨(p.st.lo m1 p.nw hl).sq, (p.st.lo m1 p.nw hl').sq⟩, ?_⟩⟩⟩
              rintro i H2 x H3 M2 hi p m ⟨T, u, v, rfl, np, rfl, hu, hv⟩
              refine ⟨same_upd np, fun d hd => ?_⟩
              obtain ⟨x, y, hx, hy, rfl⟩ := zipD_get hd
              obtain ⟨w, hw, ru⟩ := rr.get hx
              obtain ⟨w', hw', rv⟩ := rr'.get hy
              have hu : us[i]? = some u := hu
              have hv : us'[i]? = some v := hv
              rw [hu] at hw; rw [hv] at hw'; cases hw; cases hw'
              exact rep_pair m np (ru.stay m1 p.st p.nw) (rv.stay m1 p.st p.nw)
    · cases hf
      cases r1 with
      | cons r r' =>
        cases r' with
        | cons r' r'' =>
          cases r''
          cases r with
          | @tup a us xs hl rr =>
            cases r' with
            | @tup b us' ys hl' rr' =>
              refine ⟨a, b, us, us', rfl, .inr ⟨hl, hl', q _ H1 s1 ⟨fun H => SqT X.K H a us ∧ SqT X.K H b us', YPair (fun i => us[i]?) (fun i => us'[i]?), walk_zipT (by unfold zipD; rw [List.length_zipWith, rr.length, rr'.length]), fun H2 M2 p m => ⟨p.st.sqT m1 hl, p.st.sqT m1 hl'⟩, ?_⟩⟩⟩
              rintro i H2 x H3 M2 hi p m ⟨T, u, v, rfl, np, rfl, hu, hv⟩
              refine ⟨same_upd np, fun d hd => ?_⟩
              obtain ⟨x, y, hx, hy, rfl⟩ := zipD_get hd
              obtain ⟨w, hw, ru⟩ := rr.get hx
              obtain ⟨w', hw', rv⟩ := rr'.get hy
              have hu : us[i]? = some u := hu
              have hv : us'[i]? = some v := hv
              rw [hu] at hw; rw [hv] at hw'; cases hw; cases hw'
              exact rep_pair m np (ru.stay m1 p.st p.nw) (rv.stay m1 p.st p.nw)
    · cases hf⟩
/-! x.bit_length() -/
def bitsD : D → Option D
  | .int i => some (.int (Builtin.Int.intBits i : Nat))
  | _ => none
theorem x_bits {apos : Pos} (h : EE X e te f) (hbase : attributeBase e "bit_length" X.env (eval e X.env) = eval e X.env := by rfl) (hline : (apos.endLine == pos.line) = true := by rfl) : EE X (.Call (.Attribute e "bit_length" apos) [] [] pos) (tBits te) (un bitsD f) :=
  ⟨pe_bits h.pe hbase hline, fun H0 M0 H M ρ σ Q d E hf q => by
    obtain ⟨x, e1, hf⟩ := bind_some hf
    refine h.g E e1 fun v H1 s1 r1 => ?_
    unfold bitsD at hf
    split at hf
    · cases hf
      cases r1
      exact ⟨_, rfl, q _ H1 s1 (.int _)⟩
    · cases hf⟩
end
/-! ### (a, b, ..) = a list -/
def tU (ts : List Tg) : Tg := fun d ρ => match d with
  | .list ds => tEach ts ds ρ
  | _ => none
theorem t_unl {X : Cx} {es : List Expr} {gs : TGs} {ix : List Nat} {ts : List Tg} {pos : Pos} {k : Nat} (hc : X.calm = true) (h : EGs X es gs ix ts) (hn : (assignEach es X.env).length = ts.length := by rfl) (hst : (assignEach es X.env).findIdx? (·.1) = none := by rfl) : EG X (.Tuple es k pos) (gUnl X.K ts.length gs) ix (tU ts) := ⟨pg_unl hc h.pgs hn hst, fun H0 M0 H M ρ σ v d ρ' Q E r e q => by
  unfold tU at e
  split at e
  · cases r with
    | lst h1 r1 => exact ⟨_, _, rfl, h1.sq, r1.length.symm.trans (tEach_len e), h.g E r1 e q⟩
  · cases e⟩
section
variable {X : Cx}
abbrev BA (α : Type) := Shared → Hp → Addr → List (Str × Addr) → List Addr → α
abbrev BlkA (X : Cx) (scope : Scope) (P : Cx → BA Prop) : Prop := ∀ (s : Shared) (H : Hp) (C : Addr) (cl : List (Str × Addr)) (fp : List Addr), P (X.blk s H scope (compEnvC scope cl C X.env) fp) s H C cl fp
abbrev at0 {α : Type} (X : Cx) (f : BA α) : α := f X.s_0 X.H_0 0 [] []
abbrev Still {α : Type} (X : Cx) (f : BA α) : Prop := ∀ (s : Shared) (H : Hp) (C : Addr) (cl : List (Str × Addr)) (fp : List Addr), f s H C cl fp = at0 X f
theorem m_lc {elt tg iter : Expr} {ifs : List Expr} {scope : Scope} {own : List (Str × Nat)} {pos : Pos} {wi : TI} {g : BA TG} {tt : BA TT} {te : BA TE} {src : Src} {ix : List Nat} {t : Tg} {gt : Et} {f : Ev} (hc : X.calm = true) (hN : X.N.Nodup) (hi : EC X tg iter wi src) (ok : blkC X.N X.env.scope scope own = true)
    (hg : BlkA X scope fun Y s H C cl fp => EG Y tg (g s H C cl fp) ix t) (ht : BlkA X scope fun Y s H C cl fp => PTsE Y ifs (tt s H C cl fp) gt) (he : BlkA X scope fun Y s H C cl fp => EE Y elt (te s H C cl fp) f)
    (sg : Still X g := by exact fun _ _ _ _ _ => rfl) (st : Still X tt := by exact fun _ _ _ _ _ => rfl) (se : Still X te := by exact fun _ _ _ _ _ => rfl) (hix : ∀ i ∈ ix, i ∈ own.map (·.2) := by decide) (hs : ∀ x, foldedSetIterable iter X.env x = pure x := by intro _; rfl) :
    EN X (.ListComp elt [⟨tg, iter, ifs, 0⟩] scope pos) (tLc wi (at0 X g) (at0 X tt) (at0 X te) (own.map (·.2))) (lcS src t gt f (own.map (·.2))) :=
  n_lc hc hN hi ok (fun s H C cl fp => (sg s H C cl fp) ▸ hg s H C cl fp) (fun s H C cl fp => (st s H C cl fp) ▸ ht s H C cl fp) (fun s H C cl fp => (se s H C cl fp) ▸ he s H C cl fp) hix hs
/-- name = [..] -/
theorem sm_lc (i : Nat) {y : Str} {py : Pos} {elt tg iter : Expr} {ifs : List Expr} {scope : Scope} {own : List (Str × Nat)} {pos spos : Pos} {wi : TI} {g : BA TG} {tt : BA TT} {te : BA TE} {src : Src} {ix : List Nat} {t : Tg} {gt : Et} {f : Ev} (hc : X.calm = true) (hN : X.N.Nodup) (hi : EC X tg iter wi src) (ok : blkC X.N X.env.scope scope own = true)
    (hg : BlkA X scope fun Y s H C cl fp => EG Y tg (g s H C cl fp) ix t) (ht : BlkA X scope fun Y s H C cl fp => PTsE Y ifs (tt s H C cl fp) gt) (he : BlkA X scope fun Y s H C cl fp => EE Y elt (te s H C cl fp) f)
    (hy : X.N[i]? = some y := by rfl) (hyl : X.env.scope.names.lookup y = some .local := by rfl)
    (hsw : swapsWith (.ListComp elt [⟨tg, iter, ifs, 0⟩] scope pos) (some (.Name y py)) spos.line X.env = pure true := by exact sw_true rfl rfl rfl (by decide +kernel))
    (sg : Still X g := by exact fun _ _ _ _ _ => rfl) (st : Still X tt := by exact fun _ _ _ _ _ => rfl) (se : Still X te := by exact fun _ _ _ _ _ => rfl) (hix : ∀ i ∈ ix, i ∈ own.map (·.2) := by decide) (hs : ∀ x, foldedSetIterable iter X.env x = pure x := by intro _; rfl) :
    SS X (.Assign [.Name y py] (.ListComp elt [⟨tg, iter, ifs, 0⟩] scope pos) spos) (tAsg (tLc wi (at0 X g) (at0 X tt) (at0 X te) (own.map (·.2))) (gName i)) (ownS i (lcS src t gt f (own.map (·.2)))) :=
  s_lc i hc hN hi ok (fun s H C cl fp => (sg s H C cl fp) ▸ hg s H C cl fp) (fun s H C cl fp => (st s H C cl fp) ▸ ht s H C cl fp) (fun s H C cl fp => (se s H C cl fp) ▸ he s H C cl fp) hy hyl hsw hix hs
theorem GN.still {K : PySem.W.Frag} {te : TE} {f : Ev} (F : GN K te f) : GE K te f := fun H0 M0 H M ρ σ Q d E hf q => F E hf fun p H' n s o => q _ H' s ((o.anti fun a h => .inl h).rep fun m => E.mkh.some m n)
/-- .. the list then still -/
theorem sm_lcS (i : Nat) {y : Str} {py : Pos} {elt tg iter : Expr} {ifs : List Expr} {scope : Scope} {own : List (Str × Nat)} {pos spos : Pos} {wi : TI} {g : BA TG} {tt : BA TT} {te : BA TE} {src : Src} {ix : List Nat} {t : Tg} {gt : Et} {f : Ev} (hc : X.calm = true) (hN : X.N.Nodup) (hi : EC X tg iter wi src) (ok : blkC X.N X.env.scope scope own = true)
    (hg : BlkA X scope fun Y s H C cl fp => EG Y tg (g s H C cl fp) ix t) (ht : BlkA X scope fun Y s H C cl fp => PTsE Y ifs (tt s H C cl fp) gt) (he : BlkA X scope fun Y s H C cl fp => EE Y elt (te s H C cl fp) f)
    (hy : X.N[i]? = some y := by rfl) (hyl : X.env.scope.names.lookup y = some .local := by rfl)
    (hsw : swapsWith (.ListComp elt [⟨tg, iter, ifs, 0⟩] scope pos) (some (.Name y py)) spos.line X.env = pure true := by exact sw_true rfl rfl rfl (by decide +kernel))
    (sg : Still X g := by exact fun _ _ _ _ _ => rfl) (st : Still X tt := by exact fun _ _ _ _ _ => rfl) (se : Still X te := by exact fun _ _ _ _ _ => rfl) (hix : ∀ i ∈ ix, i ∈ own.map (·.2) := by decide) (hs : ∀ x, foldedSetIterable iter X.env x = pure x := by intro _; rfl) :
    SS X (.Assign [.Name y py] (.ListComp elt [⟨tg, iter, ifs, 0⟩] scope pos) spos) (tAsg (tLc wi (at0 X g) (at0 X tt) (at0 X te) (own.map (·.2))) (gName i)) (setS i (lcS src t gt f (own.map (·.2)))) :=
  have F := (m_lc (pos := pos) hc hN hi ok hg ht he sg st se hix hs).g
  ⟨(sm_lc i (spos := spos) (py := py) (pos := pos) hc hN hi ok hg ht he hy hyl hsw sg st se hix hs).ps, g_set F.still⟩
end
end Pu
namespace Pu
open PySem PySem.Spec PyProof.Rows L2
section
variable {X : Cx} {K' : PySem.W.Frag} {k n : Nat} {f : Addr} {fd : FuncData} {ps : List Str} {sem : List D → Option D} {x : Str} {p pos : Pos} {e : Expr} {es : List Expr} {t : TA} {fs : Es}
theorem d_def (F : FnOk X.prog X.w K' X.mg X.base CX0 k f fd ps (spP K' n sem)) (hr : Room k X.A) (hm : X.mg x = some (.ref f)) (hk : PySem.W.keepIn K' (.ref f) = true) (hb : Binds K' fd ps []) (ha : AE X (e :: es) t fs) (hK : X.K = K' := by rfl) (hg : Gl X x := by rfl) (hn : (e :: es).length = n := by rfl)
    (hdb : (x == ("__debug__" : Str)) = false := by decide) (he : starEach (e :: es) X.env = (false, eval e X.env) :: starEach es X.env := by rfl) (hpl : (backTo pos (starEach es X.env)).any (·.1) = false := by rfl) :
    EE X (.Call (.Name x p) (e :: es) [] pos) (tCall (spP K' n sem) [] E0 t) (ap sem fs) := by
  subst hK
  exact c_def F hr hg hm hk hb ha hn hdb he hpl
theorem d_defB (F : FnOk X.prog X.w K' X.mg X.base CX0 k f fd ps (spP K' n sem)) (hr : Room k X.A) (hm : X.mg x = some (.ref f)) (hk : PySem.W.keepIn K' (.ref f) = true) (hb : Binds K' fd ps []) (ha : AB X (e :: es) t fs) (hK : X.K = K' := by rfl) (hg : Gl X x := by rfl) (hn : (e :: es).length = n := by rfl)
    (hdb : (x == ("__debug__" : Str)) = false := by decide) (he : starEach (e :: es) X.env = (false, eval e X.env) :: starEach es X.env := by rfl) (hpl : (backTo pos (starEach es X.env)).any (·.1) = false := by rfl) :
    EE X (.Call (.Name x p) (e :: es) [] pos) (tCall (spP K' n sem) [] E0 t) (flat (ap sem fs)) := by
  subst hK
  exact c_defB F hr hg hm hk hb ha hn hdb he hpl
end
end Pu

set_option Elab.async false
set_option linter.all false
set_option maxRecDepth 100000
namespace Pu
open PySem PySem.Spec PyProof.Rows L2

/-! ### reckoning: each reading at an environment, step by step (for simp) -/
section
variable {ρ ρ' : Env} {d x y : D} {ds es : List D} {f g k : Ev} {a b : Eg} {c c' : Et} {fs : Es} {i j : Nat} {s : Sl} {op op' : D → D → Option D} {u : D → Option D} {o : Out} {t : Tg} {ts' : List Tg}
def ob {α β : Type} (k : α → Option β) : Option α → Option β
  | some a => k a
  | none => none
def mo {α β : Type} (k : α → β) : Option α → Option β
  | some a => some (k a)
  | none => none
@[simp] theorem ob_some {α β : Type} {k : α → Option β} {a : α} : ob k (some a) = k a := id rfl
@[simp] theorem mo_some {α β : Type} {k : α → β} {a : α} : mo k (some a) = some (k a) := id rfl
theorem ob_eq {α β : Type} {k : α → Option β} {o : Option α} : o.bind k = ob k o := by cases o <;> rfl
theorem mo_eq {α β : Type} {k : α → β} {o : Option α} : o.map k = mo k o := by cases o <;> rfl
@[simp] theorem vr_zero : vr 0 (.sh d :: ρ) = some d := id rfl
@[simp] theorem vr_succ : vr (i + 1) (s :: ρ) = vr i ρ := id rfl
@[simp] theorem vb_zero : vb 0 (.sh d :: ρ) = some d := id rfl
@[simp] theorem vb_zero' : vb 0 (.ow d :: ρ) = some d := id rfl
@[simp] theorem vb_succ : vb (i + 1) (s :: ρ) = vb i ρ := id rfl
@[simp] theorem cst_at : cst d ρ = some d := id rfl
def bnK (op : D → D → Option D) : Option D → Option D → Option D
  | some x, some y => op x y
  | _, _ => none
@[simp] theorem bn_at : bn op f g ρ = bnK op (f ρ) (g ρ) := by
  unfold bn bnK
  cases f ρ <;> cases g ρ <;> rfl
@[simp] theorem bnK_some : bnK op (some x) (some y) = op x y := id rfl
@[simp] theorem un_at : un u f ρ = ob u (f ρ) := ob_eq
@[simp] theorem ap_at {q : List D → Option D} : ap q fs ρ = ob q (fs ρ) := ob_eq
@[simp] theorem nl_at : nl ρ = some [] := id rfl
def csK : Option D → Option (List D) → Option (List D)
  | some x, some xs => some (x :: xs)
  | _, _ => none
@[simp] theorem cs_at : cs f fs ρ = csK (f ρ) (fs ρ) := by
  unfold cs csK
  cases f ρ <;> cases fs ρ <;> rfl
@[simp] theorem csK_some : csK (some x) (some ds) = some (x :: ds) := id rfl
@[simp] theorem one_at : one f ρ = csK (f ρ) (some []) := by unfold one; rw [cs_at, nl_at]
@[simp] theorem two_at : two f g ρ = csK (f ρ) (csK (g ρ) (some [])) := by unfold two; rw [cs_at, cs_at, nl_at]
def mkK (C : List D → D) : Option (List D) → Option D
  | some ds => if ds.length ≤ sizeLine then some (C ds) else none
  | none => none
@[simp] theorem mkT_at : mkT fs ρ = mkK .tuple (fs ρ) := by unfold mkT mkK; cases fs ρ <;> rfl
@[simp] theorem mkL_at : mkL fs ρ = mkK .list (fs ρ) := by unfold mkL mkK; cases fs ρ <;> rfl
theorem szl : sizeLine = 16777216 := rfl
@[simp] theorem mkK_some {C : List D → D} (h : ds.length ≤ 16777216) : mkK C (some ds) = some (C ds) := if_pos h
@[simp] theorem ts_at {q : D → Option Bool} : ts q f ρ = ob q (f ρ) := ob_eq
def ifK {α : Type} (o : Option Bool) (a b : Env → Option α) (ρ : Env) : Option α := match o with
  | some true => a ρ
  | some false => b ρ
  | none => none
@[simp] theorem ifS_at : ifS c a b ρ = ifK (c ρ) a b ρ := by
  unfold ifS ifK
  rcases c ρ with _ | _ | _ <;> rfl
@[simp] theorem ifV_at : ifV c f g ρ = ifK (c ρ) f g ρ := by
  unfold ifV ifK
  rcases c ρ with _ | _ | _ <;> rfl
@[simp] theorem ifK_t {α : Type} {a b : Env → Option α} : ifK (some true) a b ρ = a ρ := id rfl
@[simp] theorem ifK_f {α : Type} {a b : Env → Option α} : ifK (some false) a b ρ = b ρ := id rfl
def andK (o : Option Bool) (g : Et) (ρ : Env) : Option Bool := match o with
  | some true => g ρ
  | some false => some false
  | none => none
def orK (o : Option Bool) (g : Et) (ρ : Env) : Option Bool := match o with
  | some true => some true
  | some false => g ρ
  | none => none
@[simp] theorem andB_at : andB c c' ρ = andK (c ρ) c' ρ := by
  unfold andB andK
  rcases c ρ with _ | _ | _ <;> rfl
@[simp] theorem orB_at : orB c c' ρ = orK (c ρ) c' ρ := by
  unfold orB orK
  rcases c ρ with _ | _ | _ <;> rfl
@[simp] theorem andK_t : andK (some true) c ρ = c ρ := id rfl
@[simp] theorem andK_f : andK (some false) c ρ = some false := id rfl
@[simp] theorem orK_t : orK (some true) c ρ = some true := id rfl
@[simp] theorem orK_f : orK (some false) c ρ = c ρ := id rfl
@[simp] theorem notT_at : notT c ρ = mo (!·) (c ρ) := mo_eq
@[simp] theorem yes_at : yes ρ = some true := id rfl
def andVK (o : Option D) (g : Ev) (ρ : Env) : Option D := match o with
  | some (.bool true) => g ρ
  | some (.bool false) => some (.bool false)
  | _ => none
def orVK (o : Option D) (g : Ev) (ρ : Env) : Option D := match o with
  | some (.bool true) => some (.bool true)
  | some (.bool false) => g ρ
  | _ => none
@[simp] theorem andV_at : andV f g ρ = andVK (f ρ) g ρ := by
  unfold andV andVK
  rcases f ρ with _ | (_ | _ | _) <;> try rfl
  rename_i b; cases b <;> rfl
@[simp] theorem orV_at : orV f g ρ = orVK (f ρ) g ρ := by
  unfold orV orVK
  rcases f ρ with _ | (_ | _ | _) <;> try rfl
  rename_i b; cases b <;> rfl
@[simp] theorem andVK_t : andVK (some (.bool true)) g ρ = g ρ := id rfl
@[simp] theorem andVK_f : andVK (some (.bool false)) g ρ = some (.bool false) := id rfl
@[simp] theorem orVK_t : orVK (some (.bool true)) g ρ = some (.bool true) := id rfl
@[simp] theorem orVK_f : orVK (some (.bool false)) g ρ = g ρ := id rfl
def chnK (op op' : D → D → Option D) (x y z : Option D) : Option D := x.bind fun x => y.bind fun y => match op x y with
  | some (.bool true) => z.bind fun z => op' y z
  | some (.bool false) => some (.bool false)
  | _ => none
@[simp] theorem chn_at : chn op op' f g k ρ = chnK op op' (f ρ) (g ρ) (k ρ) := id rfl
def chnM (op' : D → D → Option D) (o : Option D) (y z : D) : Option D := match o with
  | some (.bool true) => op' y z
  | some (.bool false) => some (.bool false)
  | _ => none
@[simp] theorem chnK_some {z : D} : chnK op op' (some x) (some y) (some z) = chnM op' (op x y) y z := id rfl
@[simp] theorem chnM_b {p : Bool} {z : D} : chnM op' (some (.bool p)) y z = if p = true then op' y z else some (.bool false) := by cases p <;> rfl
/-! statements -/
def seqK (o : Option Out) (b : Eg) : Option Out := match o with
  | some (.nx ρ') => b ρ'
  | some o => some o
  | none => none
@[simp] theorem seq_at : seq a b ρ = seqK (a ρ) b := by
  unfold seq seqK
  rcases a ρ with _ | (_ | _ | _ | _) <;> rfl
@[simp] theorem seqK_nx : seqK (some (.nx ρ)) b = b ρ := id rfl
@[simp] theorem seqK_rt : seqK (some (.rt d)) b = some (.rt d) := id rfl
@[simp] theorem seqK_bk : seqK (some (.bk ρ)) b = some (.bk ρ) := id rfl
@[simp] theorem seqK_ct : seqK (some (.ct ρ)) b = some (.ct ρ) := id rfl
@[simp] theorem nxt_at : nxt ρ = some (.nx ρ) := id rfl
@[simp] theorem brk_at : brk ρ = some (.bk ρ) := id rfl
@[simp] theorem ret_at : ret f ρ = mo .rt (f ρ) := mo_eq
def setK (s : D → Sl) (i : Nat) (ρ : Env) : Option D → Option Out
  | some d => some (.nx (ρ.set i (s d)))
  | none => none
@[simp] theorem setS_at : setS i f ρ = setK .sh i ρ (f ρ) := by unfold setS setK; cases f ρ <;> rfl
@[simp] theorem ownS_at : ownS i f ρ = setK .ow i ρ (f ρ) := by unfold ownS setK; cases f ρ <;> rfl
@[simp] theorem setK_some {s : D → Sl} : setK s i ρ (some d) = some (.nx (ρ.set i (s d))) := id rfl
@[simp] theorem frzS_at : frzS i a ρ = a (frz i ρ) := id rfl
@[simp] theorem frz_zero : frz 0 (.ow d :: ρ) = .sh d :: ρ := id rfl
@[simp] theorem frz_zero' : frz 0 (.sh d :: ρ) = .sh d :: ρ := id rfl
@[simp] theorem frz_zeroN : frz 0 (.no :: ρ) = .no :: ρ := id rfl
@[simp] theorem frz_succ : frz (i + 1) (s :: ρ) = s :: frz i ρ := by
  unfold frz
  rw [List.getElem?_cons_succ]
  rcases ρ[i]? with _ | (_ | _ | _) <;> rfl
def appK (i : Nat) (ρ : Env) (d : D) : Option Sl → Option Out
  | some (.ow (.list ds)) => if ds.length < sizeLine then some (.nx (ρ.set i (.ow (.list (ds ++ [d]))))) else none
  | _ => none
def appF (i : Nat) (ρ : Env) : Option D → Option Out
  | some d => appK i ρ d ρ[i]?
  | none => none
@[simp] theorem appS_at : appS i f ρ = appF i ρ (f ρ) := by
  unfold appS appF appK
  cases f ρ <;> rfl
@[simp] theorem appF_some : appF i ρ (some d) = appK i ρ d ρ[i]? := id rfl
@[simp] theorem appK_some (h : ds.length < 16777216) : appK i ρ d (some (.ow (.list ds))) = some (.nx (ρ.set i (.ow (.list (ds ++ [d]))))) := if_pos h
def augK (i : Nat) (ρ : Env) : Option D → Option Out
  | some d => some (.nx (ρ.set i (.sh d)))
  | none => none
@[simp] theorem augS_at : augS i op f ρ = augK i ρ (bnK op (vr i ρ) (f ρ)) := by
  unfold augS augK bnK
  cases vr i ρ <;> cases f ρ <;> try rfl
  rename_i x y
  cases h : op x y <;> simp [h]
@[simp] theorem augK_some : augK i ρ (some d) = some (.nx (ρ.set i (.sh d))) := id rfl
def asgK (t : Tg) (ρ : Env) : Option D → Option Out
  | some d => (t d ρ).map .nx
  | none => none
@[simp] theorem asgS_at : asgS t f ρ = asgK t ρ (f ρ) := by unfold asgS asgK; cases f ρ <;> rfl
@[simp] theorem asgK_some : asgK t ρ (some d) = mo .nx (t d ρ) := mo_eq
@[simp] theorem tN_at : tN i d ρ = some (ρ.set i (.sh d)) := id rfl
@[simp] theorem tT_at : tT ts' (.tuple ds) ρ = tEach ts' ds ρ := id rfl
@[simp] theorem tU_at : tU ts' (.list ds) ρ = tEach ts' ds ρ := id rfl
@[simp] theorem tEach_nil : tEach [] [] ρ = some ρ := id rfl
@[simp] theorem tEach_cons : tEach (t :: ts') (d :: ds) ρ = ob (tEach ts' ds) (t d ρ) := ob_eq
@[simp] theorem parS_at : parS i j fs ρ = (match fs ρ with | some [d, d'] => some (.nx ((ρ.set i (.sh d)).set j (.sh d'))) | _ => none) := by
  unfold parS
  rcases fs ρ with _ | _ | ⟨_, _ | ⟨_, _ | _⟩⟩ <;> rfl
def forK (t : Tg) (gb : Eg) (ρ : Env) : Option (List D) → Option Out
  | some ds => forL t gb ds ρ
  | none => none
@[simp] theorem forS_at {q : Src} : forS q t a ρ = forK t a ρ (q ρ) := by unfold forS forK; cases q ρ <;> rfl
@[simp] theorem forK_some : forK t a ρ (some ds) = forL t a ds ρ := id rfl
def forC (t : Tg) (gb : Eg) (ds : List D) : Option Out → Option Out
  | some (.nx ρ) => forL t gb ds ρ
  | some (.ct ρ) => forL t gb ds ρ
  | some (.bk ρ) => some (.nx ρ)
  | some (.rt d) => some (.rt d)
  | none => none
@[simp] theorem forL_nil : forL t a [] ρ = some (.nx ρ) := id rfl
@[simp] theorem forL_cons : forL t a (d :: ds) ρ = forC t a ds (ob a (t d ρ)) := by
  rw [← ob_eq]
  show (t d ρ).bind (fun ρ1 => (a ρ1).bind _) = _
  cases t d ρ with
  | none => rfl
  | some ρ1 =>
    show (a ρ1).bind _ = forC t a ds (a ρ1)
    rcases a ρ1 with _ | (_ | _ | _ | _) <;> rfl
@[simp] theorem forC_nx : forC t a ds (some (.nx ρ)) = forL t a ds ρ := id rfl
@[simp] theorem forC_ct : forC t a ds (some (.ct ρ)) = forL t a ds ρ := id rfl
@[simp] theorem forC_bk : forC t a ds (some (.bk ρ)) = some (.nx ρ) := id rfl
@[simp] theorem forC_rt : forC t a ds (some (.rt d)) = some (.rt d) := id rfl
@[simp] theorem srcOf_at : srcOf f ρ = ob itemsOf (f ρ) := ob_eq
@[simp] theorem items_l : itemsOf (.list ds) = some ds := id rfl
@[simp] theorem items_t : itemsOf (.tuple ds) = some ds := id rfl
def rg1F : List D → Option (List D) := fun ds => match ds with
  | [.int j] => if -(2 ^ 62) ≤ j ∧ j < 2 ^ 62 then some (rng 0 j.toNat) else none
  | _ => none
def rg2F : List D → Option (List D) := fun ds => match ds with
  | [.int i, .int j] => if -(2 ^ 62) ≤ i ∧ i < 2 ^ 62 ∧ -(2 ^ 62) ≤ j ∧ j < 2 ^ 62 then some (rng i (j - i).toNat) else none
  | _ => none
@[simp] theorem rg1_at : rg1 fs ρ = ob rg1F (fs ρ) := ob_eq (k := rg1F)
@[simp] theorem rg2_at : rg2 fs ρ = ob rg2F (fs ρ) := ob_eq (k := rg2F)
@[simp] theorem rg1F_i {n : Int} (h1 : -4611686018427387904 ≤ n) (h2 : n < 4611686018427387904) : rg1F [.int n] = some (rng 0 n.toNat) := if_pos ⟨h1, h2⟩
@[simp] theorem rg2F_i {m n : Int} (h1 : -4611686018427387904 ≤ m) (h2 : m < 4611686018427387904) (h3 : -4611686018427387904 ≤ n) (h4 : n < 4611686018427387904) : rg2F [.int m, .int n] = some (rng m (n - m).toNat) := if_pos ⟨h1, h2, h3, h4⟩
@[simp] theorem zipS_at : zipS fs ρ = ob zipOf (fs ρ) := ob_eq
@[simp] theorem zipOf_t : zipOf [.tuple ds, .tuple es] = some (zipD ds es) := id rfl
@[simp] theorem zipOf_l : zipOf [.list ds, .list es] = some (zipD ds es) := id rfl
def lcK (t : Tg) (c : Et) (f : Ev) (ρ : Env) : Option (List D) → Option D
  | some ds => if ds.length ≤ sizeLine then (lcL t c f ρ ds).bind fun xs => some (.list xs) else none
  | none => none
@[simp] theorem lcS_at {q : Src} {own : List Nat} : lcS q t c f own ρ = lcK t c f (wipeE ρ own) (q ρ) := by
  unfold lcS lcK; cases q ρ <;> rfl
@[simp] theorem wipeE_nil : wipeE ρ [] = ρ := id rfl
@[simp] theorem wipeE_cons {v : Nat} {vs : List Nat} : wipeE ρ (v :: vs) = (wipeE ρ vs).set v .no := id rfl
/-- a comprehension with no test -/
theorem lcK_map {F : D → D} (hl : ds.length ≤ 16777216) (h : ∀ d ∈ ds, ob f (t d ρ) = some (F d)) : lcK t yes f ρ (some ds) = some (.list (ds.map F)) := by
  unfold lcK
  show (if ds.length ≤ sizeLine then _ else _) = _
  rw [if_pos (by rw [szl]; exact hl)]
  have e : ∀ ds : List D, (∀ d ∈ ds, ((t d ρ).bind f) = some (F d)) → lcL t yes f ρ ds = some (ds.map F) := fun ds => by
    induction ds with
    | nil => intro _; rfl
    | cons d ds ih =>
      intro h
      obtain ⟨ρ1, e1, e2⟩ := bind_some (h d (List.mem_cons_self ..))
      unfold lcL
      rw [e1]
      show (f ρ1).bind _ = _
      rw [e2, ih fun d hd => h d (List.mem_cons_of_mem _ hd)]
      rfl
  rw [e ds fun d hd => by rw [ob_eq]; exact h d hd]
  rfl
/-- a comprehension with a test -/
theorem lcK_filterMap {F : D → Option D} (hl : ds.length ≤ 16777216) (h : ∀ d ∈ ds, (∃ ρ1, t d ρ = some ρ1 ∧ ((c ρ1 = some true ∧ f ρ1 = F d ∧ F d ≠ none) ∨ (c ρ1 = some false ∧ F d = none)))) : lcK t c f ρ (some ds) = some (.list (ds.filterMap F)) := by
  unfold lcK
  show (if ds.length ≤ sizeLine then _ else _) = _
  rw [if_pos (by rw [szl]; exact hl)]
  have e : ∀ ds : List D, (∀ d ∈ ds, (∃ ρ1, t d ρ = some ρ1 ∧ ((c ρ1 = some true ∧ f ρ1 = F d ∧ F d ≠ none) ∨ (c ρ1 = some false ∧ F d = none)))) → lcL t c f ρ ds = some (ds.filterMap F) := fun ds => by
    induction ds with
    | nil => intro _; rfl
    | cons d ds ih =>
      intro h
      obtain ⟨ρ1, e1, e2⟩ := h d (List.mem_cons_self ..)
      have ih := ih fun d hd => h d (List.mem_cons_of_mem _ hd)
      unfold lcL
      rw [e1]
      show (c ρ1).bind _ = _
      rcases e2 with ⟨e2, e3, e4⟩ | ⟨e2, e3⟩
      · rw [e2]
        cases e : F d with
        | none => exact absurd e e4
        | some x =>
          rw [e] at e3
          rw [List.filterMap_cons_some e]
          show (f ρ1).bind _ = _
          rw [e3, ih]
          rfl
      · rw [e2, List.filterMap_cons_none e3]
        exact ih
  rw [e ds h]
  rfl
/-- a loop told by a fold: E tells the environment of a state -/
theorem forL_fold {S A : Type} {E : S → Env} {enc : A → D} {step : S → A → S} {I : S → Prop} (h : ∀ s x, I s → (ob a (t (enc x) (E s)) = some (.nx (E (step s x))) ∨ ob a (t (enc x) (E s)) = some (.ct (E (step s x)))) ∧ I (step s x)) :
    ∀ (xs : List A) (s : S), I s → forL t a (xs.map enc) (E s) = some (.nx (E (xs.foldl step s))) ∧ I (xs.foldl step s)
  | [], s, hs => ⟨rfl, hs⟩
  | x :: xs, s, hs => by
    obtain ⟨h1, h2⟩ := h s x hs
    have ih := forL_fold h xs (step s x) h2
    refine ⟨?_, ih.2⟩
    rw [List.map_cons, forL_cons]
    rcases h1 with h1 | h1
    · rw [h1]; exact ih.1
    · rw [h1]; exact ih.1
end
section
variable {i j : Int} {p q : Bool} {xs ys : List D} {x y : Str}
/-! operators -/
@[simp] theorem addD_i : addD (.int i) (.int j) = some (.int (i + j)) := id rfl
@[simp] theorem subD_i : subD (.int i) (.int j) = some (.int (i - j)) := id rfl
@[simp] theorem subD_b : subD (.bool p) (.bool q) = some (.int (b2i p - b2i q)) := id rfl
theorem mulD_i (h : mulOk i j = true) : mulD (.int i) (.int j) = some (.int (i * j)) := if_pos h
@[simp] theorem mulD_l (h : i.natAbs < 18446744073709551616) : mulD (.int i) (.int j) = some (.int (i * j)) := mulD_i (by unfold mulOk; simp; omega)
@[simp] theorem mulD_r (h : j.natAbs < 18446744073709551616) : mulD (.int i) (.int j) = some (.int (i * j)) := mulD_i (by unfold mulOk; simp; omega)
@[simp] theorem fdivD_i (h0 : j ≠ 0) (h : j.natAbs < 1073741824) : fdivD (.int i) (.int j) = some (.int (i.fdiv j)) := if_pos (by unfold divOk; simp; exact ⟨h0, h⟩)
@[simp] theorem modD_i (h0 : j ≠ 0) : modD (.int i) (.int j) = some (.int (i.fmod j)) := if_pos (by simpa using h0)
theorem powD_i (h : powOk i j = true) : powD (.int i) (.int j) = some (.int (i ^ j.toNat)) := if_pos h
theorem shlD_i (h : powOk i j = true) : shlD (.int i) (.int j) = some (.int (i * 2 ^ j.toNat)) := if_pos h
@[simp] theorem ltD_i : ltD (.int i) (.int j) = some (.bool (decide (i < j))) := id rfl
@[simp] theorem leD_i : leD (.int i) (.int j) = some (.bool (decide (i ≤ j))) := id rfl
@[simp] theorem gtD_i : gtD (.int i) (.int j) = some (.bool (decide (j < i))) := id rfl
@[simp] theorem geD_i : geD (.int i) (.int j) = some (.bool (decide (j ≤ i))) := id rfl
@[simp] theorem eqD_i : eqD (.int i) (.int j) = some (.bool (decide (i = j))) := by
  show some (PyData.bool (i == j)) = _
  congr
@[simp] theorem neD_i : neD (.int i) (.int j) = some (.bool (!decide (i = j))) := by
  show some (PyData.bool (!(i == j))) = _
  congr
@[simp] theorem eqD_b : eqD (.bool p) (.bool q) = some (.bool (p == q)) := id rfl
@[simp] theorem neD_b : neD (.bool p) (.bool q) = some (.bool (!(p == q))) := id rfl
theorem eqD_of {a b : D} (h : SeqAt.shaped a = true) (h' : SeqAt.shaped b = true) : eqD a b = some (.bool (PyData.eqv a b)) := if_pos (by rw [h, h']; rfl)
theorem neD_of {a b : D} (h : SeqAt.shaped a = true) (h' : SeqAt.shaped b = true) : neD a b = some (.bool (!PyData.eqv a b)) := if_pos (by rw [h, h']; rfl)
@[simp] theorem negD_i : negD (.int i) = some (.int (-i)) := id rfl
@[simp] theorem notB_b : notB (.bool p) = some (.bool (!p)) := id rfl
@[simp] theorem boolOf_b : boolOf (.bool p) = some p := id rfl
@[simp] theorem truD_b : truD (.bool p) = some p := id rfl
@[simp] theorem truD_i : truD (.int i) = some (i != 0) := id rfl
@[simp] theorem truD_l : truD (.list xs) = some (!xs.isEmpty) := id rfl
@[simp] theorem truD_t : truD (.tuple xs) = some (!xs.isEmpty) := id rfl
@[simp] theorem lenD_l : lenD [.list xs] = some (.int xs.length) := id rfl
@[simp] theorem lenD_t : lenD [.tuple xs] = some (.int xs.length) := id rfl
@[simp] theorem absD_i : absD [.int i] = some (.int (if i < 0 then -i else i)) := id rfl
@[simp] theorem min2D_i : min2D [.int i, .int j] = some (.int (if j < i then j else i)) := id rfl
@[simp] theorem max2D_i : max2D [.int i, .int j] = some (.int (if j > i then j else i)) := id rfl
@[simp] theorem intD_i : intD [.int i] = some (.int i) := id rfl
@[simp] theorem tupD_l : tupD [.list xs] = some (.tuple xs) := id rfl
@[simp] theorem tupD_t : tupD [.tuple xs] = some (.tuple xs) := id rfl
@[simp] theorem lstD_l : lstD [.list xs] = some (.list xs) := id rfl
@[simp] theorem lstD_t : lstD [.tuple xs] = some (.list xs) := id rfl
@[simp] theorem ixD_l : ixD (.list xs) (.int i) = atI xs i := id rfl
@[simp] theorem ixD_t : ixD (.tuple xs) (.int i) = atI xs i := id rfl
@[simp] theorem isD_n {d : D} : isD d .none = some (.bool (isNon d)) := by cases d <;> rfl
@[simp] theorem isNotD_n {d : D} : isNotD d .none = some (.bool (!isNon d)) := by cases d <;> rfl
@[simp] theorem isD_b : isD (.bool p) (.bool q) = some (.bool (decide (p = q))) := id rfl
@[simp] theorem isNotD_b : isNotD (.bool p) (.bool q) = some (.bool (!decide (p = q))) := id rfl
@[simp] theorem bitsD_i : bitsD (.int i) = some (.int (Builtin.Int.intBits i : Nat)) := id rfl
theorem atI_nat {α : Type} {xs : List α} {n : Nat} {x : α} (h : xs[n]? = some x) : atI xs (n : Int) = some x := by
  obtain ⟨hn, e⟩ := List.getElem?_eq_some_iff.mp h
  unfold atI ixN
  rw [if_pos (by omega), if_pos (by omega)]
  simpa using h
theorem atI_of {α : Type} {xs : List α} {i : Int} {x : α} (h0 : 0 ≤ i) (h : xs[i.toNat]? = some x) : atI xs i = some x := by
  have := atI_nat h
  rwa [Int.toNat_of_nonneg h0] at this
theorem atI_getD {α : Type} {xs : List α} {i : Int} (h0 : 0 ≤ i) (h : i < xs.length) (z : α) : atI xs i = some (xs.getD i.toNat z) := by
  refine atI_of h0 ?_
  rw [List.getD_eq_getElem?_getD, List.getElem?_eq_getElem (by omega)]
  rfl
theorem rng_eq (lo : Int) (n : Nat) : rng lo n = ((List.range n).map fun i => lo + (i : Nat)).map PyData.int := by
  unfold rng; rw [List.map_map]; rfl
theorem rng0_eq (n : Nat) : rng 0 n = (List.range n).map fun i => PyData.int (i : Nat) := by
  unfold rng; simp
/-- 0, 1, .. n - 1 -/
def ri (n : Nat) : List Int := (List.range n).map fun (i : Nat) => (i : Int)
@[simp] theorem ri_len (n : Nat) : (ri n).length = n := by unfold ri; simp
theorem rng0_ri (n : Nat) : rng 0 n = (ri n).map .int := by unfold rng ri; rw [List.map_map]; simp [Function.comp_def]
theorem mem_ri {n : Nat} {x : Int} : x ∈ ri n ↔ 0 ≤ x ∧ x < n := by
  unfold ri
  rw [List.mem_map]
  constructor
  · rintro ⟨i, hi, rfl⟩
    have := List.mem_range.mp hi
    omega
  · rintro ⟨h1, h2⟩
    exact ⟨x.toNat, List.mem_range.mpr (by omega), by omega⟩
@[simp] theorem rng_len (lo : Int) (n : Nat) : (rng lo n).length = n := by unfold rng; simp
theorem allD_map {bs : List Bool} : allD [.list (bs.map .bool)] = some (.bool (bs.all id)) := by
  show (bools? _).map _ = _
  rw [bools?_map]; rfl
theorem anyD_map {bs : List Bool} : anyD [.list (bs.map .bool)] = some (.bool (bs.any id)) := by
  show (bools? _).map _ = _
  rw [bools?_map]; rfl
theorem sumD_map {ns : List Int} : sumD [.list (ns.map .int)] = some (.int ns.sum) := by
  show (ints? _).map _ = _
  rw [ints?_map]; rfl
end

theorem run_rt {n : Nat} {g : Eg} {ds : List D} {d : D} (h : g (startE n ds) = some (.rt d)) : run n g ds = some d := by unfold run; rw [h]; rfl
theorem run_nx {n : Nat} {g : Eg} {ds : List D} {ρ : Env} (h : g (startE n ds) = some (.nx ρ)) : run n g ds = some .none := by unfold run; rw [h]; rfl
/-! ### plain data: None, ints, texts, tuples of such -/
mutual
def plainD : D → Bool
  | .none => true
  | .int _ => true
  | .str x => PyData.strOk x
  | .tuple ds => plainAll ds
  | _ => false
def plainAll : List D → Bool
  | [] => true
  | d :: ds => plainD d && plainAll ds
end
mutual
theorem plain_lay : ∀ d : D, plainD d = true → d.canLay0 = true
  | .none, _ => rfl
  | .int _, _ => rfl
  | .str x, h => by simpa [plainD, PyData.canLay0] using h
  | .tuple ds, h => by
    have := plainAll_lay ds (by simpa [plainD] using h)
    simpa [PyData.canLay0] using this
  | .bool _, h => by simp [plainD] at h
  | .list _, h => by simp [plainD] at h
  | .dict _, h => by simp [plainD] at h
theorem plainAll_lay : ∀ ds : List D, plainAll ds = true → PyData.canLayAll0 ds = true
  | [], _ => rfl
  | d :: ds, h => by
    simp only [plainAll, Bool.and_eq_true] at h
    simp only [PyData.canLayAll0, Bool.and_eq_true]
    exact ⟨plain_lay d h.1, plainAll_lay ds h.2⟩
end
mutual
theorem plain_eqv : ∀ a b : D, plainD a = true → plainD b = true → (PyData.eqv a b = true ↔ a = b)
  | .none, .none, _, _ => by simp [PyData.eqv]
  | .none, .int _, _, _ => by simp [PyData.eqv]
  | .none, .str _, _, _ => by simp [PyData.eqv]
  | .none, .tuple _, _, _ => by simp [PyData.eqv]
  | .int _, .none, _, _ => by simp [PyData.eqv]
  | .int _, .int _, _, _ => by simp [PyData.eqv]
  | .int _, .str _, _, _ => by simp [PyData.eqv]
  | .int _, .tuple _, _, _ => by simp [PyData.eqv]
  | .str _, .none, _, _ => by simp [PyData.eqv]
  | .str _, .int _, _, _ => by simp [PyData.eqv]
  | .str _, .str _, _, _ => by simp [PyData.eqv]
  | .str _, .tuple _, _, _ => by simp [PyData.eqv]
  | .tuple _, .none, _, _ => by simp [PyData.eqv]
  | .tuple _, .int _, _, _ => by simp [PyData.eqv]
  | .tuple _, .str _, _, _ => by simp [PyData.eqv]
  | .tuple xs, .tuple ys, h, h' => by
    have := plainAll_eqv xs ys (by simpa [plainD] using h) (by simpa [plainD] using h')
    simpa [PyData.eqv] using this
  | .bool _, _, h, _ => by simp [plainD] at h
  | .list _, _, h, _ => by simp [plainD] at h
  | .dict _, _, h, _ => by simp [plainD] at h
  | .none, .bool _, _, h => by simp [plainD] at h
  | .none, .list _, _, h => by simp [plainD] at h
  | .none, .dict _, _, h => by simp [plainD] at h
  | .int _, .bool _, _, h => by simp [plainD] at h
  | .int _, .list _, _, h => by simp [plainD] at h
  | .int _, .dict _, _, h => by simp [plainD] at h
  | .str _, .bool _, _, h => by simp [plainD] at h
  | .str _, .list _, _, h => by simp [plainD] at h
  | .str _, .dict _, _, h => by simp [plainD] at h
  | .tuple _, .bool _, _, h => by simp [plainD] at h
  | .tuple _, .list _, _, h => by simp [plainD] at h
  | .tuple _, .dict _, _, h => by simp [plainD] at h
theorem plainAll_eqv : ∀ xs ys : List D, plainAll xs = true → plainAll ys = true → (PyData.eqvAll xs ys = true ↔ xs = ys)
  | [], [], _, _ => by simp [PyData.eqvAll]
  | [], _ :: _, _, _ => by simp [PyData.eqvAll]
  | _ :: _, [], _, _ => by simp [PyData.eqvAll]
  | x :: xs, y :: ys, h, h' => by
    simp only [plainAll, Bool.and_eq_true] at h h'
    simp only [PyData.eqvAll, Bool.and_eq_true, List.cons.injEq]
    rw [plain_eqv x y h.1 h'.1, plainAll_eqv xs ys h.2 h'.2]
end
theorem plain_shaped {d : D} (h : plainD d = true) (hd : d.depth ≤ 64) : SeqAt.shaped d = true := by
  unfold SeqAt.shaped
  rw [plain_lay d h, decide_eq_true hd]; rfl
theorem eqD_p {a b : D} (ha : plainD a = true) (hb : plainD b = true) (da : a.depth ≤ 64) (db : b.depth ≤ 64) (c : Bool) (hc : c = true ↔ a = b) : eqD a b = some (.bool c) := by
  rw [eqD_of (plain_shaped ha da) (plain_shaped hb db)]
  have := (plain_eqv a b ha hb).trans hc.symm
  cases c <;> cases h : PyData.eqv a b <;> simp_all
theorem neD_p {a b : D} (ha : plainD a = true) (hb : plainD b = true) (da : a.depth ≤ 64) (db : b.depth ≤ 64) (c : Bool) (hc : c = true ↔ a = b) : neD a b = some (.bool (!c)) := by
  rw [neD_of (plain_shaped ha da) (plain_shaped hb db)]
  have := (plain_eqv a b ha hb).trans hc.symm
  cases c <;> cases h : PyData.eqv a b <;> simp_all
@[simp] theorem plain_int {i : Int} : plainD (.int i) = true := id rfl
@[simp] theorem plain_none : plainD .none = true := id rfl
@[simp] theorem plain_tup {ds : List D} : plainD (.tuple ds) = plainAll ds := by simp [plainD]
@[simp] theorem plainAll_nil : plainAll [] = true := id rfl
@[simp] theorem plainAll_cons {d : D} {ds : List D} : plainAll (d :: ds) = (plainD d && plainAll ds) := by simp [plainAll]
theorem plainAll_iff : ∀ {ds : List D}, plainAll ds = true ↔ ∀ d ∈ ds, plainD d = true
  | [] => by simp
  | d :: ds => by simp [plainAll_iff (ds := ds)]
@[simp] theorem plainAll_ints {ns : List Int} : plainAll (ns.map .int) = true := plainAll_iff.mpr fun d h => by
  obtain ⟨i, _, rfl⟩ := List.mem_map.mp h; rfl
theorem depthAll_le {n : Nat} : ∀ {ds : List D}, (∀ d ∈ ds, d.depth ≤ n) → PyData.depthAll ds ≤ n
  | [], _ => by simp [PyData.depthAll]
  | d :: ds, h => by
    have := depthAll_le (ds := ds) fun x hx => h x (List.mem_cons_of_mem _ hx)
    have := h d (List.mem_cons_self ..)
    simp only [PyData.depthAll]
    omega
theorem depth_tup {n : Nat} {ds : List D} (h : ∀ d ∈ ds, d.depth ≤ n) : (PyData.tuple ds).depth ≤ n + 1 := by
  have := depthAll_le h
  simp only [PyData.depth]
  omega
theorem depth_ints {ns : List Int} : (PyData.tuple (ns.map .int)).depth ≤ 1 := depth_tup fun d h => by
  obtain ⟨i, _, rfl⟩ := List.mem_map.mp h
  simp [PyData.depth]
theorem ints_inj {xs ys : List Int} : (PyData.tuple (xs.map .int)) = .tuple (ys.map .int) ↔ xs = ys := by
  constructor
  · intro h
    injection h with h
    have := congrArg ints? h
    rw [ints?_map, ints?_map] at this
    exact Option.some.inj this
  · intro h; rw [h]
@[simp] theorem eqD_ints {xs ys : List Int} : eqD (.tuple (xs.map .int)) (.tuple (ys.map .int)) = some (.bool (decide (xs = ys))) :=
  eqD_p (by simp) (by simp) (by have := depth_ints (ns := xs); omega) (by have := depth_ints (ns := ys); omega) _ (by rw [ints_inj]; simp)
@[simp] theorem neD_ints {xs ys : List Int} : neD (.tuple (xs.map .int)) (.tuple (ys.map .int)) = some (.bool (!decide (xs = ys))) :=
  neD_p (by simp) (by simp) (by have := depth_ints (ns := xs); omega) (by have := depth_ints (ns := ys); omega) _ (by rw [ints_inj]; simp)
end Pu

set_option Elab.async false
set_option linter.all false
set_option maxRecDepth 100000
/-! the laws' own first defs: the row of numbers, the comparison of data -/
namespace Lb
open PySem PySem.Spec PyProof.Rows L2 Pu
def g__law_mixed : Eg := (seq (setS 2 (cst (.int 0))) (seq (ifS (ts boolOf (bn gtD (ap lenD (one (vr 0))) (cst (.int 0)))) (setS 2 (bn ixD (vr 0) (bn modD (vr 1) (ap lenD (one (vr 0)))))) nxt) (seq (setS 3 (bn modD (ap intD (one (bn addD (bn addD (bn mulD (vr 2) (cst (.int 48271))) (bn mulD (vr 1) (cst (.int 69621)))) (cst (.int 8191))))) (cst (.int 2147483647)))) (seq (setS 4 (bn modD (ap intD (one (bn addD (bn addD (bn mulD (vr 3) (vr 3)) (bn fdivD (vr 3) (cst (.int 7)))) (bn mulD (vr 1) (cst (.int 16807)))))) (cst (.int 2147483629)))) (seq (setS 5 (bn modD (ap intD (one (bn addD (bn addD (bn mulD (vr 4) (vr 4)) (bn fdivD (vr 4) (cst (.int 11)))) (cst (.int 40692))))) (cst (.int 2147483563)))) (ret (bn modD (bn fdivD (vr 5) (cst (.int 5))) (cst (.int 1000003)))))))))
def sem__law_mixed : List D → Option D := Pu.run 6 g__law_mixed
def g__law_row : Eg := (seq (setS 2 (cst (.int 0))) (seq (ifS (andB (ts boolOf (bn gtD (ap lenD (one (vr 0))) (cst (.int 0)))) (ts boolOf (bn geD (bn ixD (vr 0) (cst (.int 0))) (bn powD (cst (.int 10)) (cst (.int 18)))))) (setS 2 (bn ixD (vr 0) (cst (.int 0)))) nxt) (seq (ownS 3 (mkL nl)) (seq (forS (rg1 (cs (vr 1) nl)) (tN 4) (ifS (ts boolOf (bn gtD (vr 2) (cst (.int 0)))) (seq (appS 3 (bn modD (ap intD (one (vr 2))) (cst (.int 1000)))) (setS 2 (bn fdivD (vr 2) (cst (.int 1000))))) (appS 3 (ap sem__law_mixed (cs (vr 0) (cs (vr 4) nl)))))) (ret (vb 3))))))
def sem__law_row : List D → Option D := Pu.run 5 g__law_row
def g__law_is_int : Eg := (ret (andV (ap (isiD "int") (one (vr 0))) (un notB (ap (isiD "bool") (one (vr 0))))))
def sem__law_is_int : List D → Option D := Pu.run 1 g__law_is_int
def g__law_like (rec : List D → Option D) : Eg := (seq (ifS (ts boolOf (bn isD (vr 1) (cst .none))) (ret (bn isD (vr 0) (cst .none))) nxt) (seq (ifS (ts truD (ap (isiD "bool") (one (vr 1)))) (ret (andV (ap (isiD "bool") (one (vr 0))) (bn eqD (vr 0) (vr 1)))) nxt) (seq (ifS (ts truD (ap (isiD "tuple") (one (vr 1)))) (seq (ifS (orB (notT (ts truD (ap (isiD "tuple") (one (vr 0))))) (ts boolOf (bn neD (ap lenD (one (vr 0))) (ap lenD (one (vr 1)))))) (ret (cst (.bool false))) nxt) (ret (ap allD (one (lcS (rg1 (cs (ap lenD (one (vr 1))) nl)) (tN 2) yes (ap rec (cs (bn ixD (vr 0) (vr 2)) (cs (bn ixD (vr 1) (vr 2)) nl))) [2]))))) nxt) (seq (ifS (ts truD (ap (isiD "str") (one (vr 1)))) (ret (andV (ap (isiD "str") (one (vr 0))) (bn eqD (vr 0) (vr 1)))) nxt) (ret (andV (ap sem__law_is_int (cs (vr 0) nl)) (bn eqD (vr 0) (vr 1))))))))
def sem__law_like : Nat → List D → Option D
  | 0 => fun _ => none
  | n + 1 => Pu.run 3 (g__law_like (sem__law_like n))
theorem fmod_lt {a b : Int} (h : 0 < b) : 0 ≤ a.fmod b ∧ a.fmod b < b := by
  rw [Int.fmod_eq_emod_of_nonneg a (by omega)]
  exact ⟨Int.emod_nonneg _ (by omega), Int.emod_lt_of_pos _ h⟩
def mix (cell k : Int) : Int :=
  let first := (cell * 48271 + k * 69621 + 8191).fmod 2147483647
  let second := (first * first + first.fdiv 7 + k * 16807).fmod 2147483629
  let third := (second * second + second.fdiv 11 + 40692).fmod 2147483563
  (third.fdiv 5).fmod 1000003
def mixT : Eg := (seq (setS 3 (bn modD (ap intD (one (bn addD (bn addD (bn mulD (vr 2) (cst (.int 48271))) (bn mulD (vr 1) (cst (.int 69621)))) (cst (.int 8191))))) (cst (.int 2147483647)))) (seq (setS 4 (bn modD (ap intD (one (bn addD (bn addD (bn mulD (vr 3) (vr 3)) (bn fdivD (vr 3) (cst (.int 7)))) (bn mulD (vr 1) (cst (.int 16807)))))) (cst (.int 2147483629)))) (seq (setS 5 (bn modD (ap intD (one (bn addD (bn addD (bn mulD (vr 4) (vr 4)) (bn fdivD (vr 4) (cst (.int 11)))) (cst (.int 40692))))) (cst (.int 2147483563)))) (ret (bn modD (bn fdivD (vr 5) (cst (.int 5))) (cst (.int 1000003)))))))
theorem mixT_at (d : D) (k cell : Int) : mixT [.sh d, .sh (.int k), .sh (.int cell), .no, .no, .no] = some (.rt (.int (mix cell k))) := by
  have h1 := fmod_lt (a := cell * 48271 + k * 69621 + 8191) (b := 2147483647) (by decide)
  have h2 := fmod_lt (a := ((cell * 48271 + k * 69621 + 8191).fmod 2147483647) * ((cell * 48271 + k * 69621 + 8191).fmod 2147483647) + ((cell * 48271 + k * 69621 + 8191).fmod 2147483647).fdiv 7 + k * 16807) (b := 2147483629) (by decide)
  unfold mix mixT
  generalize e1 : (cell * 48271 + k * 69621 + 8191).fmod 2147483647 = f at *
  generalize e2 : (f * f + f.fdiv 7 + k * 16807).fmod 2147483629 = g at *
  have m1 : mulD (.int f) (.int f) = some (.int (f * f)) := mulD_l (by omega)
  have m2 : mulD (.int g) (.int g) = some (.int (g * g)) := mulD_l (by omega)
  simp [e1, e2, m1, m2]
theorem mix_lt (cell k : Int) : 0 ≤ mix cell k ∧ mix cell k < 1000003 := fmod_lt (by decide)
theorem atI_ints {ns : List Int} {i : Int} (h0 : 0 ≤ i) (h : i < ns.length) : atI (ns.map PyData.int) i = some (.int (ns.getD i.toNat 0)) := by
  rw [atI_getD h0 (by rw [List.length_map]; exact h) (.int 0)]
  simp only [List.getD_eq_getElem?_getD, List.getElem?_map]
  cases ns[i.toNat]? <;> rfl
theorem mixed (ns : List Int) (k : Int) : ∃ x, sem__law_mixed [.list (ns.map .int), .int k] = some (.int x) ∧ 0 ≤ x ∧ x < 1000003 := by
  have e : g__law_mixed = seq (setS 2 (cst (.int 0))) (seq (ifS (ts boolOf (bn gtD (ap lenD (one (vr 0))) (cst (.int 0)))) (setS 2 (bn ixD (vr 0) (bn modD (vr 1) (ap lenD (one (vr 0)))))) nxt) mixT) := rfl
  have e0 : startE 6 [.list (ns.map .int), .int k] = [.sh (.list (ns.map .int)), .sh (.int k), .no, .no, .no, .no] := rfl
  unfold sem__law_mixed
  by_cases hn : ns = []
  · subst hn
    refine ⟨mix 0 k, run_rt ?_, mix_lt _ _⟩
    rw [e0, e]
    simp [mixT_at]
  · have hp : 0 < ns.length := List.length_pos_iff.mpr hn
    have hm := fmod_lt (a := k) (b := (ns.length : Int)) (by omega)
    have hg := atI_ints hm.1 hm.2
    refine ⟨mix (ns.getD (k.fmod (ns.length : Int)).toNat 0) k, run_rt ?_, mix_lt _ _⟩
    rw [e0, e]
    have h0 : ns.length ≠ 0 := by omega
    simp [hn, hp, hg, mixT_at]
/-! the row -/
def rowT (ds : D) : Eg := (seq (ownS 3 (mkL nl)) (seq (forS (rg1 (cs (vr 1) nl)) (tN 4) (ifS (ts boolOf (bn gtD (vr 2) (cst (.int 0)))) (seq (appS 3 (bn modD (ap intD (one (vr 2))) (cst (.int 1000)))) (setS 2 (bn fdivD (vr 2) (cst (.int 1000))))) (appS 3 (ap sem__law_mixed (cs (vr 0) (cs (vr 4) nl)))))) (ret (vb 3))))
def rowE (ns : List Int) (many : Int) (big : Int) (row : List Int) (s : Sl) : Pu.Env := [.sh (.list (ns.map .int)), .sh (.int many), .sh (.int big), .ow (.list (row.map .int)), s]
theorem row_loop (ns : List Int) (many : Int) : ∀ (xs : List Int) (big : Int) (row : List Int) (s : Sl), row.length + xs.length ≤ 1000 → (∀ x ∈ row, 0 ≤ x ∧ x < 1000003) → ∃ big' row' s', forL (tN 4) (ifS (ts boolOf (bn gtD (vr 2) (cst (.int 0)))) (seq (appS 3 (bn modD (ap intD (one (vr 2))) (cst (.int 1000)))) (setS 2 (bn fdivD (vr 2) (cst (.int 1000))))) (appS 3 (ap sem__law_mixed (cs (vr 0) (cs (vr 4) nl))))) (xs.map .int) (rowE ns many big row s) = some (.nx (rowE ns many big' row' s')) ∧ row'.length = row.length + xs.length ∧ ∀ x ∈ row', 0 ≤ x ∧ x < 1000003
  | [], big, row, s, _, hr => ⟨big, row, s, rfl, rfl, hr⟩
  | x :: xs, big, row, s, hl, hr => by
    have hl' : row.length < 16777216 := by simp only [List.length_cons] at hl; omega
    rw [List.map_cons, forL_cons]
    by_cases hb : 0 < big
    · have hm := fmod_lt (a := big) (b := 1000) (by decide)
      obtain ⟨b', r', s', e1, e2, e3⟩ := row_loop ns many xs (big.fdiv 1000) (row ++ [big.fmod 1000]) (.sh (.int x)) (by simp only [List.length_append, List.length_cons, List.length_nil] at *; omega) (fun y hy => by
        rcases List.mem_append.mp hy with h | h
        · exact hr y h
        · rw [List.mem_singleton.mp h]; omega)
      refine ⟨b', r', s', ?_, by rw [e2]; simp only [List.length_append, List.length_cons, List.length_nil]; omega, e3⟩
      rw [← e1]
      simp [rowE, hb, hl']
    · obtain ⟨v, hv, h1, h2⟩ := mixed ns x
      obtain ⟨b', r', s', e1, e2, e3⟩ := row_loop ns many xs big (row ++ [v]) (.sh (.int x)) (by simp only [List.length_append, List.length_cons, List.length_nil] at *; omega) (fun y hy => by
        rcases List.mem_append.mp hy with h | h
        · exact hr y h
        · rw [List.mem_singleton.mp h]; omega)
      refine ⟨b', r', s', ?_, by rw [e2]; simp only [List.length_append, List.length_cons, List.length_nil]; omega, e3⟩
      rw [← e1]
      simp [rowE, hb, hl', hv]
theorem row_tl (ns : List Int) (many : Nat) (hm : many ≤ 1000) : ∀ big : Int, ∃ row : List Int, rowT .none [.sh (.list (ns.map .int)), .sh (.int many), .sh (.int big), .no, .no] = some (.rt (.list (row.map .int))) ∧ row.length = many ∧ ∀ x ∈ row, 0 ≤ x ∧ x < 1000003 := fun big => by
    obtain ⟨b', r', s', e1, e2, e3⟩ := row_loop ns many (ri many) big [] .no (by simp; omega) (fun _ h => by cases h)
    refine ⟨r', ?_, by simpa using e2, e3⟩
    have e4 := rng0_ri many
    have h1 : (many : Int) < 4611686018427387904 := by omega
    have h2 : -4611686018427387904 ≤ (many : Int) := by omega
    unfold rowE at e1
    simp only [List.map_nil] at e1
    unfold rowT
    simp [h1, h2, e4, e1, rowE]
theorem row_is (ns : List Int) (many : Nat) (hm : many ≤ 1000) : ∃ row : List Int, sem__law_row [.list (ns.map .int), .int many] = some (.list (row.map .int)) ∧ row.length = many ∧ ∀ x ∈ row, 0 ≤ x ∧ x < 1000003 := by
  have tl := row_tl ns many hm
  have e : g__law_row = seq (setS 2 (cst (.int 0))) (seq (ifS (andB (ts boolOf (bn gtD (ap lenD (one (vr 0))) (cst (.int 0)))) (ts boolOf (bn geD (bn ixD (vr 0) (cst (.int 0))) (bn powD (cst (.int 10)) (cst (.int 18)))))) (setS 2 (bn ixD (vr 0) (cst (.int 0)))) nxt) (rowT .none)) := rfl
  have e0 : startE 5 [.list (ns.map .int), .int many] = [.sh (.list (ns.map .int)), .sh (.int many), .no, .no, .no] := rfl
  have e18 : ((10:Int) ^ (18:Int).toNat) = 1000000000000000000 := by decide
  have ep : powD (.int 10) (.int 18) = some (.int 1000000000000000000) := by rw [powD_i (by decide), e18]
  unfold sem__law_row
  by_cases hn : ns = []
  · obtain ⟨row, h1, h2, h3⟩ := tl 0
    refine ⟨row, run_rt ?_, h2, h3⟩
    rw [e0, e]
    subst hn
    simp only [List.map_nil] at h1
    simp [h1]
  · have hp : 0 < ns.length := List.length_pos_iff.mpr hn
    have hg : atI (ns.map PyData.int) 0 = some (.int (ns.getD 0 0)) := atI_ints (ns := ns) (i := 0) (by decide) (by omega)
    generalize ns.getD 0 0 = c at hg
    by_cases hb : 1000000000000000000 ≤ c
    · obtain ⟨row, h1, h2, h3⟩ := tl c
      refine ⟨row, run_rt ?_, h2, h3⟩
      rw [e0, e]
      simp [hn, hp, hg, ep, hb, h1]
    · obtain ⟨row, h1, h2, h3⟩ := tl 0
      refine ⟨row, run_rt ?_, h2, h3⟩
      rw [e0, e]
      simp [hn, hp, hg, ep, hb, h1]
@[simp] theorem isi_bool_none : isiD "bool" [.none] = some (.bool false) := congrArg (Option.map PyData.bool) (show kitB "NoneType" "bool" = some false by decide +kernel)
@[simp] theorem isi_bool_bool {b : Bool} : isiD "bool" [.bool b] = some (.bool true) := congrArg (Option.map PyData.bool) (show kitB "bool" "bool" = some true by decide +kernel)
@[simp] theorem isi_bool_int {i : Int} : isiD "bool" [.int i] = some (.bool false) := congrArg (Option.map PyData.bool) (show kitB "int" "bool" = some false by decide +kernel)
@[simp] theorem isi_bool_str {x : Str} : isiD "bool" [.str x] = some (.bool false) := congrArg (Option.map PyData.bool) (show kitB "str" "bool" = some false by decide +kernel)
@[simp] theorem isi_bool_list {ds : List D} : isiD "bool" [.list ds] = some (.bool false) := congrArg (Option.map PyData.bool) (show kitB "list" "bool" = some false by decide +kernel)
@[simp] theorem isi_bool_tuple {ds : List D} : isiD "bool" [.tuple ds] = some (.bool false) := congrArg (Option.map PyData.bool) (show kitB "tuple" "bool" = some false by decide +kernel)
@[simp] theorem isi_int_none : isiD "int" [.none] = some (.bool false) := congrArg (Option.map PyData.bool) (show kitB "NoneType" "int" = some false by decide +kernel)
@[simp] theorem isi_int_bool {b : Bool} : isiD "int" [.bool b] = some (.bool true) := congrArg (Option.map PyData.bool) (show kitB "bool" "int" = some true by decide +kernel)
@[simp] theorem isi_int_int {i : Int} : isiD "int" [.int i] = some (.bool true) := congrArg (Option.map PyData.bool) (show kitB "int" "int" = some true by decide +kernel)
@[simp] theorem isi_int_str {x : Str} : isiD "int" [.str x] = some (.bool false) := congrArg (Option.map PyData.bool) (show kitB "str" "int" = some false by decide +kernel)
@[simp] theorem isi_int_list {ds : List D} : isiD "int" [.list ds] = some (.bool false) := congrArg (Option.map PyData.bool) (show kitB "list" "int" = some false by decide +kernel)
@[simp] theorem isi_int_tuple {ds : List D} : isiD "int" [.tuple ds] = some (.bool false) := congrArg (Option.map PyData.bool) (show kitB "tuple" "int" = some false by decide +kernel)
@[simp] theorem isi_str_none : isiD "str" [.none] = some (.bool false) := congrArg (Option.map PyData.bool) (show kitB "NoneType" "str" = some false by decide +kernel)
@[simp] theorem isi_str_bool {b : Bool} : isiD "str" [.bool b] = some (.bool false) := congrArg (Option.map PyData.bool) (show kitB "bool" "str" = some false by decide +kernel)
@[simp] theorem isi_str_int {i : Int} : isiD "str" [.int i] = some (.bool false) := congrArg (Option.map PyData.bool) (show kitB "int" "str" = some false by decide +kernel)
@[simp] theorem isi_str_str {x : Str} : isiD "str" [.str x] = some (.bool true) := congrArg (Option.map PyData.bool) (show kitB "str" "str" = some true by decide +kernel)
@[simp] theorem isi_str_list {ds : List D} : isiD "str" [.list ds] = some (.bool false) := congrArg (Option.map PyData.bool) (show kitB "list" "str" = some false by decide +kernel)
@[simp] theorem isi_str_tuple {ds : List D} : isiD "str" [.tuple ds] = some (.bool false) := congrArg (Option.map PyData.bool) (show kitB "tuple" "str" = some false by decide +kernel)
@[simp] theorem isi_tuple_none : isiD "tuple" [.none] = some (.bool false) := congrArg (Option.map PyData.bool) (show kitB "NoneType" "tuple" = some false by decide +kernel)
@[simp] theorem isi_tuple_bool {b : Bool} : isiD "tuple" [.bool b] = some (.bool false) := congrArg (Option.map PyData.bool) (show kitB "bool" "tuple" = some false by decide +kernel)
@[simp] theorem isi_tuple_int {i : Int} : isiD "tuple" [.int i] = some (.bool false) := congrArg (Option.map PyData.bool) (show kitB "int" "tuple" = some false by decide +kernel)
@[simp] theorem isi_tuple_str {x : Str} : isiD "tuple" [.str x] = some (.bool false) := congrArg (Option.map PyData.bool) (show kitB "str" "tuple" = some false by decide +kernel)
@[simp] theorem isi_tuple_list {ds : List D} : isiD "tuple" [.list ds] = some (.bool false) := congrArg (Option.map PyData.bool) (show kitB "list" "tuple" = some false by decide +kernel)
@[simp] theorem isi_tuple_tuple {ds : List D} : isiD "tuple" [.tuple ds] = some (.bool true) := congrArg (Option.map PyData.bool) (show kitB "tuple" "tuple" = some true by decide +kernel)
/-! the comparison says yes of a thing and itself -/
def lk : Nat → D → Bool
  | 0, _ => false
  | _ + 1, .none => true
  | _ + 1, .bool _ => true
  | _ + 1, .int _ => true
  | _ + 1, .str x => PyData.strOk x
  | n + 1, .tuple ds => ds.all (lk n) && decide (ds.length ≤ 16777216)
  | _ + 1, _ => false
@[simp] theorem isD_none {d : D} (h : isNon d = false) : isD d .none = some (.bool false) := by rw [isD_n, h]
theorem all_ones {ds : List D} {F : D → D} (h : ∀ d ∈ ds, F d = .bool true) : allD [.list (ds.map F)] = some (.bool true) := by
  have e : ds.map F = (ds.map fun _ => true).map PyData.bool := by
    rw [List.map_map]
    exact List.map_congr_left h
  rw [e, allD_map]
  congr 2
  simp
theorem like_ok : ∀ (n : Nat) (d : D), lk n d = true → sem__law_like n [d, d] = some (.bool true)
  | 0, _, h => by simp [lk] at h
  | n + 1, .none, _ => run_rt (by
      show g__law_like _ [.sh .none, .sh .none, .no] = _
      simp [g__law_like, Pu.isNon])
  | n + 1, .bool b, _ => run_rt (by
      show g__law_like _ [.sh (.bool b), .sh (.bool b), .no] = _
      simp [g__law_like, Pu.isNon])
  | n + 1, .int i, _ => run_rt (by
      have e : sem__law_is_int [.int i] = some (.bool true) := run_rt (by
        show g__law_is_int [.sh (.int i)] = _
        simp [g__law_is_int])
      show g__law_like _ [.sh (.int i), .sh (.int i), .no] = _
      simp [g__law_like, Pu.isNon, e])
  | n + 1, .str x, h => run_rt (by
      have e : eqD (.str x) (.str x) = some (.bool true) := eqD_p (by simpa [plainD, lk] using h) (by simpa [plainD, lk] using h) (by simp [PyData.depth]) (by simp [PyData.depth]) true (by simp)
      show g__law_like _ [.sh (.str x), .sh (.str x), .no] = _
      simp [g__law_like, Pu.isNon, e])
  | n + 1, .tuple ds, h => run_rt (by
      simp only [lk, Bool.and_eq_true, List.all_eq_true, decide_eq_true_eq] at h
      have h1 : (ds.length : Int) < 4611686018427387904 := by omega
      have h2 : -4611686018427387904 ≤ (ds.length : Int) := by omega
      have e := lcK_map (t := tN 2) (f := ap (sem__law_like n) (cs (bn ixD (vr 0) (vr 2)) (cs (bn ixD (vr 1) (vr 2)) nl))) (ρ := [.sh (.tuple ds), .sh (.tuple ds), .no]) (ds := rng 0 ds.length) (F := fun _ => .bool true) (by simp; omega) (fun d hd => by
        rw [rng0_ri] at hd
        obtain ⟨i, hi, rfl⟩ := List.mem_map.mp hd
        have hi := mem_ri.mp hi
        have e := atI_getD hi.1 hi.2 PyData.none
        have e2 : sem__law_like n [ds.getD i.toNat .none, ds.getD i.toNat .none] = some (.bool true) := like_ok n _ (h.1 _ (by
          rw [List.getD_eq_getElem?_getD, List.getElem?_eq_getElem (by omega)]
          exact List.getElem_mem _))
        generalize ds.getD i.toNat PyData.none = z at e e2
        simp [e, e2])
      have e3 := all_ones (ds := rng 0 ds.length) (F := fun _ => PyData.bool true) fun _ _ => rfl
      generalize (rng 0 ds.length).map (fun _ => PyData.bool true) = w at e e3
      show g__law_like _ [.sh (.tuple ds), .sh (.tuple ds), .no] = _
      simp [g__law_like, Pu.isNon, h1, h2, e, e3])
end Lb

set_option Elab.async false
set_option linter.all false
set_option maxRecDepth 100000
namespace Pu
open PySem PySem.Spec PyProof.Rows L2
section
variable {A : Type} {t : Tg} {c : Et} {f : Ev} {a : Eg} {ρ : Env} {enc : A → D} {G : A → D}
theorem lc_map (xs : List A) (hl : xs.length ≤ 16777216) (h : ∀ x ∈ xs, ob f (t (enc x) ρ) = some (G x)) : lcK t yes f ρ (some (xs.map enc)) = some (.list (xs.map G)) := by
  unfold lcK
  show (if (xs.map enc).length ≤ sizeLine then _ else _) = _
  rw [if_pos (by rw [szl, List.length_map]; exact hl)]
  have e : ∀ xs : List A, (∀ x ∈ xs, ob f (t (enc x) ρ) = some (G x)) → lcL t yes f ρ (xs.map enc) = some (xs.map G) := fun xs => by
    induction xs with
    | nil => intro _; rfl
    | cons x xs ih =>
      intro h
      have h1 := h x (List.mem_cons_self ..)
      rw [← ob_eq] at h1
      obtain ⟨ρ1, e1, e2⟩ := bind_some h1
      rw [List.map_cons]
      unfold lcL
      rw [e1]
      show (f ρ1).bind _ = _
      rw [e2, ih fun d hd => h d (List.mem_cons_of_mem _ hd)]
      rfl
  rw [e xs h]
  rfl
theorem lc_filt (xs : List A) (q : A → Bool) (hl : xs.length ≤ 16777216) (h : ∀ x ∈ xs, ∃ ρ1, t (enc x) ρ = some ρ1 ∧ c ρ1 = some (q x) ∧ (q x = true → f ρ1 = some (G x))) : lcK t c f ρ (some (xs.map enc)) = some (.list ((xs.filter q).map G)) := by
  unfold lcK
  show (if (xs.map enc).length ≤ sizeLine then _ else _) = _
  rw [if_pos (by rw [szl, List.length_map]; exact hl)]
  have e : ∀ xs : List A, (∀ x ∈ xs, ∃ ρ1, t (enc x) ρ = some ρ1 ∧ c ρ1 = some (q x) ∧ (q x = true → f ρ1 = some (G x))) → lcL t c f ρ (xs.map enc) = some ((xs.filter q).map G) := fun xs => by
    induction xs with
    | nil => intro _; rfl
    | cons x xs ih =>
      intro h
      obtain ⟨ρ1, e1, e2, e3⟩ := h x (List.mem_cons_self ..)
      have ih := ih fun d hd => h d (List.mem_cons_of_mem _ hd)
      rw [List.map_cons]
      unfold lcL
      rw [e1]
      show (c ρ1).bind _ = _
      rw [e2]
      cases hq : q x with
      | true =>
        rw [List.filter_cons_of_pos hq, List.map_cons]
        show (f ρ1).bind _ = _
        rw [e3 hq, ih]
        rfl
      | false =>
        rw [List.filter_cons_of_neg (by rw [hq]; exact Bool.false_ne_true)]
        exact ih
  rw [e xs h]
  rfl
/-- a loop that keeps I, the environment told by a state -/
theorem for_st {S : Type} {E : S → Env} {I : S → Prop} : ∀ (xs : List A) (s : S), (∀ x ∈ xs, ∀ s, I s → ∃ s', I s' ∧ (ob a (t (enc x) (E s)) = some (.nx (E s')) ∨ ob a (t (enc x) (E s)) = some (.ct (E s')))) → I s → ∃ s', I s' ∧ forL t a (xs.map enc) (E s) = some (.nx (E s'))
  | [], s, _, hs => ⟨s, hs, by simp⟩
  | x :: xs, s, h, hs => by
    obtain ⟨s1, h1, h2⟩ := h x (List.mem_cons_self ..) s hs
    obtain ⟨s2, h3, h4⟩ := for_st xs s1 (fun y hy => h y (List.mem_cons_of_mem _ hy)) h1
    refine ⟨s2, h3, ?_⟩
    rw [List.map_cons, forL_cons]
    rcases h2 with h2 | h2
    · rw [h2, forC_nx, h4]
    · rw [h2, forC_ct, h4]
/-- a loop told by a fold, the loop's own slot beside it; I by the turns done -/
theorem for_fold {S : Type} {E : S → Sl → Env} {step : S → A → S} {v : A → Sl} {I : Nat → S → Prop} : ∀ (xs : List A) (m k : Nat) (s : S) (u : Sl), k + xs.length ≤ m → (∀ x ∈ xs, ∀ k s u, k < m → I k s → ob a (t (enc x) (E s u)) = some (.nx (E (step s x) (v x))) ∧ I (k + 1) (step s x)) → I k s → ∃ u', forL t a (xs.map enc) (E s u) = some (.nx (E (xs.foldl step s) u')) ∧ I (k + xs.length) (xs.foldl step s)
  | [], m, k, s, u, _, _, hs => ⟨u, by simp, hs⟩
  | x :: xs, m, k, s, u, hm, h, hs => by
    rw [List.length_cons] at hm
    obtain ⟨h1, h2⟩ := h x (List.mem_cons_self ..) k s u (by omega) hs
    obtain ⟨u', h3, h4⟩ := for_fold xs m (k + 1) (step s x) (v x) (by omega) (fun y hy => h y (List.mem_cons_of_mem _ hy)) h2
    refine ⟨u', ?_, ?_⟩
    · rw [List.map_cons, forL_cons, h1, forC_nx, h3]
      rfl
    · rw [List.length_cons, show k + (xs.length + 1) = k + 1 + xs.length by omega]
      exact h4
end
/-! ints from numbers -/
def nts (f : List Nat) : List D := f.map fun (n : Nat) => PyData.int n
@[simp] theorem nts_len (f : List Nat) : (nts f).length = f.length := by unfold nts; simp
theorem nts_ints (f : List Nat) : nts f = (f.map fun (n : Nat) => (n : Int)).map PyData.int := by unfold nts; rw [List.map_map]; rfl
theorem atI_nts {f : List Nat} {i : Nat} (h : i < f.length) : atI (nts f) (i : Int) = some (.int (f.getD i 0 : Nat)) := by
  refine atI_nat ?_
  unfold nts
  rw [List.getElem?_map, List.getElem?_eq_getElem h, List.getD_eq_getElem?_getD, List.getElem?_eq_getElem h]
  rfl
theorem atI_map {A : Type} {g : A → D} {f : List A} {i : Nat} (h : i < f.length) (z : A) : atI (f.map g) (i : Int) = some (g (f.getD i z)) := by
  refine atI_nat ?_
  rw [List.getElem?_map, List.getElem?_eq_getElem h, List.getD_eq_getElem?_getD, List.getElem?_eq_getElem h]
  rfl
theorem atI_last {α : Type} {xs : List α} {x : α} (h : xs[xs.length - 1]? = some x) : atI xs (-1) = some x := by
  obtain ⟨hn, e⟩ := List.getElem?_eq_some_iff.mp h
  unfold atI ixN
  rw [if_neg (by decide), if_pos (by omega)]
  show xs[((-1 : Int) + xs.length).toNat]? = _
  rw [show ((-1 : Int) + xs.length).toNat = xs.length - 1 by omega]
  exact h
theorem rngN (m n : Nat) : rng (m : Int) n = ((List.range n).map (m + ·)).map fun (i : Nat) => PyData.int i := by
  unfold rng
  rw [List.map_map]
  refine List.map_congr_left fun i _ => ?_
  show PyData.int _ = PyData.int _
  congr 1
theorem rng0N (n : Nat) : rng 0 n = (List.range n).map fun (i : Nat) => PyData.int i := by
  unfold rng
  refine List.map_congr_left fun i _ => ?_
  show PyData.int _ = PyData.int _
  congr 1
  omega

/-! slices -/
section
variable {ρ : Env} {f : Ev} {lo hi : Eo} {ds : List D}
def slK (k : D → Option Int → Option Int → Option D) : Option D → Option (Option Int) → Option (Option Int) → Option D
  | some x, some l, some h => k x l h
  | _, _, _ => none
@[simp] theorem sl_at {k : D → Option Int → Option Int → Option D} : sl k f lo hi ρ = slK k (f ρ) (lo ρ) (hi ρ) := by
  unfold sl slK
  cases f ρ <;> cases lo ρ <;> cases hi ρ <;> rfl
@[simp] theorem slK_some {k : D → Option Int → Option Int → Option D} {x : D} {l h : Option Int} : slK k (some x) (some l) (some h) = k x l h := id rfl
@[simp] theorem noPart_at : noPart ρ = some none := id rfl
@[simp] theorem part_at : part f ρ = ob intOf (f ρ) := ob_eq
@[simp] theorem intOf_i {i : Int} : intOf (.int i) = some (some i) := id rfl
@[simp] theorem slD_t {l h : Option Int} : slD (.tuple ds) l h = some (.tuple (cutD ds l h)) := id rfl
@[simp] theorem slL_l {l h : Option Int} : slL (.list ds) l h = some (.list (cutD ds l h)) := id rfl
theorem six_n {n d : Nat} : HT.sIx n d none = d := rfl
theorem six_p {n d : Nat} {k : Int} (h : 0 ≤ k) : HT.sIx n d (some k) = min k.toNat n := by
  show (if k < 0 then _ else _) = _
  rw [if_neg (by omega)]
theorem six_m {n d : Nat} {k : Int} (h : k < 0) : HT.sIx n d (some k) = (k + (n : Int)).toNat := by
  show (if k < 0 then _ else _) = _
  rw [if_pos h]
theorem take_min {k n : Nat} (h : n = ds.length) : ds.take (min k n) = ds.take k := by
  subst h
  by_cases c : k ≤ ds.length
  · rw [Nat.min_eq_left c]
  · rw [Nat.min_eq_right (by omega), List.take_of_length_le (by omega), List.take_of_length_le (by omega)]
theorem cut_to {k : Int} (h : 0 ≤ k) : cutD ds none (some k) = ds.take k.toNat := by
  unfold cutD
  rw [six_n, six_p h, List.drop_zero, Nat.sub_zero, take_min rfl]
theorem cut_from {k : Int} (h : 0 ≤ k) : cutD ds (some k) none = ds.drop k.toNat := by
  unfold cutD
  rw [six_n, six_p h]
  by_cases c : k.toNat ≤ ds.length
  · rw [Nat.min_eq_left c]
    exact List.take_of_length_le (by simp)
  · rw [Nat.min_eq_right (by omega), List.drop_eq_nil_of_le (by omega), List.drop_eq_nil_of_le (by omega)]
    simp
theorem cut_all : cutD ds none none = ds := by
  unfold cutD
  rw [six_n, six_n, List.drop_zero, Nat.sub_zero]
  exact List.take_length ..
theorem cut_back {k : Int} (h : 0 < k) : cutD ds none (some (-k)) = ds.take (ds.length - k.toNat) := by
  unfold cutD
  rw [six_n, six_m (by omega), List.drop_zero, Nat.sub_zero]
  congr 1
  omega
theorem cut_mid {j k : Int} (h : 0 ≤ j) (h2 : 0 ≤ k) : cutD ds (some j) (some k) = (ds.drop j.toNat).take (k.toNat - j.toNat) := by
  unfold cutD
  rw [six_p h, six_p h2]
  by_cases c : j.toNat ≤ ds.length
  · rw [Nat.min_eq_left c]
    by_cases c2 : k.toNat ≤ ds.length
    · rw [Nat.min_eq_left c2]
    · rw [Nat.min_eq_right (by omega), List.take_of_length_le (by simp), List.take_of_length_le (by rw [List.length_drop]; omega)]
  · rw [Nat.min_eq_right (show ds.length ≤ j.toNat by omega), List.drop_eq_nil_of_le (by omega), List.drop_eq_nil_of_le (by omega)]
    simp
end
end Pu

set_option Elab.async false
set_option linter.all false
set_option maxRecDepth 100000
namespace Pu
open PySem PySem.Spec PyProof.Rows L2

/-! ### comprehensions of two clauses -/
def hideS : Sl → Sl
  | .ow _ => .no
  | s => s
def hideE (ρ : Env) : Env := ρ.map hideS
theorem hide_get {ρ : Env} {i : Nat} {s : Sl} (h : (hideE ρ)[i]? = some s) : (∀ d, s ≠ .ow d) ∧ ∀ d, s = .sh d → ρ[i]? = some (.sh d) := by
  unfold hideE at h
  rw [List.getElem?_map] at h
  obtain ⟨u, e1, e2⟩ := Option.map_eq_some_iff.mp h
  subst e2
  refine ⟨fun d e => ?_, fun d e => ?_⟩
  · cases u <;> cases e
  · cases u with
    | sh d' => cases e; exact e1
    | no => cases e
    | ow d' => cases e
/-- an environment without owned lists stands over any change of what may change -/
theorem EnvOk.hidden {K : PySem.W.Frag} {H0 H H' : Hp} {M0 M : Addr → Prop} {ρ : Env} {σ : L2.St} (E : EnvOk K H0 M0 H M ρ σ) (mk' : MK H' M) (st : Stay H M H') (s0 : Same H0 H') : EnvOk K H0 M0 H' M (hideE ρ) σ where
  len := by unfold hideE; rw [List.length_map]; exact E.len
  same := s0
  mkh0 := E.mkh0
  sub := E.sub
  mkh := mk'
  sh := fun i d h => by
    obtain ⟨v, e, r⟩ := E.sh i d ((hide_get h).2 d rfl)
    exact ⟨v, e, r.stay E.mkh st .refl⟩
  ow := fun i d h => absurd rfl ((hide_get h).1 d)
  ap := fun i j d d' a h => absurd rfl ((hide_get h).1 d)
def lc2L (t : Tg) (tt : Et) (src1 : Src) (t1 : Tg) (tt1 : Et) (f : Ev) (vs1 : List Nat) (ρ : Env) : List D → Option (List D)
  | [] => some []
  | d :: ds => (t d ρ).bind fun ρ1 => (tt ρ1).bind fun b => if b = true then (src1 ρ1).bind fun ds1 => (lcL t1 tt1 f (wipeE (hideE ρ1) vs1) ds1).bind fun xs => (lc2L t tt src1 t1 tt1 f vs1 ρ ds).bind fun ys => some (xs ++ ys) else lc2L t tt src1 t1 tt1 f vs1 ρ ds
def lc2S (src : Src) (t : Tg) (tt : Et) (src1 : Src) (t1 : Tg) (tt1 : Et) (f : Ev) (own vs1 : List Nat) : Ev := fun ρ => (src ρ).bind fun ds => (lc2L t tt src1 t1 tt1 f vs1 (wipeE ρ own) ds).bind fun xs => if xs.length ≤ sizeLine then some (.list xs) else none
theorem walk_it {J : It} {n : Nat} {G : Hp → Prop} {Y : Nat → Hp → V → Hp → Prop} (w : Walk J n G Y) {B : V → Hp → (Hp → Prop) → Prop} {Qd : Hp → Prop} {H0 : Hp} (Pv : Nat → Hp → Prop) (h0 : Pv 0 H0) (hG : ∀ i H, i ≤ n → Pv i H → G H)
    (hs : ∀ i x H H', i < n → Pv i H → Y i H x H' → B x H' (Pv (i + 1))) (hd : ∀ H, Pv n H → Qd H) :
    ∃ W : Nat → Nat → Hp → Prop, (∃ m, W 0 m H0) ∧ ∀ i m H, W i m H → (J.stop i H ∧ Qd H) ∨ (J.go i H ∧ ∃ Nx : Hp → Prop, (∀ H', Nx H' → ∃ m', m' < m ∧ W (i + 1) m' H') ∧ ∀ x H', J.yld i H x H' → B x H' Nx) := by
  refine ⟨fun i m H => m = n - i ∧ i ≤ n ∧ Pv i H, ⟨n, by simp, Nat.zero_le _, h0⟩, ?_⟩
  rintro i m H ⟨rfl, hi, p⟩
  have q := hG i H hi p
  by_cases hlt : i < n
  · exact .inr ⟨w.goes i H hlt q, Pv (i + 1), fun H' p' => ⟨n - (i + 1), by omega, rfl, hlt, p'⟩, fun x H' y => hs i x H H' hlt p (w.yields i H x H' hlt q y)⟩
  · have e : i = n := by omega
    subst e
    exact .inl ⟨w.stops H q, hd H p⟩
theorem wipe_wipe {σ : L2.St} {own : List Nat} : ∀ us : List Nat, (∀ i ∈ us, i ∈ own) → wipe (wipe σ own) us = wipe σ own := by
  intro us
  induction us with
  | nil => intro _; rfl
  | cons u us ih =>
    intro hu
    show (wipe (wipe σ own) us).set u none = wipe σ own
    rw [ih fun i hi => hu i (List.mem_cons_of_mem _ hi)]
    refine List.ext_getElem? fun j => ?_
    by_cases e : u = j
    · subst e
      by_cases hl : u < (wipe σ own).length
      · rw [List.getElem?_set_self hl]
        have gone : ∀ ws : List Nat, u ∈ ws → u < (wipe σ ws).length → (wipe σ ws)[u]? = some none := by
          intro ws
          induction ws with
          | nil => intro h; cases h
          | cons z ws ih2 =>
            intro h hl
            show ((wipe σ ws).set z none)[u]? = some none
            have hl' : u < (wipe σ ws).length := by rw [wipe_length] at hl ⊢; exact hl
            by_cases e : z = u
            · subst e; rw [List.getElem?_set_self hl']
            · rw [List.getElem?_set_ne e]
              rcases List.mem_cons.mp h with z' | z'
              · exact absurd z'.symm e
              · exact ih2 z' hl'
        exact (gone own (hu u List.mem_cons_self) hl).symm
      · rw [List.getElem?_eq_none (by simpa using hl), List.getElem?_eq_none (by simpa using hl)]
    · rw [List.getElem?_set_ne e]
theorem g_lc2 {K : PySem.W.Frag} {wi wi1 : TI} {g g1 : TG} {tt tt1 : TT} {te : TE} {own ix vs1 ix1 : List Nat} {src src1 : Src} {t t1 : Tg} {gt gt1 : Et} {f : Ev} (hi : GC K wi src) (hg : GG K g ix t) (hix : ∀ i ∈ ix, i ∈ own) (ht : GT K tt gt)
    (hi1 : GI K wi1 src1) (hg1 : GG K g1 ix1 t1) (hix1 : ∀ i ∈ ix1, i ∈ vs1) (ht1 : GT K tt1 gt1) (he : GE K te f) :
    GN K (tLc2 wi g tt wi1 g1 tt1 te own vs1) (lc2S src t gt src1 t1 gt1 f own vs1) := fun H0 M0 H M ρ σ Q d E hf q => by
  obtain ⟨ds, e1, hf⟩ := bind_some hf
  obtain ⟨fin, e2, hf⟩ := bind_some hf
  split at hf
  · rename_i hz
    cases hf
    refine hi E e1 fun J H1 s1 w A nA => ?_
    obtain ⟨G, Y, w, gG, yY⟩ := w
    have nw : New H1 M (plus M A) := new_plus nA
    have m1 := E.mkh.same s1
    have mkA : ∀ {H' : Hp} {vs : List V}, Same H1 H' → H' A = some (.lst vs) → MK H' (plus M A) := fun {H' vs} s hA a h => by
      rcases h with h | h
      · exact m1.same s a h
      · rw [h, hA]; trivial
    have envA : ∀ {H' : Hp} {vs : List V}, Same H1 H' → H' A = some (.lst vs) → EnvOk K H0 M0 H' (plus M A) (wipeE ρ own) (wipe σ own) := fun {H' vs} s hA =>
      ((E.to s1).more (mkA s hA) (fun a h => .inl h) (.of_same s) ((E.to s1).same.trans s) nw fun a h => by
        have := m1 a h
        cases e : H1 a with
        | none => rw [e] at this; exact this.elim
        | some u => exact s a u e).wiped own
    refine walk_it w (fun i H' => Same H1 H' ∧ ∃ acc rest vs, H' A = some (.lst vs) ∧ Reps K H' (plus M A) acc vs ∧ lc2L t gt src1 t1 gt1 f vs1 (wipeE ρ own) (ds.drop i) = some rest ∧ acc ++ rest = fin) ⟨same_upd nA, [], fin, [], upd_same, .nil, by rw [List.drop_zero]; exact e2, rfl⟩ ?_ ?_ ?_
    · rintro i H' hi ⟨s, acc, rest, vs, hA, _⟩
      exact gG H' _ ⟨s, nw⟩ (mkA s hA)
    · rintro i x H' H2 hi ⟨s, acc, rest, vs, hA, r, e3, e4⟩ y
      have E' := envA s hA
      obtain ⟨s2, rr⟩ := yY i H' x H2 _ hi ⟨s, nw⟩ E'.mkh y
      rw [List.drop_eq_getElem_cons hi] at e3
      obtain ⟨ρ1, e5, e3⟩ := bind_some e3
      obtain ⟨b, e6, e3⟩ := bind_some e3
      refine hg (E'.to s2) (rr _ (List.getElem?_eq_getElem hi)) e5 fun σ3 E3 hw => ⟨?_, ht E3 e6 fun H3 s3 => ?_⟩
      · rw [hw own hix]
        exact wipe_wipe own fun i hi => hi
      · have sA3 := s.trans (s2.trans s3)
        have hA3 : H3 A = some (.lst vs) := s3 _ _ (s2 _ _ hA)
        have r3 := (r.same E'.mkh s2).same (E'.mkh.same s2) s3
        cases b with
        | false =>
          rw [if_neg Bool.false_ne_true] at e3 ⊢
          exact ⟨sA3, acc, rest, vs, hA3, r3, e3, e4⟩
        | true =>
          rw [if_pos rfl] at e3 ⊢
          obtain ⟨ds1, e7, e3⟩ := bind_some e3
          obtain ⟨xs, e8, e3⟩ := bind_some e3
          obtain ⟨ys, e9, e3⟩ := bind_some e3
          cases e3
          refine hi1 (E3.to s3) e7 fun J1 H4 s4 w1 => ?_
          obtain ⟨G1, Y1, w1, gG1, yY1⟩ := w1
          have hA4 : H4 A = some (.lst vs) := s4 _ _ hA3
          have sA4 := sA3.trans s4
          have E4 := (E3.to s3).to s4
          have r4 := r3.same (E3.to s3).mkh s4
          have nAH : ∀ {b : Addr} {o : HO}, H1 b = some o → b ≠ A := fun h => ne_of_none h nA
          refine walk_it w1 (fun j H' => Stay H4 (plus M A) H' ∧ Same H1 H' ∧ ∃ acc1 rest1 vs, H' A = some (.lst vs) ∧ Reps K H' (plus M A) (acc ++ acc1) vs ∧ lcL t1 gt1 f (wipeE (hideE ρ1) vs1) (ds1.drop j) = some rest1 ∧ acc1 ++ rest1 = xs) ⟨fun a o h _ => h, sA4, [], xs, vs, hA4, by rw [List.append_nil]; exact r4, by rw [List.drop_zero]; exact e8, rfl⟩ ?_ ?_ ?_
          · rintro j H' hj ⟨st, sm, acc1, rest1, vs, hA, _⟩
            exact gG1 H' _ ⟨st, .refl⟩ (mkA sm hA)
          · rintro j x H5 H6 hj ⟨st, sm, acc1, rest1, vs', hA5, r5, f3, f4⟩ y
            have mk5 := mkA sm hA5
            have E5 : EnvOk K H0 M0 H5 (plus M A) (wipeE (hideE ρ1) vs1) (wipe σ3 vs1) := (E4.hidden mk5 st ((E.to s1).same.trans sm)).wiped vs1
            obtain ⟨s6, rr6⟩ := yY1 j H5 x H6 _ hj ⟨st, .refl⟩ mk5 y
            rw [List.drop_eq_getElem_cons hj] at f3
            obtain ⟨ρ2, f5, f3⟩ := bind_some f3
            obtain ⟨b, f6, f3⟩ := bind_some f3
            refine hg1 (E5.to s6) (rr6 _ (List.getElem?_eq_getElem hj)) f5 fun σ7 E7 hw7 => ⟨?_, ht1 E7 f6 fun H7 s7 => ?_⟩
            · rw [hw7 vs1 hix1]
              exact wipe_wipe vs1 fun i hi => hi
            · have hA7 : H7 A = some (.lst vs') := s7 _ _ (s6 _ _ hA5)
              have r7 := (r5.same mk5 s6).same (mk5.same s6) s7
              have st7 : Stay H4 (plus M A) H7 := fun a o h n => s7 _ _ (s6 _ _ (st a o h n))
              have sm7 := sm.trans (s6.trans s7)
              cases b with
              | false =>
                rw [if_neg Bool.false_ne_true] at f3 ⊢
                exact ⟨st7, sm7, acc1, rest1, vs', hA7, r7, f3, f4⟩
              | true =>
                rw [if_pos rfl] at f3 ⊢
                obtain ⟨z, f7, f3⟩ := bind_some f3
                obtain ⟨rest', f8, f3⟩ := bind_some f3
                cases f3
                refine he (E7.to s7) f7 fun u H8 s8 r8 => ⟨vs', s8 _ _ hA7, ?_, ?_⟩
                · have hl := r7.length
                  have : fin.length = (acc ++ ((acc1 ++ z :: rest') ++ ys)).length := by rw [← e4, f4]
                  simp only [List.length_append, List.length_cons] at this hl
                  omega
                · have m8 := (E7.to s7).mkh.same s8
                  have stay : Stay H8 (plus M A) (upd H8 A (.lst (vs' ++ [u]))) := fun b o hb nb => by rw [upd_ne (fun z => nb (.inr z))]; exact hb
                  refine ⟨fun a o h n => stay _ _ (s8 _ _ (st7 a o h n)) n, fun b o hb => ?_, acc1 ++ [z], rest', vs' ++ [u], upd_same, ?_, f8, by rw [List.append_assoc]; exact f4⟩
                  · rw [upd_ne (nAH hb)]
                    exact s8 b o (sm7 b o hb)
                  · rw [← List.append_assoc]
                    exact ((r7.same (E7.to s7).mkh s8).append (.cons r8 .nil)).stay m8 stay .refl
          · rintro H' ⟨st, sm, acc1, rest1, vs', hA', r', f3, f4⟩
            rw [List.drop_length] at f3
            cases f3
            rw [List.append_nil] at f4
            subst f4
            exact ⟨sm, acc ++ acc1, ys, vs', hA', r', e9, by rw [List.append_assoc]; exact e4⟩
    · rintro H' ⟨s, acc, rest, vs, hA, r, e3, e4⟩
      rw [List.drop_length] at e3
      cases e3
      rw [List.append_nil] at e4
      subst e4
      exact q A H' (s1.free nA) (s1.trans s) ⟨vs, hA, r⟩
  · cases hf
section
variable {X : Cx}
theorem m_lc2 {elt tg iter tg1 iter1 : Expr} {ifs ifs1 : List Expr} {scope : Scope} {own : List (Str × Nat)} {vs1 : List Nat} {pos : Pos} {wi : TI} {wi1 : BA TI} {g g1 : BA TG} {tt tt1 : BA TT} {te : BA TE} {src src1 : Src} {ix ix1 : List Nat} {t t1 : Tg} {gt gt1 : Et} {f : Ev} (hc : X.calm = true) (hN : X.N.Nodup) (hi : EC X tg iter wi src) (ok : blkC X.N X.env.scope scope own = true)
    (hg : BlkA X scope fun Y s H C cl fp => EG Y tg (g s H C cl fp) ix t) (ht : BlkA X scope fun Y s H C cl fp => PTsE Y ifs (tt s H C cl fp) gt)
    (hi1 : BlkA X scope fun Y s H C cl fp => EI Y tg1 iter1 (wi1 s H C cl fp) src1)
    (hg1 : BlkA X scope fun Y s H C cl fp => EG Y tg1 (g1 s H C cl fp) ix1 t1) (ht1 : BlkA X scope fun Y s H C cl fp => PTsE Y ifs1 (tt1 s H C cl fp) gt1)
    (he : BlkA X scope fun Y s H C cl fp => EE Y elt (te s H C cl fp) f)
    (hv : ∀ i ∈ vs1, i ∈ own.map (·.2) := by decide)
    (sg : Still X g := by exact fun _ _ _ _ _ => rfl) (st : Still X tt := by exact fun _ _ _ _ _ => rfl) (si1 : Still X wi1 := by exact fun _ _ _ _ _ => rfl) (sg1 : Still X g1 := by exact fun _ _ _ _ _ => rfl) (st1 : Still X tt1 := by exact fun _ _ _ _ _ => rfl) (se : Still X te := by exact fun _ _ _ _ _ => rfl)
    (hix : ∀ i ∈ ix, i ∈ own.map (·.2) := by decide) (hix1 : ∀ i ∈ ix1, i ∈ vs1 := by decide) (hs : ∀ x, foldedSetIterable iter X.env x = pure x := by intro _; rfl) (hs1 : ∀ env x, foldedSetIterable iter1 env x = pure x := by intro _ _; rfl) :
    EN X (.ListComp elt [⟨tg, iter, ifs, 0⟩, ⟨tg1, iter1, ifs1, 0⟩] scope pos) (tLc2 wi (at0 X g) (at0 X tt) (at0 X wi1) (at0 X g1) (at0 X tt1) (at0 X te) (own.map (·.2)) vs1) (lc2S src t gt src1 t1 gt1 f (own.map (·.2)) vs1) :=
  ⟨pe_lc2 hc hN hi.pi (blkOk_by ok) hv (fun s H C cl fp => sg s H C cl fp ▸ (hg s H C cl fp).pg) (fun s H C cl fp => st s H C cl fp ▸ (ht s H C cl fp).pts) (fun s H C cl fp => si1 s H C cl fp ▸ (hi1 s H C cl fp).pi) (fun s H C cl fp => sg1 s H C cl fp ▸ (hg1 s H C cl fp).pg) (fun s H C cl fp => st1 s H C cl fp ▸ (ht1 s H C cl fp).pts) (fun s H C cl fp => se s H C cl fp ▸ (he s H C cl fp).pe) hs hs1,
    g_lc2 hi.g (hg X.s_0 X.H_0 0 [] []).g hix (ht X.s_0 X.H_0 0 [] []).g (hi1 X.s_0 X.H_0 0 [] []).g (hg1 X.s_0 X.H_0 0 [] []).g hix1 (ht1 X.s_0 X.H_0 0 [] []).g (he X.s_0 X.H_0 0 [] []).g⟩
theorem sm_lc2 (i : Nat) {y : Str} {py : Pos} {elt tg iter tg1 iter1 : Expr} {ifs ifs1 : List Expr} {scope : Scope} {own : List (Str × Nat)} {vs1 : List Nat} {pos spos : Pos} {wi : TI} {wi1 : BA TI} {g g1 : BA TG} {tt tt1 : BA TT} {te : BA TE} {src src1 : Src} {ix ix1 : List Nat} {t t1 : Tg} {gt gt1 : Et} {f : Ev} (hc : X.calm = true) (hN : X.N.Nodup) (hi : EC X tg iter wi src) (ok : blkC X.N X.env.scope scope own = true)
    (hg : BlkA X scope fun Y s H C cl fp => EG Y tg (g s H C cl fp) ix t) (ht : BlkA X scope fun Y s H C cl fp => PTsE Y ifs (tt s H C cl fp) gt)
    (hi1 : BlkA X scope fun Y s H C cl fp => EI Y tg1 iter1 (wi1 s H C cl fp) src1)
    (hg1 : BlkA X scope fun Y s H C cl fp => EG Y tg1 (g1 s H C cl fp) ix1 t1) (ht1 : BlkA X scope fun Y s H C cl fp => PTsE Y ifs1 (tt1 s H C cl fp) gt1)
    (he : BlkA X scope fun Y s H C cl fp => EE Y elt (te s H C cl fp) f)
    (hv : ∀ i ∈ vs1, i ∈ own.map (·.2) := by decide) (hy : X.N[i]? = some y := by rfl) (hyl : X.env.scope.names.lookup y = some .local := by rfl)
    (hsw : swapsWith (.ListComp elt [⟨tg, iter, ifs, 0⟩, ⟨tg1, iter1, ifs1, 0⟩] scope pos) (some (.Name y py)) spos.line X.env = pure true := by exact sw_true rfl rfl rfl (by decide +kernel))
    (sg : Still X g := by exact fun _ _ _ _ _ => rfl) (st : Still X tt := by exact fun _ _ _ _ _ => rfl) (si1 : Still X wi1 := by exact fun _ _ _ _ _ => rfl) (sg1 : Still X g1 := by exact fun _ _ _ _ _ => rfl) (st1 : Still X tt1 := by exact fun _ _ _ _ _ => rfl) (se : Still X te := by exact fun _ _ _ _ _ => rfl)
    (hix : ∀ i ∈ ix, i ∈ own.map (·.2) := by decide) (hix1 : ∀ i ∈ ix1, i ∈ vs1 := by decide) (hs : ∀ x, foldedSetIterable iter X.env x = pure x := by intro _; rfl) (hs1 : ∀ env x, foldedSetIterable iter1 env x = pure x := by intro _ _; rfl) :
    SS X (.Assign [.Name y py] (.ListComp elt [⟨tg, iter, ifs, 0⟩, ⟨tg1, iter1, ifs1, 0⟩] scope pos) spos) (tAsg (tLc2 wi (at0 X g) (at0 X tt) (at0 X wi1) (at0 X g1) (at0 X tt1) (at0 X te) (own.map (·.2)) vs1) (gName i)) (ownS i (lc2S src t gt src1 t1 gt1 f (own.map (·.2)) vs1)) :=
  ⟨ps_setLc2 hc hN hy hyl hsw hi.pi (blkOk_by ok) hv (fun s H C cl fp => sg s H C cl fp ▸ (hg s H C cl fp).pg) (fun s H C cl fp => st s H C cl fp ▸ (ht s H C cl fp).pts) (fun s H C cl fp => si1 s H C cl fp ▸ (hi1 s H C cl fp).pi) (fun s H C cl fp => sg1 s H C cl fp ▸ (hg1 s H C cl fp).pg) (fun s H C cl fp => st1 s H C cl fp ▸ (ht1 s H C cl fp).pts) (fun s H C cl fp => se s H C cl fp ▸ (he s H C cl fp).pe) hs hs1,
    g_own (m_lc2 (pos := pos) hc hN hi ok hg ht hi1 hg1 ht1 he hv sg st si1 sg1 st1 se hix hix1 hs hs1).g⟩
theorem sm_lc2S (i : Nat) {y : Str} {py : Pos} {elt tg iter tg1 iter1 : Expr} {ifs ifs1 : List Expr} {scope : Scope} {own : List (Str × Nat)} {vs1 : List Nat} {pos spos : Pos} {wi : TI} {wi1 : BA TI} {g g1 : BA TG} {tt tt1 : BA TT} {te : BA TE} {src src1 : Src} {ix ix1 : List Nat} {t t1 : Tg} {gt gt1 : Et} {f : Ev} (hc : X.calm = true) (hN : X.N.Nodup) (hi : EC X tg iter wi src) (ok : blkC X.N X.env.scope scope own = true)
    (hg : BlkA X scope fun Y s H C cl fp => EG Y tg (g s H C cl fp) ix t) (ht : BlkA X scope fun Y s H C cl fp => PTsE Y ifs (tt s H C cl fp) gt)
    (hi1 : BlkA X scope fun Y s H C cl fp => EI Y tg1 iter1 (wi1 s H C cl fp) src1)
    (hg1 : BlkA X scope fun Y s H C cl fp => EG Y tg1 (g1 s H C cl fp) ix1 t1) (ht1 : BlkA X scope fun Y s H C cl fp => PTsE Y ifs1 (tt1 s H C cl fp) gt1)
    (he : BlkA X scope fun Y s H C cl fp => EE Y elt (te s H C cl fp) f)
    (hv : ∀ i ∈ vs1, i ∈ own.map (·.2) := by decide) (hy : X.N[i]? = some y := by rfl) (hyl : X.env.scope.names.lookup y = some .local := by rfl)
    (hsw : swapsWith (.ListComp elt [⟨tg, iter, ifs, 0⟩, ⟨tg1, iter1, ifs1, 0⟩] scope pos) (some (.Name y py)) spos.line X.env = pure true := by exact sw_true rfl rfl rfl (by decide +kernel))
    (sg : Still X g := by exact fun _ _ _ _ _ => rfl) (st : Still X tt := by exact fun _ _ _ _ _ => rfl) (si1 : Still X wi1 := by exact fun _ _ _ _ _ => rfl) (sg1 : Still X g1 := by exact fun _ _ _ _ _ => rfl) (st1 : Still X tt1 := by exact fun _ _ _ _ _ => rfl) (se : Still X te := by exact fun _ _ _ _ _ => rfl)
    (hix : ∀ i ∈ ix, i ∈ own.map (·.2) := by decide) (hix1 : ∀ i ∈ ix1, i ∈ vs1 := by decide) (hs : ∀ x, foldedSetIterable iter X.env x = pure x := by intro _; rfl) (hs1 : ∀ env x, foldedSetIterable iter1 env x = pure x := by intro _ _; rfl) :
    SS X (.Assign [.Name y py] (.ListComp elt [⟨tg, iter, ifs, 0⟩, ⟨tg1, iter1, ifs1, 0⟩] scope pos) spos) (tAsg (tLc2 wi (at0 X g) (at0 X tt) (at0 X wi1) (at0 X g1) (at0 X tt1) (at0 X te) (own.map (·.2)) vs1) (gName i)) (setS i (lc2S src t gt src1 t1 gt1 f (own.map (·.2)) vs1)) :=
  ⟨(sm_lc2 i (py := py) (spos := spos) (pos := pos) hc hN hi ok hg ht hi1 hg1 ht1 he hv hy hyl hsw sg st si1 sg1 st1 se hix hix1 hs hs1).ps,
    g_set (m_lc2 (pos := pos) hc hN hi ok hg ht hi1 hg1 ht1 he hv sg st si1 sg1 st1 se hix hix1 hs hs1).g.still⟩
end
end Pu

set_option Elab.async false
set_option linter.all false
set_option maxRecDepth 100000
namespace Pu
open PySem PySem.Spec PyProof.Rows L2

/-! ### x, y = a, b where some of the two are new lists that the names own -/
section
variable {K : PySem.W.Frag} {H0 : Hp} {M0 : Addr → Prop} {H H' : Hp} {M M2 : Addr → Prop} {ρ : Env} {σ : L2.St}
/-- a new list at p, seen free at E, is put to a slot later -/
theorem EnvOk.ownL (E : EnvOk K H0 M0 H M ρ σ) {i : Nat} {d : D} {p : Addr} (np : H p = none) (E' : EnvOk K H0 M0 H' M2 ρ σ) (mp : M2 p) (o : Own K H' M2 d p) : EnvOk K H0 M0 H' M2 (ρ.set i (.ow d)) (σ.set i (some (.ref p))) := by
  have n0 : H0 p = none := E.same.free np
  refine ⟨by simp [E.len], E'.same, E.mkh0, E'.sub, E'.mkh, fun j d' h => ?_, fun j d' h => ?_, fun j l d1 d2 a h1 h2 h3 h4 => ?_⟩
  · rcases get_set_sl h with ⟨_, e2, _⟩ | ⟨e, h⟩
    · cases e2
    · obtain ⟨u, h1, h2⟩ := E'.sh j d' h
      exact ⟨u, by rw [List.getElem?_set_ne (Ne.symm e)]; exact h1, h2⟩
  · rcases get_set_sl h with ⟨e, e2, hl⟩ | ⟨e, h⟩
    · subst e
      injection e2 with e2
      subst e2
      exact ⟨p, by rw [List.getElem?_set_self (by rw [← E.len]; exact hl)], mp, n0, o⟩
    · obtain ⟨u, h1, h2⟩ := E'.ow j d' h
      exact ⟨u, by rw [List.getElem?_set_ne (Ne.symm e)]; exact h1, h2⟩
  · have none_at : ∀ (j : Nat) d', ρ[j]? = some (.ow d') → σ[j]? ≠ some (some (.ref p)) := fun j d' h z => by
      obtain ⟨u, e1, m, _, o'⟩ := E.ow j d' h
      rw [e1] at z
      cases z
      exact E.mkh.some m np
    rcases get_set_sl h1 with ⟨e, _, hl⟩ | ⟨e, h1⟩
    · subst e
      rw [List.getElem?_set_self (by rw [← E.len]; exact hl)] at h3
      cases h3
      rcases get_set_sl h2 with ⟨e', _, _⟩ | ⟨e', h2⟩
      · exact e'.symm
      · rw [List.getElem?_set_ne (Ne.symm e')] at h4
        exact absurd h4 (none_at l _ h2)
    · rw [List.getElem?_set_ne (Ne.symm e)] at h3
      rcases get_set_sl h2 with ⟨e', _, hl⟩ | ⟨e', k2⟩
      · have nj := none_at j _ h1
        rw [e', List.getElem?_set_self (by rw [← E.len]; exact hl)] at h4
        cases h4
        exact absurd h3 nj
      · rw [List.getElem?_set_ne (Ne.symm e')] at h4
        exact E.ap j l d1 d2 a h1 k2 h3 h4
theorem EnvOk.plus (E : EnvOk K H0 M0 H M ρ σ) {p : Addr} {d : D} (np : H p = none) (s : Same H H') (o : Own K H' (Pu.plus M p) d p) : EnvOk K H0 M0 H' (Pu.plus M p) ρ σ := by
  have mk' : MK H' (Pu.plus M p) := fun a h => by
    rcases h with h | h
    · exact E.mkh.same s a h
    · rw [h]; exact o.mutk
  exact E.more mk' (fun a h => .inl h) (.of_same s) (E.same.trans s) (new_plus np) fun a h => by
    have := E.mkh a h
    cases e : H a with
    | none => rw [e] at this; exact this.elim
    | some u => exact s a u e
end
/-- a value, or a new list -/
structure MM (X : Cx) (e : Expr) (t : TE) (o : Bool) (f : Ev) : Prop where
  pe : PE X e t
  g : match o with
    | true => GN X.K t f
    | false => GE X.K t f
theorem MM.e {X : Cx} {e : Expr} {t : TE} {f : Ev} (h : EE X e t f) : MM X e t false f := ⟨h.pe, h.g⟩
theorem MM.n {X : Cx} {e : Expr} {t : TE} {f : Ev} (h : EN X e t f) : MM X e t true f := ⟨h.pe, h.g⟩
def slOf (o : Bool) (d : D) : Sl := match o with
  | true => .ow d
  | false => .sh d
def parM (i j : Nat) (o o' : Bool) (f g : Ev) : Eg := fun ρ => (f ρ).bind fun d => (g ρ).bind fun d' => some (.nx ((ρ.set i (slOf o d)).set j (slOf o' d')))
theorem s_parM (i j : Nat) {x y : Str} {a b : Expr} {ta tb : TE} {o o' : Bool} {f g : Ev} {px py pt : Pos} {kt k2 : Nat} {pt2 pos : Pos} {X : Cx} (hc : X.calm = true) (hN : X.N.Nodup) (ha : MM X a ta o f) (hb : MM X b tb o' g) (hi : X.N[i]? = some x := by rfl) (hj : X.N[j]? = some y := by rfl) (hij : i ≠ j := by decide)
    (hx : X.env.scope.names.lookup x = some .local := by rfl) (hy : X.env.scope.names.lookup y = some .local := by rfl)
    (hw : swappedStores [.Tuple [.Name x px, .Name y py] kt pt] (.Tuple [a, b] k2 pt2) X.env = pure (some [x, y]) := by rfl)
    (hs : swapsWithSole [.Tuple [.Name x px, .Name y py] kt pt] (.Tuple [a, b] k2 pt2) pos.line X.env = pure false := by rfl)
    (na : starEach [a, b] X.env = (false, eval a X.env) :: starEach [b] X.env := by rfl) (nb : starEach [b] X.env = (false, eval b X.env) :: starEach [] X.env := by rfl) :
    SS X (.Assign [.Tuple [.Name x px, .Name y py] kt pt] (.Tuple [a, b] k2 pt2) pos) (tPar i j (tCons ta (tCons tb tNil))) (parM i j o o' f g) := ⟨ps_par hc hN hi hj hij hx hy (pa_cons ha.pe (pa_cons hb.pe pa_nil nb) na) hw hs, fun H0 M0 H M ρ σ D out E hf q => by
  obtain ⟨d, e1, hf⟩ := bind_some hf
  obtain ⟨d', e2, hf⟩ := bind_some hf
  cases hf
  obtain ⟨pa, ga⟩ := ha
  obtain ⟨pb, gb⟩ := hb
  show ta σ H fun x H1 => tb σ H1 fun y H2 => _
  cases o with
  | false =>
    refine ga E e1 fun v H1 s1 r1 => ?_
    have E1 := E.to s1
    cases o' with
    | false =>
      refine gb E1 e2 fun v' H2 s2 r2 => ?_
      exact ⟨_, _, rfl, q _ H2 M (.of_same (s1.trans s2)) (((E1.to s2).put (r1.same E1.mkh s2)).put r2)⟩
    | true =>
      refine gb E1 e2 fun p H2 np s2 o2 => ?_
      have E2 := E1.plus np s2 o2
      have r1' : Rep X.K H2 (plus M p) d v := r1.stay E1.mkh (.of_same s2) (new_plus np)
      have st : Step H M H2 (plus M p) := (Step.of_same s1).trans ⟨.of_same s2, new_plus np⟩
      exact ⟨_, _, rfl, q _ H2 _ st ((E1.put r1).ownL np (E2.put r1') (.inr rfl) o2)⟩
  | true =>
    refine ga E e1 fun p H1 np s1 o1 => ?_
    have E1 := E.plus np s1 o1
    have st1 : Step H M H1 (plus M p) := ⟨.of_same s1, new_plus np⟩
    cases o' with
    | false =>
      refine gb E1 e2 fun v' H2 s2 r2 => ?_
      have E2 := E1.to s2
      exact ⟨_, _, rfl, q _ H2 _ (st1.trans (.of_same s2)) ((E.ownL np E2 (.inr rfl) (o1.same E1.mkh s2)).put r2)⟩
    | true =>
      refine gb E1 e2 fun p' H2 np' s2 o2 => ?_
      have E2 := E1.plus np' s2 o2
      have o1' : Own X.K H2 (plus (plus M p) p') d p := o1.stay E1.mkh (.of_same s2) (new_plus np') (by
        have := o1.mutk
        cases e : H1 p with
        | none => rw [e] at this; exact this.elim
        | some u => exact s2 p u e)
      have F1 : EnvOk X.K H0 M0 H1 (plus M p) (ρ.set i (.ow d)) (σ.set i (some (.ref p))) := E.ownL np E1 (.inr rfl) o1
      have F2 : EnvOk X.K H0 M0 H2 (plus (plus M p) p') (ρ.set i (.ow d)) (σ.set i (some (.ref p))) := E.ownL np E2 (.inl (.inr rfl)) o1'
      exact ⟨_, _, rfl, q _ H2 _ (st1.trans ⟨.of_same s2, new_plus np'⟩) (F1.ownL np' F2 (.inr rfl) o2)⟩⟩
@[simp] theorem parM_at {i j : Nat} {o o' : Bool} {f g : Ev} {ρ : Env} {x y : D} (h : f ρ = some x) (h' : g ρ = some y) : parM i j o o' f g ρ = some (.nx ((ρ.set i (slOf o x)).set j (slOf o' y))) := by unfold parM; rw [h, h']; rfl
@[simp] theorem slOf_t {d : D} : slOf true d = .ow d := id rfl
@[simp] theorem slOf_f {d : D} : slOf false d = .sh d := id rfl
/-! comprehensions of two clauses, reckoned -/
def lc2K (t : Tg) (c : Et) (src1 : Src) (t1 : Tg) (c1 : Et) (f : Ev) (vs1 : List Nat) (ρ : Env) : Option (List D) → Option D
  | some ds => (lc2L t c src1 t1 c1 f vs1 ρ ds).bind fun xs => if xs.length ≤ sizeLine then some (.list xs) else none
  | none => none
@[simp] theorem lc2S_at {src src1 : Src} {t t1 : Tg} {c c1 : Et} {f : Ev} {own vs1 : List Nat} {ρ : Env} : lc2S src t c src1 t1 c1 f own vs1 ρ = lc2K t c src1 t1 c1 f vs1 (wipeE ρ own) (src ρ) := by
  unfold lc2S lc2K; cases src ρ <;> rfl
theorem lc2_flat {A B : Type} {t t1 : Tg} {c1 : Et} {src1 : Src} {f : Ev} {vs1 : List Nat} {ρ : Env} {enc : A → D} (xs : List A) (L : A → List D) (hl : (xs.flatMap L).length ≤ 16777216)
    (h : ∀ x ∈ xs, ∃ ρ1 ds1, t (enc x) ρ = some ρ1 ∧ src1 ρ1 = some ds1 ∧ lcL t1 c1 f (wipeE (hideE ρ1) vs1) ds1 = some (L x)) : lc2K t yes src1 t1 c1 f vs1 ρ (some (xs.map enc)) = some (.list (xs.flatMap L)) := by
  have e : ∀ xs : List A, (∀ x ∈ xs, ∃ ρ1 ds1, t (enc x) ρ = some ρ1 ∧ src1 ρ1 = some ds1 ∧ lcL t1 c1 f (wipeE (hideE ρ1) vs1) ds1 = some (L x)) → lc2L t yes src1 t1 c1 f vs1 ρ (xs.map enc) = some (xs.flatMap L) := fun xs => by
    induction xs with
    | nil => intro _; rfl
    | cons x xs ih =>
      intro h
      obtain ⟨ρ1, ds1, e1, e2, e3⟩ := h x (List.mem_cons_self ..)
      have ih := ih fun d hd => h d (List.mem_cons_of_mem _ hd)
      rw [List.map_cons, List.flatMap_cons]
      unfold lc2L
      rw [e1]
      show (src1 ρ1).bind _ = _
      rw [e2]
      show (lcL t1 c1 f (wipeE (hideE ρ1) vs1) ds1).bind _ = _
      rw [e3, ih]
      rfl
  unfold lc2K
  show (lc2L t yes src1 t1 c1 f vs1 ρ (xs.map enc)).bind _ = _
  rw [e xs h]
  exact if_pos hl
/-- a loop that keeps I, by the turns done -/
theorem for_stN {A S : Type} {t : Tg} {a : Eg} {enc : A → D} {E : S → Env} {I : Nat → S → Prop} (ys : List A) (h : ∀ k x s, ys[k]? = some x → I k s → ∃ s', I (k + 1) s' ∧ (ob a (t (enc x) (E s)) = some (.nx (E s')) ∨ ob a (t (enc x) (E s)) = some (.ct (E s')))) (s : S) (h0 : I 0 s) : ∃ s', I ys.length s' ∧ forL t a (ys.map enc) (E s) = some (.nx (E s')) := by
  have key : ∀ (n k : Nat) (s : S), k + n = ys.length → I k s → ∃ s', I ys.length s' ∧ forL t a ((ys.drop k).map enc) (E s) = some (.nx (E s')) := by
    intro n
    induction n with
    | zero =>
      intro k s hk hs
      have : k = ys.length := by omega
      subst this
      exact ⟨s, hs, by rw [List.drop_length, List.map_nil, forL_nil]⟩
    | succ n ih =>
      intro k s hk hs
      have hlt : k < ys.length := by omega
      obtain ⟨s1, h1, h2⟩ := h k ys[k] s (List.getElem?_eq_getElem hlt) hs
      obtain ⟨s2, h3, h4⟩ := ih (k + 1) s1 (by omega) h1
      refine ⟨s2, h3, ?_⟩
      rw [List.drop_eq_getElem_cons hlt, List.map_cons, forL_cons]
      rcases h2 with h2 | h2
      · rw [h2, forC_nx, h4]
      · rw [h2, forC_ct, h4]
  exact key ys.length 0 s (by omega) h0
theorem ri_get {m k : Nat} {x : Int} (h : (ri m)[k]? = some x) : x = k ∧ k < m := by
  unfold ri at h
  rw [List.getElem?_map] at h
  obtain ⟨i, h1, h2⟩ := Option.map_eq_some_iff.mp h
  obtain ⟨hk, e⟩ := List.getElem?_eq_some_iff.mp h1
  rw [List.getElem_range] at e
  subst e
  exact ⟨h2.symm, by simpa using hk⟩
end Pu

set_option Elab.async false
set_option linter.all false
set_option maxRecDepth 100000
namespace Pu
open PySem PySem.Spec PyProof.Rows L2

/-! ### len(set(xs)), xs a list or tuple of ints -/
/-- each thing once, the last of its likes -/
def dd : List Int → List Int
  | [] => []
  | x :: xs => if x ∈ xs then dd xs else x :: dd xs
theorem mem_dd {x : Int} : ∀ {xs : List Int}, x ∈ dd xs ↔ x ∈ xs
  | [] => Iff.rfl
  | y :: xs => by
    unfold dd
    split
    · rename_i h
      rw [mem_dd (xs := xs), List.mem_cons]
      exact ⟨.inr, fun z => z.elim (fun e => e ▸ h) id⟩
    · rw [List.mem_cons, List.mem_cons, mem_dd (xs := xs)]
theorem nodup_dd : ∀ xs : List Int, (dd xs).Nodup
  | [] => List.nodup_nil
  | y :: xs => by
    unfold dd
    split
    · exact nodup_dd xs
    · rename_i h
      exact List.nodup_cons.mpr ⟨fun z => h (mem_dd.mp z), nodup_dd xs⟩
theorem nodup_le {A : Type} : ∀ {xs ys : List A}, xs.Nodup → (∀ x ∈ xs, x ∈ ys) → xs.length ≤ ys.length
  | [], _, _, _ => Nat.zero_le _
  | x :: xs, ys, hn, h => by
    obtain ⟨a, b, e⟩ := List.append_of_mem (h x (List.mem_cons_self ..))
    have hn := List.nodup_cons.mp hn
    have := nodup_le (ys := a ++ b) hn.2 fun y hy => by
      have := h y (List.mem_cons_of_mem _ hy)
      rw [e, List.mem_append, List.mem_cons] at this
      rw [List.mem_append]
      rcases this with z | z | z
      · exact .inl z
      · subst z; exact absurd hy hn.1
      · exact .inr z
    rw [e]
    simp only [List.length_append, List.length_cons] at *
    omega
theorem nodup_len {A : Type} {xs ys : List A} (hx : xs.Nodup) (hy : ys.Nodup) (h : ∀ x, x ∈ xs ↔ x ∈ ys) : xs.length = ys.length :=
  Nat.le_antisymm (nodup_le hx fun x hx => (h x).mp hx) (nodup_le hy fun x hx => (h x).mpr hx)
theorem first_mem {ns : List Int} {x : Int} : ∀ i, i ≤ ns.length → (x ∈ firstMet (fun i => ns.getD i 0) i ↔ x ∈ ns.take i)
  | 0, _ => by rw [firstMet_zero, List.take_zero]
  | i + 1, h => by
    have ih := first_mem (ns := ns) (x := x) i (by omega)
    have hi : i < ns.length := by omega
    rw [firstMet_succ, List.take_succ, List.getElem?_eq_getElem hi]
    have e : ns.getD i 0 = ns[i] := by rw [List.getD_eq_getElem?_getD, List.getElem?_eq_getElem hi]; rfl
    unfold step_dedup
    rw [e]
    split
    · rename_i h2
      obtain ⟨y, hy, e2⟩ := List.any_eq_true.mp h2
      have ey : y = ns[i] := beq_iff_eq.mp e2
      subst ey
      have hy' := hy
      rw [List.mem_append]
      constructor
      · exact fun z => .inl (ih.mp z)
      · rintro (z | z)
        · exact ih.mpr z
        · have : x = ns[i] := by simpa using z
          rw [this]; exact hy
    · rw [List.mem_append, List.mem_append, ih]
      simp
theorem first_nodup {ns : List Int} : ∀ i, (firstMet (fun i => ns.getD i 0) i).Nodup
  | 0 => List.nodup_nil
  | i + 1 => by
    rw [firstMet_succ]
    unfold step_dedup
    split
    · exact first_nodup i
    · rename_i h
      refine List.nodup_append.mpr ⟨first_nodup i, by simp, fun a ha b hb => ?_⟩
      intro e
      have : b = ns.getD i 0 := by simpa using hb
      subst e
      subst this
      exact h (List.any_eq_true.mpr ⟨_, ha, beq_iff_eq.mpr rfl⟩)
theorem first_len {ns : List Int} : (firstMet (fun i => ns.getD i 0) ns.length).length = (dd ns).length :=
  nodup_len (first_nodup _) (nodup_dd _) fun x => by rw [first_mem _ (Nat.le_refl _), List.take_length, mem_dd]
theorem setR_len {w : World} {h : Heap} {a : Addr} {ns : List Int} {c : Nat} (R : SetR w h a (fun j => decide (j ∈ ns)) c) : c = (dd ns).length := by
  obtain ⟨o, es, ep, t, _, _, _, _, nd, hm, _, _, hn, _⟩ := R
  rw [← hn]
  have := nodup_len nd (nodup_dd ns) fun x => by rw [← hm, mem_dd]; simp
  rw [← this, List.length_map, Array.length_toList]
def tLenSetA (K : PySem.W.Frag) (ta : TE) : TE := fun σ H Q => ta σ H fun x H1 => ∃ (l : Addr) (ns : List Int), x = V.ref l ∧ (SqL K H1 l (ns.map V.int) ∨ SqT K H1 l (ns.map V.int)) ∧ ns.length ≤ 4000 ∧ Q (.int (dd ns).length) H1
section
variable {X : Cx}
theorem pe_lenSetA {a : Expr} {ta : TE} {p p2 q pos : Pos} (hc : X.calm = true) (hg : Gl X "len") (hm : X.mg "len" = none) (hg2 : Gl X "set") (hm2 : X.mg "set" = none) (ha : PE X a ta)
    (na : starEach [a] X.env = (false, eval a X.env) :: starEach [] X.env := by rfl) : PE X (.Call (.Name "len" p) [.Call (.Name "set" p2) [a] [] q] [] pos) (tLenSetA X.K ta) := by
  refine ⟨fun pins s σ H Q I h => ?_⟩
  refine Call_ (ld_blt I hg hm PySem.boot_len ?_)
  refine callWith_builtin1 (args_cons ?_ rfl) rfl rfl
  refine Call_ (ld_blt I hg2 hm2 boot_set ?_)
  refine callWith_type1 (args_cons (thn (ha.run pins s σ H _ I h) fun v s1 ⟨x, H1, I1, r1, q1⟩ => args_nil ?_) na) na rfl
  obtain ⟨l, ns, rfl, hq, h1, q1⟩ := q1
  cases r1
  have hb : ns.length + 1 < scanBound := by unfold scanBound; omega
  rcases hq with hq | hq
  · obtain ⟨its, r, pl, hz⟩ := I1.list hq
    have hl : its.toArray.size = ns.length := by rw [List.size_toArray, ← r.length, List.length_map]
    refine call_set_list (I1.ok.hd hc) pl.isList (ns := ns) (by simpa using r.ints) (by rw [hl]; exact hb) fun h' tk hS hk => ?_
    rw [hl, first_len] at hS
    refine args_nil ?_
    obtain ⟨o, es, ep, t, ho, hex, hd, _, _, _, hf, hn⟩ := hS
    have I2 : Inv X pins σ H1 { s1 with heap := h', toks := tk } := I1.kept fun b o e => hk b o (Heap.lt_size e) e
    have hdl : (dd ns).length ≤ ns.length := nodup_le (nodup_dd ns) fun x hx => mem_dd.mp hx
    exact call_len_set ho hex hd hf (by rw [hn]; omega) ⟨.int (dd ns).length, H1, I2.tok _, ⟨_, by rw [hn]⟩, q1⟩
  · obtain ⟨its, r, pl, hz⟩ := I1.tuple hq
    refine call_set_tupI ns (I1.ok.hd hc) pl (by simpa using r.ints) hb fun h' tk c R hcl hk => ?_
    refine args_nil ?_
    have hcc := setR_len R
    obtain ⟨o, es, ep, t, ho, hex, hd, _, _, _, hf, hn⟩ := R.setOf (P := X.prog)
    have I2 : Inv X pins σ H1 { s1 with heap := h', toks := tk } := I1.kept fun b o e => hk b o e
    exact call_len_set ho hex hd hf (by rw [hn]; omega) ⟨.int (dd ns).length, H1, I2.tok _, ⟨_, by rw [hn, hcc]⟩, q1⟩
def lenSetD : D → Option D := fun d => (seqOf d).bind fun ds => (ints? ds).bind fun ns => if ns.length ≤ 4000 then some (.int (dd ns).length) else none
theorem x_lenSet {e : Expr} {te : TE} {f : Ev} {p p2 q pos : Pos} (hc : X.calm = true) (hm : X.mg "len" = none) (hm2 : X.mg "set" = none) (h : EB X e te f) (hg : Gl X "len" := by rfl) (hg2 : Gl X "set" := by rfl)
    (na : starEach [e] X.env = (false, eval e X.env) :: starEach [] X.env := by rfl) : EE X (.Call (.Name "len" p) [.Call (.Name "set" p2) [e] [] q] [] pos) (tLenSetA X.K te) (un lenSetD f) :=
  ⟨pe_lenSetA hc hg hm hg2 hm2 h.pe na, fun H0 M0 H M ρ σ Q d E hf q => by
    obtain ⟨x, e1, hf⟩ := bind_some hf
    unfold lenSetD at hf
    obtain ⟨ds, e2, hf⟩ := bind_some hf
    obtain ⟨ns, e3, hf⟩ := bind_some hf
    split at hf
    · rename_i hz
      cases hf
      have e4 := ints?_some e3
      subst e4
      refine h.g E e1 fun v H1 s1 r1 => ?_
      obtain ⟨a, us, rfl, hl, rs⟩ := r1.seqOf e2
      rw [reps_ints rs] at hl
      exact ⟨a, ns, rfl, hl, hz, q _ H1 s1 (.int _)⟩
    · cases hf⟩
end
@[simp] theorem lenSetD_l {ns : List Int} (h : ns.length ≤ 4000) : lenSetD (.list (ns.map .int)) = some (.int (dd ns).length) := by
  show (ints? (ns.map PyData.int)).bind _ = _
  rw [ints?_map]
  exact if_pos h
@[simp] theorem lenSetD_t {ns : List Int} (h : ns.length ≤ 4000) : lenSetD (.tuple (ns.map .int)) = some (.int (dd ns).length) := by
  show (ints? (ns.map PyData.int)).bind _ = _
  rw [ints?_map]
  exact if_pos h
theorem dd_len_nodup {ns : List Int} : (dd ns).length = ns.length ↔ ns.Nodup := by
  constructor
  · intro h
    have : ∀ xs : List Int, (dd xs).length ≤ xs.length := fun xs => nodup_le (nodup_dd xs) fun x hx => mem_dd.mp hx
    induction ns with
    | nil => exact List.nodup_nil
    | cons x xs ih =>
      unfold dd at h
      split at h
      · have := this xs; simp only [List.length_cons] at h; omega
      · rename_i hx
        exact List.nodup_cons.mpr ⟨hx, ih (by simpa using h)⟩
  · intro h
    exact nodup_len (nodup_dd _) h fun x => mem_dd
end Pu

set_option Elab.async false
set_option linter.all false
set_option maxRecDepth 100000
namespace Pu
open PySem PySem.Spec PyProof.Rows L2

/-! ### sorted lists of ints -/
theorem leA_int (a b : Int) : leA (.int a) (.int b) = decide (a ≤ b) := by
  unfold leA
  show (!(PySem.W.dataLt (.int b) (.int a))) = _
  rw [PySem.W.dataLt_int]
  by_cases h : b < a
  · rw [decide_eq_true h, decide_eq_false (by omega)]; rfl
  · rw [decide_eq_false h, decide_eq_true (by omega)]; rfl
theorem srtOk_ints (ns : List Int) : srtOk (ns.map .int) = true := by
  unfold srtOk
  simp only [Bool.and_eq_true, List.all_eq_true, decide_eq_true_eq, Bool.or_eq_true, List.mem_map]
  refine ⟨⟨?_, ?_⟩, .inr ?_⟩
  · rintro _ ⟨i, _, rfl⟩; exact ⟨rfl, by simp [PyData.depth]⟩
  · rintro _ ⟨i, _, rfl⟩ _ ⟨j, _, rfl⟩; rfl
  · rintro _ ⟨i, _, rfl⟩; exact ⟨rfl, rfl⟩
def srt (ns : List Int) : List Int := ns.mergeSort fun a b => decide (a ≤ b)
theorem sort_ints (ns : List Int) : (ns.map PyData.int).mergeSort leA = (srt ns).map .int := by
  unfold srt
  rw [List.map_mergeSort]
  intro a _ b _
  exact (leA_int a b).symm
theorem srt_perm (ns : List Int) : (srt ns).Perm ns := List.mergeSort_perm _ _
theorem srt_pw (ns : List Int) : (srt ns).Pairwise (· ≤ ·) := by
  have := List.pairwise_mergeSort (le := fun a b : Int => decide (a ≤ b)) (fun a b c h1 h2 => by simp only [decide_eq_true_eq] at *; omega) (fun a b => by simp only [Bool.or_eq_true, decide_eq_true_eq]; omega) ns
  exact this.imp fun h => by simpa using h
/-- two ascending lists of the same things -/
theorem asc_ext : ∀ {xs ys : List Int}, xs.Pairwise (· < ·) → ys.Pairwise (· < ·) → (∀ x, x ∈ xs ↔ x ∈ ys) → xs = ys
  | [], [], _, _, _ => rfl
  | [], y :: ys, _, _, h => by have := (h y).mpr (List.mem_cons_self ..); cases this
  | x :: xs, [], _, _, h => by have := (h x).mp (List.mem_cons_self ..); cases this
  | x :: xs, y :: ys, hx, hy, h => by
    have hx := List.pairwise_cons.mp hx
    have hy := List.pairwise_cons.mp hy
    have e : x = y := by
      rcases List.mem_cons.mp ((h x).mp (List.mem_cons_self ..)) with z | z
      · exact z
      · rcases List.mem_cons.mp ((h y).mpr (List.mem_cons_self ..)) with w | w
        · exact w.symm
        · have := hy.1 x z
          have := hx.1 y w
          omega
    subst e
    rw [asc_ext hx.2 hy.2 fun z => ?_]
    have := h z
    simp only [List.mem_cons] at this
    constructor
    · intro hz
      rcases this.mp (.inr hz) with w | w
      · subst w; exact absurd (hx.1 z hz) (by omega)
      · exact w
    · intro hz
      rcases this.mpr (.inr hz) with w | w
      · subst w; exact absurd (hy.1 z hz) (by omega)
      · exact w
theorem srt_asc {ns : List Int} (h : ns.Nodup) : (srt ns).Pairwise (· < ·) := by
  have h1 := srt_pw ns
  have h2 : (srt ns).Nodup := (srt_perm ns).nodup_iff.mpr h
  exact (h1.and h2).imp fun ⟨a, b⟩ => by omega
theorem srt_of {ns ms : List Int} (h : ns.Nodup) (hm : ms.Pairwise (· < ·)) (e : ∀ x, x ∈ ns ↔ x ∈ ms) : srt ns = ms :=
  asc_ext (srt_asc h) hm fun x => ((srt_perm ns).mem_iff).trans (e x)
@[simp] theorem sortedD_l {ns : List Int} : sortedD [.list (ns.map .int)] = some (.list ((srt ns).map .int)) := by
  show (if srtOk (ns.map .int) = true then some (PyData.list ((ns.map PyData.int).mergeSort leA)) else none) = _
  rw [if_pos (srtOk_ints ns), sort_ints]
@[simp] theorem sortedD_t {ns : List Int} : sortedD [.tuple (ns.map .int)] = some (.list ((srt ns).map .int)) := by
  show (if srtOk (ns.map .int) = true then some (PyData.list ((ns.map PyData.int).mergeSort leA)) else none) = _
  rw [if_pos (srtOk_ints ns), sort_ints]
theorem isIn_ints (x : Int) (ns : List Int) : isIn (.int x) (ns.map .int) = decide (x ∈ ns) := by
  unfold isIn
  rw [Bool.eq_iff_iff, List.any_eq_true, decide_eq_true_eq]
  constructor
  · rintro ⟨d, hd, e⟩
    obtain ⟨i, hi, rfl⟩ := List.mem_map.mp hd
    have : i = x := by simpa [PyData.eqv] using e
    rw [← this]; exact hi
  · intro h
    exact ⟨.int x, List.mem_map.mpr ⟨x, h, rfl⟩, by simp [PyData.eqv]⟩
theorem shaped_ints_t (ns : List Int) : SeqAt.shaped (.tuple (ns.map .int)) = true := plain_shaped (by simp) (by have := depth_ints (ns := ns); omega)
theorem shaped_ints_l (ns : List Int) : SeqAt.shaped (.list (ns.map .int)) = true := by
  have := shaped_ints_t ns
  unfold SeqAt.shaped at *
  simpa [PyData.canLay0, PyData.depth] using this
@[simp] theorem inD_it {x : Int} {ns : List Int} : inD (.int x) (.tuple (ns.map .int)) = some (.bool (decide (x ∈ ns))) := by
  show (if _ then some (PyData.bool (isIn (.int x) (ns.map .int))) else none) = _
  rw [if_pos (by rw [shaped_ints_t]; rfl), isIn_ints]
@[simp] theorem inD_il {x : Int} {ns : List Int} : inD (.int x) (.list (ns.map .int)) = some (.bool (decide (x ∈ ns))) := by
  show (if _ then some (PyData.bool (isIn (.int x) (ns.map .int))) else none) = _
  rw [if_pos (by rw [shaped_ints_l]; rfl), isIn_ints]
@[simp] theorem notInD_it {x : Int} {ns : List Int} : notInD (.int x) (.tuple (ns.map .int)) = some (.bool (!decide (x ∈ ns))) := by
  unfold notInD; rw [inD_it]; rfl
@[simp] theorem notInD_il {x : Int} {ns : List Int} : notInD (.int x) (.list (ns.map .int)) = some (.bool (!decide (x ∈ ns))) := by
  unfold notInD; rw [inD_il]; rfl
end Pu

set_option Elab.async false
set_option linter.all false
set_option maxRecDepth 100000
set_option maxHeartbeats 0
namespace L20
open PySem PySem.Spec PyProof.Rows L2 Pu
def top (i : Nat) : Stmt := PySem.Challenge.pw_soundsjoined_k20_whole_beats_counted.main.body.getD i (.Pass ⟨0, 0, 0, 0⟩)
abbrev FnP (K : PySem.W.Frag) (x : Str) (st : Stmt) (f : Addr) (fd : FuncData) : Prop := FunD K x x (defArgs st) (defBody st) (defScope st) [] [] f fd
abbrev st__law_mixed : Stmt := top 12
abbrev N__law_mixed : List Str := ["script", "k", "cell", "first", "second", "third"]
abbrev ps__law_mixed : List Str := ["script", "k"]
theorem sc__law_mixed : FnScope N__law_mixed ps__law_mixed (defScope st__law_mixed) := ⟨rfl, rfl, rfl, by decide +kernel, rfl, by decide +kernel, by decide +kernel⟩
abbrev st__law_row : Stmt := top 13
abbrev N__law_row : List Str := ["script", "many", "big", "row", "k"]
abbrev ps__law_row : List Str := ["script", "many"]
theorem sc__law_row : FnScope N__law_row ps__law_row (defScope st__law_row) := ⟨rfl, rfl, rfl, by decide +kernel, rfl, by decide +kernel, by decide +kernel⟩
abbrev st__law_laps : Stmt := top 17
abbrev N__law_laps : List Str := ["base", "lap"]
abbrev ps__law_laps : List Str := ["base"]
theorem sc__law_laps : FnScope N__law_laps ps__law_laps (defScope st__law_laps) := ⟨rfl, rfl, rfl, by decide +kernel, rfl, by decide +kernel, by decide +kernel⟩
abbrev st__law_pulses : Stmt := top 18
abbrev N__law_pulses : List Str := ["row", "base", "laps", "found", "kind", "beat", "k", "period", "offset", "pulse"]
abbrev ps__law_pulses : List Str := ["row", "base"]
theorem sc__law_pulses : FnScope N__law_pulses ps__law_pulses (defScope st__law_pulses) := ⟨rfl, rfl, rfl, by decide +kernel, rfl, by decide +kernel, by decide +kernel⟩
abbrev st__law_is_int : Stmt := top 14
abbrev N__law_is_int : List Str := ["value"]
abbrev ps__law_is_int : List Str := ["value"]
theorem sc__law_is_int : FnScope N__law_is_int ps__law_is_int (defScope st__law_is_int) := ⟨rfl, rfl, rfl, by decide +kernel, rfl, by decide +kernel, by decide +kernel⟩
abbrev st__law_like : Stmt := top 15
abbrev N__law_like : List Str := ["value", "due", "k"]
abbrev ps__law_like : List Str := ["value", "due"]
theorem sc__law_like : FnScope N__law_like ps__law_like (defScope st__law_like) := ⟨rfl, rfl, rfl, by decide +kernel, rfl, by decide +kernel, by decide +kernel⟩
abbrev st_joined : Stmt := top 1
abbrev N_joined : List Str := ["first", "second", "period", "offset", "other", "goal", "beat", "_", "lap"]
abbrev ps_joined : List Str := ["first", "second"]
theorem sc_joined : FnScope N_joined ps_joined (defScope st_joined) := ⟨rfl, rfl, rfl, by decide +kernel, rfl, by decide +kernel, by decide +kernel⟩
abbrev st_meeting : Stmt := top 2
abbrev N_meeting : List Str := ["pulses", "found", "pulse"]
abbrev ps_meeting : List Str := ["pulses"]
theorem sc_meeting : FnScope N_meeting ps_meeting (defScope st_meeting) := ⟨rfl, rfl, rfl, by decide +kernel, rfl, by decide +kernel, by decide +kernel⟩
abbrev st_fills : Stmt := top 8
abbrev N_fills : List Str := ["n", "first", "second", "sums", "one", "other"]
abbrev ps_fills : List Str := ["n", "first", "second"]
theorem sc_fills : FnScope N_fills ps_fills (defScope st_fills) := ⟨rfl, rfl, rfl, by decide +kernel, rfl, by decide +kernel, by decide +kernel⟩
abbrev st__law_meets : Stmt := top 19
abbrev N__law_meets : List Str := ["value", "pulses", "base", "one"]
abbrev ps__law_meets : List Str := ["value", "pulses", "base"]
theorem sc__law_meets : FnScope N__law_meets ps__law_meets (defScope st__law_meets) := ⟨rfl, rfl, rfl, by decide +kernel, rfl, by decide +kernel, by decide +kernel⟩
abbrev st__law_beats : Stmt := top 20
abbrev N__law_beats : List Str := ["value", "lap"]
abbrev ps__law_beats : List Str := ["value", "lap"]
theorem sc__law_beats : FnScope N__law_beats ps__law_beats (defScope st__law_beats) := ⟨rfl, rfl, rfl, by decide +kernel, rfl, by decide +kernel, by decide +kernel⟩
abbrev st__law_struck : Stmt := top 22
abbrev N__law_struck : List Str := ["pulse", "beat"]
abbrev ps__law_struck : List Str := ["pulse", "beat"]
theorem sc__law_struck : FnScope N__law_struck ps__law_struck (defScope st__law_struck) := ⟨rfl, rfl, rfl, by decide +kernel, rfl, by decide +kernel, by decide +kernel⟩
abbrev st_divisors_of : Stmt := top 4
abbrev N_divisors_of : List Str := ["n", "d"]
abbrev ps_divisors_of : List Str := ["n"]
theorem sc_divisors_of : FnScope N_divisors_of ps_divisors_of (defScope st_divisors_of) := ⟨rfl, rfl, rfl, by decide +kernel, rfl, by decide +kernel, by decide +kernel⟩
abbrev st_moved : Stmt := top 6
abbrev N_moved : List Str := ["n", "places", "k", "place"]
abbrev ps_moved : List Str := ["n", "places", "k"]
theorem sc_moved : FnScope N_moved ps_moved (defScope st_moved) := ⟨rfl, rfl, rfl, by decide +kernel, rfl, by decide +kernel, by decide +kernel⟩
abbrev st_thinned : Stmt := top 9
abbrev N_thinned : List Str := ["n", "places", "k", "place"]
abbrev ps_thinned : List Str := ["n", "places"]
theorem sc_thinned : FnScope N_thinned ps_thinned (defScope st_thinned) := ⟨rfl, rfl, rfl, by decide +kernel, rfl, by decide +kernel, by decide +kernel⟩
abbrev st_hits : Stmt := top 10
abbrev N_hits : List Str := ["n", "first", "second", "place", "k"]
abbrev ps_hits : List Str := ["n", "first", "second"]
theorem sc_hits : FnScope N_hits ps_hits (defScope st_hits) := ⟨rfl, rfl, rfl, by decide +kernel, rfl, by decide +kernel, by decide +kernel⟩
abbrev st__law_common : Stmt := top 16
abbrev N__law_common : List Str := ["one", "other", "turn"]
abbrev ps__law_common : List Str := ["one", "other"]
theorem sc__law_common : FnScope N__law_common ps__law_common (defScope st__law_common) := ⟨rfl, rfl, rfl, by decide +kernel, rfl, by decide +kernel, by decide +kernel⟩
abbrev st__law_round_right : Stmt := top 24
abbrev N__law_round_right : List Str := ["row", "at", "n", "laps", "lap", "p", "q", "one", "other", "first", "place", "second", "counts", "k", "told"]
abbrev ps__law_round_right : List Str := ["row", "at"]
theorem sc__law_round_right : FnScope N__law_round_right ps__law_round_right (defScope st__law_round_right) := ⟨rfl, rfl, rfl, by decide +kernel, rfl, by decide +kernel, by decide +kernel⟩
abbrev st__law_counted : Stmt := top 21
abbrev N__law_counted : List Str := ["pulses", "base", "chosen", "total", "pulse", "one", "some", "told"]
abbrev ps__law_counted : List Str := ["pulses", "base"]
theorem sc__law_counted : FnScope N__law_counted ps__law_counted (defScope st__law_counted) := ⟨rfl, rfl, rfl, by decide +kernel, rfl, by decide +kernel, by decide +kernel⟩
abbrev st__law_edited : Stmt := top 23
abbrev N__law_edited : List Str := ["pulses", "base", "k", "told", "one", "beat", "moved_v", "period", "offset", "back", "due"]
abbrev ps__law_edited : List Str := ["pulses", "base", "k"]
theorem sc__law_edited : FnScope N__law_edited ps__law_edited (defScope st__law_edited) := ⟨rfl, rfl, rfl, by decide +kernel, rfl, by decide +kernel, by decide +kernel⟩
abbrev st_law : Stmt := top 25
abbrev N_law : List Str := ["script", "row", "base", "pulses", "due", "beat", "one"]
abbrev ps_law : List Str := ["script"]
theorem sc_law : FnScope N_law ps_law (defScope st_law) := ⟨rfl, rfl, rfl, by decide +kernel, rfl, by decide +kernel, by decide +kernel⟩
/-! what each def does -/
def g__law_mixed : Eg := (seq (setS 2 (cst (.int 0))) (seq (ifS (ts boolOf (bn gtD (ap lenD (one (vr 0))) (cst (.int 0)))) (setS 2 (bn ixD (vr 0) (bn modD (vr 1) (ap lenD (one (vr 0)))))) nxt) (seq (setS 3 (bn modD (ap intD (one (bn addD (bn addD (bn mulD (vr 2) (cst (.int 48271))) (bn mulD (vr 1) (cst (.int 69621)))) (cst (.int 8191))))) (cst (.int 2147483647)))) (seq (setS 4 (bn modD (ap intD (one (bn addD (bn addD (bn mulD (vr 3) (vr 3)) (bn fdivD (vr 3) (cst (.int 7)))) (bn mulD (vr 1) (cst (.int 16807)))))) (cst (.int 2147483629)))) (seq (setS 5 (bn modD (ap intD (one (bn addD (bn addD (bn mulD (vr 4) (vr 4)) (bn fdivD (vr 4) (cst (.int 11)))) (cst (.int 40692))))) (cst (.int 2147483563)))) (ret (bn modD (bn fdivD (vr 5) (cst (.int 5))) (cst (.int 1000003)))))))))
def sem__law_mixed : List D → Option D := Pu.run 6 g__law_mixed
def g__law_row : Eg := (seq (setS 2 (cst (.int 0))) (seq (ifS (andB (ts boolOf (bn gtD (ap lenD (one (vr 0))) (cst (.int 0)))) (ts boolOf (bn geD (bn ixD (vr 0) (cst (.int 0))) (bn powD (cst (.int 10)) (cst (.int 18)))))) (setS 2 (bn ixD (vr 0) (cst (.int 0)))) nxt) (seq (ownS 3 (mkL nl)) (seq (forS (rg1 (cs (vr 1) nl)) (tN 4) (ifS (ts boolOf (bn gtD (vr 2) (cst (.int 0)))) (seq (appS 3 (bn modD (ap intD (one (vr 2))) (cst (.int 1000)))) (setS 2 (bn fdivD (vr 2) (cst (.int 1000))))) (appS 3 (ap sem__law_mixed (cs (vr 0) (cs (vr 4) nl)))))) (ret (vb 3))))))
def sem__law_row : List D → Option D := Pu.run 5 g__law_row
def g__law_laps : Eg := (ret (lcS (rg2 (cs (cst (.int 1)) (cs (cst (.int 61)) nl))) (tN 1) (ts boolOf (bn eqD (bn modD (ap intD (one (vr 0))) (vr 1)) (cst (.int 0)))) (vr 1) [1]))
def sem__law_laps : List D → Option D := Pu.run 2 g__law_laps
def g__law_pulses : Eg := (seq (parM 2 3 false true (ap sem__law_laps (cs (vr 1) nl)) (mkL nl)) (seq (parS 4 5 (cs (bn modD (ap intD (one (bn ixD (vr 0) (cst (.int 3))))) (cst (.int 4))) (cs (bn modD (ap intD (one (bn ixD (vr 0) (cst (.int 4))))) (vr 1)) nl))) (seq (forS (rg1 (cs (bn addD (cst (.int 1)) (bn modD (ap intD (one (bn ixD (vr 0) (cst (.int 2))))) (cst (.int 6)))) nl)) (tN 6) (seq (setS 7 (bn ixD (vr 2) (bn modD (ap intD (one (bn ixD (vr 0) (bn addD (cst (.int 12)) (vr 6))))) (ap lenD (one (vr 2)))))) (seq (setS 8 (bn modD (ap intD (one (bn ixD (vr 0) (bn addD (cst (.int 6)) (vr 6))))) (vr 7))) (seq (ifS (orB (ts boolOf (bn ltD (vr 4) (cst (.int 2)))) (andB (ts boolOf (bn eqD (vr 4) (cst (.int 2)))) (ts boolOf (bn gtD (bn modD (ap intD (one (bn ixD (vr 0) (bn addD (cst (.int 18)) (vr 6))))) (cst (.int 3))) (cst (.int 0)))))) (setS 8 (bn modD (ap intD (one (vr 5))) (vr 7))) nxt) (seq (setS 9 (mkT (cs (vr 7) (cs (vr 8) nl)))) (seq (ifS (andB (ts boolOf (bn gtD (vr 6) (cst (.int 0)))) (ts boolOf (bn eqD (bn modD (ap intD (one (bn ixD (vr 0) (bn addD (cst (.int 18)) (vr 6))))) (cst (.int 4))) (cst (.int 1))))) (setS 9 (bn ixD (vb 3) (bn modD (ap intD (one (bn ixD (vr 0) (bn addD (cst (.int 6)) (vr 6))))) (ap lenD (one (vb 3)))))) nxt) (appS 3 (vr 9)))))))) (ret (vb 3)))))
def sem__law_pulses : List D → Option D := Pu.run 10 g__law_pulses
def g__law_is_int : Eg := (ret (andV (ap (isiD "int") (one (vr 0))) (un notB (ap (isiD "bool") (one (vr 0))))))
def sem__law_is_int : List D → Option D := Pu.run 1 g__law_is_int
def g__law_like (rec : List D → Option D) : Eg := (seq (ifS (ts boolOf (bn isD (vr 1) (cst .none))) (ret (bn isD (vr 0) (cst .none))) nxt) (seq (ifS (ts truD (ap (isiD "bool") (one (vr 1)))) (ret (andV (ap (isiD "bool") (one (vr 0))) (bn eqD (vr 0) (vr 1)))) nxt) (seq (ifS (ts truD (ap (isiD "tuple") (one (vr 1)))) (seq (ifS (orB (notT (ts truD (ap (isiD "tuple") (one (vr 0))))) (ts boolOf (bn neD (ap lenD (one (vr 0))) (ap lenD (one (vr 1)))))) (ret (cst (.bool false))) nxt) (ret (ap allD (one (lcS (rg1 (cs (ap lenD (one (vr 1))) nl)) (tN 2) yes (ap rec (cs (bn ixD (vr 0) (vr 2)) (cs (bn ixD (vr 1) (vr 2)) nl))) [2]))))) nxt) (seq (ifS (ts truD (ap (isiD "str") (one (vr 1)))) (ret (andV (ap (isiD "str") (one (vr 0))) (bn eqD (vr 0) (vr 1)))) nxt) (ret (andV (ap sem__law_is_int (cs (vr 0) nl)) (bn eqD (vr 0) (vr 1))))))))
def sem__law_like : Nat → List D → Option D
  | 0 => fun _ => none
  | n + 1 => Pu.run 3 (g__law_like (sem__law_like n))
def g_joined : Eg := (seq (asgS (tT [(tN 2), (tN 3)]) (vr 0)) (seq (asgS (tT [(tN 4), (tN 5)]) (vr 1)) (seq (setS 6 (vr 3)) (seq (forS (rg1 (cs (vr 4) nl)) (tN 7) (seq (ifS (ts boolOf (bn eqD (bn modD (vr 6) (vr 4)) (vr 5))) (seq (setS 8 (vr 2)) (seq (whS (ts boolOf (bn neD (bn modD (vr 8) (vr 4)) (cst (.int 0)))) (augS 8 addI (vr 2))) (ret (mkT (cs (vr 8) (cs (bn modD (vr 6) (vr 8)) nl)))))) nxt) (augS 6 addI (vr 2)))) (ret (cst .none))))))
def sem_joined : List D → Option D := Pu.run 9 g_joined
def g_meeting : Eg := (seq (setS 1 (bn ixD (vr 0) (cst (.int 0)))) (seq (forS (srcOf (sl slD (vr 0) (part (cst (.int 1))) noPart)) (tN 2) (seq (setS 1 (ap sem_joined (cs (vr 1) (cs (vr 2) nl)))) (ifS (ts boolOf (bn isD (vr 1) (cst .none))) (ret (cst .none)) nxt))) (ret (vb 1))))
def sem_meeting : List D → Option D := Pu.run 3 g_meeting
def g_fills : Eg := (seq (setS 3 (lc2S (srcOf (vr 1)) (tN 4) yes (srcOf (vr 2)) (tN 5) yes (bn modD (bn addD (vr 4) (vr 5)) (vr 0)) [4, 5] [5])) (ret (andV (bn eqD (ap lenD (one (vr 3))) (vr 0)) (bn eqD (un lenSetD (vr 3)) (vr 0)))))
def sem_fills : List D → Option D := Pu.run 6 g_fills
def g__law_meets : Eg := (seq (ifS (ts boolOf (bn isD (vr 0) (cst .none))) (ret (cst (.bool true))) nxt) (seq (ifS (orB (notT (ts truD (ap (isiD "tuple") (one (vr 0))))) (orB (ts boolOf (bn neD (ap lenD (one (vr 0))) (cst (.int 2)))) (orB (notT (ts truD (ap sem__law_is_int (cs (bn ixD (vr 0) (cst (.int 0))) nl)))) (notT (ts truD (ap sem__law_is_int (cs (bn ixD (vr 0) (cst (.int 1))) nl))))))) (ret (cst (.bool false))) nxt) (seq (ifS (orB (notT (ts boolOf (chn leD ltD (cst (.int 0)) (bn ixD (vr 0) (cst (.int 1))) (bn ixD (vr 0) (cst (.int 0)))))) (ts boolOf (bn neD (bn modD (ap intD (one (vr 2))) (bn ixD (vr 0) (cst (.int 0)))) (cst (.int 0))))) (ret (cst (.bool false))) nxt) (ret (ap allD (one (lcS (srcOf (vr 1)) (tN 3) yes (andV (bn eqD (bn modD (ap intD (one (bn ixD (vr 0) (cst (.int 0))))) (bn ixD (vr 3) (cst (.int 0)))) (cst (.int 0))) (bn eqD (bn modD (ap intD (one (bn subD (bn ixD (vr 0) (cst (.int 1))) (bn ixD (vr 3) (cst (.int 1)))))) (bn ixD (vr 3) (cst (.int 0)))) (cst (.int 0)))) [3])))))))
def sem__law_meets : List D → Option D := Pu.run 4 g__law_meets
def g__law_beats : Eg := (seq (ifS (ts boolOf (bn isD (vr 0) (cst .none))) (ret (cst (.int 0))) nxt) (ret (bn fdivD (vr 1) (bn ixD (vr 0) (cst (.int 0))))))
def sem__law_beats : List D → Option D := Pu.run 2 g__law_beats
def g__law_struck : Eg := (ret (bn eqD (bn modD (ap intD (one (bn subD (vr 1) (bn ixD (vr 0) (cst (.int 1)))))) (bn ixD (vr 0) (cst (.int 0)))) (cst (.int 0))))
def sem__law_struck : List D → Option D := Pu.run 2 g__law_struck
def g_divisors_of : Eg := (ret (lcS (rg2 (cs (cst (.int 1)) (cs (bn addD (vr 0) (cst (.int 1))) nl))) (tN 1) (ts boolOf (bn eqD (bn modD (vr 0) (vr 1)) (cst (.int 0)))) (vr 1) [1]))
def sem_divisors_of : List D → Option D := Pu.run 2 g_divisors_of
def g_moved : Eg := (ret (ap tupD (one (ap sortedD (one (lcS (srcOf (vr 1)) (tN 3) yes (bn modD (bn addD (vr 3) (vr 2)) (vr 0)) [3]))))))
def sem_moved : List D → Option D := Pu.run 4 g_moved
def g_thinned : Eg := (seq (forS (srcOf (ap sem_divisors_of (cs (vr 0) nl))) (tN 2) (ifS (ts boolOf (bn eqD (ap sem_moved (cs (vr 0) (cs (vr 1) (cs (vr 2) nl)))) (vr 1))) (ret (mkT (cs (vr 2) (cs (ap tupD (one (lcS (srcOf (vr 1)) (tN 3) (ts boolOf (bn ltD (vr 3) (vr 2))) (vr 3) [3]))) nl)))) nxt)) (ret (mkT (cs (vr 0) (cs (vr 1) nl)))))
def sem_thinned : List D → Option D := Pu.run 4 g_thinned
def g_hits : Eg := (ret (ap tupD (one (lcS (rg1 (cs (vr 0) nl)) (tN 4) yes (ap lenD (one (lcS (srcOf (ap sem_moved (cs (vr 0) (cs (vr 2) (cs (vr 4) nl))))) (tN 3) (ts boolOf (bn inD (vr 3) (vr 1))) (vr 3) [3]))) [4]))))
def sem_hits : List D → Option D := Pu.run 5 g_hits
def g__law_common : Eg := (seq (forS (rg1 (cs (cst (.int 60)) nl)) (tN 2) (seq (ifS (ts boolOf (bn eqD (vr 1) (cst (.int 0)))) (ret (vb 0)) nxt) (parS 0 1 (cs (vr 1) (cs (bn modD (ap intD (one (vr 0))) (vr 1)) nl))))) (ret (vb 0)))
def sem__law_common : List D → Option D := Pu.run 3 g__law_common
def g__law_round_right : Eg := (seq (setS 2 (bn ixD (mkT (cs (cst (.int 24)) (cs (cst (.int 12)) (cs (cst (.int 18)) (cs (cst (.int 20)) (cs (cst (.int 16)) (cs (cst (.int 6)) (cs (cst (.int 1)) (cs (cst (.int 15)) (cs (cst (.int 24)) (cs (cst (.int 21)) (cs (cst (.int 10)) (cs (cst (.int 23)) nl))))))))))))) (bn modD (ap intD (one (bn ixD (vr 0) (vr 1)))) (cst (.int 12))))) (seq (setS 3 (lcS (rg2 (cs (cst (.int 1)) (cs (bn addD (vr 2) (cst (.int 1))) nl))) (tN 4) (ts boolOf (bn eqD (bn modD (ap intD (one (vr 2))) (vr 4)) (cst (.int 0)))) (vr 4) [4])) (seq (parS 5 6 (cs (bn ixD (vr 3) (bn modD (ap intD (one (bn ixD (vr 0) (bn addD (vr 1) (cst (.int 1)))))) (ap lenD (one (vr 3))))) (cs (bn ixD (vr 3) (bn modD (ap intD (one (bn ixD (vr 0) (bn addD (vr 1) (cst (.int 2)))))) (ap lenD (one (vr 3))))) nl))) (seq (asgS (tT [(tN 7), (tN 8)]) (mkT (cs (mkT (cs (vr 5) (cs (bn modD (ap intD (one (bn ixD (vr 0) (bn addD (vr 1) (cst (.int 3)))))) (vr 5)) nl))) (cs (mkT (cs (vr 6) (cs (bn modD (ap intD (one (bn ixD (vr 0) (bn addD (vr 1) (cst (.int 4)))))) (vr 6)) nl))) nl)))) (seq (setS 9 (ap tupD (one (lcS (rg1 (cs (vr 2) nl)) (tN 10) (ts truD (ap sem__law_struck (cs (vr 7) (cs (vr 10) nl)))) (vr 10) [10])))) (seq (setS 11 (ap tupD (one (lcS (rg1 (cs (vr 2) nl)) (tN 10) (ts truD (ap sem__law_struck (cs (vr 8) (cs (vr 10) nl)))) (vr 10) [10])))) (seq (ifS (orB (notT (ts truD (ap (sem__law_like 4) (cs (ap sem_thinned (cs (vr 2) (cs (vr 9) nl))) (cs (mkT (cs (vr 5) (cs (mkT (cs (bn ixD (vr 7) (cst (.int 1))) nl)) nl))) nl))))) (notT (ts truD (ap (sem__law_like 4) (cs (ap sem_thinned (cs (vr 2) (cs (vr 11) nl))) (cs (mkT (cs (vr 6) (cs (mkT (cs (bn ixD (vr 8) (cst (.int 1))) nl)) nl))) nl)))))) (ret (cst (.bool false))) nxt) (seq (ownS 12 (mkL nl)) (seq (forS (rg1 (cs (vr 2) nl)) (tN 13) (seq (setS 14 (ap sem_meeting (cs (mkT (cs (vr 7) (cs (mkT (cs (vr 6) (cs (bn modD (ap intD (one (bn addD (bn ixD (vr 8) (cst (.int 1))) (vr 13)))) (vr 6)) nl))) nl))) nl))) (seq (ifS (notT (ts truD (ap sem__law_meets (cs (vr 14) (cs (mkT (cs (vr 7) nl)) (cs (vr 2) nl)))))) (ret (cst (.bool false))) nxt) (appS 12 (ap sem__law_beats (cs (vr 14) (cs (vr 2) nl))))))) (seq (ifS (orB (ts boolOf (bn neD (bn mulD (bn mulD (ap sumD (one (vb 12))) (vr 5)) (vr 6)) (bn mulD (vr 2) (vr 2)))) (notT (ts truD (ap (sem__law_like 4) (cs (ap sem_hits (cs (vr 2) (cs (vr 9) (cs (vr 11) nl)))) (cs (ap tupD (one (vb 12))) nl)))))) (ret (cst (.bool false))) nxt) (ret (ap (sem__law_like 4) (cs (ap sem_fills (cs (vr 2) (cs (vr 9) (cs (vr 11) nl)))) (cs (andV (bn eqD (bn mulD (vr 5) (vr 6)) (vr 2)) (bn eqD (ap sem__law_common (cs (vr 5) (cs (vr 6) nl))) (cst (.int 1)))) nl))))))))))))))
def sem__law_round_right : List D → Option D := Pu.run 15 g__law_round_right
def g__law_counted : Eg := (seq (parS 2 3 (cs (mkL (cs (mkT nl) nl)) (cs (cst (.int 0)) nl))) (seq (forS (srcOf (vr 0)) (tN 4) (setS 2 (bn addL (vr 2) (lcS (srcOf (vr 2)) (tN 5) yes (bn addD (vr 5) (mkT (cs (vr 4) nl))) [5])))) (seq (forS (srcOf (sl slL (vr 2) (part (cst (.int 1))) noPart)) (tN 6) (seq (setS 7 (ap sem_meeting (cs (vr 6) nl))) (seq (ifS (notT (ts truD (ap sem__law_meets (cs (vr 7) (cs (vr 6) (cs (vr 1) nl)))))) (ret (cst .none)) nxt) (setS 3 (bn addD (vr 3) (bn mulD (bn subD (bn mulD (cst (.int 2)) (bn modD (ap intD (one (ap lenD (one (vr 6))))) (cst (.int 2)))) (cst (.int 1))) (ap sem__law_beats (cs (vr 7) (cs (vr 1) nl))))))))) (ret (vb 3)))))
def sem__law_counted : List D → Option D := Pu.run 8 g__law_counted
def g__law_edited : Eg := (seq (setS 3 (ap sem_meeting (cs (ap tupD (one (vr 0))) nl))) (seq (ifS (ts boolOf (bn eqD (bn isD (vr 3) (cst .none)) (ap anyD (one (lcS (rg1 (cs (vr 1) nl)) (tN 5) yes (ap allD (one (lcS (srcOf (vr 0)) (tN 4) yes (ap sem__law_struck (cs (vr 4) (cs (vr 5) nl))) [4]))) [5]))))) (ret (cst (.bool false))) nxt) (seq (ifS (andB (ts boolOf (bn ltD (ap lenD (one (vr 0))) (cst (.int 4)))) (notT (ts truD (ap (sem__law_like 4) (cs (ap sem_meeting (cs (ap tupD (one (bn addL (vr 0) (vr 0)))) nl)) (cs (vr 3) nl)))))) (ret (cst (.bool false))) nxt) (seq (setS 6 (ap sem_meeting (cs (ap tupD (one (lcS (srcOf (vr 0)) (tT [(tN 7), (tN 8)]) yes (mkT (cs (vr 7) (cs (bn modD (ap intD (one (bn addD (vr 8) (vr 2)))) (vr 7)) nl))) [7, 8]))) nl))) (seq (setS 9 (ap sem_meeting (cs (ap tupD (one (lcS (srcOf (vr 0)) (tT [(tN 7), (tN 8)]) yes (mkT (cs (vr 7) (cs (bn modD (ap intD (one (un negD (vr 8)))) (vr 7)) nl))) [7, 8]))) nl))) (seq (ifS (ts boolOf (bn isD (vr 3) (cst .none))) (ret (andV (bn isD (vr 6) (cst .none)) (bn isD (vr 9) (cst .none)))) nxt) (seq (setS 10 (mkT (cs (bn ixD (vr 3) (cst (.int 0))) (cs (bn modD (ap intD (one (bn addD (bn ixD (vr 3) (cst (.int 1))) (vr 2)))) (bn ixD (vr 3) (cst (.int 0)))) nl)))) (ret (andV (ap (sem__law_like 4) (cs (vr 6) (cs (vr 10) nl))) (ap (sem__law_like 4) (cs (vr 9) (cs (mkT (cs (bn ixD (vr 3) (cst (.int 0))) (cs (bn modD (ap intD (one (un negD (bn ixD (vr 3) (cst (.int 1)))))) (bn ixD (vr 3) (cst (.int 0)))) nl))) nl))))))))))))
def sem__law_edited : List D → Option D := Pu.run 11 g__law_edited
def g_law : Eg := (seq (setS 1 (ap sem__law_row (cs (vr 0) (cs (cst (.int 32)) nl)))) (seq (setS 2 (bn ixD (mkT (cs (cst (.int 60)) (cs (cst (.int 24)) (cs (cst (.int 36)) (cs (cst (.int 48)) (cs (cst (.int 40)) (cs (cst (.int 840)) (cs (cst (.int 360)) (cs (cst (.int 420)) (cs (cst (.int 18)) (cs (cst (.int 12)) nl))))))))))) (bn modD (ap intD (one (bn ixD (vr 1) (cst (.int 0))))) (cst (.int 10))))) (seq (setS 3 (ap sem__law_pulses (cs (vr 1) (cs (vr 2) nl)))) (seq (setS 4 (ap lenD (one (lcS (rg1 (cs (vr 2) nl)) (tN 5) (ts truD (ap anyD (one (lcS (srcOf (vr 3)) (tN 6) yes (ap sem__law_struck (cs (vr 6) (cs (vr 5) nl))) [6])))) (cst (.int 1)) [5])))) (seq (ifS (orB (ts boolOf (bn neD (ap sem__law_counted (cs (vr 3) (cs (vr 2) nl))) (vr 4))) (notT (ts truD (ap sem__law_edited (cs (vr 3) (cs (vr 2) (cs (bn ixD (vr 1) (cst (.int 5))) nl))))))) (ret (cst (.bool false))) nxt) (ret (ap sem__law_round_right (cs (vr 1) (cs (cst (.int 24)) nl)))))))))
def sem_law : List D → Option D := Pu.run 7 g_law
/-! the text as it stands at boot -/
structure Txt (K : PySem.W.Frag) (mg : Str → Option Value) where
  a__law_mixed : Addr
  d__law_mixed : FuncData
  F__law_mixed : FnP K "_law_mixed" st__law_mixed a__law_mixed d__law_mixed
  m__law_mixed : mg "_law_mixed" = some (.ref a__law_mixed)
  a__law_row : Addr
  d__law_row : FuncData
  F__law_row : FnP K "_law_row" st__law_row a__law_row d__law_row
  m__law_row : mg "_law_row" = some (.ref a__law_row)
  a__law_laps : Addr
  d__law_laps : FuncData
  F__law_laps : FnP K "_law_laps" st__law_laps a__law_laps d__law_laps
  m__law_laps : mg "_law_laps" = some (.ref a__law_laps)
  a__law_pulses : Addr
  d__law_pulses : FuncData
  F__law_pulses : FnP K "_law_pulses" st__law_pulses a__law_pulses d__law_pulses
  m__law_pulses : mg "_law_pulses" = some (.ref a__law_pulses)
  a__law_is_int : Addr
  d__law_is_int : FuncData
  F__law_is_int : FnP K "_law_is_int" st__law_is_int a__law_is_int d__law_is_int
  m__law_is_int : mg "_law_is_int" = some (.ref a__law_is_int)
  a__law_like : Addr
  d__law_like : FuncData
  F__law_like : FnP K "_law_like" st__law_like a__law_like d__law_like
  m__law_like : mg "_law_like" = some (.ref a__law_like)
  a_joined : Addr
  d_joined : FuncData
  F_joined : FnP K "joined" st_joined a_joined d_joined
  m_joined : mg "joined" = some (.ref a_joined)
  a_meeting : Addr
  d_meeting : FuncData
  F_meeting : FnP K "meeting" st_meeting a_meeting d_meeting
  m_meeting : mg "meeting" = some (.ref a_meeting)
  a_fills : Addr
  d_fills : FuncData
  F_fills : FnP K "fills" st_fills a_fills d_fills
  m_fills : mg "fills" = some (.ref a_fills)
  a__law_meets : Addr
  d__law_meets : FuncData
  F__law_meets : FnP K "_law_meets" st__law_meets a__law_meets d__law_meets
  m__law_meets : mg "_law_meets" = some (.ref a__law_meets)
  a__law_beats : Addr
  d__law_beats : FuncData
  F__law_beats : FnP K "_law_beats" st__law_beats a__law_beats d__law_beats
  m__law_beats : mg "_law_beats" = some (.ref a__law_beats)
  a__law_struck : Addr
  d__law_struck : FuncData
  F__law_struck : FnP K "_law_struck" st__law_struck a__law_struck d__law_struck
  m__law_struck : mg "_law_struck" = some (.ref a__law_struck)
  a_divisors_of : Addr
  d_divisors_of : FuncData
  F_divisors_of : FnP K "divisors_of" st_divisors_of a_divisors_of d_divisors_of
  m_divisors_of : mg "divisors_of" = some (.ref a_divisors_of)
  a_moved : Addr
  d_moved : FuncData
  F_moved : FnP K "moved" st_moved a_moved d_moved
  m_moved : mg "moved" = some (.ref a_moved)
  a_thinned : Addr
  d_thinned : FuncData
  F_thinned : FnP K "thinned" st_thinned a_thinned d_thinned
  m_thinned : mg "thinned" = some (.ref a_thinned)
  a_hits : Addr
  d_hits : FuncData
  F_hits : FnP K "hits" st_hits a_hits d_hits
  m_hits : mg "hits" = some (.ref a_hits)
  a__law_common : Addr
  d__law_common : FuncData
  F__law_common : FnP K "_law_common" st__law_common a__law_common d__law_common
  m__law_common : mg "_law_common" = some (.ref a__law_common)
  a__law_round_right : Addr
  d__law_round_right : FuncData
  F__law_round_right : FnP K "_law_round_right" st__law_round_right a__law_round_right d__law_round_right
  m__law_round_right : mg "_law_round_right" = some (.ref a__law_round_right)
  a__law_counted : Addr
  d__law_counted : FuncData
  F__law_counted : FnP K "_law_counted" st__law_counted a__law_counted d__law_counted
  m__law_counted : mg "_law_counted" = some (.ref a__law_counted)
  a__law_edited : Addr
  d__law_edited : FuncData
  F__law_edited : FnP K "_law_edited" st__law_edited a__law_edited d__law_edited
  m__law_edited : mg "_law_edited" = some (.ref a__law_edited)
  a_law : Addr
  d_law : FuncData
  F_law : FnP K "law" st_law a_law d_law
  m_law : mg "law" = some (.ref a_law)
  n_all : mg "all" = none
  n_any : mg "any" = none
  n_bool : mg "bool" = none
  n_int : mg "int" = none
  n_isinstance : mg "isinstance" = none
  n_len : mg "len" = none
  n_range : mg "range" = none
  n_set : mg "set" = none
  n_sorted : mg "sorted" = none
  n_str : mg "str" = none
  n_sum : mg "sum" = none
  n_tuple : mg "tuple" = none
section
variable {P : Program} {w : World} {K : PySem.W.Frag} {mg : Str → Option Value} {base : Heap}
theorem bi__law_mixed (T : Txt K mg) : Binds K T.d__law_mixed ps__law_mixed [] := T.F__law_mixed.bindsN fun _ _ _ _ _ _ us hl => match us, hl with | [_, _], _ => rfl
theorem bi__law_row (T : Txt K mg) : Binds K T.d__law_row ps__law_row [] := T.F__law_row.bindsN fun _ _ _ _ _ _ us hl => match us, hl with | [_, _], _ => rfl
theorem bi__law_laps (T : Txt K mg) : Binds K T.d__law_laps ps__law_laps [] := T.F__law_laps.bindsN fun _ _ _ _ _ _ us hl => match us, hl with | [_], _ => rfl
theorem bi__law_pulses (T : Txt K mg) : Binds K T.d__law_pulses ps__law_pulses [] := T.F__law_pulses.bindsN fun _ _ _ _ _ _ us hl => match us, hl with | [_, _], _ => rfl
theorem bi__law_is_int (T : Txt K mg) : Binds K T.d__law_is_int ps__law_is_int [] := T.F__law_is_int.bindsN fun _ _ _ _ _ _ us hl => match us, hl with | [_], _ => rfl
theorem bi__law_like (T : Txt K mg) : Binds K T.d__law_like ps__law_like [] := T.F__law_like.bindsN fun _ _ _ _ _ _ us hl => match us, hl with | [_, _], _ => rfl
theorem bi_joined (T : Txt K mg) : Binds K T.d_joined ps_joined [] := T.F_joined.bindsN fun _ _ _ _ _ _ us hl => match us, hl with | [_, _], _ => rfl
theorem bi_meeting (T : Txt K mg) : Binds K T.d_meeting ps_meeting [] := T.F_meeting.bindsN fun _ _ _ _ _ _ us hl => match us, hl with | [_], _ => rfl
theorem bi_fills (T : Txt K mg) : Binds K T.d_fills ps_fills [] := T.F_fills.bindsN fun _ _ _ _ _ _ us hl => match us, hl with | [_, _, _], _ => rfl
theorem bi__law_meets (T : Txt K mg) : Binds K T.d__law_meets ps__law_meets [] := T.F__law_meets.bindsN fun _ _ _ _ _ _ us hl => match us, hl with | [_, _, _], _ => rfl
theorem bi__law_beats (T : Txt K mg) : Binds K T.d__law_beats ps__law_beats [] := T.F__law_beats.bindsN fun _ _ _ _ _ _ us hl => match us, hl with | [_, _], _ => rfl
theorem bi__law_struck (T : Txt K mg) : Binds K T.d__law_struck ps__law_struck [] := T.F__law_struck.bindsN fun _ _ _ _ _ _ us hl => match us, hl with | [_, _], _ => rfl
theorem bi_divisors_of (T : Txt K mg) : Binds K T.d_divisors_of ps_divisors_of [] := T.F_divisors_of.bindsN fun _ _ _ _ _ _ us hl => match us, hl with | [_], _ => rfl
theorem bi_moved (T : Txt K mg) : Binds K T.d_moved ps_moved [] := T.F_moved.bindsN fun _ _ _ _ _ _ us hl => match us, hl with | [_, _, _], _ => rfl
theorem bi_thinned (T : Txt K mg) : Binds K T.d_thinned ps_thinned [] := T.F_thinned.bindsN fun _ _ _ _ _ _ us hl => match us, hl with | [_, _], _ => rfl
theorem bi_hits (T : Txt K mg) : Binds K T.d_hits ps_hits [] := T.F_hits.bindsN fun _ _ _ _ _ _ us hl => match us, hl with | [_, _, _], _ => rfl
theorem bi__law_common (T : Txt K mg) : Binds K T.d__law_common ps__law_common [] := T.F__law_common.bindsN fun _ _ _ _ _ _ us hl => match us, hl with | [_, _], _ => rfl
theorem bi__law_round_right (T : Txt K mg) : Binds K T.d__law_round_right ps__law_round_right [] := T.F__law_round_right.bindsN fun _ _ _ _ _ _ us hl => match us, hl with | [_, _], _ => rfl
theorem bi__law_counted (T : Txt K mg) : Binds K T.d__law_counted ps__law_counted [] := T.F__law_counted.bindsN fun _ _ _ _ _ _ us hl => match us, hl with | [_, _], _ => rfl
theorem bi__law_edited (T : Txt K mg) : Binds K T.d__law_edited ps__law_edited [] := T.F__law_edited.bindsN fun _ _ _ _ _ _ us hl => match us, hl with | [_, _, _], _ => rfl
theorem bi_law (T : Txt K mg) : Binds K T.d_law ps_law [] := T.F_law.bindsN fun _ _ _ _ _ _ us hl => match us, hl with | [_], _ => rfl
theorem ok__law_mixed (T : Txt K mg) : FnOk P w K mg base CX0 1 T.a__law_mixed T.d__law_mixed ps__law_mixed (spP K 2 sem__law_mixed) := def_ok T.F__law_mixed sc__law_mixed fun cdv A outer s H E hr => ⟨_, by
    have S := sc__law_mixed
    exact (s_cons (s_set 2 e_int S.nd) (s_cons (s_if (t_cmp op_gt does_gt (EE.b (x_len T.n_len (EE.b (ev 0)))) (EE.b e_int)) (s_one (s_set 2 (x_ix (EE.b (ev 0)) (EE.b (x_mod (EE.b (ev 1)) (EE.b (x_len T.n_len (EE.b (ev 0))))))) S.nd)) s_nil) (s_cons (s_set 3 (x_mod (EE.b (x_int T.n_int (EE.b (x_add (EE.b (x_add (EE.b (x_mul (EE.b (ev 2)) (EE.b e_int))) (EE.b (x_mul (EE.b (ev 1)) (EE.b e_int))))) (EE.b e_int))))) (EE.b e_int)) S.nd) (s_cons (s_set 4 (x_mod (EE.b (x_int T.n_int (EE.b (x_add (EE.b (x_add (EE.b (x_mul (EE.b (ev 3)) (EE.b (ev 3)))) (EE.b (x_fdiv (EE.b (ev 3)) (EE.b e_int))))) (EE.b (x_mul (EE.b (ev 1)) (EE.b e_int))))))) (EE.b e_int)) S.nd) (s_cons (s_set 5 (x_mod (EE.b (x_int T.n_int (EE.b (x_add (EE.b (x_add (EE.b (x_mul (EE.b (ev 4)) (EE.b (ev 4)))) (EE.b (x_fdiv (EE.b (ev 4)) (EE.b e_int))))) (EE.b e_int))))) (EE.b e_int)) S.nd) (s_one (s_ret (x_mod (EE.b (x_fdiv (EE.b (ev 5)) (EE.b e_int))) (EE.b e_int)))))))))⟩
theorem ok__law_row (T : Txt K mg) : FnOk P w K mg base CX0 2 T.a__law_row T.d__law_row ps__law_row (spP K 2 sem__law_row) := def_ok T.F__law_row sc__law_row fun cdv A outer s H E hr => ⟨_, by
    have S := sc__law_row
    exact (s_cons (s_set 2 e_int S.nd) (s_cons (s_if (EW.toT (w_and (t_cmp op_gt does_gt (EE.b (x_len T.n_len (EE.b (ev 0)))) (EE.b e_int)) (w_and1 (t_cmp op_ge does_ge (EE.b (x_ix (EE.b (ev 0)) (EE.b e_int))) (EE.b (x_pow (EE.b e_int) (EE.b e_int))))))) (s_one (s_set 2 (x_ix (EE.b (ev 0)) (EE.b e_int)) S.nd)) s_nil) (s_cons (s_own 3 (d_lst a_nil) S.nd) (s_cons (s_for PassesOwn.never rfl (i_rng1 rfl T.n_range (a_cons (ev 1) a_nil)) (t_name 4 S.nd) (s_one (s_if (t_cmp op_gt does_gt (EE.b (ev 2)) (EE.b e_int)) (s_cons (s_app 3 (x_mod (EE.b (x_int T.n_int (EE.b (ev 2)))) (EE.b e_int))) (s_one (s_set 2 (x_fdiv (EE.b (ev 2)) (EE.b e_int)) S.nd))) (s_one (s_app 3 (d_def (ok__law_mixed T) (hr.mono (by decide)) T.m__law_mixed T.F__law_mixed.kp (bi__law_mixed T) (a_cons (ev 0) (a_cons (ev 4) a_nil)))))))) (s_one (s_retV 3))))))⟩
theorem ok__law_laps (T : Txt K mg) : FnOk P w K mg base CX0 1 T.a__law_laps T.d__law_laps ps__law_laps (spP K 1 sem__law_laps) := def_ok T.F__law_laps sc__law_laps fun cdv A outer s H E hr => ⟨_, by
    have S := sc__law_laps
    exact (s_one (s_ret (EN.toE (m_lc (own := [("lap", 1)]) rfl S.nd (EI.c (i_rng2 rfl T.n_range (a_cons e_int (a_cons e_int a_nil)))) (by kernel_rfl) (fun s_ H_ C_ cl_ fp_ => (t_name 1 S.nd)) (fun s_ H_ C_ cl_ fp_ => (k_one (t_cmp (op_eqD hr.units) does_eq (EE.b (x_mod (EE.b (x_int T.n_int (EE.b (ev 0)))) (EE.b (ev 1)))) (EE.b e_int)))) (fun s_ H_ C_ cl_ fp_ => (ev 1))))))⟩
theorem ok__law_pulses (T : Txt K mg) : FnOk P w K mg base CX0 2 T.a__law_pulses T.d__law_pulses ps__law_pulses (spP K 2 sem__law_pulses) := def_ok T.F__law_pulses sc__law_pulses fun cdv A outer s H E hr => ⟨_, by
    have S := sc__law_pulses
    exact (s_cons (s_parM 2 3 rfl S.nd (MM.e (d_def (ok__law_laps T) (hr.mono (by decide)) T.m__law_laps T.F__law_laps.kp (bi__law_laps T) (a_cons (ev 1) a_nil))) (MM.n (d_lst a_nil))) (s_cons (s_par 4 5 rfl S.nd (a_cons (x_mod (EE.b (x_int T.n_int (EE.b (x_ix (EE.b (ev 0)) (EE.b e_int))))) (EE.b e_int)) (a_cons (x_mod (EE.b (x_int T.n_int (EE.b (x_ix (EE.b (ev 0)) (EE.b e_int))))) (EE.b (ev 1))) a_nil))) (s_cons (s_for PassesOwn.never rfl (i_rng1 rfl T.n_range (a_cons (x_add (EE.b e_int) (EE.b (x_mod (EE.b (x_int T.n_int (EE.b (x_ix (EE.b (ev 0)) (EE.b e_int))))) (EE.b e_int)))) a_nil)) (t_name 6 S.nd) (s_cons (s_set 7 (x_ix (EE.b (ev 2)) (EE.b (x_mod (EE.b (x_int T.n_int (EE.b (x_ix (EE.b (ev 0)) (EE.b (x_add (EE.b e_int) (EE.b (ev 6)))))))) (EE.b (x_len T.n_len (EE.b (ev 2))))))) S.nd) (s_cons (s_set 8 (x_mod (EE.b (x_int T.n_int (EE.b (x_ix (EE.b (ev 0)) (EE.b (x_add (EE.b e_int) (EE.b (ev 6)))))))) (EE.b (ev 7))) S.nd) (s_cons (s_if (EW.toT (w_or (t_cmp (op_lt.or (op_ltA hr.units)) does_lt (EE.b (ev 4)) (EE.b e_int)) (w_or1 (EW.toT (w_and (t_cmp (op_eqD hr.units) does_eq (EE.b (ev 4)) (EE.b e_int)) (w_and1 (t_cmp op_gt does_gt (EE.b (x_mod (EE.b (x_int T.n_int (EE.b (x_ix (EE.b (ev 0)) (EE.b (x_add (EE.b e_int) (EE.b (ev 6)))))))) (EE.b e_int))) (EE.b e_int)))))))) (s_one (s_set 8 (x_mod (EE.b (x_int T.n_int (EE.b (ev 5)))) (EE.b (ev 7))) S.nd)) s_nil) (s_cons (s_set 9 (d_tup (a_cons (ev 7) (a_cons (ev 8) a_nil))) S.nd) (s_cons (s_if (EW.toT (w_and (t_cmp op_gt does_gt (EE.b (ev 6)) (EE.b e_int)) (w_and1 (t_cmp (op_eqD hr.units) does_eq (EE.b (x_mod (EE.b (x_int T.n_int (EE.b (x_ix (EE.b (ev 0)) (EE.b (x_add (EE.b e_int) (EE.b (ev 6)))))))) (EE.b e_int))) (EE.b e_int))))) (s_one (s_set 9 (x_ix (bv 3) (EE.b (x_mod (EE.b (x_int T.n_int (EE.b (x_ix (EE.b (ev 0)) (EE.b (x_add (EE.b e_int) (EE.b (ev 6)))))))) (EE.b (x_len T.n_len (bv 3)))))) S.nd)) s_nil) (s_one (s_app 3 (ev 9))))))))) (s_one (s_retV 3)))))⟩
theorem ok__law_is_int (T : Txt K mg) : FnOk P w K mg base CX0 1 T.a__law_is_int T.d__law_is_int ps__law_is_int (spP K 1 sem__law_is_int) := def_ok T.F__law_is_int sc__law_is_int fun cdv A outer s H E hr => ⟨_, by
    have S := sc__law_is_int
    exact (s_one (s_ret (v_and (x_isi "int" T.n_isinstance (EE.b (ev 0)) bo_int T.n_int) (v_one (v_not (x_isi "bool" T.n_isinstance (EE.b (ev 0)) bo_bool T.n_bool))))))⟩
theorem ok__law_like (T : Txt K mg) : ∀ n : Nat, FnOk P w K mg base CX0 (1 + n) T.a__law_like T.d__law_like ps__law_like (spP K 2 (sem__law_like n))
  | 0 => fn_never
  | n + 1 => def_ok T.F__law_like sc__law_like fun cdv A outer s H E hr => ⟨_, by
    have IH : FnOk P w K mg base CX0 (1 + n) T.a__law_like T.d__law_like ps__law_like (spP K 2 (sem__law_like n)) := ok__law_like T n
    have S := sc__law_like
    exact (s_cons (s_if (t_cmp (op_isN.or op_is_bl) does_is (EE.b (ev 1)) (EE.b e_non)) (s_one (s_ret (e_cmp (op_isN.or op_is_bl) does_is (EE.b (ev 0)) (EE.b e_non)))) s_nil) (s_cons (s_if (t_tru (EE.b (x_isi "bool" T.n_isinstance (EE.b (ev 1)) bo_bool T.n_bool))) (s_one (s_ret (v_and (x_isi "bool" T.n_isinstance (EE.b (ev 0)) bo_bool T.n_bool) (v_one (e_cmp (op_eqD hr.units) does_eq (EE.b (ev 0)) (EE.b (ev 1))))))) s_nil) (s_cons (s_if (t_tru (EE.b (x_isi "tuple" T.n_isinstance (EE.b (ev 1)) bo_tuple T.n_tuple))) (s_cons (s_if (EW.toT (w_or (t_not (t_tru (EE.b (x_isi "tuple" T.n_isinstance (EE.b (ev 0)) bo_tuple T.n_tuple)))) (w_or1 (t_cmp (op_neD hr.units) does_ne (EE.b (x_len T.n_len (EE.b (ev 0)))) (EE.b (x_len T.n_len (EE.b (ev 1)))))))) (s_one (s_ret e_bl)) s_nil) (s_one (s_ret (x_all rfl T.n_all (EN.b (m_lc (own := [("k", 2)]) rfl S.nd (EI.c (i_rng1 rfl T.n_range (a_cons (x_len T.n_len (EE.b (ev 1))) a_nil))) (by kernel_rfl) (fun s_ H_ C_ cl_ fp_ => (t_name 2 S.nd)) (fun s_ H_ C_ cl_ fp_ => k_nil) (fun s_ H_ C_ cl_ fp_ => (d_def IH hr T.m__law_like T.F__law_like.kp (bi__law_like T) (a_cons (x_ix (EE.b (ev 0)) (EE.b (ev 2))) (a_cons (x_ix (EE.b (ev 1)) (EE.b (ev 2))) a_nil)))))))))) s_nil) (s_cons (s_if (t_tru (EE.b (x_isi "str" T.n_isinstance (EE.b (ev 1)) bo_str T.n_str))) (s_one (s_ret (v_and (x_isi "str" T.n_isinstance (EE.b (ev 0)) bo_str T.n_str) (v_one (e_cmp (op_eqD hr.units) does_eq (EE.b (ev 0)) (EE.b (ev 1))))))) s_nil) (s_one (s_ret (v_and (d_def (ok__law_is_int T) (hr.mono (Nat.le_trans (by decide : 1 ≤ 1) (Nat.le_add_right _ _))) T.m__law_is_int T.F__law_is_int.kp (bi__law_is_int T) (a_cons (ev 0) a_nil)) (v_one (e_cmp (op_eqD hr.units) does_eq (EE.b (ev 0)) (EE.b (ev 1)))))))))))⟩
theorem ok_joined (T : Txt K mg) : FnOk P w K mg base CX0 1 T.a_joined T.d_joined ps_joined (spP K 2 sem_joined) := def_ok T.F_joined sc_joined fun cdv A outer s H E hr => ⟨_, by
    have S := sc_joined
    exact (s_cons (s_asg (ev 0) (t_tup rfl (ts_cons (t_name 2 S.nd) (ts_cons (t_name 3 S.nd) ts_nil)))) (s_cons (s_asg (ev 1) (t_tup rfl (ts_cons (t_name 4 S.nd) (ts_cons (t_name 5 S.nd) ts_nil)))) (s_cons (s_set 6 (ev 3) S.nd) (s_cons (s_for PassesOwn.never rfl (i_rng1 rfl T.n_range (a_cons (ev 4) a_nil)) (t_name 7 S.nd) (s_cons (s_if (t_cmp (op_eqD hr.units) does_eq (EE.b (x_mod (EE.b (ev 6)) (EE.b (ev 4)))) (EE.b (ev 5))) (s_cons (s_set 8 (ev 2) S.nd) (s_cons (s_while PassesOwn.never (t_cmp (op_neD hr.units) does_ne (EE.b (x_mod (EE.b (ev 8)) (EE.b (ev 4)))) (EE.b e_int)) (s_one (s_augAdd 8 (ev 2) S.nd))) (s_one (s_ret (d_tup (a_cons (ev 8) (a_cons (x_mod (EE.b (ev 6)) (EE.b (ev 8))) a_nil))))))) s_nil) (s_one (s_augAdd 6 (ev 2) S.nd)))) (s_one (s_ret e_non))))))⟩
theorem ok_meeting (T : Txt K mg) : FnOk P w K mg base CX0 2 T.a_meeting T.d_meeting ps_meeting (spP K 1 sem_meeting) := def_ok T.F_meeting sc_meeting fun cdv A outer s H E hr => ⟨_, by
    have S := sc_meeting
    exact (s_cons (s_set 1 (x_ix (EE.b (ev 0)) (EE.b e_int)) S.nd) (s_cons (s_for PassesOwn.never rfl (i_any (x_sl (EE.b (ev 0)) (s_at e_int) s_no)) (t_name 2 S.nd) (s_cons (s_set 1 (d_def (ok_joined T) (hr.mono (by decide)) T.m_joined T.F_joined.kp (bi_joined T) (a_cons (ev 1) (a_cons (ev 2) a_nil))) S.nd) (s_one (s_if (t_cmp (op_isN.or op_is_bl) does_is (EE.b (ev 1)) (EE.b e_non)) (s_one (s_ret e_non)) s_nil)))) (s_one (s_retV 1))))⟩
theorem ok_fills (T : Txt K mg) : FnOk P w K mg base CX0 1 T.a_fills T.d_fills ps_fills (spP K 3 sem_fills) := def_ok T.F_fills sc_fills fun cdv A outer s H E hr => ⟨_, by
    have S := sc_fills
    exact (s_cons (sm_lc2S 3 (own := [("one", 4), ("other", 5)]) (vs1 := [5]) rfl S.nd (ic_any (EE.b (ev 1))) (by kernel_rfl) (fun s_ H_ C_ cl_ fp_ => (t_name 4 S.nd)) (fun s_ H_ C_ cl_ fp_ => k_nil) (fun s_ H_ C_ cl_ fp_ => (i_any (ev 2))) (fun s_ H_ C_ cl_ fp_ => (t_name 5 S.nd)) (fun s_ H_ C_ cl_ fp_ => k_nil) (fun s_ H_ C_ cl_ fp_ => (x_mod (EE.b (x_add (EE.b (ev 4)) (EE.b (ev 5)))) (EE.b (ev 0))))) (s_one (s_ret (v_and (e_cmp (op_eqD hr.units) does_eq (EE.b (x_len T.n_len (EE.b (ev 3)))) (EE.b (ev 0))) (v_one (e_cmp (op_eqD hr.units) does_eq (EE.b (x_lenSet rfl T.n_len T.n_set (EE.b (ev 3)))) (EE.b (ev 0))))))))⟩
theorem ok__law_meets (T : Txt K mg) : FnOk P w K mg base CX0 2 T.a__law_meets T.d__law_meets ps__law_meets (spP K 3 sem__law_meets) := def_ok T.F__law_meets sc__law_meets fun cdv A outer s H E hr => ⟨_, by
    have S := sc__law_meets
    exact (s_cons (s_if (t_cmp (op_isN.or op_is_bl) does_is (EE.b (ev 0)) (EE.b e_non)) (s_one (s_ret e_bl)) s_nil) (s_cons (s_if (EW.toT (w_or (t_not (t_tru (EE.b (x_isi "tuple" T.n_isinstance (EE.b (ev 0)) bo_tuple T.n_tuple)))) (w_or (t_cmp (op_neD hr.units) does_ne (EE.b (x_len T.n_len (EE.b (ev 0)))) (EE.b e_int)) (w_or (t_not (t_tru (EE.b (d_def (ok__law_is_int T) (hr.mono (by decide)) T.m__law_is_int T.F__law_is_int.kp (bi__law_is_int T) (a_cons (x_ix (EE.b (ev 0)) (EE.b e_int)) a_nil))))) (w_or1 (t_not (t_tru (EE.b (d_def (ok__law_is_int T) (hr.mono (by decide)) T.m__law_is_int T.F__law_is_int.kp (bi__law_is_int T) (a_cons (x_ix (EE.b (ev 0)) (EE.b e_int)) a_nil)))))))))) (s_one (s_ret e_bl)) s_nil) (s_cons (s_if (EW.toT (w_or (t_not (t_chain op_le (op_lt.or (op_ltA hr.units)) does_le does_lt (EE.b e_int) (EE.b (x_ix (EE.b (ev 0)) (EE.b e_int))) (EE.b (x_ix (EE.b (ev 0)) (EE.b e_int))))) (w_or1 (t_cmp (op_neD hr.units) does_ne (EE.b (x_mod (EE.b (x_int T.n_int (EE.b (ev 2)))) (EE.b (x_ix (EE.b (ev 0)) (EE.b e_int))))) (EE.b e_int))))) (s_one (s_ret e_bl)) s_nil) (s_one (s_ret (x_all rfl T.n_all (EN.b (m_lc (own := [("one", 3)]) rfl S.nd (ic_any (EE.b (ev 1))) (by kernel_rfl) (fun s_ H_ C_ cl_ fp_ => (t_name 3 S.nd)) (fun s_ H_ C_ cl_ fp_ => k_nil) (fun s_ H_ C_ cl_ fp_ => (v_and (e_cmp (op_eqD hr.units) does_eq (EE.b (x_mod (EE.b (x_int T.n_int (EE.b (x_ix (EE.b (ev 0)) (EE.b e_int))))) (EE.b (x_ix (EE.b (ev 3)) (EE.b e_int))))) (EE.b e_int)) (v_one (e_cmp (op_eqD hr.units) does_eq (EE.b (x_mod (EE.b (x_int T.n_int (EE.b (x_sub (EE.b (x_ix (EE.b (ev 0)) (EE.b e_int))) (EE.b (x_ix (EE.b (ev 3)) (EE.b e_int))))))) (EE.b (x_ix (EE.b (ev 3)) (EE.b e_int))))) (EE.b e_int)))))))))))))⟩
theorem ok__law_beats (T : Txt K mg) : FnOk P w K mg base CX0 1 T.a__law_beats T.d__law_beats ps__law_beats (spP K 2 sem__law_beats) := def_ok T.F__law_beats sc__law_beats fun cdv A outer s H E hr => ⟨_, by
    have S := sc__law_beats
    exact (s_cons (s_if (t_cmp (op_isN.or op_is_bl) does_is (EE.b (ev 0)) (EE.b e_non)) (s_one (s_ret e_int)) s_nil) (s_one (s_ret (x_fdiv (EE.b (ev 1)) (EE.b (x_ix (EE.b (ev 0)) (EE.b e_int)))))))⟩
theorem ok__law_struck (T : Txt K mg) : FnOk P w K mg base CX0 1 T.a__law_struck T.d__law_struck ps__law_struck (spP K 2 sem__law_struck) := def_ok T.F__law_struck sc__law_struck fun cdv A outer s H E hr => ⟨_, by
    have S := sc__law_struck
    exact (s_one (s_ret (e_cmp (op_eqD hr.units) does_eq (EE.b (x_mod (EE.b (x_int T.n_int (EE.b (x_sub (EE.b (ev 1)) (EE.b (x_ix (EE.b (ev 0)) (EE.b e_int))))))) (EE.b (x_ix (EE.b (ev 0)) (EE.b e_int))))) (EE.b e_int))))⟩
theorem ok_divisors_of (T : Txt K mg) : FnOk P w K mg base CX0 1 T.a_divisors_of T.d_divisors_of ps_divisors_of (spP K 1 sem_divisors_of) := def_ok T.F_divisors_of sc_divisors_of fun cdv A outer s H E hr => ⟨_, by
    have S := sc_divisors_of
    exact (s_one (s_ret (EN.toE (m_lc (own := [("d", 1)]) rfl S.nd (EI.c (i_rng2 rfl T.n_range (a_cons e_int (a_cons (x_add (EE.b (ev 0)) (EE.b e_int)) a_nil)))) (by kernel_rfl) (fun s_ H_ C_ cl_ fp_ => (t_name 1 S.nd)) (fun s_ H_ C_ cl_ fp_ => (k_one (t_cmp (op_eqD hr.units) does_eq (EE.b (x_mod (EE.b (ev 0)) (EE.b (ev 1)))) (EE.b e_int)))) (fun s_ H_ C_ cl_ fp_ => (ev 1))))))⟩
theorem ok_moved (T : Txt K mg) : FnOk P w K mg base CX0 1 T.a_moved T.d_moved ps_moved (spP K 3 sem_moved) := def_ok T.F_moved sc_moved fun cdv A outer s H E hr => ⟨_, by
    have S := sc_moved
    exact (s_one (s_ret (x_tuple T.n_tuple (EN.b (n_sorted hr T.n_sorted (EN.b (m_lc (own := [("place", 3)]) rfl S.nd (ic_any (EE.b (ev 1))) (by kernel_rfl) (fun s_ H_ C_ cl_ fp_ => (t_name 3 S.nd)) (fun s_ H_ C_ cl_ fp_ => k_nil) (fun s_ H_ C_ cl_ fp_ => (x_mod (EE.b (x_add (EE.b (ev 3)) (EE.b (ev 2)))) (EE.b (ev 0)))))))))))⟩
theorem ok_thinned (T : Txt K mg) : FnOk P w K mg base CX0 2 T.a_thinned T.d_thinned ps_thinned (spP K 2 sem_thinned) := def_ok T.F_thinned sc_thinned fun cdv A outer s H E hr => ⟨_, by
    have S := sc_thinned
    exact (s_cons (s_for PassesOwn.never rfl (i_any (d_def (ok_divisors_of T) (hr.mono (by decide)) T.m_divisors_of T.F_divisors_of.kp (bi_divisors_of T) (a_cons (ev 0) a_nil))) (t_name 2 S.nd) (s_one (s_if (t_cmp (op_eqD hr.units) does_eq (EE.b (d_def (ok_moved T) (hr.mono (by decide)) T.m_moved T.F_moved.kp (bi_moved T) (a_cons (ev 0) (a_cons (ev 1) (a_cons (ev 2) a_nil))))) (EE.b (ev 1))) (s_one (s_ret (d_tup (a_cons (ev 2) (a_cons (x_tuple T.n_tuple (EN.b (m_lc (own := [("place", 3)]) rfl S.nd (ic_any (EE.b (ev 1))) (by kernel_rfl) (fun s_ H_ C_ cl_ fp_ => (t_name 3 S.nd)) (fun s_ H_ C_ cl_ fp_ => (k_one (t_cmp (op_lt.or (op_ltA hr.units)) does_lt (EE.b (ev 3)) (EE.b (ev 2))))) (fun s_ H_ C_ cl_ fp_ => (ev 3))))) a_nil))))) s_nil))) (s_one (s_ret (d_tup (a_cons (ev 0) (a_cons (ev 1) a_nil))))))⟩
theorem ok_hits (T : Txt K mg) : FnOk P w K mg base CX0 2 T.a_hits T.d_hits ps_hits (spP K 3 sem_hits) := def_ok T.F_hits sc_hits fun cdv A outer s H E hr => ⟨_, by
    have S := sc_hits
    exact (s_one (s_ret (x_tuple T.n_tuple (EN.b (m_lc (own := [("k", 4)]) rfl S.nd (EI.c (i_rng1 rfl T.n_range (a_cons (ev 0) a_nil))) (by kernel_rfl) (fun s_ H_ C_ cl_ fp_ => (t_name 4 S.nd)) (fun s_ H_ C_ cl_ fp_ => k_nil) (fun s_ H_ C_ cl_ fp_ => (x_len T.n_len (EN.b (m_lc (own := [("place", 3)]) rfl S.nd (ic_any (EE.b (d_def (ok_moved T) (hr.mono (by decide)) T.m_moved T.F_moved.kp (bi_moved T) (a_cons (ev 0) (a_cons (ev 2) (a_cons (ev 4) a_nil)))))) (by kernel_rfl) (fun s_ H_ C_ cl_ fp_ => (t_name 3 S.nd)) (fun s_ H_ C_ cl_ fp_ => (k_one (t_cmp (op_in_str.or ((op_inD (hu65 hr)).or (op_inT (hu65 hr)))) does_in (EE.b (ev 3)) (EE.b (ev 1))))) (fun s_ H_ C_ cl_ fp_ => (ev 3)))))))))))⟩
theorem ok__law_common (T : Txt K mg) : FnOk P w K mg base CX0 1 T.a__law_common T.d__law_common ps__law_common (spP K 2 sem__law_common) := def_ok T.F__law_common sc__law_common fun cdv A outer s H E hr => ⟨_, by
    have S := sc__law_common
    exact (s_cons (s_for PassesOwn.never rfl (i_rng1 rfl T.n_range (a_cons e_int a_nil)) (t_name 2 S.nd) (s_cons (s_if (t_cmp (op_eqD hr.units) does_eq (EE.b (ev 1)) (EE.b e_int)) (s_one (s_retV 0)) s_nil) (s_one (s_par 0 1 rfl S.nd (a_cons (ev 1) (a_cons (x_mod (EE.b (x_int T.n_int (EE.b (ev 0)))) (EE.b (ev 1))) a_nil)))))) (s_one (s_retV 0)))⟩
theorem ok__law_round_right (T : Txt K mg) : FnOk P w K mg base CX0 6 T.a__law_round_right T.d__law_round_right ps__law_round_right (spP K 2 sem__law_round_right) := def_ok T.F__law_round_right sc__law_round_right fun cdv A outer s H E hr => ⟨_, by
    have S := sc__law_round_right
    exact (s_cons (s_set 2 (x_ix (EE.b (d_tup (a_cons e_int (a_cons e_int (a_cons e_int (a_cons e_int (a_cons e_int (a_cons e_int (a_cons e_int (a_cons e_int (a_cons e_int (a_cons e_int (a_cons e_int (a_cons e_int a_nil)))))))))))))) (EE.b (x_mod (EE.b (x_int T.n_int (EE.b (x_ix (EE.b (ev 0)) (EE.b (ev 1)))))) (EE.b e_int)))) S.nd) (s_cons (sm_lcS 3 (own := [("lap", 4)]) rfl S.nd (EI.c (i_rng2 rfl T.n_range (a_cons e_int (a_cons (x_add (EE.b (ev 2)) (EE.b e_int)) a_nil)))) (by kernel_rfl) (fun s_ H_ C_ cl_ fp_ => (t_name 4 S.nd)) (fun s_ H_ C_ cl_ fp_ => (k_one (t_cmp (op_eqD hr.units) does_eq (EE.b (x_mod (EE.b (x_int T.n_int (EE.b (ev 2)))) (EE.b (ev 4)))) (EE.b e_int)))) (fun s_ H_ C_ cl_ fp_ => (ev 4))) (s_cons (s_par 5 6 rfl S.nd (a_cons (x_ix (EE.b (ev 3)) (EE.b (x_mod (EE.b (x_int T.n_int (EE.b (x_ix (EE.b (ev 0)) (EE.b (x_add (EE.b (ev 1)) (EE.b e_int))))))) (EE.b (x_len T.n_len (EE.b (ev 3))))))) (a_cons (x_ix (EE.b (ev 3)) (EE.b (x_mod (EE.b (x_int T.n_int (EE.b (x_ix (EE.b (ev 0)) (EE.b (x_add (EE.b (ev 1)) (EE.b e_int))))))) (EE.b (x_len T.n_len (EE.b (ev 3))))))) a_nil))) (s_cons (s_asg (d_tup (a_cons (d_tup (a_cons (ev 5) (a_cons (x_mod (EE.b (x_int T.n_int (EE.b (x_ix (EE.b (ev 0)) (EE.b (x_add (EE.b (ev 1)) (EE.b e_int))))))) (EE.b (ev 5))) a_nil))) (a_cons (d_tup (a_cons (ev 6) (a_cons (x_mod (EE.b (x_int T.n_int (EE.b (x_ix (EE.b (ev 0)) (EE.b (x_add (EE.b (ev 1)) (EE.b e_int))))))) (EE.b (ev 6))) a_nil))) a_nil))) (t_tup rfl (ts_cons (t_name 7 S.nd) (ts_cons (t_name 8 S.nd) ts_nil)))) (s_cons (s_set 9 (x_tuple T.n_tuple (EN.b (m_lc (own := [("place", 10)]) rfl S.nd (EI.c (i_rng1 rfl T.n_range (a_cons (ev 2) a_nil))) (by kernel_rfl) (fun s_ H_ C_ cl_ fp_ => (t_name 10 S.nd)) (fun s_ H_ C_ cl_ fp_ => (k_one (t_tru (EE.b (d_def (ok__law_struck T) (hr.mono (by decide)) T.m__law_struck T.F__law_struck.kp (bi__law_struck T) (a_cons (ev 7) (a_cons (ev 10) a_nil))))))) (fun s_ H_ C_ cl_ fp_ => (ev 10))))) S.nd) (s_cons (s_set 11 (x_tuple T.n_tuple (EN.b (m_lc (own := [("place", 10)]) rfl S.nd (EI.c (i_rng1 rfl T.n_range (a_cons (ev 2) a_nil))) (by kernel_rfl) (fun s_ H_ C_ cl_ fp_ => (t_name 10 S.nd)) (fun s_ H_ C_ cl_ fp_ => (k_one (t_tru (EE.b (d_def (ok__law_struck T) (hr.mono (by decide)) T.m__law_struck T.F__law_struck.kp (bi__law_struck T) (a_cons (ev 8) (a_cons (ev 10) a_nil))))))) (fun s_ H_ C_ cl_ fp_ => (ev 10))))) S.nd) (s_cons (s_if (EW.toT (w_or (t_not (t_tru (EE.b (d_def (ok__law_like T 4) (hr.mono (by decide)) T.m__law_like T.F__law_like.kp (bi__law_like T) (a_cons (d_def (ok_thinned T) (hr.mono (by decide)) T.m_thinned T.F_thinned.kp (bi_thinned T) (a_cons (ev 2) (a_cons (ev 9) a_nil))) (a_cons (d_tup (a_cons (ev 5) (a_cons (d_tup (a_cons (x_ix (EE.b (ev 7)) (EE.b e_int)) a_nil)) a_nil))) a_nil)))))) (w_or1 (t_not (t_tru (EE.b (d_def (ok__law_like T 4) (hr.mono (by decide)) T.m__law_like T.F__law_like.kp (bi__law_like T) (a_cons (d_def (ok_thinned T) (hr.mono (by decide)) T.m_thinned T.F_thinned.kp (bi_thinned T) (a_cons (ev 2) (a_cons (ev 11) a_nil))) (a_cons (d_tup (a_cons (ev 6) (a_cons (d_tup (a_cons (x_ix (EE.b (ev 8)) (EE.b e_int)) a_nil)) a_nil))) a_nil))))))))) (s_one (s_ret e_bl)) s_nil) (s_cons (s_own 12 (d_lst a_nil) S.nd) (s_cons (s_for PassesOwn.never rfl (i_rng1 rfl T.n_range (a_cons (ev 2) a_nil)) (t_name 13 S.nd) (s_cons (s_set 14 (d_def (ok_meeting T) (hr.mono (by decide)) T.m_meeting T.F_meeting.kp (bi_meeting T) (a_cons (d_tup (a_cons (ev 7) (a_cons (d_tup (a_cons (ev 6) (a_cons (x_mod (EE.b (x_int T.n_int (EE.b (x_add (EE.b (x_ix (EE.b (ev 8)) (EE.b e_int))) (EE.b (ev 13)))))) (EE.b (ev 6))) a_nil))) a_nil))) a_nil)) S.nd) (s_cons (s_if (t_not (t_tru (EE.b (d_def (ok__law_meets T) (hr.mono (by decide)) T.m__law_meets T.F__law_meets.kp (bi__law_meets T) (a_cons (ev 14) (a_cons (d_tup (a_cons (ev 7) a_nil)) (a_cons (ev 2) a_nil))))))) (s_one (s_ret e_bl)) s_nil) (s_one (s_app 12 (d_def (ok__law_beats T) (hr.mono (by decide)) T.m__law_beats T.F__law_beats.kp (bi__law_beats T) (a_cons (ev 14) (a_cons (ev 2) a_nil)))))))) (s_cons (s_if (EW.toT (w_or (t_cmp (op_neD hr.units) does_ne (EE.b (x_mul (EE.b (x_mul (EE.b (x_sum rfl T.n_sum (bv 12))) (EE.b (ev 5)))) (EE.b (ev 6)))) (EE.b (x_mul (EE.b (ev 2)) (EE.b (ev 2))))) (w_or1 (t_not (t_tru (EE.b (d_def (ok__law_like T 4) (hr.mono (by decide)) T.m__law_like T.F__law_like.kp (bi__law_like T) (a_cons (d_def (ok_hits T) (hr.mono (by decide)) T.m_hits T.F_hits.kp (bi_hits T) (a_cons (ev 2) (a_cons (ev 9) (a_cons (ev 11) a_nil)))) (a_cons (x_tuple T.n_tuple (bv 12)) a_nil))))))))) (s_one (s_ret e_bl)) s_nil) (s_one (s_ret (d_def (ok__law_like T 4) (hr.mono (by decide)) T.m__law_like T.F__law_like.kp (bi__law_like T) (a_cons (d_def (ok_fills T) (hr.mono (by decide)) T.m_fills T.F_fills.kp (bi_fills T) (a_cons (ev 2) (a_cons (ev 9) (a_cons (ev 11) a_nil)))) (a_cons (v_and (e_cmp (op_eqD hr.units) does_eq (EE.b (x_mul (EE.b (ev 5)) (EE.b (ev 6)))) (EE.b (ev 2))) (v_one (e_cmp (op_eqD hr.units) does_eq (EE.b (d_def (ok__law_common T) (hr.mono (by decide)) T.m__law_common T.F__law_common.kp (bi__law_common T) (a_cons (ev 5) (a_cons (ev 6) a_nil)))) (EE.b e_int)))) a_nil)))))))))))))))⟩
theorem ok__law_counted (T : Txt K mg) : FnOk P w K mg base CX0 3 T.a__law_counted T.d__law_counted ps__law_counted (spP K 2 sem__law_counted) := def_ok T.F__law_counted sc__law_counted fun cdv A outer s H E hr => ⟨_, by
    have S := sc__law_counted
    exact (s_cons (s_par 2 3 rfl S.nd (a_cons (EN.toE (d_lst (a_cons (d_tup a_nil) a_nil))) (a_cons e_int a_nil))) (s_cons (s_for PassesOwn.never rfl (i_any (ev 0)) (t_name 4 S.nd) (s_one (s_set 2 (EN.toE (n_add (EE.b (ev 2)) (EN.b (m_lc (own := [("one", 5)]) rfl S.nd (ic_any (EE.b (ev 2))) (by kernel_rfl) (fun s_ H_ C_ cl_ fp_ => (t_name 5 S.nd)) (fun s_ H_ C_ cl_ fp_ => k_nil) (fun s_ H_ C_ cl_ fp_ => (x_add (EE.b (ev 5)) (EE.b (d_tup (a_cons (ev 4) a_nil))))))))) S.nd))) (s_cons (s_for PassesOwn.never rfl (i_any (EN.toE (n_sl (EE.b (ev 2)) (s_at e_int) s_no))) (t_name 6 S.nd) (s_cons (s_set 7 (d_def (ok_meeting T) (hr.mono (by decide)) T.m_meeting T.F_meeting.kp (bi_meeting T) (a_cons (ev 6) a_nil)) S.nd) (s_cons (s_if (t_not (t_tru (EE.b (d_def (ok__law_meets T) (hr.mono (by decide)) T.m__law_meets T.F__law_meets.kp (bi__law_meets T) (a_cons (ev 7) (a_cons (ev 6) (a_cons (ev 1) a_nil))))))) (s_one (s_ret e_non)) s_nil) (s_one (s_set 3 (x_add (EE.b (ev 3)) (EE.b (x_mul (EE.b (x_sub (EE.b (x_mul (EE.b e_int) (EE.b (x_mod (EE.b (x_int T.n_int (EE.b (x_len T.n_len (EE.b (ev 6)))))) (EE.b e_int))))) (EE.b e_int))) (EE.b (d_def (ok__law_beats T) (hr.mono (by decide)) T.m__law_beats T.F__law_beats.kp (bi__law_beats T) (a_cons (ev 7) (a_cons (ev 1) a_nil))))))) S.nd))))) (s_one (s_retV 3)))))⟩
theorem ok__law_edited (T : Txt K mg) : FnOk P w K mg base CX0 6 T.a__law_edited T.d__law_edited ps__law_edited (spP K 3 sem__law_edited) := def_ok T.F__law_edited sc__law_edited fun cdv A outer s H E hr => ⟨_, by
    have S := sc__law_edited
    exact (s_cons (s_set 3 (d_def (ok_meeting T) (hr.mono (by decide)) T.m_meeting T.F_meeting.kp (bi_meeting T) (a_cons (x_tuple T.n_tuple (EE.b (ev 0))) a_nil)) S.nd) (s_cons (s_if (t_cmp (op_eqD hr.units) does_eq (EE.b (e_cmp (op_isN.or op_is_bl) does_is (EE.b (ev 3)) (EE.b e_non))) (EE.b (x_any rfl T.n_any (EN.b (m_lc (own := [("beat", 5)]) rfl S.nd (EI.c (i_rng1 rfl T.n_range (a_cons (ev 1) a_nil))) (by kernel_rfl) (fun s_ H_ C_ cl_ fp_ => (t_name 5 S.nd)) (fun s_ H_ C_ cl_ fp_ => k_nil) (fun s_ H_ C_ cl_ fp_ => (x_all rfl T.n_all (EN.b (m_lc (own := [("one", 4)]) rfl S.nd (ic_any (EE.b (ev 0))) (by kernel_rfl) (fun s_ H_ C_ cl_ fp_ => (t_name 4 S.nd)) (fun s_ H_ C_ cl_ fp_ => k_nil) (fun s_ H_ C_ cl_ fp_ => (d_def (ok__law_struck T) (hr.mono (by decide)) T.m__law_struck T.F__law_struck.kp (bi__law_struck T) (a_cons (ev 4) (a_cons (ev 5) a_nil))))))))))))) (s_one (s_ret e_bl)) s_nil) (s_cons (s_if (EW.toT (w_and (t_cmp (op_lt.or (op_ltA hr.units)) does_lt (EE.b (x_len T.n_len (EE.b (ev 0)))) (EE.b e_int)) (w_and1 (t_not (t_tru (EE.b (d_def (ok__law_like T 4) (hr.mono (by decide)) T.m__law_like T.F__law_like.kp (bi__law_like T) (a_cons (d_def (ok_meeting T) (hr.mono (by decide)) T.m_meeting T.F_meeting.kp (bi_meeting T) (a_cons (x_tuple T.n_tuple (EN.b (n_add (EE.b (ev 0)) (EE.b (ev 0))))) a_nil)) (a_cons (ev 3) a_nil))))))))) (s_one (s_ret e_bl)) s_nil) (s_cons (s_set 6 (d_def (ok_meeting T) (hr.mono (by decide)) T.m_meeting T.F_meeting.kp (bi_meeting T) (a_cons (x_tuple T.n_tuple (EN.b (m_lc (own := [("period", 7), ("offset", 8)]) rfl S.nd (ic_any (EE.b (ev 0))) (by kernel_rfl) (fun s_ H_ C_ cl_ fp_ => (t_tup rfl (ts_cons (t_name 7 S.nd) (ts_cons (t_name 8 S.nd) ts_nil)))) (fun s_ H_ C_ cl_ fp_ => k_nil) (fun s_ H_ C_ cl_ fp_ => (d_tup (a_cons (ev 7) (a_cons (x_mod (EE.b (x_int T.n_int (EE.b (x_add (EE.b (ev 8)) (EE.b (ev 2)))))) (EE.b (ev 7))) a_nil))))))) a_nil)) S.nd) (s_cons (s_set 9 (d_def (ok_meeting T) (hr.mono (by decide)) T.m_meeting T.F_meeting.kp (bi_meeting T) (a_cons (x_tuple T.n_tuple (EN.b (m_lc (own := [("period", 7), ("offset", 8)]) rfl S.nd (ic_any (EE.b (ev 0))) (by kernel_rfl) (fun s_ H_ C_ cl_ fp_ => (t_tup rfl (ts_cons (t_name 7 S.nd) (ts_cons (t_name 8 S.nd) ts_nil)))) (fun s_ H_ C_ cl_ fp_ => k_nil) (fun s_ H_ C_ cl_ fp_ => (d_tup (a_cons (ev 7) (a_cons (x_mod (EE.b (x_int T.n_int (EE.b (v_neg (ev 8))))) (EE.b (ev 7))) a_nil))))))) a_nil)) S.nd) (s_cons (s_if (t_cmp (op_isN.or op_is_bl) does_is (EE.b (ev 3)) (EE.b e_non)) (s_one (s_ret (v_and (e_cmp (op_isN.or op_is_bl) does_is (EE.b (ev 6)) (EE.b e_non)) (v_one (e_cmp (op_isN.or op_is_bl) does_is (EE.b (ev 9)) (EE.b e_non)))))) s_nil) (s_cons (s_set 10 (d_tup (a_cons (x_ix (EE.b (ev 3)) (EE.b e_int)) (a_cons (x_mod (EE.b (x_int T.n_int (EE.b (x_add (EE.b (x_ix (EE.b (ev 3)) (EE.b e_int))) (EE.b (ev 2)))))) (EE.b (x_ix (EE.b (ev 3)) (EE.b e_int)))) a_nil))) S.nd) (s_one (s_ret (v_and (d_def (ok__law_like T 4) (hr.mono (by decide)) T.m__law_like T.F__law_like.kp (bi__law_like T) (a_cons (ev 6) (a_cons (ev 10) a_nil))) (v_one (d_def (ok__law_like T 4) (hr.mono (by decide)) T.m__law_like T.F__law_like.kp (bi__law_like T) (a_cons (ev 9) (a_cons (d_tup (a_cons (x_ix (EE.b (ev 3)) (EE.b e_int)) (a_cons (x_mod (EE.b (x_int T.n_int (EE.b (v_neg (x_ix (EE.b (ev 3)) (EE.b e_int)))))) (EE.b (x_ix (EE.b (ev 3)) (EE.b e_int)))) a_nil))) a_nil))))))))))))))⟩
theorem ok_law (T : Txt K mg) : FnOk P w K mg base CX0 7 T.a_law T.d_law ps_law (spP K 1 sem_law) := def_ok T.F_law sc_law fun cdv A outer s H E hr => ⟨_, by
    have S := sc_law
    exact (s_cons (s_set 1 (d_def (ok__law_row T) (hr.mono (by decide)) T.m__law_row T.F__law_row.kp (bi__law_row T) (a_cons (ev 0) (a_cons e_int a_nil))) S.nd) (s_cons (s_set 2 (x_ix (EE.b (d_tup (a_cons e_int (a_cons e_int (a_cons e_int (a_cons e_int (a_cons e_int (a_cons e_int (a_cons e_int (a_cons e_int (a_cons e_int (a_cons e_int a_nil)))))))))))) (EE.b (x_mod (EE.b (x_int T.n_int (EE.b (x_ix (EE.b (ev 1)) (EE.b e_int))))) (EE.b e_int)))) S.nd) (s_cons (s_set 3 (d_def (ok__law_pulses T) (hr.mono (by decide)) T.m__law_pulses T.F__law_pulses.kp (bi__law_pulses T) (a_cons (ev 1) (a_cons (ev 2) a_nil))) S.nd) (s_cons (s_set 4 (x_len T.n_len (EN.b (m_lc (own := [("beat", 5)]) rfl S.nd (EI.c (i_rng1 rfl T.n_range (a_cons (ev 2) a_nil))) (by kernel_rfl) (fun s_ H_ C_ cl_ fp_ => (t_name 5 S.nd)) (fun s_ H_ C_ cl_ fp_ => (k_one (t_tru (EE.b (x_any rfl T.n_any (EN.b (m_lc (own := [("one", 6)]) rfl S.nd (ic_any (EE.b (ev 3))) (by kernel_rfl) (fun s_ H_ C_ cl_ fp_ => (t_name 6 S.nd)) (fun s_ H_ C_ cl_ fp_ => k_nil) (fun s_ H_ C_ cl_ fp_ => (d_def (ok__law_struck T) (hr.mono (by decide)) T.m__law_struck T.F__law_struck.kp (bi__law_struck T) (a_cons (ev 6) (a_cons (ev 5) a_nil))))))))))) (fun s_ H_ C_ cl_ fp_ => e_int)))) S.nd) (s_cons (s_if (EW.toT (w_or (t_cmp (op_neD hr.units) does_ne (EE.b (d_def (ok__law_counted T) (hr.mono (by decide)) T.m__law_counted T.F__law_counted.kp (bi__law_counted T) (a_cons (ev 3) (a_cons (ev 2) a_nil)))) (EE.b (ev 4))) (w_or1 (t_not (t_tru (EE.b (d_def (ok__law_edited T) (hr.mono (by decide)) T.m__law_edited T.F__law_edited.kp (bi__law_edited T) (a_cons (ev 3) (a_cons (ev 2) (a_cons (x_ix (EE.b (ev 1)) (EE.b e_int)) a_nil)))))))))) (s_one (s_ret e_bl)) s_nil) (s_one (s_ret (d_def (ok__law_round_right T) (hr.mono (by decide)) T.m__law_round_right T.F__law_round_right.kp (bi__law_round_right T) (a_cons (ev 1) (a_cons e_int a_nil))))))))))⟩
end
end L20

set_option maxRecDepth 100000
set_option linter.all false
/-! law 20, plain: pulses, what they have in common, counting -/
namespace F20
abbrev Pl := Int × Int
def Val (v : Pl) : Prop := 0 < v.1 ∧ 0 ≤ v.2 ∧ v.2 < v.1
/-- x is struck by v -/
def st (v : Pl) (x : Int) : Prop := v.1 ∣ x - v.2
def stb (v : Pl) (x : Int) : Bool := decide ((x - v.2) % v.1 = 0)
theorem stb_iff {v : Pl} {x : Int} : stb v x = true ↔ st v x := by
  unfold stb st
  rw [decide_eq_true_eq]
  exact ⟨Int.dvd_of_emod_eq_zero, Int.emod_eq_zero_of_dvd⟩
def All (S : List Pl) (x : Int) : Prop := ∀ s ∈ S, st s x
def Meets : Option Pl → List Pl → Prop
  | none, S => ∀ x, ¬ All S x
  | some v, S => Val v ∧ ∀ x, st v x ↔ All S x
theorem uniq {v w : Pl} (hv : Val v) (hw : Val w) (h : ∀ x, st v x ↔ st w x) : v = w := by
  obtain ⟨v1, v2⟩ := v
  obtain ⟨w1, w2⟩ := w
  obtain ⟨a1, a2, a3⟩ := hv
  obtain ⟨b1, b2, b3⟩ := hw
  simp only [st] at *
  have h1 := (h v2).mp ⟨0, by omega⟩
  have h2 := (h (v2 + v1)).mp ⟨1, by omega⟩
  have h3 := (h w2).mpr ⟨0, by omega⟩
  have h4 := (h (w2 + w1)).mpr ⟨1, by omega⟩
  have d1 : w1 ∣ v1 := by
    have := Int.dvd_sub h2 h1
    rwa [show v2 + v1 - w2 - (v2 - w2) = v1 by omega] at this
  have d2 : v1 ∣ w1 := by
    have := Int.dvd_sub h4 h3
    rwa [show w2 + w1 - v2 - (w2 - v2) = w1 by omega] at this
  have l1 := Int.le_of_dvd a1 d1
  have l2 := Int.le_of_dvd b1 d2
  have e : v1 = w1 := by omega
  subst e
  have : v2 = w2 := by
    obtain ⟨c, hc⟩ := h1
    have c0 : c = 0 := by
      rcases Int.lt_trichotomy c 0 with z | z | z
      · have : v1 * c ≤ v1 * (-1) := Int.mul_le_mul_of_nonneg_left (by omega) (by omega)
        omega
      · exact z
      · have : v1 * 1 ≤ v1 * c := Int.mul_le_mul_of_nonneg_left (by omega) (by omega)
        omega
    subst c0
    omega
  rw [this]
theorem meet_det {r r' : Option Pl} {S S' : List Pl} (h : Meets r S) (h' : Meets r' S') (e : ∀ x, All S x ↔ All S' x) : r = r' := by
  cases r with
  | none =>
    cases r' with
    | none => rfl
    | some w => exact absurd ((e w.2).mpr ((h'.2 w.2).mp ⟨0, by omega⟩)) (h w.2)
  | some v =>
    cases r' with
    | none => exact absurd ((e v.2).mp ((h.2 v.2).mp ⟨0, by omega⟩)) (h' v.2)
    | some w => rw [uniq h.1 h'.1 fun x => (h.2 x).trans ((e x).trans (h'.2 x).symm)]
/-- the period divides any common multiple; every period divides it -/
theorem meet_per {v : Pl} {S : List Pl} (h : Meets (some v) S) : (∀ m, (∀ s ∈ S, s.1 ∣ m) → v.1 ∣ m) ∧ (∀ s ∈ S, s.1 ∣ v.1) ∧ All S v.2 := by
  have h0 : All S v.2 := (h.2 v.2).mp ⟨0, by omega⟩
  refine ⟨fun m hm => ?_, fun s hs => ?_, h0⟩
  · have : st v (v.2 + m) := (h.2 _).mpr fun s hs => by
      have := Int.dvd_add (h0 s hs) (hm s hs)
      show s.1 ∣ v.2 + m - s.2
      rwa [show v.2 - s.2 + m = v.2 + m - s.2 by omega] at this
    have : v.1 ∣ v.2 + m - v.2 := this
    rwa [show v.2 + m - v.2 = m by omega] at this
  · have h1 : All S (v.2 + v.1) := (h.2 _).mp ⟨1, by omega⟩
    have := Int.dvd_sub (h1 s hs) (h0 s hs)
    rwa [show v.2 + v.1 - s.2 - (v.2 - s.2) = v.1 by omega] at this
/-- the lap and the beat of two -/
theorem join_some {a b : Pl} (ha : Val a) (hb : Val b) {beat lap : Int} (hs : st a beat ∧ st b beat) (hl : 0 < lap) (h1 : a.1 ∣ lap) (h2 : b.1 ∣ lap) (least : ∀ m, 0 < m → m < lap → a.1 ∣ m → ¬ b.1 ∣ m) : Val (lap, beat % lap) ∧ ∀ x, st (lap, beat % lap) x ↔ st a x ∧ st b x := by
  have e0 := Int.emod_nonneg beat (show lap ≠ 0 by omega)
  have e1 := Int.emod_lt_of_pos beat hl
  have e2 : beat % lap = beat - lap * (beat / lap) := by have := Int.emod_add_mul_ediv beat lap; omega
  refine ⟨⟨hl, e0, e1⟩, fun x => ?_⟩
  have key : st (lap, beat % lap) x ↔ lap ∣ x - beat := by
    show lap ∣ x - beat % lap ↔ _
    rw [e2, show x - (beat - lap * (beat / lap)) = x - beat + lap * (beat / lap) by omega]
    exact ⟨fun h => (Int.dvd_add_left ⟨_, rfl⟩).mp h, fun h => Int.dvd_add h ⟨_, rfl⟩⟩
  rw [key]
  constructor
  · intro h
    refine ⟨?_, ?_⟩
    · have := Int.dvd_add (Int.dvd_trans h1 h) hs.1
      show a.1 ∣ x - a.2
      rwa [show x - beat + (beat - a.2) = x - a.2 by omega] at this
    · have := Int.dvd_add (Int.dvd_trans h2 h) hs.2
      show b.1 ∣ x - b.2
      rwa [show x - beat + (beat - b.2) = x - b.2 by omega] at this
  · rintro ⟨ga, gb⟩
    have da := Int.dvd_sub ga hs.1
    rw [show x - a.2 - (beat - a.2) = x - beat by omega] at da
    have db := Int.dvd_sub gb hs.2
    rw [show x - b.2 - (beat - b.2) = x - beat by omega] at db
    have m0 := Int.emod_nonneg (x - beat) (show lap ≠ 0 by omega)
    have m1 := Int.emod_lt_of_pos (x - beat) hl
    have e3 : (x - beat) % lap = (x - beat) - lap * ((x - beat) / lap) := by have := Int.emod_add_mul_ediv (x - beat) lap; omega
    by_cases z : (x - beat) % lap = 0
    · exact Int.dvd_of_emod_eq_zero z
    · exfalso
      refine least _ (by omega) m1 ?_ ?_
      · rw [e3]; exact Int.dvd_sub da (Int.dvd_trans h1 ⟨_, rfl⟩)
      · rw [e3]; exact Int.dvd_sub db (Int.dvd_trans h2 ⟨_, rfl⟩)
/-- where two meet, they meet at one of the first beats -/
theorem join_find {a b : Pl} (ha : Val a) (hb : Val b) {x : Int} (h : st a x ∧ st b x) : ∃ k : Int, 0 ≤ k ∧ k < b.1 ∧ st b (a.2 + k * a.1) := by
  obtain ⟨⟨c, hc⟩, hx⟩ := h
  refine ⟨c % b.1, Int.emod_nonneg _ (by have := hb.1; omega), Int.emod_lt_of_pos _ hb.1, ?_⟩
  have e : c % b.1 = c - b.1 * (c / b.1) := by have := Int.emod_add_mul_ediv c b.1; omega
  show b.1 ∣ a.2 + c % b.1 * a.1 - b.2
  have hx : b.1 ∣ x - b.2 := hx
  have : a.2 + c % b.1 * a.1 - b.2 = (x - b.2) - b.1 * (c / b.1 * a.1) := by
    rw [e, Int.sub_mul, Int.mul_assoc]
    have : c * a.1 = x - a.2 := by rw [Int.mul_comm]; exact hc.symm
    omega
  rw [this]
  exact Int.dvd_sub hx ⟨_, rfl⟩
/-! counting -/
def cnt (f : Int → Bool) (n : Nat) : Int := ((List.range n).filter fun (i : Nat) => f i).length
theorem cnt_zero (f : Int → Bool) : cnt f 0 = 0 := rfl
theorem cnt_succ (f : Int → Bool) (n : Nat) : cnt f (n + 1) = cnt f n + (if f n then 1 else 0) := by
  unfold cnt
  rw [List.range_succ, List.filter_append, List.length_append]
  cases h : f n <;> simp [h]
theorem cnt_add (f : Int → Bool) (m : Nat) : ∀ n, cnt f (m + n) = cnt f m + cnt (fun x => f (m + x)) n
  | 0 => by rw [cnt_zero]; simp
  | n + 1 => by
    rw [← Nat.add_assoc, cnt_succ, cnt_succ, cnt_add f m n]
    have : ((m + n : Nat) : Int) = (m : Int) + n := by omega
    rw [this]; omega
theorem cnt_congr {f g : Int → Bool} : ∀ {n : Nat}, (∀ x : Int, 0 ≤ x → x < n → f x = g x) → cnt f n = cnt g n
  | 0, _ => rfl
  | n + 1, h => by
    rw [cnt_succ, cnt_succ, cnt_congr (n := n) fun x h1 h2 => h x h1 (by omega), h n (by omega) (by omega)]
theorem cnt_not {f : Int → Bool} : ∀ {n : Nat}, cnt (fun x => !f x) n = n - cnt f n
  | 0 => rfl
  | n + 1 => by
    rw [cnt_succ, cnt_succ, cnt_not (n := n)]
    cases f n <;> simp <;> omega
/-- one in each lap -/
theorem cnt_lap (p : Nat) (hp : 0 < p) (c : Int) : cnt (fun x => decide ((x - c) % p = 0)) p = 1 := by
  have e0 := Int.emod_nonneg c (show (p : Int) ≠ 0 by omega)
  have e1 := Int.emod_lt_of_pos c (show (0 : Int) < p by omega)
  have key : ∀ n : Nat, n ≤ p → cnt (fun x => decide ((x - c) % p = 0)) n = if c % p < n then 1 else 0 := by
    intro n
    induction n with
    | zero => intro _; rw [cnt_zero, if_neg (by omega)]
    | succ n ih =>
      intro hn
      rw [cnt_succ, ih (by omega)]
      have : ((n : Int) - c) % p = 0 ↔ c % p = n := by
        constructor
        · intro h
          obtain ⟨d, hd⟩ := Int.dvd_of_emod_eq_zero h
          have : c = n + p * (-d) := by rw [Int.mul_neg]; omega
          rw [this, Int.add_mul_emod_self_left, Int.emod_eq_of_lt (by omega) (by omega)]
        · intro h
          refine Int.emod_eq_zero_of_dvd ?_
          have e2 := Int.emod_add_mul_ediv c p
          rw [h] at e2
          exact ⟨-(c / p), by rw [Int.mul_neg]; omega⟩
      simp only [decide_eq_true_eq, this]
      split <;> split <;> split <;> omega
  rw [key p (Nat.le_refl _), if_pos e1]
theorem cnt_laps (p : Nat) (hp : 0 < p) : ∀ (m : Nat) (c : Int), cnt (fun x => decide ((x - c) % p = 0)) (p * m) = m
  | 0, c => rfl
  | m + 1, c => by
    rw [Nat.mul_succ, Nat.add_comm, cnt_add, cnt_lap p hp c]
    have : (fun x : Int => decide ((((p : Int) + x) - c) % p = 0)) = fun x => decide ((x - (c - p)) % p = 0) := by
      funext x
      rw [show (p : Int) + x - c = x - (c - p) by omega]
    rw [this, cnt_laps p hp m (c - p)]
    omega
/-- the beats of one in a whole number of laps -/
theorem cnt_st {v : Pl} (hv : Val v) {n : Nat} (h : v.1 ∣ n) : cnt (stb v) n = n / v.1 := by
  obtain ⟨v1, v2⟩ := v
  obtain ⟨p, rfl⟩ := Int.eq_ofNat_of_zero_le (show 0 ≤ v1 by have := hv.1; simp at this; omega)
  have hp : 0 < p := by have := hv.1; simp at this; omega
  obtain ⟨m, hm⟩ := Int.natCast_dvd_natCast.mp h
  subst hm
  have := cnt_laps p hp m v2
  show cnt (fun x => decide ((x - v2) % (p : Int) = 0)) (p * m) = _
  rw [this]
  show (m : Int) = ((p * m : Nat) : Int) / (p : Int)
  rw [← Int.natCast_ediv, Nat.mul_div_cancel_left _ hp]
/-! inclusion and exclusion -/
def sg (S : List Pl) : Int := 2 * ((S.length : Int) % 2) - 1
def subs (xs : List Pl) : List (List Pl) := xs.foldl (fun c p => c ++ c.map (· ++ [p])) [[]]
def allb (S : List Pl) (x : Int) : Bool := S.all fun s => stb s x
def sumI (f : List Pl → Int) (c : List (List Pl)) : Int := (c.map f).sum
theorem sumI_append (f : List Pl → Int) (c d : List (List Pl)) : sumI f (c ++ d) = sumI f c + sumI f d := by
  unfold sumI; rw [List.map_append, List.sum_append]
theorem sg_snoc (S : List Pl) (p : Pl) : sg (S ++ [p]) = - sg S := by
  unfold sg
  rw [List.length_append, List.length_singleton]
  omega
theorem sumI_map {f g : List Pl → Int} (h : List Pl → List Pl) (c : List (List Pl)) (e : ∀ S, f (h S) = g S) : sumI f (c.map h) = sumI g c := by
  unfold sumI
  rw [List.map_map]
  congr 1
  exact List.map_congr_left fun S _ => e S
theorem sumI_mul (f : List Pl → Int) (k : Int) : ∀ c, sumI (fun S => k * f S) c = k * sumI f c
  | [] => by unfold sumI; simp
  | S :: c => by
    have := sumI_mul f k c
    unfold sumI at *
    rw [List.map_cons, List.map_cons, List.sum_cons, List.sum_cons, this, Int.mul_add]
theorem sub_sum (x : Int) : ∀ (xs : List Pl) (c : List (List Pl)), sumI (fun S => sg S * (if allb S x then 1 else 0)) (xs.foldl (fun c p => c ++ c.map (· ++ [p])) c) = (if xs.any (stb · x) then 0 else sumI (fun S => sg S * (if allb S x then 1 else 0)) c)
  | [], c => by simp
  | p :: xs, c => by
    rw [List.foldl_cons, sub_sum x xs, List.any_cons]
    have e : sumI (fun S => sg S * (if allb S x then 1 else 0)) (c ++ c.map (· ++ [p])) = if stb p x then 0 else sumI (fun S => sg S * (if allb S x then 1 else 0)) c := by
      rw [sumI_append, sumI_map (g := fun S => (if stb p x then -1 else 0) * (sg S * (if allb S x then 1 else 0))) (· ++ [p]) c fun S => by
        rw [sg_snoc]
        have : allb (S ++ [p]) x = (allb S x && stb p x) := by unfold allb; rw [List.all_append]; simp
        rw [this]
        cases allb S x <;> cases stb p x <;> simp]
      rw [sumI_mul]
      cases stb p x <;> simp <;> omega
    rw [e]
    cases stb p x with
    | true => simp only [if_true, Bool.true_or]; split <;> rfl
    | false => rw [Bool.false_or, if_neg Bool.false_ne_true]
theorem sum_cnt {c : List (List Pl)} : ∀ n : Nat, sumI (fun S => sg S * cnt (allb S) n) c = ((List.range n).map fun (x : Nat) => sumI (fun S => sg S * (if allb S x then 1 else 0)) c).sum
  | 0 => by
    have : (fun S : List Pl => sg S * cnt (allb S) 0) = fun S => 0 * sg S := by funext S; rw [cnt_zero]; simp
    rw [this, sumI_mul]; simp
  | n + 1 => by
    rw [List.range_succ, List.map_append, List.sum_append, ← sum_cnt n]
    have : (fun S : List Pl => sg S * cnt (allb S) (n + 1)) = fun S => sg S * cnt (allb S) n + sg S * (if allb S n then 1 else 0) := by
      funext S; rw [cnt_succ, Int.mul_add]
    rw [this]
    have add : ∀ (f g : List Pl → Int) (c : List (List Pl)), sumI (fun S => f S + g S) c = sumI f c + sumI g c := by
      intro f g c
      induction c with
      | nil => rfl
      | cons S c ih => unfold sumI at *; simp only [List.map_cons, List.sum_cons, ih]; omega
    rw [add]
    simp
theorem subs_head (xs : List Pl) : ∃ c, subs xs = [] :: c := by
  have : ∀ (xs : List Pl) (c : List (List Pl)), ∃ d, xs.foldl (fun c p => c ++ c.map (· ++ [p])) ([] :: c) = [] :: d := by
    intro xs
    induction xs with
    | nil => exact fun c => ⟨c, rfl⟩
    | cons p xs ih => intro c; rw [List.foldl_cons, List.cons_append]; exact ih _
  exact this xs []
/-- the beats of any are told by the beats of all of some -/
theorem incl (xs : List Pl) (n : Nat) : sumI (fun S => sg S * cnt (allb S) n) (subs xs).tail = cnt (fun x => xs.any (stb · x)) n := by
  obtain ⟨c, hc⟩ := subs_head xs
  have h : sumI (fun S => sg S * cnt (allb S) n) (subs xs) = - cnt (fun x => !xs.any (stb · x)) n := by
    rw [sum_cnt]
    have : ∀ n : Nat, ((List.range n).map fun (x : Nat) => sumI (fun S => sg S * (if allb S x then 1 else 0)) (subs xs)).sum = - cnt (fun x => !xs.any (stb · x)) n := by
      intro n
      induction n with
      | zero => rfl
      | succ n ih =>
        rw [List.range_succ, List.map_append, List.sum_append, ih, cnt_succ]
        unfold subs
        rw [List.map_singleton, sub_sum]
        cases xs.any (stb · (n : Int)) <;> simp [sumI, sg, allb] <;> omega
    exact this n
  rw [cnt_not] at h
  rw [hc] at h ⊢
  have e : sumI (fun S => sg S * cnt (allb S) n) ([] :: c) = - (n : Int) + sumI (fun S => sg S * cnt (allb S) n) c := by
    unfold sumI
    rw [List.map_cons, List.sum_cons]
    have : cnt (allb []) n = n := by
      have : ∀ n : Nat, cnt (allb []) n = n := by
        intro n
        induction n with
        | zero => rfl
        | succ n ih => rw [cnt_succ, ih]; simp [allb]
      exact this n
    rw [this]
    simp [sg]
  rw [e] at h
  show sumI (fun S => sg S * cnt (allb S) n) c = _
  omega
end F20

set_option maxRecDepth 100000
set_option maxHeartbeats 0
set_option linter.all false
namespace F20
open Pu
def clsN (n p o : Nat) : List Nat := (List.range n).filter fun x => Nat.beq (x % p) o
def sumsN (n : Nat) (A B : List Nat) : List Nat := A.flatMap fun a => B.map fun b => (a + b) % n
def ddN : List Nat → List Nat
  | [] => []
  | x :: xs => if xs.any (Nat.beq x) then ddN xs else x :: ddN xs
def tab : List Nat := [24, 12, 18, 20, 16, 6, 1, 15, 24, 21, 10, 23]
def fillOk (n : Nat) : Bool := (List.range n).all fun i => n % (i + 1) != 0 || ((List.range (i + 1)).all fun o1 => (List.range (n / (i + 1))).all fun o2 => Nat.beq (ddN (sumsN n (clsN n (i + 1) o1) (clsN n (n / (i + 1)) o2))).length n == Nat.beq (Nat.gcd (i + 1) (n / (i + 1))) 1)
theorem fill_ok : tab.all fillOk = true := by decide +kernel
end F20

set_option Elab.async false
set_option linter.all false
set_option maxRecDepth 100000
set_option maxHeartbeats 1000000
namespace L20
open PySem PySem.Spec PyProof.Rows L2 Pu F20
def encP (p : Pl) : D := .tuple [.int p.1, .int p.2]
def told : Option Pl → D
  | none => .none
  | some v => encP v
theorem fmod_pos {a b : Int} (h : 0 < b) : a.fmod b = a % b := Int.fmod_eq_emod_of_nonneg a (by omega)
theorem i0 (x y : D) : atI [x, y] 0 = some x := rfl
theorem i1 (x y : D) : atI [x, y] 1 = some y := rfl
theorem whL_go {c : Et} {g : Eg} {n : Nat} {ρ ρ' : Pu.Env} {r : Option Out} (h : c ρ = some true) (h2 : g ρ = some (.nx ρ')) (h3 : whL c g n ρ' = r) : whL c g (n + 1) ρ = r := by
  show (c ρ).bind _ = r
  rw [h]
  show (g ρ).bind _ = r
  rw [h2]
  exact h3
theorem whL_end {c : Et} {g : Eg} {n : Nat} {ρ : Pu.Env} (h : c ρ = some false) : whL c g (n + 1) ρ = some (.nx ρ) := by
  show (c ρ).bind _ = _
  rw [h]
  rfl
/-- the lap by steps -/
theorem lap_loop {a b : Pl} (ha : Val a) (hb : Val b) (c : Et) (g : Eg) (E : Int → Pu.Env) (hc : ∀ l : Int, c (E l) = some (!decide (l.fmod b.1 = 0))) (hg : ∀ l : Int, g (E l) = some (.nx (E (l + a.1)))) :
    ∀ (n : Nat) (l : Int), 0 < l → a.1 ∣ l → (∀ m, 0 < m → m < l → a.1 ∣ m → ¬ b.1 ∣ m) → l + n * a.1 ≥ b.1 * a.1 → ∃ lap, whL c g (n + 1) (E l) = some (.nx (E lap)) ∧ 0 < lap ∧ a.1 ∣ lap ∧ b.1 ∣ lap ∧ (∀ m, 0 < m → m < lap → a.1 ∣ m → ¬ b.1 ∣ m) := by
  intro n
  induction n with
  | zero =>
    intro l hl h1 h2 h3
    have hle : l ≤ b.1 * a.1 := by
      by_cases z : l ≤ b.1 * a.1
      · exact z
      · exact absurd ⟨a.1, rfl⟩ (h2 (b.1 * a.1) (Int.mul_pos hb.1 ha.1) (by omega) ⟨b.1, Int.mul_comm _ _⟩)
    have e : l = b.1 * a.1 := by simp at h3; omega
    have hd : b.1 ∣ l := ⟨a.1, e⟩
    refine ⟨l, whL_end ?_, hl, h1, hd, h2⟩
    rw [hc, fmod_pos hb.1, Int.emod_eq_zero_of_dvd hd]; rfl
  | succ n ih =>
    intro l hl h1 h2 h3
    by_cases hd : b.1 ∣ l
    · refine ⟨l, whL_end ?_, hl, h1, hd, h2⟩
      rw [hc, fmod_pos hb.1, Int.emod_eq_zero_of_dvd hd]; rfl
    · have hd' : ¬ l % b.1 = 0 := fun z => hd (Int.dvd_of_emod_eq_zero z)
      have ha1 := ha.1
      obtain ⟨lap, e, r⟩ := ih (l + a.1) (by omega) (Int.dvd_add h1 ⟨1, by omega⟩) (fun m m0 m1 m2 => by
        by_cases z : m < l
        · exact h2 m m0 z m2
        · intro mb
          have : m = l := by
            obtain ⟨x, hx⟩ := Int.dvd_sub m2 h1
            have : x = 0 := by
              rcases Int.lt_trichotomy x 0 with y | y | y
              · have : a.1 * x ≤ a.1 * (-1) := Int.mul_le_mul_of_nonneg_left (by omega) (by omega)
                omega
              · exact y
              · have : a.1 * 1 ≤ a.1 * x := Int.mul_le_mul_of_nonneg_left (by omega) (by omega)
                omega
            subst this
            omega
          subst this
          exact hd mb) (by
            have : ((n + 1 : Nat) : Int) * a.1 = n * a.1 + a.1 := by rw [show ((n + 1 : Nat) : Int) = (n : Int) + 1 by omega, Int.add_mul]; omega
            omega)
      exact ⟨lap, whL_go (by rw [hc, fmod_pos hb.1, decide_eq_false hd']; rfl) (hg l) e, r⟩
theorem whL_mono {c : Et} {g : Eg} {o : Out} : ∀ {n m : Nat} {ρ : Pu.Env}, n ≤ m → whL c g n ρ = some o → whL c g m ρ = some o
  | 0, _, _, _, h => by cases h
  | n + 1, 0, _, hl, _ => by omega
  | n + 1, m + 1, ρ, hl, h => by
    unfold whL at h ⊢
    obtain ⟨b, e1, e2⟩ := bind_some h
    rw [e1]
    show (if b = true then _ else _) = _
    cases b with
    | false => exact e2
    | true =>
      rw [if_pos rfl] at e2 ⊢
      obtain ⟨o', e3, e4⟩ := bind_some e2
      rw [e3]
      cases o' with
      | nx ρ' => exact whL_mono (by omega) e4
      | ct ρ' => exact whL_mono (by omega) e4
      | bk ρ' => exact e4
      | rt d => exact e4
def lapT : Eg := (seq (setS 8 (vr 2)) (seq (whS (ts boolOf (bn neD (bn modD (vr 8) (vr 4)) (cst (.int 0)))) (augS 8 addI (vr 2))) (ret (mkT (cs (vr 8) (cs (bn modD (vr 6) (vr 8)) nl))))))
theorem addI_i {i j : Int} : addI (.int i) (.int j) = some (.int (i + j)) := rfl
theorem lapT_ok {a b : Pl} (ha : Val a) (hb : Val b) (hb2 : b.1 ≤ 1000) (A B : D) (beat : Int) (s : Sl) (hs : st a beat ∧ st b beat) :
    ∃ v : Pl, lapT [.sh A, .sh B, .sh (.int a.1), .sh (.int a.2), .sh (.int b.1), .sh (.int b.2), .sh (.int beat), s, .no] = some (.rt (encP v)) ∧ Val v ∧ ∀ x, st v x ↔ st a x ∧ st b x := by
  have hb0 : b.1 ≠ 0 := by have := hb.1; omega
  obtain ⟨lap, e, h1, h2, h3, h4⟩ := lap_loop ha hb (ts boolOf (bn neD (bn modD (vr 8) (vr 4)) (cst (.int 0)))) (augS 8 addI (vr 2)) (fun l => [.sh A, .sh B, .sh (.int a.1), .sh (.int a.2), .sh (.int b.1), .sh (.int b.2), .sh (.int beat), s, .sh (.int l)])
    (fun l => by simp [hb0]) (fun l => by simp [addI_i]) b.1.toNat a.1 ha.1 ⟨1, by omega⟩ (fun m m0 m1 m2 => absurd (Int.le_of_dvd m0 m2) (by omega)) (by
      have : ((b.1.toNat : Nat) : Int) = b.1 := Int.toNat_of_nonneg (by have := hb.1; omega)
      rw [this]
      have := ha.1
      omega)
  obtain ⟨k1, k2⟩ := join_some ha hb hs h1 h2 h3 h4
  refine ⟨(lap, beat % lap), ?_, k1, k2⟩
  have e2 := whL_mono (show b.1.toNat + 1 ≤ FU by unfold FU; omega) e
  have hl : lap ≠ 0 := by omega
  have e3 : beat.fmod lap = beat % lap := fmod_pos h1
  simp only [lapT, seq_at, setS_at, vr_succ, vr_zero, setK_some, seqK_nx, List.set_cons_succ, List.set_cons_zero]
  rw [show whS (ts boolOf (bn neD (bn modD (vr 8) (vr 4)) (cst (.int 0)))) (augS 8 addI (vr 2)) = whL (ts boolOf (bn neD (bn modD (vr 8) (vr 4)) (cst (.int 0)))) (augS 8 addI (vr 2)) FU from rfl, e2]
  simp [hl, e3, encP]

def joinB : Eg := (seq (ifS (ts boolOf (bn eqD (bn modD (vr 6) (vr 4)) (vr 5))) lapT nxt) (augS 6 addI (vr 2)))
theorem goal_iff {b : Pl} (hb : Val b) {x : Int} : x % b.1 = b.2 ↔ st b x := by
  have := hb.1
  constructor
  · intro h
    have := Int.emod_add_mul_ediv x b.1
    exact ⟨x / b.1, by omega⟩
  · rintro ⟨c, hc⟩
    have : x = b.2 + b.1 * c := by omega
    rw [this, Int.add_mul_emod_self_left]
    exact Int.emod_eq_of_lt hb.2.1 hb.2.2
theorem join_loop {a b : Pl} (ha : Val a) (hb : Val b) (hb2 : b.1 ≤ 1000) (A B : D) : ∀ (xs : List Int) (k : Int) (s : Sl), 0 ≤ k → (∀ j, 0 ≤ j → j < k → ¬ st b (a.2 + j * a.1)) →
    (∃ v : Pl, forL (tN 7) joinB (xs.map .int) [.sh A, .sh B, .sh (.int a.1), .sh (.int a.2), .sh (.int b.1), .sh (.int b.2), .sh (.int (a.2 + k * a.1)), s, .no] = some (.rt (encP v)) ∧ Val v ∧ ∀ x, st v x ↔ st a x ∧ st b x) ∨
    (∃ ρ', forL (tN 7) joinB (xs.map .int) [.sh A, .sh B, .sh (.int a.1), .sh (.int a.2), .sh (.int b.1), .sh (.int b.2), .sh (.int (a.2 + k * a.1)), s, .no] = some (.nx ρ') ∧ ∀ j, 0 ≤ j → j < k + xs.length → ¬ st b (a.2 + j * a.1))
  | [], k, s, hk, h => .inr ⟨_, forL_nil, by simpa using h⟩
  | y :: xs, k, s, hk, h => by
    have hb0 : b.1 ≠ 0 := by have := hb.1; omega
    rw [List.map_cons, forL_cons]
    simp only [tN_at, ob_some, List.set_cons_succ, List.set_cons_zero]
    by_cases z : st b (a.2 + k * a.1)
    · obtain ⟨v, e, r⟩ := lapT_ok ha hb hb2 A B (a.2 + k * a.1) (.sh (.int y)) ⟨⟨k, by rw [Int.mul_comm]; omega⟩, z⟩
      refine .inl ⟨v, ?_, r⟩
      have e2 : (a.2 + k * a.1).fmod b.1 = b.2 := by rw [fmod_pos hb.1]; exact (goal_iff hb).mpr z
      simp [joinB, hb0, e2, e]
    · have e2 : ¬ (a.2 + k * a.1).fmod b.1 = b.2 := by rw [fmod_pos hb.1]; exact fun q => z ((goal_iff hb).mp q)
      have ih := join_loop ha hb hb2 A B xs (k + 1) (.sh (.int y)) (by omega) (fun j j0 j1 => by
        by_cases q : j < k
        · exact h j j0 q
        · rw [show j = k by omega]; exact z)
      have e3 : a.2 + k * a.1 + a.1 = a.2 + (k + 1) * a.1 := by rw [Int.add_mul]; omega
      have e4 : joinB [.sh A, .sh B, .sh (.int a.1), .sh (.int a.2), .sh (.int b.1), .sh (.int b.2), .sh (.int (a.2 + k * a.1)), .sh (.int y), .no] = some (.nx [.sh A, .sh B, .sh (.int a.1), .sh (.int a.2), .sh (.int b.1), .sh (.int b.2), .sh (.int (a.2 + (k + 1) * a.1)), .sh (.int y), .no]) := by
        simp [joinB, hb0, e2, addI_i, e3]
      rw [e4, forC_nx]
      rw [List.length_cons]
      rcases ih with ih | ⟨ρ', e5, e6⟩
      · exact .inl ih
      · exact .inr ⟨ρ', e5, fun j j0 j1 => e6 j j0 (by omega)⟩
theorem joined_ok {a b : Pl} (ha : Val a) (hb : Val b) (hb2 : b.1 ≤ 1000) : ∃ r : Option Pl, sem_joined [encP a, encP b] = some (told r) ∧ (match r with
    | none => ∀ x, ¬ (st a x ∧ st b x)
    | some v => Val v ∧ ∀ x, st v x ↔ st a x ∧ st b x) := by
  have loop := join_loop ha hb hb2 (encP a) (encP b) (ri b.1.toNat) 0 .no (by omega) (fun j j0 j1 => by omega)
  have e0 : a.2 + 0 * a.1 = a.2 := by omega
  rw [e0] at loop
  have hb0 := hb.1
  have g1 : -4611686018427387904 ≤ b.1 := by omega
  have g2 : b.1 < 4611686018427387904 := by omega
  have e1 := rng0_ri b.1.toNat
  have eg : g_joined = (seq (asgS (tT [(tN 2), (tN 3)]) (vr 0)) (seq (asgS (tT [(tN 4), (tN 5)]) (vr 1)) (seq (setS 6 (vr 3)) (seq (forS (rg1 (cs (vr 4) nl)) (tN 7) joinB) (ret (cst .none)))))) := rfl
  have es : startE 9 [encP a, encP b] = [.sh (encP a), .sh (encP b), .no, .no, .no, .no, .no, .no, .no] := rfl
  rcases loop with ⟨v, e, hv, hx⟩ | ⟨ρ', e, h⟩
  · refine ⟨some v, run_rt ?_, hv, hx⟩
    rw [es, eg]
    simp only [encP] at e ⊢
    simp [g1, g2, e1, e, told, encP]
  · refine ⟨none, run_rt ?_, fun x hx => ?_⟩
    · rw [es, eg]
      simp only [encP] at e ⊢
      simp [g1, g2, e1, e, told]
    · obtain ⟨k, k0, k1, k2⟩ := join_find ha hb hx
      exact h k k0 (by rw [ri_len]; omega) k2
theorem meet_loop (P : D) : ∀ (xs : List Pl) (v : Pl) (s : Sl), Val v → (∀ p ∈ xs, Val p ∧ p.1 ≤ 1000) →
    (∃ out, forL (tN 2) (seq (setS 1 (ap sem_joined (cs (vr 1) (cs (vr 2) nl)))) (ifS (ts boolOf (bn isD (vr 1) (cst .none))) (ret (cst .none)) nxt)) (xs.map encP) [.sh P, .sh (encP v), s] = some out ∧
      ((out = .rt .none ∧ ∀ x, ¬ (st v x ∧ All xs x)) ∨ ∃ (w : Pl) (s' : Sl), out = .nx [.sh P, .sh (encP w), s'] ∧ Val w ∧ ∀ x, st w x ↔ st v x ∧ All xs x))
  | [], v, s, hv, _ => ⟨_, forL_nil, .inr ⟨v, s, rfl, hv, fun x => ⟨fun h => ⟨h, fun _ h => by cases h⟩, fun h => h.1⟩⟩⟩
  | p :: xs, v, s, hv, hx => by
    obtain ⟨hp, hp2⟩ := hx p (List.mem_cons_self ..)
    obtain ⟨r, e, hr⟩ := joined_ok hv hp hp2
    rw [List.map_cons, forL_cons]
    cases r with
    | none =>
      refine ⟨.rt .none, ?_, .inl ⟨rfl, fun x h => hr x ⟨h.1, h.2 p (List.mem_cons_self ..)⟩⟩⟩
      simp [e, told, Pu.isNon]
    | some w =>
      obtain ⟨hw, hwx⟩ := hr
      obtain ⟨out, e1, h1⟩ := meet_loop P xs w (.sh (encP p)) hw fun q hq => hx q (List.mem_cons_of_mem _ hq)
      refine ⟨out, ?_, ?_⟩
      · rw [← e1]
        have en : Pu.isNon (encP w) = false := rfl
        simp [e, told, en]
      · have ex : ∀ x, st w x ∧ All xs x ↔ st v x ∧ All (p :: xs) x := fun x => by
          rw [hwx x]
          constructor
          · rintro ⟨⟨a, b⟩, c⟩
            exact ⟨a, fun q hq => by
              rcases List.mem_cons.mp hq with z | z
              · rw [z]; exact b
              · exact c q z⟩
          · rintro ⟨a, c⟩
            exact ⟨⟨a, c p (List.mem_cons_self ..)⟩, fun q hq => c q (List.mem_cons_of_mem _ hq)⟩
        rcases h1 with ⟨h1, h2⟩ | ⟨u, s', h1, h2, h3⟩
        · exact .inl ⟨h1, fun x h => h2 x ((ex x).mpr h)⟩
        · exact .inr ⟨u, s', h1, h2, fun x => (h3 x).trans (ex x)⟩
def Good (S : List Pl) : Prop := S ≠ [] ∧ ∀ p ∈ S, Val p ∧ p.1 ≤ 1000
theorem meeting_ok {S : List Pl} (h : Good S) (hl : S.length ≤ 1000) : ∃ r : Option Pl, sem_meeting [.tuple (S.map encP)] = some (told r) ∧ Meets r S := by
  cases S with
  | nil => exact absurd rfl h.1
  | cons p xs =>
    obtain ⟨hp, hp2⟩ := h.2 p (List.mem_cons_self ..)
    obtain ⟨out, e, hr⟩ := meet_loop (.tuple ((p :: xs).map encP)) xs p .no hp fun q hq => h.2 q (List.mem_cons_of_mem _ hq)
    have e1 : atI ((p :: xs).map encP) 0 = some (encP p) := atI_nat (n := 0) rfl
    have e2 : cutD ((p :: xs).map encP) (some 1) none = xs.map encP := by rw [cut_from (by decide)]; rfl
    have ex : ∀ x, st p x ∧ All xs x ↔ All (p :: xs) x := fun x => by
      constructor
      · rintro ⟨b, c⟩ q hq
        rcases List.mem_cons.mp hq with z | z
        · rw [z]; exact b
        · exact c q z
      · exact fun c => ⟨c p (List.mem_cons_self ..), fun q hq => c q (List.mem_cons_of_mem _ hq)⟩
    have es : startE 3 [.tuple ((p :: xs).map encP)] = [.sh (.tuple ((p :: xs).map encP)), .no, .no] := rfl
    generalize (p :: xs).map encP = P at *
    rcases hr with ⟨h1, h2⟩ | ⟨w, s', h1, h2, h3⟩
    · subst h1
      refine ⟨none, run_rt ?_, fun x hx => h2 x ((ex x).mpr hx)⟩
      rw [es]
      simp [g_meeting, e1, e2, e, told]
    · subst h1
      refine ⟨some w, run_rt ?_, h2, fun x => (h3 x).trans (ex x)⟩
      rw [es]
      simp [g_meeting, e1, e2, e, told]

theorem struck_ok {p : Pl} (hp : Val p) (x : Int) : sem__law_struck [encP p, .int x] = some (.bool (stb p x)) := by
  have h0 := hp.1
  have h1 : p.1 ≠ 0 := by omega
  refine run_rt ?_
  show g__law_struck [.sh (encP p), .sh (.int x)] = _
  have e : (x - p.2).fmod p.1 = (x - p.2) % p.1 := fmod_pos h0
  simp [g__law_struck, encP, i0, i1, h1, e, stb]
theorem isInt (i : Int) : sem__law_is_int [.int i] = some (.bool true) := run_rt (by
  show g__law_is_int [.sh (.int i)] = _
  simp [g__law_is_int])
theorem likeE : sem__law_like = Lb.sem__law_like := by
  funext n
  induction n with
  | zero => rfl
  | succ n ih =>
    show Pu.run 3 (g__law_like (sem__law_like n)) = Pu.run 3 (Lb.g__law_like (Lb.sem__law_like n))
    rw [ih]; rfl
theorem like {d : D} (h : Lb.lk 4 d = true) : sem__law_like 4 [d, d] = some (.bool true) := by rw [likeE]; exact Lb.like_ok 4 d h
theorem meets_ok {r : Option Pl} {S S' : List Pl} {base : Int} (h : Meets r S') (hs : ∀ p ∈ S, p ∈ S') (hv : ∀ p ∈ S', Val p ∧ p.1 ∣ base) (hl : S.length ≤ 1000) (hb : 0 < base) : sem__law_meets [told r, .tuple (S.map encP), .int base] = some (.bool true) := by
  refine run_rt ?_
  show g__law_meets [.sh (told r), .sh (.tuple (S.map encP)), .sh (.int base), .no] = _
  cases r with
  | none => simp [g__law_meets, told, Pu.isNon]
  | some v =>
    obtain ⟨m1, m2, m3⟩ := meet_per h
    obtain ⟨⟨v0, v1, v2⟩, _⟩ := h
    have vb : base.fmod v.1 = 0 := by rw [fmod_pos v0]; exact Int.emod_eq_zero_of_dvd (m1 base fun p hp => (hv p hp).2)
    have en : Pu.isNon (encP v) = false := rfl
    have hv1 : v.1 ≠ 0 := by omega
    have e := lc_map (t := tN 3) (f := andV (bn eqD (bn modD (ap intD (one (bn ixD (vr 0) (cst (.int 0))))) (bn ixD (vr 3) (cst (.int 0)))) (cst (.int 0))) (bn eqD (bn modD (ap intD (one (bn subD (bn ixD (vr 0) (cst (.int 1))) (bn ixD (vr 3) (cst (.int 1)))))) (bn ixD (vr 3) (cst (.int 0)))) (cst (.int 0)))) (ρ := [.sh (encP v), .sh (.tuple (S.map encP)), .sh (.int base), .no]) (enc := encP) (G := fun _ => .bool true) S (by omega) (fun p hp => by
      have hp' := hs p hp
      have p0 := (hv p hp').1.1
      have p1 : p.1 ≠ 0 := by omega
      have z1 : v.1.fmod p.1 = 0 := by rw [fmod_pos p0]; exact Int.emod_eq_zero_of_dvd (m2 p hp')
      have z2 : (v.2 - p.2).fmod p.1 = 0 := by rw [fmod_pos p0]; exact Int.emod_eq_zero_of_dvd (m3 p hp')
      simp [encP, i0, i1, p1, z1, z2])
    have e2 : allD [.list (S.map fun _ => PyData.bool true)] = some (.bool true) := by
      have := Lb.all_ones (ds := S.map encP) (F := fun _ => PyData.bool true) fun _ _ => rfl
      rw [List.map_map] at this
      exact this
    generalize (S.map fun _ => PyData.bool true) = w at e e2
    generalize S.map encP = Q at e
    have q0 := isInt v.1
    have q1 := isInt v.2
    simp only [encP] at e en
    simp [g__law_meets, told, en, encP, i0, i1, q0, q1, v0, v1, v2, hv1, vb, e, e2]
def bt : Option Pl → Int → Int
  | none, _ => 0
  | some v, n => n / v.1
theorem bt_cnt {r : Option Pl} {S : List Pl} (h : Meets r S) {n : Nat} (hn : ∀ p ∈ S, p.1 ∣ n) : bt r n = cnt (allb S) n := by
  have hb : ∀ x, allb S x = true ↔ All S x := fun x => by
    unfold allb All
    rw [List.all_eq_true]
    exact ⟨fun h s hs => stb_iff.mp (h s hs), fun h s hs => stb_iff.mpr (h s hs)⟩
  cases r with
  | none =>
    have : cnt (allb S) n = cnt (fun _ => false) n := cnt_congr fun x _ _ => by
      cases z : allb S x with
      | false => rfl
      | true => exact absurd ((hb x).mp z) (h x)
    rw [this]
    have : ∀ n : Nat, cnt (fun _ => false) n = 0 := by
      intro n
      induction n with
      | zero => rfl
      | succ n ih => rw [cnt_succ, ih]; rfl
    rw [this]; rfl
  | some v =>
    have : cnt (allb S) n = cnt (stb v) n := cnt_congr fun x _ _ => by
      rw [Bool.eq_iff_iff, hb, stb_iff]
      exact (h.2 x).symm
    rw [this, cnt_st h.1 ((meet_per h).1 n hn)]
    rfl
theorem beats_ok {r : Option Pl} {n : Nat} (h : ∀ v, r = some v → 0 < v.1 ∧ v.1 ≤ 1000000) : sem__law_beats [told r, .int n] = some (.int (bt r n)) := by
  refine run_rt ?_
  show g__law_beats [.sh (told r), .sh (.int n)] = _
  cases r with
  | none => simp [g__law_beats, told, Pu.isNon, bt]
  | some v =>
    obtain ⟨h1, h2⟩ := h v rfl
    have en : Pu.isNon (encP v) = false := rfl
    have e1 : v.1 ≠ 0 := by omega
    have e2 : v.1.natAbs < 1073741824 := by omega
    have e3 : (n : Int).fdiv v.1 = n / v.1 := Int.fdiv_eq_ediv_of_nonneg _ (by omega)
    simp only [encP] at en
    simp [g__law_beats, told, encP, en, i0, e1, e2, e3, bt]
def encS (S : List Pl) : D := .tuple (S.map encP)
theorem subs_len : ∀ (xs : List Pl) (c : List (List Pl)), (xs.foldl (fun c p => c ++ c.map (· ++ [p])) c).length = c.length * 2 ^ xs.length
  | [], c => by simp
  | p :: xs, c => by
    rw [List.foldl_cons, subs_len xs, List.length_append, List.length_map, List.length_cons, Nat.pow_succ]
    rw [← Nat.two_mul, Nat.mul_comm 2, Nat.mul_assoc, Nat.mul_comm 2]
theorem subs_mem {xs : List Pl} : ∀ S ∈ subs xs, (∀ p ∈ S, p ∈ xs) ∧ S.length ≤ xs.length := by
  have : ∀ (xs ys : List Pl) (c : List (List Pl)), (∀ S ∈ c, (∀ p ∈ S, p ∈ ys) ∧ S.length ≤ ys.length) → ∀ S ∈ xs.foldl (fun c p => c ++ c.map (· ++ [p])) c, (∀ p ∈ S, p ∈ ys ++ xs) ∧ S.length ≤ (ys ++ xs).length := by
    intro xs
    induction xs with
    | nil => intro ys c h S hS; simpa using h S hS
    | cons p xs ih =>
      intro ys c h S hS
      have := ih (ys ++ [p]) (c ++ c.map (· ++ [p])) (fun T hT => by
        rcases List.mem_append.mp hT with z | z
        · obtain ⟨h1, h2⟩ := h T z
          exact ⟨fun q hq => List.mem_append_left _ (h1 q hq), by simp; omega⟩
        · obtain ⟨U, hU, rfl⟩ := List.mem_map.mp z
          obtain ⟨h1, h2⟩ := h U hU
          exact ⟨fun q hq => by
            rcases List.mem_append.mp hq with y | y
            · exact List.mem_append_left _ (h1 q y)
            · exact List.mem_append_right _ y, by simp; omega⟩) S hS
      simpa using this
  intro S hS
  have := this xs [] [[]] (by simp) S hS
  simpa using this
theorem subs_tail_ne {xs : List Pl} : ∀ S ∈ (subs xs).tail, S ≠ [] := by
  have : ∀ (xs : List Pl) (c : List (List Pl)), (∀ S ∈ c, S ≠ []) → ∃ d, xs.foldl (fun c p => c ++ c.map (· ++ [p])) ([] :: c) = [] :: d ∧ ∀ S ∈ d, S ≠ [] := by
    intro xs
    induction xs with
    | nil => exact fun c h => ⟨c, rfl, h⟩
    | cons p xs ih =>
      intro c h
      rw [List.foldl_cons, List.cons_append]
      refine ih _ fun S hS => ?_
      rcases List.mem_append.mp hS with z | z
      · exact h S z
      · obtain ⟨U, _, rfl⟩ := List.mem_map.mp z
        simp
  intro S hS
  obtain ⟨d, e, hd⟩ := this xs [] (by simp)
  unfold subs at hS
  rw [e] at hS
  exact hd S hS

theorem good_sub {ps S : List Pl} (hps : ∀ p ∈ ps, Val p ∧ p.1 ≤ 1000) (h1 : ∀ p ∈ S, p ∈ ps) (h2 : S ≠ []) : Good S := ⟨h2, fun p hp => hps p (h1 p hp)⟩
theorem allb_nil (x : Int) : allb [] x = true := rfl
theorem sum_foldl (f : List Pl → Int) : ∀ (c : List (List Pl)) (t : Int), c.foldl (fun t S => t + f S) t = t + sumI f c
  | [], t => by unfold sumI; simp
  | S :: c, t => by
    rw [List.foldl_cons, sum_foldl f c]
    unfold sumI
    rw [List.map_cons, List.sum_cons]
    omega
open Classical in
noncomputable def theMeet (S : List Pl) : Option Pl := if h : ∃ r, Meets r S then h.choose else none
theorem theMeet_eq {r : Option Pl} {S : List Pl} (h : Meets r S) : theMeet S = r := by
  unfold theMeet
  rw [dif_pos ⟨r, h⟩]
  exact meet_det (Exists.choose_spec (⟨r, h⟩ : ∃ r, Meets r S)) h fun _ => Iff.rfl
theorem counted_ok {ps : List Pl} {base : Nat} (hl : ps.length ≤ 6) (hb : 0 < base ∧ base ≤ 1000) (hps : ∀ p ∈ ps, (Val p ∧ p.1 ≤ 1000) ∧ p.1 ∣ (base : Int)) : sem__law_counted [.list (ps.map encP), .int base] = some (.int (cnt (fun x => ps.any (stb · x)) base)) := by
  -- all of some
  have l1 := for_fold (t := tN 4) (a := setS 2 (bn addL (vr 2) (lcS (srcOf (vr 2)) (tN 5) yes (bn addD (vr 5) (mkT (cs (vr 4) nl))) [5]))) (enc := encP)
    (E := fun (c : List (List Pl)) u => [.sh (.list (ps.map encP)), .sh (.int base), .sh (.list (c.map encS)), .sh (.int 0), u, .no, .no, .no]) (step := fun c p => c ++ c.map (· ++ [p])) (v := fun p => .sh (encP p)) (I := fun k c => c.length = 2 ^ k ∧ ∀ S ∈ c, S.length ≤ k)
    ps 6 0 [[]] .no (by omega) (by
      intro p hp k c u hk ⟨h1, h2⟩
      have h64 : c.length ≤ 64 := by
        rw [h1]
        have : 2 ^ k ≤ 2 ^ 6 := Nat.pow_le_pow_right (by decide) (by omega)
        omega
      have e := lc_map (t := tN 5) (f := bn addD (vr 5) (mkT (cs (vr 4) nl))) (ρ := [.sh (.list (ps.map encP)), .sh (.int base), .sh (.list (c.map encS)), .sh (.int 0), .sh (encP p), .no, .no, .no]) (enc := encS) (G := fun S => encS (S ++ [p])) c (by omega) (fun S hS => by
        have hSl := h2 S hS
        have e1 : addD (encS S) (.tuple [encP p]) = some (encS (S ++ [p])) := by
          show (if _ then some (PyData.tuple (S.map encP ++ [encP p])) else none) = _
          rw [if_pos (by rw [szl]; simp; omega)]
          unfold encS; simp
        simp [e1])
      constructor
      · have e2 : addL (.list (c.map encS)) (.list (c.map fun S => encS (S ++ [p]))) = some (.list ((c ++ c.map (· ++ [p])).map encS)) := by
          show (if _ then some (PyData.list (c.map encS ++ c.map fun S => encS (S ++ [p]))) else none) = _
          rw [if_pos (by rw [szl]; simp; omega), List.map_append, List.map_map]
          rfl
        generalize (c ++ c.map (· ++ [p])).map encS = w at e2 ⊢
        generalize (c.map fun S => encS (S ++ [p])) = w2 at e e2
        generalize c.map encS = w3 at e e2 ⊢
        simp [e, e2]
      · refine ⟨by rw [List.length_append, List.length_map, h1, Nat.pow_succ]; omega, fun S hS => ?_⟩
        rcases List.mem_append.mp hS with z | z
        · have := h2 S z; omega
        · obtain ⟨U, hU, rfl⟩ := List.mem_map.mp z
          have := h2 U hU
          simp; omega) ⟨rfl, by simp⟩
  obtain ⟨u1, e1, hlen, _⟩ := l1
  have hmem := subs_mem (xs := ps)
  have htail : ∀ S ∈ (subs ps).tail, (∀ p ∈ S, p ∈ ps) ∧ S.length ≤ 6 ∧ S ≠ [] := fun S hS => by
    obtain ⟨h1, h2⟩ := hmem S (List.mem_of_mem_tail hS)
    exact ⟨h1, by omega, subs_tail_ne S hS⟩
  -- the sum
  have l2 := for_fold (t := tN 6) (a := seq (setS 7 (ap sem_meeting (cs (vr 6) nl))) (seq (ifS (notT (ts truD (ap sem__law_meets (cs (vr 7) (cs (vr 6) (cs (vr 1) nl)))))) (ret (cst .none)) nxt) (setS 3 (bn addD (vr 3) (bn mulD (bn subD (bn mulD (cst (.int 2)) (bn modD (ap intD (one (ap lenD (one (vr 6))))) (cst (.int 2)))) (cst (.int 1))) (ap sem__law_beats (cs (vr 7) (cs (vr 1) nl)))))))) (enc := encS)
    (E := fun (z : Int × Sl) u => [.sh (.list (ps.map encP)), .sh (.int base), .sh (.list ((subs ps).map encS)), .sh (.int z.1), u1, .no, u, z.2]) (step := fun z S => (z.1 + sg S * cnt (allb S) base, .sh (told (theMeet S)))) (v := fun S => .sh (encS S)) (I := fun _ _ => True)
    (subs ps).tail 1000000 0 (0, .no) .no (by
      have : (subs ps).length ≤ 64 := by
        show (ps.foldl _ [[]]).length ≤ 64
        rw [hlen, Nat.zero_add]
        have : 2 ^ ps.length ≤ 2 ^ 6 := Nat.pow_le_pow_right (by decide) hl
        omega
      rw [List.length_tail]; omega) (by
      intro S hS k z u _ _
      refine ⟨?_, trivial⟩
      obtain ⟨h1, h2, h3⟩ := htail S hS
      obtain ⟨r, er, hr⟩ := meeting_ok (good_sub (fun p hp => (hps p hp).1) h1 h3) (by omega)
      rw [theMeet_eq hr]
      have em := meets_ok (base := base) hr (fun p hp => hp) (fun p hp => ⟨(hps p (h1 p hp)).1.1, (hps p (h1 p hp)).2⟩) (by omega) (by omega)
      have eb := beats_ok (r := r) (n := base) fun v hv => by
        subst hv
        have d := (meet_per hr).1 base fun p hp => (hps p (h1 p hp)).2
        have := Int.le_of_dvd (by omega) d
        exact ⟨hr.1.1, by omega⟩
      rw [bt_cnt hr fun p hp => (hps p (h1 p hp)).2] at eb
      have es : (2 * ((S.length : Int).fmod 2) - 1) = sg S := by unfold sg; rw [fmod_pos (by decide)]
      have hsg : (sg S).natAbs < 18446744073709551616 := by unfold sg; omega
      have em2 : mulD (.int (sg S)) (.int (cnt (allb S) base)) = some (.int (sg S * cnt (allb S) base)) := mulD_l hsg
      have em3 : mulD (.int 2) (.int ((S.length : Int).fmod 2)) = some (.int (2 * ((S.length : Int).fmod 2))) := mulD_l (by decide)
      have eS : lenD [encS S] = some (.int S.length) := by unfold encS; rw [lenD_t, List.length_map]
      have er' : sem_meeting [encS S] = some (told r) := er
      have em' : sem__law_meets [told r, encS S, .int base] = some (.bool true) := em
      generalize told r = R at *
      generalize cnt (allb S) base = C at *
      generalize encS S = Q at *
      simp [er', em', eb, eS, em2, em3, es]) trivial
  obtain ⟨u2, e2, _⟩ := l2
  have e3 : ((subs ps).tail.foldl (fun (z : Int × Sl) S => (z.1 + sg S * cnt (allb S) base, Sl.sh (told (theMeet S)))) (0, .no)).1 = cnt (fun x => ps.any (stb · x)) base := by
    have : ∀ (c : List (List Pl)) (z : Int × Sl), (c.foldl (fun (z : Int × Sl) S => (z.1 + sg S * cnt (allb S) base, Sl.sh (told (theMeet S)))) z).1 = c.foldl (fun t S => t + sg S * cnt (allb S) base) z.1 := by
      intro c
      induction c with
      | nil => intro z; rfl
      | cons S c ih => intro z; rw [List.foldl_cons, List.foldl_cons, ih]
    rw [this, sum_foldl, ← incl ps base]
    show (0 : Int) + _ = _
    omega
  generalize ((subs ps).tail.foldl (fun (z : Int × Sl) S => (z.1 + sg S * cnt (allb S) base, Sl.sh (told (theMeet S)))) (0, .no)) = z at e2 e3
  have e4 : cutD ((subs ps).map encS) (some 1) none = (subs ps).tail.map encS := by
    rw [cut_from (by decide)]
    show ((subs ps).map encS).drop 1 = _
    rw [List.map_tail, List.drop_one]
  refine run_rt ?_
  show g__law_counted [.sh (.list (ps.map encP)), .sh (.int base), .no, .no, .no, .no, .no, .no] = _
  have e0 : [[]].map encS = [PyData.tuple []] := rfl
  rw [e0] at e1
  have e1 : _ = some (Out.nx [.sh (.list (ps.map encP)), .sh (.int base), .sh (.list ((subs ps).map encS)), .sh (.int 0), u1, .no, .no, .no]) := e1
  simp only [g__law_counted, seq_at]
  generalize (subs ps).map encS = w at *
  generalize (subs ps).tail.map encS = w2 at *
  simp [e1, e4, e2, e3]

def mv (k : Int) (p : Pl) : Pl := (p.1, (p.2 + k) % p.1)
def ng (p : Pl) : Pl := (p.1, (-p.2) % p.1)
theorem val_mv {k : Int} {p : Pl} (h : Val p) : Val (mv k p) := ⟨h.1, Int.emod_nonneg _ (by have := h.1; omega), Int.emod_lt_of_pos _ h.1⟩
theorem val_ng {p : Pl} (h : Val p) : Val (ng p) := ⟨h.1, Int.emod_nonneg _ (by have := h.1; omega), Int.emod_lt_of_pos _ h.1⟩
theorem dvd_emod {p a x : Int} : p ∣ x - a % p ↔ p ∣ x - a := by
  have e : a % p = a - p * (a / p) := by have := Int.emod_add_mul_ediv a p; omega
  rw [e, show x - (a - p * (a / p)) = x - a + p * (a / p) by omega]
  exact ⟨fun h => (Int.dvd_add_left ⟨_, rfl⟩).mp h, fun h => Int.dvd_add h ⟨_, rfl⟩⟩
theorem st_mv {k : Int} {p : Pl} {x : Int} : st (mv k p) x ↔ st p (x - k) := by
  show p.1 ∣ x - (p.2 + k) % p.1 ↔ p.1 ∣ x - k - p.2
  rw [dvd_emod, show x - (p.2 + k) = x - k - p.2 by omega]
theorem st_ng {p : Pl} {x : Int} : st (ng p) x ↔ st p (-x) := by
  show p.1 ∣ x - (-p.2) % p.1 ↔ p.1 ∣ -x - p.2
  rw [dvd_emod, show -x - p.2 = -(x - -p.2) by omega, Int.dvd_neg]
theorem all_map {f : Pl → Pl} {g : Int → Int} (h : ∀ p x, st (f p) x ↔ st p (g x)) {S : List Pl} {x : Int} : All (S.map f) x ↔ All S (g x) := by
  constructor
  · intro z s hs
    exact (h s x).mp (z _ (List.mem_map.mpr ⟨s, hs, rfl⟩))
  · intro z s hs
    obtain ⟨q, hq, rfl⟩ := List.mem_map.mp hs
    exact (h q x).mpr (z q hq)
theorem meets_map {f : Pl → Pl} {g g' : Int → Int} (h : ∀ p x, st (f p) x ↔ st p (g x)) (hv : ∀ p, Val p → Val (f p)) (hg : ∀ x, g (g' x) = x) {r : Option Pl} {S : List Pl} (m : Meets r S) : Meets (r.map f) (S.map f) := by
  cases r with
  | none => exact fun x z => m (g x) ((all_map h).mp z)
  | some v => exact ⟨hv v m.1, fun x => by rw [h, m.2, all_map h]⟩
theorem allb_iff {S : List Pl} {x : Int} : allb S x = true ↔ All S x := by
  unfold allb All
  rw [List.all_eq_true]
  exact ⟨fun h s hs => stb_iff.mp (h s hs), fun h s hs => stb_iff.mpr (h s hs)⟩
theorem lk_told (r : Option Pl) : Lb.lk 4 (told r) = true := by
  cases r with
  | none => rfl
  | some v => rfl
theorem edited_ok {ps : List Pl} {base : Nat} {k : Int} (hne : ps ≠ []) (hl : ps.length ≤ 6) (hb : 0 < base ∧ base ≤ 1000) (hps : ∀ p ∈ ps, (Val p ∧ p.1 ≤ 1000) ∧ p.1 ∣ (base : Int)) : sem__law_edited [.list (ps.map encP), .int base, .int k] = some (.bool true) := by
  have G0 : Good ps := ⟨hne, fun p hp => (hps p hp).1⟩
  obtain ⟨r, e1, hr⟩ := meeting_ok G0 (by omega)
  have G1 : Good (ps ++ ps) := ⟨by simp [hne], fun p hp => (hps p (by simpa using hp)).1⟩
  obtain ⟨r1, e2, hr1⟩ := meeting_ok G1 (by simp; omega)
  have x1 : r1 = r := meet_det hr1 hr fun x => by
    constructor
    · exact fun h s hs => h s (List.mem_append_left _ hs)
    · exact fun h s hs => h s (by simpa using hs)
  rw [x1, List.map_append] at e2
  have G2 : Good (ps.map (mv k)) := ⟨by simp [hne], fun p hp => by
    obtain ⟨q, hq, rfl⟩ := List.mem_map.mp hp
    exact ⟨val_mv (hps q hq).1.1, (hps q hq).1.2⟩⟩
  obtain ⟨r2, e3, hr2⟩ := meeting_ok G2 (by simp; omega)
  have x2 : r2 = r.map (mv k) := meet_det hr2 (meets_map (g := (· - k)) (g' := (· + k)) (fun p x => st_mv) (fun p h => val_mv h) (fun x => by omega) hr) fun _ => Iff.rfl
  have G3 : Good (ps.map ng) := ⟨by simp [hne], fun p hp => by
    obtain ⟨q, hq, rfl⟩ := List.mem_map.mp hp
    exact ⟨val_ng (hps q hq).1.1, (hps q hq).1.2⟩⟩
  obtain ⟨r3, e4, hr3⟩ := meeting_ok G3 (by simp; omega)
  have x3 : r3 = r.map ng := meet_det hr3 (meets_map (g := (- ·)) (g' := (- ·)) (fun p x => st_ng) (fun p h => val_ng h) (fun x => by omega) hr) fun _ => Iff.rfl
  subst x2
  subst x3
  -- any beat of all
  have f1 := lc_map (t := tN 5) (f := ap allD (one (lcS (srcOf (vr 0)) (tN 4) yes (ap sem__law_struck (cs (vr 4) (cs (vr 5) nl))) [4]))) (ρ := [.sh (.list (ps.map encP)), .sh (.int base), .sh (.int k), .sh (told r), .no, .no, .no, .no, .no, .no, .no]) (enc := PyData.int) (G := fun x => .bool (allb ps x)) (ri base) (by simp; omega) (fun x _ => by
    have g := lc_map (t := tN 4) (f := ap sem__law_struck (cs (vr 4) (cs (vr 5) nl))) (ρ := [.sh (.list (ps.map encP)), .sh (.int base), .sh (.int k), .sh (told r), .no, .sh (.int x), .no, .no, .no, .no, .no]) (enc := encP) (G := fun p => .bool (stb p x)) ps (by omega) (fun p hp => by
      have := struck_ok (hps p hp).1.1 x
      simp [this])
    have g2 : allD [.list (ps.map fun p => .bool (stb p x))] = some (.bool (allb ps x)) := by
      have := allD_map (bs := ps.map fun p => stb p x)
      rw [List.map_map] at this
      rw [show (ps.map fun p => PyData.bool (stb p x)) = ps.map (PyData.bool ∘ fun p => stb p x) from rfl, this]
      unfold allb
      rw [List.all_map]
      rfl
    generalize (ps.map fun p => PyData.bool (stb p x)) = w at g g2
    simp [g, g2])
  have f2 : anyD [.list ((ri base).map fun x => .bool (allb ps x))] = some (.bool (!decide (r = none))) := by
    have := anyD_map (bs := (ri base).map fun x => allb ps x)
    rw [List.map_map] at this
    rw [show ((ri base).map fun x => PyData.bool (allb ps x)) = (ri base).map (PyData.bool ∘ fun x => allb ps x) from rfl, this]
    congr 2
    rw [List.any_map]
    cases r with
    | none =>
      show _ = false
      rw [Bool.eq_false_iff]
      intro h
      obtain ⟨x, _, hx⟩ := List.any_eq_true.mp h
      exact hr x (allb_iff.mp hx)
    | some v =>
      have hd := (meet_per hr).1 base fun p hp => (hps p hp).2
      have := Int.le_of_dvd (by omega) hd
      have hv := hr.1
      refine (List.any_eq_true.mpr ⟨v.2, mem_ri.mpr ⟨hv.2.1, by have := hv.2.2; omega⟩, ?_⟩).trans rfl
      exact allb_iff.mpr (meet_per hr).2.2
  have f3 : isD (told r) .none = some (.bool (decide (r = none))) := by cases r <;> rfl
  have e5 : addL (.list (ps.map encP)) (.list (ps.map encP)) = some (.list (ps.map encP ++ ps.map encP)) := by
    show (if _ then some (PyData.list (ps.map encP ++ ps.map encP)) else none) = _
    rw [if_pos (by rw [szl]; simp; omega)]
  have l0 := like (lk_told r)
  have g1 : (base : Int) < 4611686018427387904 := by omega
  have g2 : -4611686018427387904 ≤ (base : Int) := by omega
  have g3 := rng0_ri base
  have h1 := lc_map (t := tT [(tN 7), (tN 8)]) (f := mkT (cs (vr 7) (cs (bn modD (ap intD (one (bn addD (vr 8) (vr 2)))) (vr 7)) nl))) (ρ := [.sh (.list (ps.map encP)), .sh (.int base), .sh (.int k), .sh (told r), .no, .no, .no, .no, .no, .no, .no]) (enc := encP) (G := fun p => encP (mv k p)) ps (by omega) (fun p hp => by
    have p0 := (hps p hp).1.1.1
    have p1 : p.1 ≠ 0 := by omega
    have p2 : (p.2 + k).fmod p.1 = (p.2 + k) % p.1 := fmod_pos p0
    simp [encP, mv, p1, p2])
  have h2 : ∀ z, lcK (tT [(tN 7), (tN 8)]) yes (mkT (cs (vr 7) (cs (bn modD (ap intD (one (un negD (vr 8)))) (vr 7)) nl))) [.sh (.list (ps.map encP)), .sh (.int base), .sh (.int k), .sh (told r), .no, .no, .sh z, .no, .no, .no, .no] (some (ps.map encP)) = _ := fun z => lc_map (t := tT [(tN 7), (tN 8)]) (f := mkT (cs (vr 7) (cs (bn modD (ap intD (one (un negD (vr 8)))) (vr 7)) nl))) (ρ := [.sh (.list (ps.map encP)), .sh (.int base), .sh (.int k), .sh (told r), .no, .no, .sh z, .no, .no, .no, .no]) (enc := encP) (G := fun p => encP (ng p)) ps (by omega) (fun p hp => by
    have p0 := (hps p hp).1.1.1
    have p1 : p.1 ≠ 0 := by omega
    have p2 : (-p.2).fmod p.1 = (-p.2) % p.1 := fmod_pos p0
    simp [encP, ng, p1, p2])
  rw [List.map_map] at e3 e4
  have e3 : sem_meeting [.tuple (ps.map fun p => encP (mv k p))] = _ := e3
  have e4 : sem_meeting [.tuple (ps.map fun p => encP (ng p))] = _ := e4
  have hlen : ((ps.map encP).length : Int) = ps.length := by simp
  refine run_rt ?_
  show g__law_edited [.sh (.list (ps.map encP)), .sh (.int base), .sh (.int k), .no, .no, .no, .no, .no, .no, .no, .no] = _
  have nx : ∀ p q : Bool, (p == !p) = false := fun p q => by cases p <;> rfl
  generalize (ps.map fun p => encP (mv k p)) = w1 at *
  generalize (ps.map fun p => encP (ng p)) = w2 at *
  generalize ((ri base).map fun x => PyData.bool (allb ps x)) = w3 at *
  generalize ps.map encP ++ ps.map encP = w4 at *
  generalize ps.map encP = w5 at *
  cases r with
  | none =>
    simp only [told, Option.map_none] at *
    by_cases c : (w5.length : Int) < 4
    · simp [g__law_edited, e1, e2, e3, e4, f1, f2, e5, l0, g1, g2, g3, h1, h2, c, Pu.isNon]
    · have c' := c
      simp [g__law_edited, e1, e2, e3, e4, f1, f2, e5, l0, g1, g2, g3, h1, h2, c', Pu.isNon]
  | some v =>
    have v0 := hr.1.1
    have v1 : v.1 ≠ 0 := by omega
    have v2 : (v.2 + k).fmod v.1 = (v.2 + k) % v.1 := fmod_pos v0
    have v3 : (-v.2).fmod v.1 = (-v.2) % v.1 := fmod_pos v0
    have l1 := like (d := .tuple [.int v.1, .int ((v.2 + k) % v.1)]) rfl
    have l2 := like (d := .tuple [.int v.1, .int ((-v.2) % v.1)]) rfl
    simp only [told, Option.map_some, encP, mv, ng] at *
    by_cases c : (w5.length : Int) < 4
    · simp [g__law_edited, e1, e2, e3, e4, f1, f2, e5, l0, l1, l2, g1, g2, g3, h1, h2, c, Pu.isNon, i0, i1, v1, v2, v3]
    · have c' := c
      simp [g__law_edited, e1, e2, e3, e4, f1, f2, e5, l0, l1, l2, g1, g2, g3, h1, h2, c', Pu.isNon, i0, i1, v1, v2, v3]

/-! the pulses drawn -/
def lapsTo (n m : Nat) : List Nat := ((List.range n).map (1 + ·)).filter fun l => decide (m % l = 0)
theorem mem_laps {n m l : Nat} (h : l ∈ lapsTo n m) : 1 ≤ l ∧ l ≤ n ∧ l ∣ m := by
  obtain ⟨h1, h2⟩ := List.mem_filter.mp h
  obtain ⟨i, hi, rfl⟩ := List.mem_map.mp h1
  have := List.mem_range.mp hi
  exact ⟨by omega, by omega, Nat.dvd_of_mod_eq_zero (by simpa using h2)⟩
theorem laps_ne {n m : Nat} (h : 1 ≤ n) : lapsTo n m ≠ [] := by
  have : 1 ∈ lapsTo n m := List.mem_filter.mpr ⟨List.mem_map.mpr ⟨0, List.mem_range.mpr (by omega), rfl⟩, by simp [Nat.mod_one]⟩
  exact fun e => by rw [e] at this; cases this
theorem getD_mem {f : List Nat} {i : Nat} (h : i < f.length) : f.getD i 0 ∈ f := by
  rw [List.getD_eq_getElem?_getD, List.getElem?_eq_getElem h]
  exact List.getElem_mem _
theorem fmodN (a b : Nat) : (a : Int).fmod b = ((a % b : Nat) : Int) := by
  rw [Int.fmod_eq_emod_of_nonneg _ (by omega)]; omega
theorem laps_ok (base : Nat) : sem__law_laps [.int base] = some (.list (nts (lapsTo 60 base))) := by
  have e := lc_filt (t := tN 1) (c := ts boolOf (bn eqD (bn modD (ap intD (one (vr 0))) (vr 1)) (cst (.int 0)))) (f := vr 1) (ρ := [.sh (.int base), .no]) (enc := fun (n : Nat) => PyData.int n) (G := fun (n : Nat) => PyData.int n) ((List.range 60).map (1 + ·)) (fun l => decide (base % l = 0)) (by simp) (fun l hl => by
    obtain ⟨i, _, rfl⟩ := List.mem_map.mp hl
    have h0 : ((1 + i : Nat) : Int) ≠ 0 := by omega
    have e := fmodN base (1 + i)
    refine ⟨_, rfl, ?_, fun _ => ?_⟩
    · generalize 1 + i = l at *
      have h0' : l ≠ 0 := by omega
      simp [h0', e]
      constructor <;> intro h <;> omega
    · generalize 1 + i = l at *
      simp)
  have er : rng 1 60 = ((List.range 60).map (1 + ·)).map fun (i : Nat) => PyData.int i := rngN 1 60
  refine run_rt ?_
  show g__law_laps [.sh (.int base), .no] = _
  unfold nts lapsTo
  generalize ((List.range 60).map (1 + ·)) = w at *
  generalize (w.filter fun l => decide (base % l = 0)) = w2 at *
  simp [g__law_laps, er, e]
structure PsOk (base : Nat) (ps : List Pl) : Prop where
  val : ∀ p ∈ ps, (Val p ∧ p.1 ≤ 1000) ∧ p.1 ∣ (base : Int)
def pulT : Eg := (seq (setS 9 (mkT (cs (vr 7) (cs (vr 8) nl)))) (seq (ifS (andB (ts boolOf (bn gtD (vr 6) (cst (.int 0)))) (ts boolOf (bn eqD (bn modD (ap intD (one (bn ixD (vr 0) (bn addD (cst (.int 18)) (vr 6))))) (cst (.int 4))) (cst (.int 1))))) (setS 9 (bn ixD (vb 3) (bn modD (ap intD (one (bn ixD (vr 0) (bn addD (cst (.int 6)) (vr 6))))) (ap lenD (one (vb 3)))))) nxt) (appS 3 (vr 9))))
def pulB : Eg := (seq (setS 7 (bn ixD (vr 2) (bn modD (ap intD (one (bn ixD (vr 0) (bn addD (cst (.int 12)) (vr 6))))) (ap lenD (one (vr 2)))))) (seq (setS 8 (bn modD (ap intD (one (bn ixD (vr 0) (bn addD (cst (.int 6)) (vr 6))))) (vr 7))) (seq (ifS (orB (ts boolOf (bn ltD (vr 4) (cst (.int 2)))) (andB (ts boolOf (bn eqD (vr 4) (cst (.int 2)))) (ts boolOf (bn gtD (bn modD (ap intD (one (bn ixD (vr 0) (bn addD (cst (.int 18)) (vr 6))))) (cst (.int 3))) (cst (.int 0)))))) (setS 8 (bn modD (ap intD (one (vr 5))) (vr 7))) nxt) pulT)))
theorem pulses_ok (row : List Int) (base : Nat) (hr : row.length = 32) (hb : 0 < base ∧ base ≤ 1000) : ∃ ps : List Pl, sem__law_pulses [.list (row.map .int), .int base] = some (.list (ps.map encP)) ∧ ps ≠ [] ∧ ps.length ≤ 6 ∧ ∀ p ∈ ps, (Val p ∧ p.1 ≤ 1000) ∧ p.1 ∣ (base : Int) := by
  have el := laps_ok base
  have hl : ∀ l ∈ lapsTo 60 base, 1 ≤ l ∧ l ≤ 60 ∧ l ∣ base := fun l h => mem_laps h
  have hne := laps_ne (n := 60) (m := base) (by decide)
  generalize lapsTo 60 base = L at *
  have hlen : 0 < L.length := List.length_pos_iff.mpr hne
  have hrow : ∀ i : Int, 0 ≤ i → i < 32 → atI (row.map PyData.int) i = some (.int (row.getD i.toNat 0)) := fun i h0 h1 => Lb.atI_ints h0 (by omega)
  have hL : ∀ x : Int, ∃ p : Nat, p ∈ L ∧ atI (nts L) (x.fmod (L.length : Int)) = some (.int p) := fun x => by
    have h := Lb.fmod_lt (a := x) (b := (L.length : Int)) (by omega)
    have := atI_nts (f := L) (i := (x.fmod (L.length : Int)).toNat) (by omega)
    rw [Int.toNat_of_nonneg h.1] at this
    exact ⟨_, getD_mem (by omega), this⟩
  have m0 := Lb.fmod_lt (a := row.getD 2 0) (b := 6) (by decide)
  obtain ⟨m, hm⟩ : ∃ m : Nat, (m : Int) = 1 + (row.getD 2 0).fmod 6 := ⟨(1 + (row.getD 2 0).fmod 6).toNat, by omega⟩
  have r2 : atI (row.map PyData.int) 2 = some (.int (row.getD 2 0)) := hrow 2 (by decide) (by decide)
  have r3 : atI (row.map PyData.int) 3 = some (.int (row.getD 3 0)) := hrow 3 (by decide) (by decide)
  have r4 : atI (row.map PyData.int) 4 = some (.int (row.getD 4 0)) := hrow 4 (by decide) (by decide)
  generalize row.getD 2 0 = v2 at *
  generalize row.getD 3 0 = v3 at *
  generalize row.getD 4 0 = v4 at *
  have loop := for_stN (t := tN 6) (a := pulB) (enc := PyData.int) (E := fun (z : List Pl × Sl × Sl × Sl × Sl) => [.sh (.list (row.map .int)), .sh (.int base), .sh (.list (nts L)), .ow (.list (z.1.map encP)), .sh (.int (v3.fmod 4)), .sh (.int (v4.fmod base)), z.2.1, z.2.2.1, z.2.2.2.1, z.2.2.2.2])
    (I := fun k z => z.1.length = k ∧ ∀ p ∈ z.1, (Val p ∧ p.1 ≤ 1000) ∧ p.1 ∣ (base : Int)) (ri m) (by
      intro k x z hx ⟨h1, h2⟩
      obtain ⟨xk, k1⟩ := ri_get hx
      have x0 : 0 ≤ x := by omega
      obtain ⟨ps, s6, s7, s8, s9⟩ := z
      simp only at h1 h2 ⊢
      have q1 := hrow (12 + x) (by omega) (by omega)
      have q2 := hrow (6 + x) (by omega) (by omega)
      have q3 := hrow (18 + x) (by omega) (by omega)
      generalize row.getD (12 + x).toNat 0 = w1 at *
      generalize row.getD (6 + x).toNat 0 = w2 at *
      generalize row.getD (18 + x).toNat 0 = w3 at *
      obtain ⟨p, pm, ep⟩ := hL w1
      obtain ⟨p1, p2, p3⟩ := hl p pm
      have p0 : (p : Int) ≠ 0 := by omega
      have p0' : p ≠ 0 := by omega
      have L0 : (L.length : Int) ≠ 0 := by omega
      have L0' : L ≠ [] := hne
      have pd : (p : Int) ∣ base := Int.natCast_dvd_natCast.mpr p3
      have o2 := Lb.fmod_lt (a := w2) (b := p) (by omega)
      have o3 := Lb.fmod_lt (a := v4.fmod base) (b := p) (by omega)
      -- the new pulse
      have fin : ∀ (q : Pl) (s6 s7 s8 s9 : Sl), (Val q ∧ q.1 ≤ 1000) ∧ q.1 ∣ (base : Int) → ∃ s' : List Pl × Sl × Sl × Sl × Sl, (s'.1.length = k + 1 ∧ ∀ p ∈ s'.1, (Val p ∧ p.1 ≤ 1000) ∧ p.1 ∣ (base : Int)) ∧ [.sh (.list (row.map .int)), .sh (.int base), .sh (.list (nts L)), .ow (.list (ps.map encP ++ [encP q])), .sh (.int (v3.fmod 4)), .sh (.int (v4.fmod base)), s6, s7, s8, s9] = (fun (z : List Pl × Sl × Sl × Sl × Sl) => [.sh (.list (row.map .int)), .sh (.int base), .sh (.list (nts L)), .ow (.list (z.1.map encP)), .sh (.int (v3.fmod 4)), .sh (.int (v4.fmod base)), z.2.1, z.2.2.1, z.2.2.2.1, z.2.2.2.2]) s' := fun q s6 s7 s8 s9 hq =>
        ⟨(ps ++ [q], s6, s7, s8, s9), ⟨by simp [h1], fun p hp => by
          rcases List.mem_append.mp hp with y | y
          · exact h2 p y
          · rw [List.mem_singleton.mp y]; exact hq⟩, by simp⟩
      have run : ∃ (q : Pl) (t6 t7 t8 t9 : Sl), ((Val q ∧ q.1 ≤ 1000) ∧ q.1 ∣ (base : Int)) ∧ pulB [.sh (.list (row.map .int)), .sh (.int base), .sh (.list (nts L)), .ow (.list (ps.map encP)), .sh (.int (v3.fmod 4)), .sh (.int (v4.fmod base)), .sh (.int x), s7, s8, s9] = some (.nx [.sh (.list (row.map .int)), .sh (.int base), .sh (.list (nts L)), .ow (.list (ps.map encP ++ [encP q])), .sh (.int (v3.fmod 4)), .sh (.int (v4.fmod base)), t6, t7, t8, t9]) := by
        have hl2 : ps.length < 16777216 := by omega
        have vp : ∀ o : Int, 0 ≤ o → o < p → (Val ((p : Int), o) ∧ ((p : Int), o).1 ≤ 1000) ∧ ((p : Int), o).1 ∣ (base : Int) := fun o h1 h2 => ⟨⟨⟨by show (0 : Int) < p; omega, h1, h2⟩, by show (p : Int) ≤ 1000; omega⟩, pd⟩
        have old : 0 < x → ∃ q ∈ ps, atI (ps.map encP) (w2.fmod (ps.length : Int)) = some (encP q) := fun hx0 => by
          have hpos : 0 < ps.length := by omega
          have h := Lb.fmod_lt (a := w2) (b := (ps.length : Int)) (by omega)
          have := atI_map (g := encP) (f := ps) (i := (w2.fmod (ps.length : Int)).toNat) (by omega) (0, 0)
          rw [Int.toNat_of_nonneg h.1] at this
          refine ⟨_, ?_, this⟩
          rw [List.getD_eq_getElem?_getD, List.getElem?_eq_getElem (show (w2.fmod (ps.length : Int)).toNat < ps.length by omega)]
          exact List.getElem_mem _
        have b0 : (base : Int) ≠ 0 := by omega
        have b0' : base ≠ 0 := by omega
        have go : ∃ o : Int, 0 ≤ o ∧ o < p ∧ ∀ R : Out, pulT [.sh (.list (row.map .int)), .sh (.int base), .sh (.list (nts L)), .ow (.list (ps.map encP)), .sh (.int (v3.fmod 4)), .sh (.int (v4.fmod base)), .sh (.int x), .sh (.int p), .sh (.int o), s9] = some R →
            pulB [.sh (.list (row.map .int)), .sh (.int base), .sh (.list (nts L)), .ow (.list (ps.map encP)), .sh (.int (v3.fmod 4)), .sh (.int (v4.fmod base)), .sh (.int x), s7, s8, s9] = some R := by
          by_cases c1 : v3.fmod 4 < 2
          · exact ⟨_, o3.1, o3.2, fun R hR => by simp [pulB, q1, q2, q3, ep, p0, p0', L0', b0', c1, hR]⟩
          · by_cases c2 : v3.fmod 4 = 2
            · by_cases c3 : 0 < w3.fmod 3
              · exact ⟨_, o3.1, o3.2, fun R hR => by simp [pulB, q1, q2, q3, ep, p0, p0', L0', b0', c2, c3] at hR ⊢; exact hR⟩
              · exact ⟨_, o2.1, o2.2, fun R hR => by simp [pulB, q1, q2, q3, ep, p0, p0', L0', b0', c2, c3] at hR ⊢; exact hR⟩
            · exact ⟨_, o2.1, o2.2, fun R hR => by simp [pulB, q1, q2, q3, ep, p0, p0', L0', b0', c1, c2, hR]⟩
        obtain ⟨o, ho1, ho2, hgo⟩ := go
        by_cases d1 : 0 < x
        · by_cases d2 : w3.fmod 4 = 1
          · obtain ⟨q, qm, eq⟩ := old d1
            refine ⟨q, .sh (.int x), .sh (.int p), .sh (.int o), .sh (encP q), h2 q qm, hgo _ ?_⟩
            have pl0 : ps ≠ [] := fun e => by rw [e] at qm; cases qm
            simp [pulT, q1, q2, q3, d1, d2, eq, hl2, pl0]
          · refine ⟨((p : Int), o), .sh (.int x), .sh (.int p), .sh (.int o), .sh (encP ((p : Int), o)), vp o ho1 ho2, hgo _ ?_⟩
            simp [pulT, q1, q2, q3, d1, d2, hl2, encP]
        · refine ⟨((p : Int), o), .sh (.int x), .sh (.int p), .sh (.int o), .sh (encP ((p : Int), o)), vp o ho1 ho2, hgo _ ?_⟩
          simp [pulT, q1, q2, q3, d1, hl2, encP]
      obtain ⟨q, s6', s7', s8', s9', hq, eq⟩ := run
      obtain ⟨s', hs', es'⟩ := fin q s6' s7' s8' s9' hq
      exact ⟨s', hs', .inl (eq.trans (congrArg (fun z => some (Out.nx z)) es'))⟩) ([], .no, .no, .no, .no) ⟨rfl, by simp⟩
  obtain ⟨z, ⟨z1, z2⟩, ez⟩ := loop
  rw [ri_len] at z1
  refine ⟨z.1, run_rt ?_, fun e => by rw [e] at z1; simp at z1; omega, by omega, z2⟩
  have g1 : (1 + v2.fmod 6 : Int) < 4611686018427387904 := by omega
  have g2 : -4611686018427387904 ≤ (1 + v2.fmod 6 : Int) := by omega
  have g3 : rng 0 (1 + v2.fmod 6).toNat = (ri m).map PyData.int := by rw [← hm, Int.toNat_natCast]; exact rng0_ri m
  have b0 : (base : Int) ≠ 0 := by omega
  have b0' : base ≠ 0 := by omega
  have em : mkL nl [.sh (.list (row.map .int)), .sh (.int base), .no, .no, .no, .no, .no, .no, .no, .no] = some (.list []) := by simp
  have ea : ap sem__law_laps (cs (vr 1) nl) [.sh (.list (row.map .int)), .sh (.int base), .no, .no, .no, .no, .no, .no, .no, .no] = some (.list (nts L)) := by simp [el]
  have ep := parM_at (i := 2) (j := 3) (o := false) (o' := true) ea em
  show g__law_pulses [.sh (.list (row.map .int)), .sh (.int base), .no, .no, .no, .no, .no, .no, .no, .no] = _
  have eg : g__law_pulses = (seq (parM 2 3 false true (ap sem__law_laps (cs (vr 1) nl)) (mkL nl)) (seq (parS 4 5 (cs (bn modD (ap intD (one (bn ixD (vr 0) (cst (.int 3))))) (cst (.int 4))) (cs (bn modD (ap intD (one (bn ixD (vr 0) (cst (.int 4))))) (vr 1)) nl))) (seq (forS (rg1 (cs (bn addD (cst (.int 1)) (bn modD (ap intD (one (bn ixD (vr 0) (cst (.int 2))))) (cst (.int 6)))) nl)) (tN 6) pulB) (ret (vb 3))))) := rfl
  rw [eg]
  simp only [List.map_nil] at ez
  rw [seq_at, ep]
  simp [r2, r3, r4, g1, g2, g3, b0, b0', ez]

/-! rows of places -/
theorem ri_asc (n : Nat) : (ri n).Pairwise (· < ·) := by
  unfold ri
  rw [List.pairwise_map]
  exact List.pairwise_lt_range.imp fun h => by omega
def cls (n : Nat) (p o : Int) : List Int := (ri n).filter fun x => decide (x % p = o)
theorem cls_asc (n : Nat) (p o : Int) : (cls n p o).Pairwise (· < ·) := (ri_asc n).sublist (List.filter_sublist ..)
theorem mem_cls {n : Nat} {p o x : Int} : x ∈ cls n p o ↔ (0 ≤ x ∧ x < n) ∧ x % p = o := by
  unfold cls
  rw [List.mem_filter, mem_ri, decide_eq_true_eq]
theorem cls_len (n : Nat) (p o : Int) : (cls n p o).length ≤ n := by
  have := List.length_filter_le (fun x => decide (x % p = o)) (ri n)
  rw [ri_len] at this
  exact this
theorem moved_ok {n : Nat} (hn : 0 < n) (f : List Int) (hf : f.length ≤ 1000) (k : Int) : sem_moved [.int n, .tuple (f.map .int), .int k] = some (.tuple ((srt (f.map fun x => (x + k) % n)).map .int)) := by
  have h0 : (n : Int) ≠ 0 := by omega
  have h0' : n ≠ 0 := by omega
  have e := lc_map (t := tN 3) (f := bn modD (bn addD (vr 3) (vr 2)) (vr 0)) (ρ := [.sh (.int n), .sh (.tuple (f.map .int)), .sh (.int k), .no]) (enc := PyData.int) (G := fun x => .int ((x + k) % n)) f (by omega) (fun x _ => by
    have : (x + k).fmod n = (x + k) % n := fmod_pos (by omega)
    simp [h0', this])
  have e2 : (f.map fun x => PyData.int ((x + k) % n)) = (f.map fun x => (x + k) % n).map .int := by rw [List.map_map]; rfl
  rw [e2] at e
  refine run_rt ?_
  show g_moved [.sh (.int n), .sh (.tuple (f.map .int)), .sh (.int k), .no] = _
  have e3 := sortedD_l (ns := f.map fun x => (x + k) % n)
  generalize (f.map fun x => (x + k) % n) = w at *
  generalize w.map PyData.int = w2 at *
  generalize f.map PyData.int = w3 at *
  simp [g_moved, e, e3]
theorem emod_of_dvd {p n x : Int} (h : p ∣ n) : (x % n) % p = x % p := Int.emod_emod_of_dvd x h
theorem moved_cls {n : Nat} {p o : Int} (hn : 0 < n) (hp : 0 < p) (hd : p ∣ (n : Int)) (ho : 0 ≤ o ∧ o < p) (k : Int) : srt ((cls n p o).map fun x => (x + k) % n) = cls n p ((o + k) % p) := by
  refine srt_of ?_ (cls_asc _ _ _) fun x => ?_
  · refine List.pairwise_map.mpr ((cls_asc n p o).imp_of_mem fun {a b} ha hb hab => ?_)
    have ha := (mem_cls.mp ha).1
    have hb := (mem_cls.mp hb).1
    intro e
    have : (n : Int) ∣ (b + k) - (a + k) := Int.dvd_of_emod_eq_zero (by rw [Int.sub_emod, ← e]; simp)
    have := Int.le_of_dvd (by omega) this
    omega
  · rw [List.mem_map, mem_cls]
    have n0 : (0 : Int) < n := by omega
    constructor
    · rintro ⟨y, hy, rfl⟩
      have hy := mem_cls.mp hy
      refine ⟨⟨Int.emod_nonneg _ (by omega), Int.emod_lt_of_pos _ n0⟩, ?_⟩
      rw [emod_of_dvd hd, Int.add_emod, hy.2, ← Int.add_emod_emod]
      simp
    · rintro ⟨hx, hxo⟩
      refine ⟨(x - k) % n, mem_cls.mpr ⟨⟨Int.emod_nonneg _ (by omega), Int.emod_lt_of_pos _ n0⟩, ?_⟩, ?_⟩
      · rw [emod_of_dvd hd, Int.sub_emod, hxo]
        have : ((o + k) % p % p - k % p) % p = o % p := by
          rw [← Int.sub_emod, Int.emod_sub_emod]
          rw [show o + k - k = o by omega]
        rw [Int.emod_emod_of_dvd _ (Int.dvd_refl p)] at this
        rw [this]
        exact Int.emod_eq_of_lt ho.1 ho.2
      · rw [Int.emod_add_emod, show x - k + k = x by omega]
        exact Int.emod_eq_of_lt hx.1 hx.2

theorem stb_mod {p o x : Int} (hp : 0 < p) (ho : 0 ≤ o ∧ o < p) : stb (p, o) x = decide (x % p = o) := by
  rw [Bool.eq_iff_iff, stb_iff, decide_eq_true_eq]
  exact (goal_iff (b := (p, o)) ⟨hp, ho.1, ho.2⟩).symm
theorem for_ret {A S : Type} {t : Tg} {a : Eg} {enc : A → D} {E : S → Pu.Env} {d : D} {x : A} {post : List A} : ∀ (pre : List A) (s : S), (∀ y ∈ pre, ∀ s, ∃ s', ob a (t (enc y) (E s)) = some (.nx (E s'))) → (∀ s, ob a (t (enc x) (E s)) = some (.rt d)) → forL t a ((pre ++ x :: post).map enc) (E s) = some (.rt d)
  | [], s, _, hx => by rw [List.nil_append, List.map_cons, forL_cons, hx s, forC_rt]
  | y :: pre, s, h, hx => by
    obtain ⟨s', e⟩ := h y (List.mem_cons_self ..) s
    rw [List.cons_append, List.map_cons, forL_cons, e, forC_nx]
    exact for_ret pre s' (fun z hz => h z (List.mem_cons_of_mem _ hz)) hx
theorem divs_ok (n : Nat) (hn : n ≤ 1000) : sem_divisors_of [.int n] = some (.list (nts (lapsTo n n))) := by
  have e := lc_filt (t := tN 1) (c := ts boolOf (bn eqD (bn modD (vr 0) (vr 1)) (cst (.int 0)))) (f := vr 1) (ρ := [.sh (.int n), .no]) (enc := fun (n : Nat) => PyData.int n) (G := fun (n : Nat) => PyData.int n) ((List.range n).map (1 + ·)) (fun l => decide (n % l = 0)) (by simp; omega) (fun l hl => by
    obtain ⟨i, _, rfl⟩ := List.mem_map.mp hl
    have e := fmodN n (1 + i)
    refine ⟨_, rfl, ?_, fun _ => ?_⟩
    · have h0 : ((1 + i : Nat) : Int) ≠ 0 := by omega
      generalize 1 + i = l at *
      have h0' : l ≠ 0 := by omega
      simp [h0', e]
      constructor <;> intro h <;> omega
    · generalize 1 + i = l at *
      simp)
  have er : rng 1 ((n : Int) + 1 - 1).toNat = ((List.range n).map (1 + ·)).map fun (i : Nat) => PyData.int i := by
    rw [show ((n : Int) + 1 - 1).toNat = n by omega]; exact rngN 1 n
  have er' : rng 1 n = ((List.range n).map (1 + ·)).map fun (i : Nat) => PyData.int i := rngN 1 n
  have g1 : (n : Int) + 1 < 4611686018427387904 := by omega
  have g2 : -4611686018427387904 ≤ (n : Int) + 1 := by omega
  refine run_rt ?_
  show g_divisors_of [.sh (.int n), .no] = _
  unfold nts lapsTo
  generalize ((List.range n).map (1 + ·)) = w at *
  generalize (w.filter fun l => decide (n % l = 0)) = w2 at *
  simp [g_divisors_of, g1, g2, er, er', e]
theorem laps_asc (n m : Nat) : (lapsTo n m).Pairwise (· < ·) := by
  unfold lapsTo
  refine List.Pairwise.sublist (List.filter_sublist ..) ?_
  rw [List.pairwise_map]
  exact List.pairwise_lt_range.imp fun h => by omega
theorem split_asc {xs : List Nat} (h : xs.Pairwise (· < ·)) {p : Nat} (hp : p ∈ xs) : ∃ pre post, xs = pre ++ p :: post ∧ ∀ y ∈ pre, y < p := by
  obtain ⟨pre, post, e⟩ := List.append_of_mem hp
  refine ⟨pre, post, e, fun y hy => ?_⟩
  rw [e] at h
  exact (List.pairwise_append.mp h).2.2 y hy p (List.mem_cons_self ..)
theorem thinned_ok {n p : Nat} {o : Int} (hn : 0 < n ∧ n ≤ 24) (hp : p ∈ lapsTo n n) (ho : 0 ≤ o ∧ o < p) : sem_thinned [.int n, .tuple ((cls n p o).map .int)] = some (.tuple [.int p, .tuple [.int o]]) := by
  obtain ⟨p1, p2, p3⟩ := mem_laps hp
  have hd : (p : Int) ∣ n := Int.natCast_dvd_natCast.mpr p3
  have hlen := cls_len n p o
  obtain ⟨pre, post, e1, e2⟩ := split_asc (laps_asc n n) hp
  have hpre : ∀ y ∈ pre, 1 ≤ y := fun y hy => (mem_laps (n := n) (m := n) (by rw [e1]; exact List.mem_append_left _ hy)).1
  have em : ∀ k : Int, sem_moved [.int n, .tuple ((cls n p o).map .int), .int k] = some (.tuple ((cls n p ((o + k) % p)).map .int)) := fun k => by
    rw [moved_ok hn.1 _ (by omega) k, moved_cls hn.1 (by omega) hd ho k]
  have oin : o ∈ cls n p o := mem_cls.mpr ⟨⟨ho.1, by omega⟩, Int.emod_eq_of_lt ho.1 ho.2⟩
  have e3 := lc_filt (t := tN 3) (c := ts boolOf (bn ltD (vr 3) (vr 2))) (f := vr 3) (ρ := [.sh (.int n), .sh (.tuple ((cls n p o).map .int)), .sh (.int p), .no]) (enc := PyData.int) (G := PyData.int) (cls n p o) (fun x => decide (x < p)) (by omega) (fun x _ => ⟨_, rfl, by simp, fun _ => by simp⟩)
  have e4 : (cls n p o).filter (fun x => decide (x < (p : Int))) = [o] := by
    refine asc_ext ((cls_asc n p o).sublist (List.filter_sublist ..)) (List.pairwise_singleton _ _) fun x => ?_
    rw [List.mem_filter, mem_cls, decide_eq_true_eq, List.mem_singleton]
    constructor
    · rintro ⟨⟨⟨h1, h2⟩, h3⟩, h4⟩
      rw [← h3]; exact (Int.emod_eq_of_lt h1 h4).symm
    · rintro rfl
      exact ⟨⟨⟨ho.1, by omega⟩, Int.emod_eq_of_lt ho.1 ho.2⟩, ho.2⟩
  rw [e4] at e3
  have loop := for_ret (t := tN 2) (a := ifS (ts boolOf (bn eqD (ap sem_moved (cs (vr 0) (cs (vr 1) (cs (vr 2) nl)))) (vr 1))) (ret (mkT (cs (vr 2) (cs (ap tupD (one (lcS (srcOf (vr 1)) (tN 3) (ts boolOf (bn ltD (vr 3) (vr 2))) (vr 3) [3]))) nl)))) nxt) (enc := fun (n : Nat) => PyData.int n) (E := fun s => [.sh (.int n), .sh (.tuple ((cls n p o).map .int)), s, .no]) (d := .tuple [.int p, .tuple [.int o]]) (x := p) (post := post) pre Sl.no (fun y hy s => by
    refine ⟨.sh (.int y), ?_⟩
    have y1 := hpre y hy
    have y2 := e2 y hy
    have ey := em y
    have ne : ¬ cls n p ((o + y) % p) = cls n p o := fun h => by
      rw [← h] at oin
      have := (mem_cls.mp oin).2
      rw [Int.emod_eq_of_lt ho.1 ho.2] at this
      have p0 : (0 : Int) < p := by omega
      by_cases z : o + y < p
      · rw [Int.emod_eq_of_lt (by omega) z] at this; omega
      · rw [show o + (y : Int) = (o + y - p) + p * 1 by omega, Int.add_mul_emod_self_left, Int.emod_eq_of_lt (by omega) (by omega)] at this; omega
    simp [ey, ne]) (fun s => by
    have ep := em p
    have : (o + (p : Int)) % p = o := by rw [Int.add_emod_right]; exact Int.emod_eq_of_lt ho.1 ho.2
    rw [this] at ep
    simp only [List.map_cons, List.map_nil] at e3
    simp [ep, e3])
  have ed := divs_ok n (by omega)
  refine run_rt ?_
  show g_thinned [.sh (.int n), .sh (.tuple ((cls n p o).map .int)), .no, .no] = _
  rw [← e1] at loop
  have loop : forL _ _ (nts (lapsTo n n)) _ = _ := loop
  simp [g_thinned, ed, loop]
theorem cnt_ri (f : Int → Bool) (n : Nat) : cnt f n = ((ri n).filter f).length := by
  unfold F20.cnt ri
  rw [List.filter_map, List.length_map]
  rfl
def hc (n : Nat) (p o1 q o2 k : Int) : Int := cnt (allb [(p, o1), (q, (o2 + k) % q)]) n
theorem hits_ok {n : Nat} {p o1 q o2 : Int} (hn : 0 < n ∧ n ≤ 24) (hp : 0 < p ∧ p ∣ (n : Int)) (ho : 0 ≤ o1 ∧ o1 < p) (hq : 0 < q ∧ q ∣ (n : Int)) (ho2 : 0 ≤ o2 ∧ o2 < q) : sem_hits [.int n, .tuple ((cls n p o1).map .int), .tuple ((cls n q o2).map .int)] = some (.tuple (((ri n).map fun k => hc n p o1 q o2 k).map .int)) := by
  have hlen := cls_len n q o2
  have em : ∀ k : Int, sem_moved [.int n, .tuple ((cls n q o2).map .int), .int k] = some (.tuple ((cls n q ((o2 + k) % q)).map .int)) := fun k => by
    rw [moved_ok hn.1 _ (by omega) k, moved_cls hn.1 hq.1 hq.2 ho2 k]
  have e := lc_map (t := tN 4) (f := ap lenD (one (lcS (srcOf (ap sem_moved (cs (vr 0) (cs (vr 2) (cs (vr 4) nl))))) (tN 3) (ts boolOf (bn inD (vr 3) (vr 1))) (vr 3) [3]))) (ρ := [.sh (.int n), .sh (.tuple ((cls n p o1).map .int)), .sh (.tuple ((cls n q o2).map .int)), .no, .no]) (enc := PyData.int) (G := fun k => .int (hc n p o1 q o2 k)) (ri n) (by simp; omega) (fun k _ => by
    have hlk := cls_len n q ((o2 + k) % q)
    have e1 := lc_filt (t := tN 3) (c := ts boolOf (bn inD (vr 3) (vr 1))) (f := vr 3) (ρ := [.sh (.int n), .sh (.tuple ((cls n p o1).map .int)), .sh (.tuple ((cls n q o2).map .int)), .no, .sh (.int k)]) (enc := PyData.int) (G := PyData.int) (cls n q ((o2 + k) % q)) (fun x => decide (x ∈ cls n p o1)) (by omega) (fun x _ => ⟨_, rfl, by simp, fun _ => by simp⟩)
    have e2 : (((cls n q ((o2 + k) % q)).filter fun x => decide (x ∈ cls n p o1)).length : Int) = hc n p o1 q o2 k := by
      unfold hc
      rw [cnt_ri]
      congr 2
      unfold cls
      rw [List.filter_filter]
      refine List.filter_congr fun x hx => ?_
      have h1 := mem_cls (n := n) (p := p) (o := o1) (x := x)
      have hx' := mem_ri.mp hx
      have o0 := Int.emod_nonneg (o2 + k) (show q ≠ 0 by omega)
      have o9 := Int.emod_lt_of_pos (o2 + k) hq.1
      unfold allb
      simp only [List.all_cons, List.all_nil, Bool.and_true]
      rw [stb_mod hp.1 ho, stb_mod hq.1 ⟨o0, o9⟩, Bool.eq_iff_iff]
      unfold cls at h1
      simp only [Bool.and_eq_true, decide_eq_true_eq, h1]
      exact ⟨fun z => ⟨z.1.2, z.2⟩, fun z => ⟨⟨hx', z.1⟩, z.2⟩⟩
    have ek := em k
    generalize ((cls n q ((o2 + k) % q)).filter fun x => decide (x ∈ cls n p o1)) = w at *
    generalize (cls n q ((o2 + k) % q)).map PyData.int = w2 at *
    rw [← e2]
    simp [ek, e1])
  have e3 : ((ri n).map fun k => PyData.int (hc n p o1 q o2 k)) = ((ri n).map fun k => hc n p o1 q o2 k).map .int := by rw [List.map_map]; rfl
  rw [e3] at e
  have g1 : (n : Int) < 4611686018427387904 := by omega
  have g2 : -4611686018427387904 ≤ (n : Int) := by omega
  have g3 := rng0_ri n
  refine run_rt ?_
  show g_hits [.sh (.int n), .sh (.tuple ((cls n p o1).map .int)), .sh (.tuple ((cls n q o2).map .int)), .no, .no] = _
  generalize ((ri n).map fun k => hc n p o1 q o2 k).map PyData.int = w at *
  generalize (ri n).map PyData.int = w3 at *
  simp [g_hits, g1, g2, g3, e]

theorem sum_swap (f : Int → Int → Bool) (m : Nat) : ∀ n : Nat, ((ri n).map fun k => F20.cnt (f k) m).sum = ((ri m).map fun x => F20.cnt (fun k => f k x) n).sum
  | 0 => by
    have : ∀ m : Nat, ((ri m).map fun x => F20.cnt (fun k => f k x) 0).sum = 0 := by
      intro m
      have : (fun x => F20.cnt (fun k => f k x) 0) = fun _ => (0 : Int) := rfl
      rw [this]
      induction ri m with
      | nil => rfl
      | cons x xs ih => simpa using ih
    rw [this]; rfl
  | n + 1 => by
    have e : ri (n + 1) = ri n ++ [(n : Int)] := by unfold ri; rw [List.range_succ, List.map_append]; rfl
    rw [e, List.map_append, List.sum_append, sum_swap f m n]
    have : (fun x => F20.cnt (fun k => f k x) (n + 1)) = fun x => F20.cnt (fun k => f k x) n + (if f n x then 1 else 0) := by
      funext x; rw [cnt_succ]
    rw [this]
    have add : ∀ (g h : Int → Int) (xs : List Int), (xs.map fun x => g x + h x).sum = (xs.map g).sum + (xs.map h).sum := by
      intro g h xs
      induction xs with
      | nil => rfl
      | cons x xs ih => simp only [List.map_cons, List.sum_cons, ih]; omega
    rw [add]
    have : ((ri m).map fun x => if f n x then (1 : Int) else 0).sum = F20.cnt (f n) m := by
      rw [cnt_ri]
      induction ri m with
      | nil => rfl
      | cons x xs ih =>
        rw [List.map_cons, List.sum_cons, ih]
        cases h : f n x <;> simp [h] <;> omega
    rw [this]
    simp
theorem sum_if (s : Int → Bool) (c : Int) (n : Nat) : ((ri n).map fun x => if s x then c else 0).sum = c * F20.cnt s n := by
  rw [cnt_ri]
  induction ri n with
  | nil => simp
  | cons x xs ih =>
    rw [List.map_cons, List.sum_cons, ih]
    cases h : s x
    · simp [h]
    · simp [h, Int.mul_add]; omega
theorem hc_sum {n : Nat} {p o1 q o2 : Int} (hp : 0 < p ∧ p ∣ (n : Int)) (ho : 0 ≤ o1 ∧ o1 < p) (hq : 0 < q ∧ q ∣ (n : Int)) (ho2 : 0 ≤ o2 ∧ o2 < q) : ((ri n).map fun k => hc n p o1 q o2 k).sum = (n / p) * (n / q) := by
  have e1 : (fun k => hc n p o1 q o2 k) = fun k => F20.cnt ((fun k x => stb (p, o1) x && stb (q, (x - o2) % q) k) k) n := by
    funext k
    unfold hc
    refine cnt_congr fun x _ _ => ?_
    unfold allb
    simp only [List.all_cons, List.all_nil, Bool.and_true]
    have : stb (q, (o2 + k) % q) x = stb (q, (x - o2) % q) k := by
      rw [Bool.eq_iff_iff, stb_iff, stb_iff]
      show q ∣ x - (o2 + k) % q ↔ q ∣ k - (x - o2) % q
      rw [dvd_emod, dvd_emod, show k - (x - o2) = -(x - (o2 + k)) by omega, Int.dvd_neg]
    rw [this]
  rw [e1, sum_swap]
  have e2 : (fun x => F20.cnt (fun k => stb (p, o1) x && stb (q, (x - o2) % q) k) n) = fun x => if stb (p, o1) x then (n / q : Int) else 0 := by
    funext x
    cases h : stb (p, o1) x with
    | true =>
      simp only [Bool.true_and, if_true]
      exact cnt_st (v := (q, (x - o2) % q)) ⟨hq.1, Int.emod_nonneg _ (by have := hq.1; show q ≠ 0; omega), Int.emod_lt_of_pos _ hq.1⟩ hq.2
    | false =>
      simp only [Bool.false_and, Bool.false_eq_true, if_false]
      rw [cnt_ri]
      simp
  rw [e2, sum_if, cnt_st (v := (p, o1)) ⟨hp.1, ho.1, ho.2⟩ hp.2, Int.mul_comm]
theorem common_loop (base : D) : ∀ (xs : List Int) (a b : Nat) (s : Sl), b < xs.length → forL (tN 2) (seq (ifS (ts boolOf (bn eqD (vr 1) (cst (.int 0)))) (ret (vb 0)) nxt) (parS 0 1 (cs (vr 1) (cs (bn modD (ap intD (one (vr 0))) (vr 1)) nl)))) (xs.map .int) [.sh (.int a), .sh (.int b), s] = some (.rt (.int (Nat.gcd a b)))
  | [], a, b, s, h => by simp at h
  | x :: xs, a, b, s, h => by
    rw [List.length_cons] at h
    rw [List.map_cons, forL_cons]
    by_cases hb : b = 0
    · subst hb
      simp
    · have h0 : (b : Int) ≠ 0 := by omega
      have lt := Nat.mod_lt a (show 0 < b by omega)
      have ih := common_loop base xs b (a % b) (.sh (.int x)) (by omega)
      have e := fmodN a b
      have g : Nat.gcd b (a % b) = Nat.gcd a b := by rw [Nat.gcd_comm, ← Nat.gcd_rec, Nat.gcd_comm]
      rw [g] at ih
      rw [← ih]
      simp [hb, e]
theorem common_ok {p q : Nat} (hq : q < 60) : sem__law_common [.int p, .int q] = some (.int (Nat.gcd p q)) := by
  have e := common_loop .none (ri 60) p q .no (by rw [ri_len]; exact hq)
  have er := rng0_ri 60
  refine run_rt ?_
  show g__law_common [.sh (.int p), .sh (.int q), .no] = _
  simp [g__law_common, er, e]
def sumsL (n : Nat) (A B : List Int) : List Int := A.flatMap fun a => B.map fun b => (a + b) % n
theorem lcL_map {A : Type} {t : Tg} {f : Ev} {ρ : Pu.Env} {enc G : A → D} : ∀ (xs : List A), (∀ x ∈ xs, ob f (t (enc x) ρ) = some (G x)) → lcL t yes f ρ (xs.map enc) = some (xs.map G)
  | [], _ => rfl
  | x :: xs, h => by
    have h1 := h x (List.mem_cons_self ..)
    rw [← ob_eq] at h1
    obtain ⟨ρ1, e1, e2⟩ := bind_some h1
    rw [List.map_cons]
    unfold lcL
    rw [e1]
    show (f ρ1).bind _ = _
    rw [e2, lcL_map xs fun d hd => h d (List.mem_cons_of_mem _ hd)]
    rfl
theorem flat_len (n : Nat) (B : List Int) : ∀ A : List Int, (sumsL n A B).length = A.length * B.length
  | [] => by simp [sumsL]
  | a :: A => by
    have := flat_len n B A
    unfold sumsL at *
    rw [List.flatMap_cons, List.length_append, List.length_map, this, List.length_cons, Nat.add_mul]
    omega
theorem fills_ok {n : Nat} (hn : 0 < n ∧ n ≤ 24) (A B : List Int) (ha : A.length ≤ 24) (hb : B.length ≤ 24) : sem_fills [.int n, .tuple (A.map .int), .tuple (B.map .int)] = some (.bool (decide (A.length * B.length = n) && decide ((dd (sumsL n A B)).length = n))) := by
  have h0 : (n : Int) ≠ 0 := by omega
  have h0' : n ≠ 0 := by omega
  have hm : A.length * B.length ≤ 24 * 24 := Nat.mul_le_mul ha hb
  have e := lc2_flat (B := Unit) (t := tN 4) (t1 := tN 5) (c1 := yes) (src1 := srcOf (vr 2)) (f := bn modD (bn addD (vr 4) (vr 5)) (vr 0)) (vs1 := [5]) (ρ := [.sh (.int n), .sh (.tuple (A.map .int)), .sh (.tuple (B.map .int)), .no, .no, .no]) (enc := PyData.int) A (fun a => B.map fun b => PyData.int ((a + b) % n)) (by
    have := flat_len n B A
    unfold sumsL at this
    rw [List.length_flatMap] at this ⊢
    simp only [List.length_map] at this ⊢
    omega) (fun a _ => by
    refine ⟨_, B.map .int, rfl, by simp, ?_⟩
    show lcL (tN 5) yes _ [.sh (.int n), .sh (.tuple (A.map .int)), .sh (.tuple (B.map .int)), .no, .sh (.int a), .no] _ = _
    refine lcL_map B fun b _ => ?_
    have : (a + b).fmod n = (a + b) % n := fmod_pos (by omega)
    simp [h0', this])
  have e2 : (A.flatMap fun a => B.map fun b => PyData.int ((a + b) % n)) = (sumsL n A B).map .int := by
    unfold sumsL
    rw [List.map_flatMap]
    congr 1
    funext a
    rw [List.map_map]; rfl
  rw [e2] at e
  have hl := flat_len n B A
  have e3 := lenSetD_l (ns := sumsL n A B) (by omega)
  refine run_rt ?_
  show g_fills [.sh (.int n), .sh (.tuple (A.map .int)), .sh (.tuple (B.map .int)), .no, .no, .no] = _
  rw [← hl]
  generalize sumsL n A B = S at *
  have e4 : (S.map PyData.int).length = S.length := List.length_map ..
  generalize A.map PyData.int = w1 at *
  generalize B.map PyData.int = w2 at *
  by_cases c : S.length = n
  · have c' : (S.length : Int) = n := by omega
    by_cases d : (dd S).length = n
    · have d' : ((dd S).length : Int) = n := by omega
      simp [g_fills, e, e3, c, c', d, d']
    · have d' : ¬ ((dd S).length : Int) = n := by omega
      simp [g_fills, e, e3, c, c', d, d']
  · have c' : ¬ (S.length : Int) = n := by omega
    simp [g_fills, e, e3, c, c']

theorem ddN_dd : ∀ xs : List Nat, dd (xs.map fun (n : Nat) => (n : Int)) = (ddN xs).map fun (n : Nat) => (n : Int)
  | [] => rfl
  | x :: xs => by
    rw [List.map_cons]
    unfold dd ddN
    have : ((x : Int) ∈ xs.map fun (n : Nat) => (n : Int)) ↔ xs.any (Nat.beq x) = true := by
      rw [List.mem_map, List.any_eq_true]
      constructor
      · rintro ⟨y, hy, e⟩; exact ⟨y, hy, by simp; omega⟩
      · rintro ⟨y, hy, e⟩; exact ⟨y, hy, by simp at e; omega⟩
    by_cases c : xs.any (Nat.beq x) = true
    · rw [if_pos (this.mpr c), if_pos c, ddN_dd xs]
    · rw [if_neg (fun h => c (this.mp h)), if_neg c, ddN_dd xs]; rfl
theorem clsN_cls (n p o : Nat) : cls n p o = (clsN n p o).map fun (n : Nat) => (n : Int) := by
  unfold cls clsN ri
  rw [List.filter_map]
  congr 1
  refine List.filter_congr fun x _ => ?_
  rw [Bool.eq_iff_iff]
  simp
  omega
theorem sumsN_L (n : Nat) (A B : List Nat) : sumsL n (A.map fun (n : Nat) => (n : Int)) (B.map fun (n : Nat) => (n : Int)) = (sumsN n A B).map fun (n : Nat) => (n : Int) := by
  unfold sumsL sumsN
  rw [List.flatMap_map, List.map_flatMap]
  congr 1
  funext a
  rw [List.map_map, List.map_map]
  refine List.map_congr_left fun b _ => ?_
  show ((a : Int) + b) % n = (((a + b) % n : Nat) : Int)
  rw [Int.natCast_emod, Int.natCast_add]
theorem cls_card {n p : Nat} {o : Int} (hp : 0 < p) (hd : p ∣ n) (ho : 0 ≤ o ∧ o < p) : ((cls n p o).length : Int) = n / p := by
  have h := cnt_st (v := ((p : Int), o)) (n := n) ⟨by show (0 : Int) < p; omega, ho.1, ho.2⟩ (Int.natCast_dvd_natCast.mpr hd)
  rw [cnt_ri] at h
  rw [← h]
  unfold cls
  congr 2
  exact List.filter_congr fun x _ => (stb_mod (by omega) ho).symm
theorem fills_is {n p q : Nat} {o1 o2 : Int} (ht : n ∈ tab) (hn : 0 < n ∧ n ≤ 24) (hp : p ∈ lapsTo n n) (hq : q ∈ lapsTo n n) (h1 : 0 ≤ o1 ∧ o1 < p) (h2 : 0 ≤ o2 ∧ o2 < q) : sem_fills [.int n, .tuple ((cls n p o1).map .int), .tuple ((cls n q o2).map .int)] = some (.bool (decide (p * q = n) && decide (Nat.gcd p q = 1))) := by
  obtain ⟨p1, p2, p3⟩ := mem_laps hp
  obtain ⟨q1, q2, q3⟩ := mem_laps hq
  have la := cls_card (n := n) p1 p3 h1
  have lb := cls_card (n := n) q1 q3 h2
  have ca := cls_len n p o1
  have cb := cls_len n q o2
  rw [fills_ok hn _ _ (by omega) (by omega)]
  obtain ⟨a, ha⟩ := p3
  obtain ⟨b, hb⟩ := q3
  have ea : (cls n p o1).length = a := by
    have : (n : Int) / p = a := by rw [ha]; push_cast; exact Int.mul_ediv_cancel_left _ (by omega)
    omega
  have eb : (cls n q o2).length = b := by
    have : (n : Int) / q = b := by
      have : ((n : Nat) : Int) = (q : Int) * b := by rw [hb]; push_cast; rfl
      rw [this]; exact Int.mul_ediv_cancel_left _ (by omega)
    omega
  have sq : n * n = (p * q) * (a * b) := by
    have : n * n = (p * a) * (q * b) := by rw [← ha, ← hb]
    rw [this, Nat.mul_mul_mul_comm]
  have key : a * b = n ↔ p * q = n := by
    constructor
    · intro h
      rw [h] at sq
      exact (Nat.eq_of_mul_eq_mul_right (by omega) sq).symm
    · intro h
      rw [h] at sq
      exact (Nat.eq_of_mul_eq_mul_left (by omega) sq).symm
  rw [ea, eb]
  by_cases c : p * q = n
  · rw [decide_eq_true c, decide_eq_true (key.mpr c), Bool.true_and, Bool.true_and]
    obtain ⟨i, hi⟩ : ∃ i : Nat, (i : Int) = o1 := ⟨o1.toNat, by omega⟩
    obtain ⟨j, hj⟩ : ∃ j : Nat, (j : Int) = o2 := ⟨o2.toNat, by omega⟩
    subst hi
    subst hj
    rw [clsN_cls, clsN_cls, sumsN_L, ddN_dd, List.length_map]
    have hnp : n / p = q := by rw [← c]; exact Nat.mul_div_cancel_left _ (by omega)
    have f := fill_ok
    unfold fillOk at f
    simp only [List.all_eq_true, List.mem_range] at f
    have f := f n ht (p - 1) (by omega)
    rw [show p - 1 + 1 = p by omega, hnp] at f
    have hm : n % p = 0 := by rw [← c]; exact Nat.mul_mod_right _ _
    simp only [hm, bne_self_eq_false, Bool.false_or, List.all_eq_true, List.mem_range, beq_iff_eq] at f
    have f := f i (by omega) j (by omega)
    congr 2
    rw [Bool.eq_iff_iff, decide_eq_true_eq, decide_eq_true_eq]
    rw [Bool.eq_iff_iff, Nat.beq_eq, Nat.beq_eq] at f
    exact f
  · rw [decide_eq_false c, decide_eq_false (fun h => c (key.mp h)), Bool.false_and, Bool.false_and]

def rT1 : Eg := (seq (ownS 12 (mkL nl)) (seq (forS (rg1 (cs (vr 2) nl)) (tN 13) (seq (setS 14 (ap sem_meeting (cs (mkT (cs (vr 7) (cs (mkT (cs (vr 6) (cs (bn modD (ap intD (one (bn addD (bn ixD (vr 8) (cst (.int 1))) (vr 13)))) (vr 6)) nl))) nl))) nl))) (seq (ifS (notT (ts truD (ap sem__law_meets (cs (vr 14) (cs (mkT (cs (vr 7) nl)) (cs (vr 2) nl)))))) (ret (cst (.bool false))) nxt) (appS 12 (ap sem__law_beats (cs (vr 14) (cs (vr 2) nl))))))) (seq (ifS (orB (ts boolOf (bn neD (bn mulD (bn mulD (ap sumD (one (vb 12))) (vr 5)) (vr 6)) (bn mulD (vr 2) (vr 2)))) (notT (ts truD (ap (sem__law_like 4) (cs (ap sem_hits (cs (vr 2) (cs (vr 9) (cs (vr 11) nl)))) (cs (ap tupD (one (vb 12))) nl)))))) (ret (cst (.bool false))) nxt) (ret (ap (sem__law_like 4) (cs (ap sem_fills (cs (vr 2) (cs (vr 9) (cs (vr 11) nl)))) (cs (andV (bn eqD (bn mulD (vr 5) (vr 6)) (vr 2)) (bn eqD (ap sem__law_common (cs (vr 5) (cs (vr 6) nl))) (cst (.int 1)))) nl)))))))
def cntB : Eg := (seq (setS 14 (ap sem_meeting (cs (mkT (cs (vr 7) (cs (mkT (cs (vr 6) (cs (bn modD (ap intD (one (bn addD (bn ixD (vr 8) (cst (.int 1))) (vr 13)))) (vr 6)) nl))) nl))) nl))) (seq (ifS (notT (ts truD (ap sem__law_meets (cs (vr 14) (cs (mkT (cs (vr 7) nl)) (cs (vr 2) nl)))))) (ret (cst (.bool false))) nxt) (appS 12 (ap sem__law_beats (cs (vr 14) (cs (vr 2) nl))))))
theorem rT1_ok {n p q : Nat} {o1 o2 : Int} (A B C E F G : Sl) (ht : n ∈ tab) (hn : 0 < n ∧ n ≤ 24) (hp : p ∈ lapsTo n n) (hq : q ∈ lapsTo n n) (h1 : 0 ≤ o1 ∧ o1 < p) (h2 : 0 ≤ o2 ∧ o2 < q) :
    rT1 [A, B, .sh (.int n), C, E, .sh (.int p), .sh (.int q), .sh (encP ((p : Int), o1)), .sh (encP ((q : Int), o2)), .sh (.tuple ((cls n p o1).map .int)), F, .sh (.tuple ((cls n q o2).map .int)), .no, .no, .no] = some (.rt (.bool true)) := by
  obtain ⟨p1, p2, p3⟩ := mem_laps hp
  obtain ⟨q1, q2, q3⟩ := mem_laps hq
  have dp : (p : Int) ∣ n := Int.natCast_dvd_natCast.mpr p3
  have dq : (q : Int) ∣ n := Int.natCast_dvd_natCast.mpr q3
  have vp : Val ((p : Int), o1) := ⟨by show (0 : Int) < p; omega, h1.1, h1.2⟩
  have loop := for_stN (t := tN 13) (a := cntB) (enc := PyData.int) (E := fun (z : List Int × Sl × Sl) => [A, B, .sh (.int n), C, E, .sh (.int p), .sh (.int q), .sh (encP ((p : Int), o1)), .sh (encP ((q : Int), o2)), .sh (.tuple ((cls n p o1).map .int)), F, .sh (.tuple ((cls n q o2).map .int)), .ow (.list (z.1.map .int)), z.2.1, z.2.2])
    (I := fun k z => z.1 = (ri k).map fun k => hc n p o1 q o2 k) (ri n) (by
      intro k x z hx hI
      obtain ⟨xk, kn⟩ := ri_get hx
      obtain ⟨cs', s13, s14⟩ := z
      simp only at hI ⊢
      have oq := Lb.fmod_lt (a := o2 + x) (b := (q : Int)) (by omega)
      have eo : (o2 + x).fmod q = (o2 + x) % q := fmod_pos (by omega)
      rw [eo] at oq
      have vq : Val ((q : Int), (o2 + x) % q) := ⟨by show (0 : Int) < q; omega, oq.1, oq.2⟩
      have G2 : Good [((p : Int), o1), ((q : Int), (o2 + x) % q)] := ⟨by simp, fun r hr => by
        simp only [List.mem_cons, List.not_mem_nil, or_false] at hr
        rcases hr with rfl | rfl
        · exact ⟨vp, by show (p : Int) ≤ 1000; omega⟩
        · exact ⟨vq, by show (q : Int) ≤ 1000; omega⟩⟩
      obtain ⟨r, er, hr⟩ := meeting_ok G2 (by simp)
      have hd : ∀ s ∈ [((p : Int), o1), ((q : Int), (o2 + x) % q)], Val s ∧ s.1 ∣ (n : Int) := fun s hs => by
        simp only [List.mem_cons, List.not_mem_nil, or_false] at hs
        rcases hs with rfl | rfl
        · exact ⟨vp, dp⟩
        · exact ⟨vq, dq⟩
      have em := meets_ok (S := [((p : Int), o1)]) (base := n) hr (fun s hs => by rw [List.mem_singleton.mp hs]; simp) hd (by simp) (by omega)
      have eb := beats_ok (r := r) (n := n) fun v hv => by
        subst hv
        have d := (meet_per hr).1 n fun s hs => (hd s hs).2
        have := Int.le_of_dvd (by omega) d
        exact ⟨hr.1.1, by omega⟩
      rw [bt_cnt hr fun s hs => (hd s hs).2] at eb
      have eb : sem__law_beats [told r, .int n] = some (.int (hc n p o1 q o2 x)) := eb
      have hlen : cs'.length < 16777216 := by rw [hI, List.length_map, ri_len]; omega
      refine ⟨(cs' ++ [hc n p o1 q o2 x], .sh (.int x), .sh (told r)), ?_, .inl ?_⟩
      · rw [hI]
        have e : ri (k + 1) = ri k ++ [(k : Int)] := by unfold ri; rw [List.range_succ, List.map_append]; rfl
        rw [e, List.map_append, xk]; rfl
      · simp only [List.map_cons, List.map_nil, encP] at er em
        have q0 : (q : Int) ≠ 0 := by omega
        have q0' : q ≠ 0 := by omega
        simp [cntB, encP, i1, q0, q0', eo, er, em, eb, hlen]) ([], .no, .no) rfl
  obtain ⟨z, hz, ez⟩ := loop
  rw [ri_len] at hz
  have eh := hits_ok hn ⟨by omega, dp⟩ h1 ⟨by omega, dq⟩ h2
  have es := hc_sum (n := n) ⟨by omega, dp⟩ h1 ⟨by omega, dq⟩ h2
  rw [← hz] at eh es
  have hzl : z.1.length ≤ 24 := by rw [hz, List.length_map, ri_len]; omega
  have el := like (d := .tuple (z.1.map .int)) (by
    unfold Lb.lk
    simp only [Bool.and_eq_true, List.all_eq_true, decide_eq_true_eq, List.length_map]
    refine ⟨fun d hd => ?_, by omega⟩
    obtain ⟨i, _, rfl⟩ := List.mem_map.mp hd
    rfl)
  have ef := fills_is ht hn hp hq h1 h2
  have ec := common_ok (p := p) (q := q) (by omega)
  have elb : ∀ b : Bool, sem__law_like 4 [.bool b, .bool b] = some (.bool true) := fun b => like rfl
  have m1 : mulD (.int z.1.sum) (.int p) = some (.int (z.1.sum * p)) := mulD_r (by omega)
  have m2 : mulD (.int (z.1.sum * p)) (.int q) = some (.int (z.1.sum * p * q)) := mulD_r (by omega)
  have m3 : mulD (.int n) (.int n) = some (.int ((n : Int) * n)) := mulD_r (by omega)
  have m4 : mulD (.int p) (.int q) = some (.int ((p : Int) * q)) := mulD_r (by omega)
  have hs : z.1.sum * p * q = (n : Int) * n := by
    rw [es]
    have c1 := Int.ediv_mul_cancel dp
    have c2 := Int.ediv_mul_cancel dq
    have : (n : Int) / p * (n / q) * p * q = (n / p * p) * (n / q * q) := by
      rw [Int.mul_assoc, Int.mul_assoc, Int.mul_assoc, ← Int.mul_assoc (n / q : Int) p q, Int.mul_comm (n / q : Int) p, Int.mul_assoc]
    rw [this, c1, c2]
  have hsum := sumD_map (ns := z.1)
  have g1 : (n : Int) < 4611686018427387904 := by omega
  have g2 : -4611686018427387904 ≤ (n : Int) := by omega
  have g3 := rng0_ri n
  have hpq : ((p : Int) * q = n) ↔ p * q = n := by
    constructor
    · intro h; exact Int.ofNat.inj (by simpa using h)
    · intro h; rw [← h]; simp
  have hg : ((Nat.gcd p q : Nat) : Int) = 1 ↔ Nat.gcd p q = 1 := by omega
  have eg : rT1 = (seq (ownS 12 (mkL nl)) (seq (forS (rg1 (cs (vr 2) nl)) (tN 13) cntB) (seq (ifS (orB (ts boolOf (bn neD (bn mulD (bn mulD (ap sumD (one (vb 12))) (vr 5)) (vr 6)) (bn mulD (vr 2) (vr 2)))) (notT (ts truD (ap (sem__law_like 4) (cs (ap sem_hits (cs (vr 2) (cs (vr 9) (cs (vr 11) nl)))) (cs (ap tupD (one (vb 12))) nl)))))) (ret (cst (.bool false))) nxt) (ret (ap (sem__law_like 4) (cs (ap sem_fills (cs (vr 2) (cs (vr 9) (cs (vr 11) nl)))) (cs (andV (bn eqD (bn mulD (vr 5) (vr 6)) (vr 2)) (bn eqD (ap sem__law_common (cs (vr 5) (cs (vr 6) nl))) (cst (.int 1)))) nl))))))) := rfl
  rw [eg]
  simp only [List.map_nil] at ez
  generalize (cls n p o1).map PyData.int = w1 at *
  generalize (cls n q o2).map PyData.int = w2 at *
  generalize z.1.sum = X at *
  generalize z.1.map PyData.int = w3 at *
  generalize (ri n).map PyData.int = w4 at *
  generalize ((Nat.gcd p q : Nat) : Int) = gd at *
  by_cases c : p * q = n
  · have c' := hpq.mpr c
    by_cases d : Nat.gcd p q = 1
    · have d' := hg.mpr d
      simp [g1, g2, g3, ez, hsum, m1, m2, m3, m4, hs, eh, el, ef, ec, elb, c, c', d, d']
    · have d' : ¬ gd = 1 := fun h => d (hg.mp h)
      simp [g1, g2, g3, ez, hsum, m1, m2, m3, m4, hs, eh, el, ef, ec, elb, c, c', d, d']
  · have c' : ¬ (p : Int) * q = n := fun h => c (hpq.mp h)
    simp [g1, g2, g3, ez, hsum, m1, m2, m3, m4, hs, eh, el, ef, ec, elb, c, c']

theorem round_ok (row : List Int) (hr : row.length = 32) : sem__law_round_right [.list (row.map .int), .int 24] = some (.bool true) := by
  have hrow : ∀ i : Int, 0 ≤ i → i < 32 → atI (row.map PyData.int) i = some (.int (row.getD i.toNat 0)) := fun i h0 h1 => Lb.atI_ints h0 (by omega)
  have r0 := hrow 24 (by decide) (by decide)
  have r1 := hrow 25 (by decide) (by decide)
  have r2 := hrow 26 (by decide) (by decide)
  have r3 := hrow 27 (by decide) (by decide)
  have r4 := hrow 28 (by decide) (by decide)
  generalize row.getD (24 : Int).toNat 0 = v0 at *
  generalize row.getD (25 : Int).toNat 0 = v1 at *
  generalize row.getD (26 : Int).toNat 0 = v2 at *
  generalize row.getD (27 : Int).toNat 0 = v3 at *
  generalize row.getD (28 : Int).toNat 0 = v4 at *
  have n0 := Lb.fmod_lt (a := v0) (b := 12) (by omega)
  obtain ⟨i, hi⟩ : ∃ n : Nat, (n : Int) = v0.fmod 12 := ⟨(v0.fmod 12).toNat, by omega⟩
  have en := atI_nts (f := tab) (i := i) (by show i < 12; omega)
  have ht : tab.getD i 0 ∈ tab := getD_mem (by show i < 12; omega)
  have en : atI [PyData.int 24, .int 12, .int 18, .int 20, .int 16, .int 6, .int 1, .int 15, .int 24, .int 21, .int 10, .int 23] (v0.fmod 12) = some (.int ((tab.getD i 0 : Nat) : Int)) := by rw [← hi]; exact en
  generalize tab.getD i 0 = n at *
  have hn : 0 < n ∧ n ≤ 24 := by
    have : ∀ n ∈ tab, 0 < n ∧ n ≤ 24 := by decide
    exact this n ht
  have hl0 := laps_ne (n := n) (m := n) hn.1
  have hll : 0 < (lapsTo n n).length := List.length_pos_iff.mpr hl0
  have pick : ∀ v : Int, ∃ p : Nat, p ∈ lapsTo n n ∧ atI (nts (lapsTo n n)) (v.fmod ((lapsTo n n).length : Int)) = some (.int p) := fun v => by
    have h := Lb.fmod_lt (a := v) (b := ((lapsTo n n).length : Int)) (by omega)
    have := atI_nts (f := lapsTo n n) (i := (v.fmod ((lapsTo n n).length : Int)).toNat) (by omega)
    rw [Int.toNat_of_nonneg h.1] at this
    exact ⟨_, getD_mem (by omega), this⟩
  obtain ⟨p, hp, ep⟩ := pick v1
  obtain ⟨q, hq, eq⟩ := pick v2
  obtain ⟨p1, p2, p3⟩ := mem_laps hp
  obtain ⟨q1, q2, q3⟩ := mem_laps hq
  have h1 := Lb.fmod_lt (a := v3) (b := (p : Int)) (by omega)
  have h2 := Lb.fmod_lt (a := v4) (b := (q : Int)) (by omega)
  have vp : Val ((p : Int), v3.fmod p) := ⟨by show (0 : Int) < p; omega, h1.1, h1.2⟩
  have vq : Val ((q : Int), v4.fmod q) := ⟨by show (0 : Int) < q; omega, h2.1, h2.2⟩
  have g1 : (n : Int) + 1 < 4611686018427387904 := by omega
  have g2 : -4611686018427387904 ≤ (n : Int) + 1 := by omega
  have g4 : (n : Int) < 4611686018427387904 := by omega
  have g5 : -4611686018427387904 ≤ (n : Int) := by omega
  have g3 := rng0_ri n
  have er : rng 1 ((n : Int) + 1 - 1).toNat = ((List.range n).map (1 + ·)).map fun (i : Nat) => PyData.int i := by
    rw [show ((n : Int) + 1 - 1).toNat = n by omega]; exact rngN 1 n
  have er' : rng 1 n = ((List.range n).map (1 + ·)).map fun (i : Nat) => PyData.int i := rngN 1 n
  have e := lc_filt (t := tN 4) (c := ts boolOf (bn eqD (bn modD (ap intD (one (vr 2))) (vr 4)) (cst (.int 0)))) (f := vr 4) (ρ := [.sh (.list (row.map .int)), .sh (.int 24), .sh (.int n), .no, .no, .no, .no, .no, .no, .no, .no, .no, .no, .no, .no]) (enc := fun (n : Nat) => PyData.int n) (G := fun (n : Nat) => PyData.int n) ((List.range n).map (1 + ·)) (fun l => decide (n % l = 0)) (by simp; omega) (fun l hl => by
    obtain ⟨i, _, rfl⟩ := List.mem_map.mp hl
    have e := fmodN n (1 + i)
    refine ⟨_, rfl, ?_, fun _ => ?_⟩
    · have h0 : ((1 + i : Nat) : Int) ≠ 0 := by omega
      generalize 1 + i = l at *
      have h0' : l ≠ 0 := by omega
      simp [h0', e]
      constructor <;> intro h <;> omega
    · generalize 1 + i = l at *
      simp)
  have e : _ = some (PyData.list (nts (lapsTo n n))) := e
  generalize ((List.range n).map (1 + ·)).map (fun (i : Nat) => PyData.int i) = w at *
  have eone := fun (F : Sl) => lc_filt (t := tN 10) (c := ts truD (ap sem__law_struck (cs (vr 7) (cs (vr 10) nl)))) (f := vr 10) (ρ := [.sh (.list (row.map .int)), .sh (.int 24), .sh (.int n), .sh (.list (nts (lapsTo n n))), .no, .sh (.int p), .sh (.int q), .sh (encP ((p : Int), v3.fmod p)), .sh (encP ((q : Int), v4.fmod q)), .no, .no, .no, .no, .no, .no]) (enc := PyData.int) (G := PyData.int) (ri n) (fun x => decide (x % p = v3.fmod p)) (by simp; omega) (fun x _ => by
    have := struck_ok vp x
    rw [stb_mod (by omega) h1] at this
    exact ⟨_, rfl, by simp [this], fun _ => by simp⟩)
  have etwo := fun (F : D) => lc_filt (t := tN 10) (c := ts truD (ap sem__law_struck (cs (vr 8) (cs (vr 10) nl)))) (f := vr 10) (ρ := [.sh (.list (row.map .int)), .sh (.int 24), .sh (.int n), .sh (.list (nts (lapsTo n n))), .no, .sh (.int p), .sh (.int q), .sh (encP ((p : Int), v3.fmod p)), .sh (encP ((q : Int), v4.fmod q)), .sh F, .no, .no, .no, .no, .no]) (enc := PyData.int) (G := PyData.int) (ri n) (fun x => decide (x % q = v4.fmod q)) (by simp; omega) (fun x _ => by
    have := struck_ok vq x
    rw [stb_mod (by omega) h2] at this
    exact ⟨_, rfl, by simp [this], fun _ => by simp⟩)
  have eone : _ = some (PyData.list ((cls n p (v3.fmod p)).map .int)) := eone .no
  have etwo : ∀ F : D, _ = some (PyData.list ((cls n q (v4.fmod q)).map .int)) := fun F => etwo F
  have t1 := thinned_ok hn hp h1
  have t2 := thinned_ok hn hq h2
  have l1 := like (d := .tuple [.int p, .tuple [.int (v3.fmod p)]]) rfl
  have l2 := like (d := .tuple [.int q, .tuple [.int (v4.fmod q)]]) rfl
  have fin := fun A B C E F G => rT1_ok A B C E F G ht hn hp hq h1 h2
  have i0' := i0
  have i1' := i1
  have p0 : (p : Int) ≠ 0 := by omega
  have q0 : (q : Int) ≠ 0 := by omega
  have p0' : p ≠ 0 := by omega
  have q0' : q ≠ 0 := by omega
  have k0 : ((nts (lapsTo n n)).length : Int) ≠ 0 := by rw [nts_len]; omega
  have k0' : nts (lapsTo n n) ≠ [] := fun h => by
    have := congrArg List.length h
    rw [nts_len] at this
    have z : ([] : List D).length = 0 := rfl
    omega
  rw [← nts_len (lapsTo n n)] at ep eq
  refine run_rt ?_
  show g__law_round_right [.sh (.list (row.map .int)), .sh (.int 24), .no, .no, .no, .no, .no, .no, .no, .no, .no, .no, .no, .no, .no] = _
  have eg : g__law_round_right = (seq (setS 2 (bn ixD (mkT (cs (cst (.int 24)) (cs (cst (.int 12)) (cs (cst (.int 18)) (cs (cst (.int 20)) (cs (cst (.int 16)) (cs (cst (.int 6)) (cs (cst (.int 1)) (cs (cst (.int 15)) (cs (cst (.int 24)) (cs (cst (.int 21)) (cs (cst (.int 10)) (cs (cst (.int 23)) nl))))))))))))) (bn modD (ap intD (one (bn ixD (vr 0) (vr 1)))) (cst (.int 12))))) (seq (setS 3 (lcS (rg2 (cs (cst (.int 1)) (cs (bn addD (vr 2) (cst (.int 1))) nl))) (tN 4) (ts boolOf (bn eqD (bn modD (ap intD (one (vr 2))) (vr 4)) (cst (.int 0)))) (vr 4) [4])) (seq (parS 5 6 (cs (bn ixD (vr 3) (bn modD (ap intD (one (bn ixD (vr 0) (bn addD (vr 1) (cst (.int 1)))))) (ap lenD (one (vr 3))))) (cs (bn ixD (vr 3) (bn modD (ap intD (one (bn ixD (vr 0) (bn addD (vr 1) (cst (.int 2)))))) (ap lenD (one (vr 3))))) nl))) (seq (asgS (tT [(tN 7), (tN 8)]) (mkT (cs (mkT (cs (vr 5) (cs (bn modD (ap intD (one (bn ixD (vr 0) (bn addD (vr 1) (cst (.int 3)))))) (vr 5)) nl))) (cs (mkT (cs (vr 6) (cs (bn modD (ap intD (one (bn ixD (vr 0) (bn addD (vr 1) (cst (.int 4)))))) (vr 6)) nl))) nl)))) (seq (setS 9 (ap tupD (one (lcS (rg1 (cs (vr 2) nl)) (tN 10) (ts truD (ap sem__law_struck (cs (vr 7) (cs (vr 10) nl)))) (vr 10) [10])))) (seq (setS 11 (ap tupD (one (lcS (rg1 (cs (vr 2) nl)) (tN 10) (ts truD (ap sem__law_struck (cs (vr 8) (cs (vr 10) nl)))) (vr 10) [10])))) (seq (ifS (orB (notT (ts truD (ap (sem__law_like 4) (cs (ap sem_thinned (cs (vr 2) (cs (vr 9) nl))) (cs (mkT (cs (vr 5) (cs (mkT (cs (bn ixD (vr 7) (cst (.int 1))) nl)) nl))) nl))))) (notT (ts truD (ap (sem__law_like 4) (cs (ap sem_thinned (cs (vr 2) (cs (vr 11) nl))) (cs (mkT (cs (vr 6) (cs (mkT (cs (bn ixD (vr 8) (cst (.int 1))) nl)) nl))) nl)))))) (ret (cst (.bool false))) nxt) rT1))))))) := rfl
  rw [eg]
  simp only [encP] at eone etwo fin
  generalize (cls n p (v3.fmod p)).map PyData.int = w1 at *
  generalize (cls n q (v4.fmod q)).map PyData.int = w2 at *
  generalize nts (lapsTo n n) = LL at *
  generalize (ri n).map PyData.int = w4 at *
  simp [r0, r1, r2, r3, r4, en, g1, g2, g3, g4, g5, er, er', e, ep, eq, eone, etwo, t1, t2, l1, l2, i1, p0, q0, p0', q0', k0, k0']
  exact fin _ _ _ _ _ .no

def bases : List Nat := [60, 24, 36, 48, 40, 840, 360, 420, 18, 12]
theorem plain (ns : List Int) (hl : ns.length ≤ 63) : sem_law [.list (ns.map .int)] = some (.bool true) := by
  obtain ⟨row, e, hr, _⟩ := Lb.row_is ns 32 (by decide)
  have e : sem__law_row [.list (ns.map .int), .int 32] = some (.list (row.map .int)) := e
  have a0 : atI (row.map PyData.int) 0 = some (.int (row.getD 0 0)) := Lb.atI_ints (i := 0) (by decide) (by omega)
  have a5 : atI (row.map PyData.int) 5 = some (.int (row.getD 5 0)) := Lb.atI_ints (i := 5) (by decide) (by omega)
  have n0 := Lb.fmod_lt (a := row.getD 0 0) (b := 10) (by omega)
  obtain ⟨i, hi⟩ : ∃ n : Nat, (n : Int) = (row.getD 0 0).fmod 10 := ⟨((row.getD 0 0).fmod 10).toNat, by omega⟩
  have eb := atI_nts (f := bases) (i := i) (by show i < 10; omega)
  have ht : bases.getD i 0 ∈ bases := getD_mem (by show i < 10; omega)
  have eb : atI [PyData.int 60, .int 24, .int 36, .int 48, .int 40, .int 840, .int 360, .int 420, .int 18, .int 12] ((row.getD 0 0).fmod 10) = some (.int ((bases.getD i 0 : Nat) : Int)) := by rw [← hi]; exact eb
  generalize bases.getD i 0 = base at *
  have hb : 0 < base ∧ base ≤ 1000 := by
    have : ∀ n ∈ bases, 0 < n ∧ n ≤ 1000 := by decide
    exact this base ht
  obtain ⟨ps, e1, hne, hps6, hps⟩ := pulses_ok row base hr hb
  have e2 := counted_ok hps6 hb hps
  have e3 := edited_ok (k := row.getD 5 0) hne hps6 hb hps
  have e4 := round_ok row hr
  generalize row.getD 0 0 = v0 at *
  generalize row.getD 5 0 = v5 at *
  have g1 : (base : Int) < 4611686018427387904 := by omega
  have g2 : -4611686018427387904 ≤ (base : Int) := by omega
  have g3 := rng0_ri base
  have f1 := lc_filt (t := tN 5) (c := ts truD (ap anyD (one (lcS (srcOf (vr 3)) (tN 6) yes (ap sem__law_struck (cs (vr 6) (cs (vr 5) nl))) [6])))) (f := cst (.int 1)) (ρ := [.sh (.list (ns.map .int)), .sh (.list (row.map .int)), .sh (.int base), .sh (.list (ps.map encP)), .no, .no, .no]) (enc := PyData.int) (G := fun _ => .int 1) (ri base) (fun x => ps.any (stb · x)) (by simp; omega) (fun x _ => by
    have g := lc_map (t := tN 6) (f := ap sem__law_struck (cs (vr 6) (cs (vr 5) nl))) (ρ := [.sh (.list (ns.map .int)), .sh (.list (row.map .int)), .sh (.int base), .sh (.list (ps.map encP)), .no, .sh (.int x), .no]) (enc := encP) (G := fun p => .bool (stb p x)) ps (by omega) (fun p hp => by
      have := struck_ok (hps p hp).1.1 x
      simp [this])
    have g2 : anyD [.list (ps.map fun p => .bool (stb p x))] = some (.bool (ps.any (stb · x))) := by
      have := anyD_map (bs := ps.map fun p => stb p x)
      rw [List.map_map] at this
      rw [show (ps.map fun p => PyData.bool (stb p x)) = ps.map (PyData.bool ∘ fun p => stb p x) from rfl, this, List.any_map]
      rfl
    generalize (ps.map fun p => PyData.bool (stb p x)) = w at g g2
    exact ⟨_, rfl, by simp [g, g2], fun _ => by simp⟩)
  have f2 : ((((ri base).filter fun x => ps.any (stb · x)).map fun _ => PyData.int 1).length : Int) = F20.cnt (fun x => ps.any (stb · x)) base := by
    rw [List.length_map, cnt_ri]
  rw [← f2] at e2
  refine run_rt ?_
  show g_law [.sh (.list (ns.map .int)), .no, .no, .no, .no, .no, .no] = _
  generalize (((ri base).filter fun x => ps.any (stb · x)).map fun _ => PyData.int 1) = w at *
  simp [g_law, e, a0, a5, eb, e1, e2, e3, e4, g1, g2, g3, f1]
end L20

namespace L20
open PySem PySem.Spec PyProof.Rows L2 Pu
/-! ### the head -/
def dd__law_mixed : He.DefD := ⟨("_law_mixed", none), "_law_mixed", "_law_mixed", defArgs st__law_mixed, defBody st__law_mixed, defScope st__law_mixed, [], []⟩
def dd__law_row : He.DefD := ⟨("_law_row", none), "_law_row", "_law_row", defArgs st__law_row, defBody st__law_row, defScope st__law_row, [], []⟩
def dd__law_laps : He.DefD := ⟨("_law_laps", none), "_law_laps", "_law_laps", defArgs st__law_laps, defBody st__law_laps, defScope st__law_laps, [], []⟩
def dd__law_pulses : He.DefD := ⟨("_law_pulses", none), "_law_pulses", "_law_pulses", defArgs st__law_pulses, defBody st__law_pulses, defScope st__law_pulses, [], []⟩
def dd__law_is_int : He.DefD := ⟨("_law_is_int", none), "_law_is_int", "_law_is_int", defArgs st__law_is_int, defBody st__law_is_int, defScope st__law_is_int, [], []⟩
def dd__law_like : He.DefD := ⟨("_law_like", none), "_law_like", "_law_like", defArgs st__law_like, defBody st__law_like, defScope st__law_like, [], []⟩
def dd_joined : He.DefD := ⟨("joined", none), "joined", "joined", defArgs st_joined, defBody st_joined, defScope st_joined, [], []⟩
def dd_meeting : He.DefD := ⟨("meeting", none), "meeting", "meeting", defArgs st_meeting, defBody st_meeting, defScope st_meeting, [], []⟩
def dd_fills : He.DefD := ⟨("fills", none), "fills", "fills", defArgs st_fills, defBody st_fills, defScope st_fills, [], []⟩
def dd__law_meets : He.DefD := ⟨("_law_meets", none), "_law_meets", "_law_meets", defArgs st__law_meets, defBody st__law_meets, defScope st__law_meets, [], []⟩
def dd__law_beats : He.DefD := ⟨("_law_beats", none), "_law_beats", "_law_beats", defArgs st__law_beats, defBody st__law_beats, defScope st__law_beats, [], []⟩
def dd__law_struck : He.DefD := ⟨("_law_struck", none), "_law_struck", "_law_struck", defArgs st__law_struck, defBody st__law_struck, defScope st__law_struck, [], []⟩
def dd_divisors_of : He.DefD := ⟨("divisors_of", none), "divisors_of", "divisors_of", defArgs st_divisors_of, defBody st_divisors_of, defScope st_divisors_of, [], []⟩
def dd_moved : He.DefD := ⟨("moved", none), "moved", "moved", defArgs st_moved, defBody st_moved, defScope st_moved, [], []⟩
def dd_thinned : He.DefD := ⟨("thinned", none), "thinned", "thinned", defArgs st_thinned, defBody st_thinned, defScope st_thinned, [], []⟩
def dd_hits : He.DefD := ⟨("hits", none), "hits", "hits", defArgs st_hits, defBody st_hits, defScope st_hits, [], []⟩
def dd__law_common : He.DefD := ⟨("_law_common", none), "_law_common", "_law_common", defArgs st__law_common, defBody st__law_common, defScope st__law_common, [], []⟩
def dd__law_round_right : He.DefD := ⟨("_law_round_right", none), "_law_round_right", "_law_round_right", defArgs st__law_round_right, defBody st__law_round_right, defScope st__law_round_right, [], []⟩
def dd__law_counted : He.DefD := ⟨("_law_counted", none), "_law_counted", "_law_counted", defArgs st__law_counted, defBody st__law_counted, defScope st__law_counted, [], []⟩
def dd__law_edited : He.DefD := ⟨("_law_edited", none), "_law_edited", "_law_edited", defArgs st__law_edited, defBody st__law_edited, defScope st__law_edited, [], []⟩
def dd_law : He.DefD := ⟨("law", none), "law", "law", defArgs st_law, defBody st_law, defScope st_law, [], []⟩
def fnl : List He.DefD := [dd__law_mixed, dd__law_row, dd__law_laps, dd__law_pulses, dd__law_is_int, dd__law_like, dd_joined, dd_meeting, dd_fills, dd__law_meets, dd__law_beats, dd__law_struck, dd_divisors_of, dd_moved, dd_thinned, dd_hits, dd__law_common, dd__law_round_right, dd__law_counted, dd__law_edited, dd_law]
def fal : List He.Fa := [.glo "_law_mixed", .glo "_law_row", .glo "_law_laps", .glo "_law_pulses", .glo "_law_is_int", .glo "_law_like", .glo "joined", .glo "meeting", .glo "fills", .glo "_law_meets", .glo "_law_beats", .glo "_law_struck", .glo "divisors_of", .glo "moved", .glo "thinned", .glo "hits", .glo "_law_common", .glo "_law_round_right", .glo "_law_counted", .glo "_law_edited", .glo "law", .free "all", .free "any", .free "bool", .free "int", .free "isinstance", .free "len", .free "range", .free "set", .free "sorted", .free "str", .free "sum", .free "tuple"]
abbrev R : PySem.W.OpenRow := PySem.W.OpenLaw.row PySem.Challenge.rw_soundsjoined_k20_whole_beats_counted
abbrev hk : PySem.W.Hook := He.hookD 4 fal fnl
def obs (s : PySem.W.SharedT) : He.AlD := He.obsDG 4 fal fnl (HandSHeadRun.getT s)
theorem obs_eq (s : PySem.W.SharedT) : obs s = hk.obs s.abs := He.obsDG_eq (HandSHeadRun.getT_eq s)
def loose : List PySem.Str := (["joined", "meeting", "divisors_of", "moved", "fills", "thinned", "hits", "_law_mixed", "_law_row", "_law_is_int", "_law_like", "_law_common", "_law_laps", "_law_pulses", "_law_meets", "_law_beats", "_law_counted", "_law_struck", "_law_edited", "_law_round_right"] : List PySem.Str)
theorem runs (w : World) : HandSHeadRun.RunEq R (PySem.W.view R.prog [25]) hk obs 3000 loose w := by
  intro os
  kernel_rfl
theorem txt {K : PySem.W.Frag} {h : Heap} {mg : Str → Option Value} (X : K.In h) (G : h.Ns mainGlobals mg) (c : He.SaysD fal fnl K) : Nonempty (Txt K mg) := by
  obtain ⟨d__law_mixed, F__law_mixed⟩ := c.def_ 0 (d := dd__law_mixed) rfl
  obtain ⟨d__law_row, F__law_row⟩ := c.def_ 1 (d := dd__law_row) rfl
  obtain ⟨d__law_laps, F__law_laps⟩ := c.def_ 2 (d := dd__law_laps) rfl
  obtain ⟨d__law_pulses, F__law_pulses⟩ := c.def_ 3 (d := dd__law_pulses) rfl
  obtain ⟨d__law_is_int, F__law_is_int⟩ := c.def_ 4 (d := dd__law_is_int) rfl
  obtain ⟨d__law_like, F__law_like⟩ := c.def_ 5 (d := dd__law_like) rfl
  obtain ⟨d_joined, F_joined⟩ := c.def_ 6 (d := dd_joined) rfl
  obtain ⟨d_meeting, F_meeting⟩ := c.def_ 7 (d := dd_meeting) rfl
  obtain ⟨d_fills, F_fills⟩ := c.def_ 8 (d := dd_fills) rfl
  obtain ⟨d__law_meets, F__law_meets⟩ := c.def_ 9 (d := dd__law_meets) rfl
  obtain ⟨d__law_beats, F__law_beats⟩ := c.def_ 10 (d := dd__law_beats) rfl
  obtain ⟨d__law_struck, F__law_struck⟩ := c.def_ 11 (d := dd__law_struck) rfl
  obtain ⟨d_divisors_of, F_divisors_of⟩ := c.def_ 12 (d := dd_divisors_of) rfl
  obtain ⟨d_moved, F_moved⟩ := c.def_ 13 (d := dd_moved) rfl
  obtain ⟨d_thinned, F_thinned⟩ := c.def_ 14 (d := dd_thinned) rfl
  obtain ⟨d_hits, F_hits⟩ := c.def_ 15 (d := dd_hits) rfl
  obtain ⟨d__law_common, F__law_common⟩ := c.def_ 16 (d := dd__law_common) rfl
  obtain ⟨d__law_round_right, F__law_round_right⟩ := c.def_ 17 (d := dd__law_round_right) rfl
  obtain ⟨d__law_counted, F__law_counted⟩ := c.def_ 18 (d := dd__law_counted) rfl
  obtain ⟨d__law_edited, F__law_edited⟩ := c.def_ 19 (d := dd__law_edited) rfl
  obtain ⟨d_law, F_law⟩ := c.def_ 20 (d := dd_law) rfl
  exact ⟨{ a__law_mixed := _, d__law_mixed := d__law_mixed, F__law_mixed := F__law_mixed, m__law_mixed := He.glo_ok X G (c.fact 0 (f := .glo "_law_mixed") rfl), a__law_row := _, d__law_row := d__law_row, F__law_row := F__law_row, m__law_row := He.glo_ok X G (c.fact 1 (f := .glo "_law_row") rfl), a__law_laps := _, d__law_laps := d__law_laps, F__law_laps := F__law_laps, m__law_laps := He.glo_ok X G (c.fact 2 (f := .glo "_law_laps") rfl), a__law_pulses := _, d__law_pulses := d__law_pulses, F__law_pulses := F__law_pulses, m__law_pulses := He.glo_ok X G (c.fact 3 (f := .glo "_law_pulses") rfl), a__law_is_int := _, d__law_is_int := d__law_is_int, F__law_is_int := F__law_is_int, m__law_is_int := He.glo_ok X G (c.fact 4 (f := .glo "_law_is_int") rfl), a__law_like := _, d__law_like := d__law_like, F__law_like := F__law_like, m__law_like := He.glo_ok X G (c.fact 5 (f := .glo "_law_like") rfl), a_joined := _, d_joined := d_joined, F_joined := F_joined, m_joined := He.glo_ok X G (c.fact 6 (f := .glo "joined") rfl), a_meeting := _, d_meeting := d_meeting, F_meeting := F_meeting, m_meeting := He.glo_ok X G (c.fact 7 (f := .glo "meeting") rfl), a_fills := _, d_fills := d_fills, F_fills := F_fills, m_fills := He.glo_ok X G (c.fact 8 (f := .glo "fills") rfl), a__law_meets := _, d__law_meets := d__law_meets, F__law_meets := F__law_meets, m__law_meets := He.glo_ok X G (c.fact 9 (f := .glo "_law_meets") rfl), a__law_beats := _, d__law_beats := d__law_beats, F__law_beats := F__law_beats, m__law_beats := He.glo_ok X G (c.fact 10 (f := .glo "_law_beats") rfl), a__law_struck := _, d__law_struck := d__law_struck, F__law_struck := F__law_struck, m__law_struck := He.glo_ok X G (c.fact 11 (f := .glo "_law_struck") rfl), a_divisors_of := _, d_divisors_of := d_divisors_of, F_divisors_of := F_divisors_of, m_divisors_of := He.glo_ok X G (c.fact 12 (f := .glo "divisors_of") rfl), a_moved := _, d_moved := d_moved, F_moved := F_moved, m_moved := He.glo_ok X G (c.fact 13 (f := .glo "moved") rfl), a_thinned := _, d_thinned := d_thinned, F_thinned := F_thinned, m_thinned := He.glo_ok X G (c.fact 14 (f := .glo "thinned") rfl), a_hits := _, d_hits := d_hits, F_hits := F_hits, m_hits := He.glo_ok X G (c.fact 15 (f := .glo "hits") rfl), a__law_common := _, d__law_common := d__law_common, F__law_common := F__law_common, m__law_common := He.glo_ok X G (c.fact 16 (f := .glo "_law_common") rfl), a__law_round_right := _, d__law_round_right := d__law_round_right, F__law_round_right := F__law_round_right, m__law_round_right := He.glo_ok X G (c.fact 17 (f := .glo "_law_round_right") rfl), a__law_counted := _, d__law_counted := d__law_counted, F__law_counted := F__law_counted, m__law_counted := He.glo_ok X G (c.fact 18 (f := .glo "_law_counted") rfl), a__law_edited := _, d__law_edited := d__law_edited, F__law_edited := F__law_edited, m__law_edited := He.glo_ok X G (c.fact 19 (f := .glo "_law_edited") rfl), a_law := _, d_law := d_law, F_law := F_law, m_law := He.glo_ok X G (c.fact 20 (f := .glo "law") rfl), n_all := He.free_ok X G (c.fact 21 (f := .free "all") rfl), n_any := He.free_ok X G (c.fact 22 (f := .free "any") rfl), n_bool := He.free_ok X G (c.fact 23 (f := .free "bool") rfl), n_int := He.free_ok X G (c.fact 24 (f := .free "int") rfl), n_isinstance := He.free_ok X G (c.fact 25 (f := .free "isinstance") rfl), n_len := He.free_ok X G (c.fact 26 (f := .free "len") rfl), n_range := He.free_ok X G (c.fact 27 (f := .free "range") rfl), n_set := He.free_ok X G (c.fact 28 (f := .free "set") rfl), n_sorted := He.free_ok X G (c.fact 29 (f := .free "sorted") rfl), n_str := He.free_ok X G (c.fact 30 (f := .free "str") rfl), n_sum := He.free_ok X G (c.fact 31 (f := .free "sum") rfl), n_tuple := He.free_ok X G (c.fact 32 (f := .free "tuple") rfl) }⟩
theorem facts {P : Program} {w : World} {K : PySem.W.Frag} {h : Heap} {mg : Str → Option Value} {f : Addr} (X : K.In h) (G : h.Ns mainGlobals mg) (hfa : mg ("law" : Str) = some (.ref f)) (c : He.SaysD fal fnl K) :
    ∃ fd : FuncData, (∀ (s : Shared) (v : Value), BindsTo s fd ⟨[v], []⟩ [("script", v)]) ∧ ∀ base : Heap, K.In base → base.Ns mainGlobals mg → FnOk P w K mg base CX0 7 f fd ["script"] (spP K 1 sem_law) := by
  obtain ⟨T⟩ := txt X G c
  have e := hfa.symm.trans T.m_law
  cases e
  have b := FunD.bindsA (ps := ["script"]) T.F_law fun _ _ _ _ _ _ us hl => match us, hl with | [_], _ => rfl
  exact ⟨T.d_law, fun s v => b s [v] rfl, fun base _ _ => ok_law T⟩
end L20
open PySem PySem.W PySem.Calls PyProof.Rows
theorem PySem.Challenge.cw_soundsjoined_k20_whole_beats_counted_holds : PySem.Challenge.rw_soundsjoined_k20_whole_beats_counted.Holds := by
  w_on; o_law
  refine HandSHeadRun.head_any (r := OpenLaw.row PySem.Challenge.rw_soundsjoined_k20_whole_beats_counted) (q := view (OpenLaw.row PySem.Challenge.rw_soundsjoined_k20_whole_beats_counted).prog [25]) (H := L20.hk) (ob := L20.obs) (M := 3000) (loose := L20.loose)
    (d := HandSHeadRun.topDef (OpenLaw.row PySem.Challenge.rw_soundsjoined_k20_whole_beats_counted).prog 25) (kwd := []) L20.obs_eq (by kernel_rfl) (fun s => by kernel_rfl) L20.runs
    (by kernel_rfl) (by kernel_rfl) (by kernel_rfl) (by rfl)
    (by first | assumption | decide +kernel) (by decide +kernel) ⟨rfl, rfl, rfl, rfl, rfl, by decide +kernel⟩ ?hw ?hc
  case hw => w_witness2
  case hc =>
    refine L2.walk_ofE (l := PySem.Challenge.rw_soundsjoined_k20_whole_beats_counted) (n := 63) (k := 7) (x := "script") (CX := L2.CX0)
      rfl (by decide) (by kernel_rfl) ⟨rfl, by decide, by decide⟩ ?F (fun _ _ _ _ z => z)
    intro w mg fa h Y G hmg0
    obtain ⟨K, KX, c⟩ := Y
    have hmg : mg ("law" : PySem.Str) = some (.ref fa) := by
      have e : (HandSHeadRun.topDef (OpenLaw.row PySem.Challenge.rw_soundsjoined_k20_whole_beats_counted).prog 25).name = ("law" : PySem.Str) := by kernel_rfl
      rw [← e]
      exact hmg0
    obtain ⟨fd, hb, hF⟩ := L20.facts (P := (PySem.Challenge.rw_soundsjoined_k20_whole_beats_counted).prog) (w := w) KX G hmg c
    exact ⟨K, fd, Pu.spP K 1 L20.sem_law, KX, hb, fun H a ns hl _ hS => Pu.law_sp rfl L20.plain hl hS, hF⟩

