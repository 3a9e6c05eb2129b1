import PyProof.Rows.All
import Wide.All
import OpenK.AllK
import Wide.FinOn
import HandS.ForMost
import HandS.Deep
import HandS.TupAny
import HandS.TupMul
import HandS.TupLe
import PyProof.StrOps2
import KE.LtData
import HandS.Conv
import HandS.IsInst
import KE.SortData
import HandS.SortInts
import HandS.Walk
import HandS.Zip
import HandS.Defaults
import HandS.WideBits
import HandS.NoneIn
import KE.KStateDown
import Lean
import HandS.Base
import HandS.Call
import HandS.Ends
import HandS.More
import HandS.Words
import HandS.WordsExc
import HandS.Head0
import HandS.Head1
import HandS.Head2
import HandS.HeadEnd
import HandS.HeadHook1
import HandS.HeadHook2
import PySem.Challenge.RW_soundsjoined_k22_whole_best_rounds_as_co
set_option Elab.async false
set_option linter.all false
set_option maxRecDepth 100000
/-! Pu: a layer of values over HandS: pure data, owned lists, readings by functions. -/
namespace Pu
open PySem PySem.Spec PyProof.Rows L2

abbrev D := PyData
def keyD : Key → D
  | .inl i => .int i
  | .inr s => .str s

/-- an address of a changeable thing -/
def Mutk : Option HO → Prop
  | some (.lst _) => True
  | some (.dK _) => True
  | some (.dT _) => True
  | _ => False
def MK (H : Hp) (M : Addr → Prop) : Prop := ∀ a, M a → Mutk (H a)
theorem MK.some {H : Hp} {M : Addr → Prop} (m : MK H M) {a : Addr} (h : M a) : H a ≠ none := fun e => by
  have := m a h; rw [e] at this; exact this

/-- a list of the written part -/
def KLst (K : PySem.W.Frag) (a : Addr) (xs : List V) : Prop :=
  ∃ (o : Obj) (its : Array Value) (n : Nat), K.lookup a = some o ∧ o.cls = .type "list" ∧ o.dict = none ∧ o.data = .seq its n ∧ its.size ≤ sizeLine ∧ Vals xs its.toList
def LO (K : PySem.W.Frag) (H : Hp) (M : Addr → Prop) (a : Addr) (xs : List V) : Prop := (Rd H a (.lst xs) ∧ ¬ M a) ∨ KLst K a xs
theorem LO.sq {K : PySem.W.Frag} {H : Hp} {M : Addr → Prop} {a : Addr} {xs : List V} (h : LO K H M a xs) : SqL K H a xs := h.imp (·.1) id

mutual
/-- the data d stands at v; none of its lists and dicts is in M -/
inductive Rep (K : PySem.W.Frag) (H : Hp) (M : Addr → Prop) : D → V → Prop
  | non : Rep K H M .none .non
  | bl (b : Bool) : Rep K H M (.bool b) (.bl b)
  | int (i : Int) : Rep K H M (.int i) (.int i)
  | str (x : Str) : Rep K H M (.str x) (.str x)
  | tup {a : Addr} {vs : List V} {ds : List D} : SqT K H a vs → Reps K H M ds vs → Rep K H M (.tuple ds) (.ref a)
  | lst {a : Addr} {vs : List V} {ds : List D} : LO K H M a vs → Reps K H M ds vs → Rep K H M (.list ds) (.ref a)
  | dK {a : Addr} {kvs : List (Key × V)} {ps : List (D × D)} : H a = some (.dK kvs) → ¬ M a → RepK K H M ps kvs → Rep K H M (.dict ps) (.ref a)
  | dT {a : Addr} {kvs : List (List Key × V)} {ps : List (D × D)} : H a = some (.dT kvs) → ¬ M a → RepT K H M ps kvs → Rep K H M (.dict ps) (.ref a)
inductive Reps (K : PySem.W.Frag) (H : Hp) (M : Addr → Prop) : List D → List V → Prop
  | nil : Reps K H M [] []
  | cons {d : D} {v : V} {ds : List D} {vs : List V} : Rep K H M d v → Reps K H M ds vs → Reps K H M (d :: ds) (v :: vs)
inductive RepK (K : PySem.W.Frag) (H : Hp) (M : Addr → Prop) : List (D × D) → List (Key × V) → Prop
  | nil : RepK K H M [] []
  | cons {d : D} {k : Key} {v : V} {ps : List (D × D)} {kvs : List (Key × V)} : Rep K H M d v → RepK K H M ps kvs → RepK K H M ((keyD k, d) :: ps) ((k, v) :: kvs)
inductive RepT (K : PySem.W.Frag) (H : Hp) (M : Addr → Prop) : List (D × D) → List (List Key × V) → Prop
  | nil : RepT K H M [] []
  | cons {d : D} {k : List Key} {v : V} {ps : List (D × D)} {kvs : List (List Key × V)} : Rep K H M d v → RepT K H M ps kvs → RepT K H M ((.tuple (k.map keyD), d) :: ps) ((k, v) :: kvs)
end

/-- what is not in M stays -/
def Stay (H : Hp) (M : Addr → Prop) (H' : Hp) : Prop := ∀ a o, H a = some o → ¬ M a → H' a = some o
theorem Stay.of_same {H H' : Hp} {M : Addr → Prop} (s : Same H H') : Stay H M H' := fun a o h _ => s a o h
theorem not_mutk_tup {H : Hp} {M : Addr → Prop} (m : MK H M) {a : Addr} {xs : List V} (h : H a = some (.tup xs)) : ¬ M a := fun z => by
  have := m a z; rw [h] at this; exact this
theorem not_mutk_frz {H : Hp} {M : Addr → Prop} (m : MK H M) {a : Addr} {o : Obj} {u : HO} (h : H a = some (.frz o u)) : ¬ M a := fun z => by
  have := m a z; rw [h] at this; exact this
theorem Stay.sqT {K : PySem.W.Frag} {H H' : Hp} {M : Addr → Prop} (m : MK H M) (s : Stay H M H') {a : Addr} {xs : List V} (h : SqT K H a xs) : SqT K H' a xs := by
  rcases h with (h | ⟨o, h⟩) | h
  · exact .inl (.inl (s _ _ h (not_mutk_tup m h)))
  · exact .inl (.inr ⟨o, s _ _ h (not_mutk_frz m h)⟩)
  · exact .inr h
/-- new members of M' were free -/
def New (H : Hp) (M M' : Addr → Prop) : Prop := ∀ a, M' a → ¬ M a → H a = none
theorem New.refl {H : Hp} {M : Addr → Prop} : New H M M := fun _ h n => absurd h n
theorem Stay.lo {K : PySem.W.Frag} {H H' : Hp} {M M' : Addr → Prop} (m : MK H M) (s : Stay H M H') (n : New H M M') {a : Addr} {xs : List V} (h : LO K H M a xs) : LO K H' M' a xs := by
  rcases h with ⟨h, nm⟩ | h
  · rcases h with h | ⟨o, h⟩
    · exact .inl ⟨.inl (s _ _ h nm), fun z => by rw [n a z nm] at h; cases h⟩
    · exact .inl ⟨.inr ⟨o, s _ _ h nm⟩, fun z => by rw [n a z nm] at h; cases h⟩
  · exact .inr h
mutual
theorem Rep.stay {K : PySem.W.Frag} {H H' : Hp} {M M' : Addr → Prop} (m : MK H M) (s : Stay H M H') (n : New H M M') : ∀ {d : D} {v : V}, Rep K H M d v → Rep K H' M' d v
  | _, _, .non => .non
  | _, _, .bl b => .bl b
  | _, _, .int i => .int i
  | _, _, .str x => .str x
  | _, _, .tup h r => .tup (s.sqT m h) (Reps.stay m s n r)
  | _, _, .lst h r => .lst (s.lo m n h) (Reps.stay m s n r)
  | _, _, .dK h nm r => .dK (s _ _ h nm) (fun z => by rw [n _ z nm] at h; cases h) (RepK.stay m s n r)
  | _, _, .dT h nm r => .dT (s _ _ h nm) (fun z => by rw [n _ z nm] at h; cases h) (RepT.stay m s n r)
theorem Reps.stay {K : PySem.W.Frag} {H H' : Hp} {M M' : Addr → Prop} (m : MK H M) (s : Stay H M H') (n : New H M M') : ∀ {ds : List D} {vs : List V}, Reps K H M ds vs → Reps K H' M' ds vs
  | _, _, .nil => .nil
  | _, _, .cons h r => .cons (Rep.stay m s n h) (Reps.stay m s n r)
theorem RepK.stay {K : PySem.W.Frag} {H H' : Hp} {M M' : Addr → Prop} (m : MK H M) (s : Stay H M H') (n : New H M M') : ∀ {ps : List (D × D)} {kvs : List (Key × V)}, RepK K H M ps kvs → RepK K H' M' ps kvs
  | _, _, .nil => .nil
  | _, _, .cons h r => .cons (Rep.stay m s n h) (RepK.stay m s n r)
theorem RepT.stay {K : PySem.W.Frag} {H H' : Hp} {M M' : Addr → Prop} (m : MK H M) (s : Stay H M H') (n : New H M M') : ∀ {ps : List (D × D)} {kvs : List (List Key × V)}, RepT K H M ps kvs → RepT K H' M' ps kvs
  | _, _, .nil => .nil
  | _, _, .cons h r => .cons (Rep.stay m s n h) (RepT.stay m s n r)
end
mutual
/-- fewer in M -/
theorem Rep.anti {K : PySem.W.Frag} {H : Hp} {M M' : Addr → Prop} (s : ∀ a, M' a → M a) : ∀ {d : D} {v : V}, Rep K H M d v → Rep K H M' d v
  | _, _, .non => .non
  | _, _, .bl b => .bl b
  | _, _, .int i => .int i
  | _, _, .str x => .str x
  | _, _, .tup h r => .tup h (Reps.anti s r)
  | _, _, .lst h r => .lst (h.imp (fun z => ⟨z.1, fun y => z.2 (s _ y)⟩) id) (Reps.anti s r)
  | _, _, .dK h nm r => .dK h (fun y => nm (s _ y)) (RepK.anti s r)
  | _, _, .dT h nm r => .dT h (fun y => nm (s _ y)) (RepT.anti s r)
theorem Reps.anti {K : PySem.W.Frag} {H : Hp} {M M' : Addr → Prop} (s : ∀ a, M' a → M a) : ∀ {ds : List D} {vs : List V}, Reps K H M ds vs → Reps K H M' ds vs
  | _, _, .nil => .nil
  | _, _, .cons h r => .cons (Rep.anti s h) (Reps.anti s r)
theorem RepK.anti {K : PySem.W.Frag} {H : Hp} {M M' : Addr → Prop} (s : ∀ a, M' a → M a) : ∀ {ps : List (D × D)} {kvs : List (Key × V)}, RepK K H M ps kvs → RepK K H M' ps kvs
  | _, _, .nil => .nil
  | _, _, .cons h r => .cons (Rep.anti s h) (RepK.anti s r)
theorem RepT.anti {K : PySem.W.Frag} {H : Hp} {M M' : Addr → Prop} (s : ∀ a, M' a → M a) : ∀ {ps : List (D × D)} {kvs : List (List Key × V)}, RepT K H M ps kvs → RepT K H M' ps kvs
  | _, _, .nil => .nil
  | _, _, .cons h r => .cons (Rep.anti s h) (RepT.anti s r)
end
/-- no list, no dict in it -/
def nolst : D → Bool
  | .list _ => false
  | .dict _ => false
  | .tuple ds => nolsts ds
  | _ => true
where nolsts : List D → Bool
  | [] => true
  | d :: ds => nolst d && nolsts ds
mutual
theorem Rep.nol {K : PySem.W.Frag} {H : Hp} {M M' : Addr → Prop} : ∀ {d : D} {v : V}, nolst d = true → Rep K H M d v → Rep K H M' d v
  | _, _, _, .non => .non
  | _, _, _, .bl b => .bl b
  | _, _, _, .int i => .int i
  | _, _, _, .str x => .str x
  | _, _, e, .tup h r => .tup h (Reps.nol (by simpa [nolst] using e) r)
  | _, _, e, .lst _ _ => by simp [nolst] at e
  | _, _, e, .dK _ _ _ => by simp [nolst] at e
  | _, _, e, .dT _ _ _ => by simp [nolst] at e
theorem Reps.nol {K : PySem.W.Frag} {H : Hp} {M M' : Addr → Prop} : ∀ {ds : List D} {vs : List V}, nolst.nolsts ds = true → Reps K H M ds vs → Reps K H M' ds vs
  | _, _, _, .nil => .nil
  | _, _, e, .cons h r => by
    simp only [nolst.nolsts, Bool.and_eq_true] at e
    exact .cons (Rep.nol e.1 h) (Reps.nol e.2 r)
end
mutual
theorem Rep.dp {K : PySem.W.Frag} {H : Hp} {M : Addr → Prop} : ∀ {d : D} {v : V}, d.canLay0 = true → Rep K H M d v → Dp K H v d
  | _, _, _, .non => .non
  | _, _, _, .bl b => .bl b
  | _, _, _, .int i => .int i
  | _, _, _, .str x => .str x
  | _, _, e, .tup h r => .tup h (Reps.dp (by simpa [PyData.canLay0] using e) r)
  | _, _, e, .lst h r => .lst h.sq (Reps.dp (by simpa [PyData.canLay0] using e) r)
  | _, _, e, .dK _ _ _ => by simp [PyData.canLay0] at e
  | _, _, e, .dT _ _ _ => by simp [PyData.canLay0] at e
theorem Reps.dp {K : PySem.W.Frag} {H : Hp} {M : Addr → Prop} : ∀ {ds : List D} {vs : List V}, PyData.canLayAll0 ds = true → Reps K H M ds vs → DpAll K H vs ds
  | _, _, _, .nil => .nil
  | _, _, e, .cons h r => by
    simp only [PyData.canLayAll0, Bool.and_eq_true] at e
    exact .cons (Rep.dp e.1 h) (Reps.dp e.2 r)
end
section
variable {K : PySem.W.Frag} {H H' : Hp} {M M' : Addr → Prop} {ds : List D} {vs : List V}
theorem Reps.length : ∀ {ds : List D} {vs : List V}, Reps K H M ds vs → ds.length = vs.length
  | _, _, .nil => rfl
  | _, _, .cons _ r => congrArg (· + 1) r.length
theorem Reps.get : ∀ {ds : List D} {vs : List V} {i : Nat} {d : D}, Reps K H M ds vs → ds[i]? = some d → ∃ v, vs[i]? = some v ∧ Rep K H M d v
  | _, _, _, _, .nil, e => by simp at e
  | _, _, 0, _, .cons r _, e => by simp at e; subst e; exact ⟨_, rfl, r⟩
  | _, _, i + 1, d, .cons _ t, e => by
    obtain ⟨v, h1, h2⟩ := Reps.get (i := i) (d := d) t (by simpa using e)
    exact ⟨v, by simpa using h1, h2⟩
theorem Reps.getV : ∀ {ds : List D} {vs : List V} {i : Nat} {v : V}, Reps K H M ds vs → vs[i]? = some v → ∃ d, ds[i]? = some d ∧ Rep K H M d v
  | _, _, _, _, .nil, e => by simp at e
  | _, _, 0, _, .cons r _, e => by simp at e; subst e; exact ⟨_, rfl, r⟩
  | _, _, i + 1, d, .cons _ t, e => by
    obtain ⟨v, h1, h2⟩ := Reps.getV (i := i) (v := d) t (by simpa using e)
    exact ⟨v, by simpa using h1, h2⟩
theorem Reps.append : ∀ {ds es : List D} {vs us : List V}, Reps K H M ds vs → Reps K H M es us → Reps K H M (ds ++ es) (vs ++ us)
  | _, _, _, _, .nil, s => s
  | _, _, _, _, .cons r t, s => .cons r (t.append s)
theorem Reps.set {d : D} {v : V} (r : Rep K H M d v) : ∀ {ds : List D} {vs : List V} (i : Nat), Reps K H M ds vs → Reps K H M (ds.set i d) (vs.set i v)
  | _, _, _, .nil => .nil
  | _, _, 0, .cons _ t => .cons r t
  | _, _, i + 1, .cons q t => .cons q (Reps.set r i t)
theorem Reps.take : ∀ {ds : List D} {vs : List V} (n : Nat), Reps K H M ds vs → Reps K H M (ds.take n) (vs.take n)
  | _, _, 0, _ => .nil
  | _, _, _ + 1, .nil => .nil
  | _, _, n + 1, .cons r t => .cons r (Reps.take n t)
theorem Reps.drop : ∀ {ds : List D} {vs : List V} (n : Nat), Reps K H M ds vs → Reps K H M (ds.drop n) (vs.drop n)
  | _, _, 0, r => r
  | _, _, _ + 1, .nil => .nil
  | _, _, n + 1, .cons _ t => Reps.drop n t
theorem Rep.same (m : MK H M) (s : Same H H') {d : D} {v : V} (r : Rep K H M d v) : Rep K H' M d v := r.stay m (.of_same s) .refl
theorem Reps.same (m : MK H M) (s : Same H H') (r : Reps K H M ds vs) : Reps K H' M ds vs := r.stay m (.of_same s) .refl
theorem MK.same (m : MK H M) (s : Same H H') : MK H' M := fun a h => by
  have q := m a h
  cases e : H a with
  | none => rw [e] at q; exact q.elim
  | some o => rw [s a o e]; rw [e] at q; exact q
theorem same_upd {p : Addr} {o : HO} (h : H p = none) : Same H (upd H p o) := fun b x e => by
  rw [upd_ne (ne_of_none e h)]; exact e
end
end Pu

set_option Elab.async false
set_option linter.all false
set_option maxRecDepth 100000
namespace Pu
open PySem PySem.Spec PyProof.Rows L2

/-- a slot: nothing known, shared data, an owned list or dict -/
inductive Sl where
  | no
  | sh (d : D)
  | ow (d : D)
abbrev Env := List Sl
abbrev Ev := Env → Option D
section
variable {K : PySem.W.Frag} {H H' H0 : Hp} {M M' : Addr → Prop}
/-- the owned thing at a -/
def Own (K : PySem.W.Frag) (H : Hp) (M : Addr → Prop) : D → Addr → Prop
  | .list ds, a => ∃ vs, H a = some (.lst vs) ∧ Reps K H M ds vs
  | .dict ps, a => (∃ kvs, H a = some (.dK kvs) ∧ RepK K H M ps kvs) ∨ ∃ kvs, H a = some (.dT kvs) ∧ RepT K H M ps kvs
  | _, _ => False
theorem Own.rep {d : D} {a : Addr} (o : Own K H M d a) (n : ¬ M a) : Rep K H M d (.ref a) := by
  cases d with
  | list ds => obtain ⟨vs, h, r⟩ := o; exact .lst (.inl ⟨.inl h, n⟩) r
  | dict ps =>
    rcases o with ⟨kvs, h, r⟩ | ⟨kvs, h, r⟩
    · exact .dK h n r
    · exact .dT h n r
  | _ => exact o.elim
theorem Own.stay {d : D} {a : Addr} (o : Own K H M d a) (m : MK H M) (s : Stay H M H') (n : New H M M') (ha : H' a = H a) : Own K H' M' d a := by
  cases d with
  | list ds => obtain ⟨vs, h, r⟩ := o; exact ⟨vs, ha.trans h, r.stay m s n⟩
  | dict ps =>
    rcases o with ⟨kvs, h, r⟩ | ⟨kvs, h, r⟩
    · exact .inl ⟨kvs, ha.trans h, r.stay m s n⟩
    · exact .inr ⟨kvs, ha.trans h, r.stay m s n⟩
  | _ => exact o.elim
theorem Own.anti {d : D} {a : Addr} (o : Own K H M d a) (s : ∀ a, M' a → M a) : Own K H M' d a := by
  cases d with
  | list ds => obtain ⟨vs, h, r⟩ := o; exact ⟨vs, h, r.anti s⟩
  | dict ps =>
    rcases o with ⟨kvs, h, r⟩ | ⟨kvs, h, r⟩
    · exact .inl ⟨kvs, h, r.anti s⟩
    · exact .inr ⟨kvs, h, r.anti s⟩
  | _ => exact o.elim
theorem Own.mutk {d : D} {a : Addr} (o : Own K H M d a) : Mutk (H a) := by
  cases d with
  | list ds => obtain ⟨vs, h, r⟩ := o; rw [h]; trivial
  | dict ps =>
    rcases o with ⟨kvs, h, r⟩ | ⟨kvs, h, r⟩ <;> (rw [h]; trivial)
  | _ => exact o.elim
theorem Own.some {d : D} {a : Addr} (o : Own K H M d a) : ∃ u, H a = some u := by
  have := o.mutk
  cases e : H a with
  | none => rw [e] at this; exact this.elim
  | some u => exact ⟨u, rfl⟩
theorem Own.same {d : D} {a : Addr} (o : Own K H M d a) (m : MK H M) (s : Same H H') : Own K H' M d a := by
  obtain ⟨u, e⟩ := o.some
  exact o.stay m (.of_same s) .refl ((s a u e).trans e.symm)

/-- borrowed: data, or an owned thing to be read at once -/
def RepB (K : PySem.W.Frag) (H : Hp) (M : Addr → Prop) (d : D) (v : V) : Prop := Rep K H M d v ∨ ∃ a, v = .ref a ∧ Own K H M d a
theorem Rep.b {d : D} {v : V} (r : Rep K H M d v) : RepB K H M d v := .inl r
theorem RepB.same {d : D} {v : V} (r : RepB K H M d v) (m : MK H M) (s : Same H H') : RepB K H' M d v := by
  rcases r with r | ⟨a, e, o⟩
  · exact .inl (r.same m s)
  · exact .inr ⟨a, e, o.same m s⟩
theorem RepB.int {i : Int} {v : V} (r : RepB K H M (.int i) v) : v = .int i := by
  rcases r with r | ⟨a, _, o⟩
  · cases r; rfl
  · exact o.elim
theorem RepB.bl {b : Bool} {v : V} (r : RepB K H M (.bool b) v) : v = .bl b := by
  rcases r with r | ⟨a, _, o⟩
  · cases r; rfl
  · exact o.elim
theorem RepB.str {x : Str} {v : V} (r : RepB K H M (.str x) v) : v = .str x := by
  rcases r with r | ⟨a, _, o⟩
  · cases r; rfl
  · exact o.elim
theorem RepB.non {v : V} (r : RepB K H M .none v) : v = .non := by
  rcases r with r | ⟨a, _, o⟩
  · cases r; rfl
  · exact o.elim
theorem RepB.tup {ds : List D} {v : V} (r : RepB K H M (.tuple ds) v) : ∃ a vs, v = .ref a ∧ SqT K H a vs ∧ Reps K H M ds vs := by
  rcases r with r | ⟨a, _, o⟩
  · cases r with
    | tup h r => exact ⟨_, _, rfl, h, r⟩
  · exact o.elim
theorem RepB.lst {ds : List D} {v : V} (r : RepB K H M (.list ds) v) : ∃ a vs, v = .ref a ∧ SqL K H a vs ∧ Reps K H M ds vs := by
  rcases r with r | ⟨a, e, vs, h, r⟩
  · cases r with
    | lst h r => exact ⟨_, _, rfl, h.sq, r⟩
  · exact ⟨a, vs, e, .of h, r⟩
theorem RepB.dp {d : D} {v : V} (r : RepB K H M d v) (c : d.canLay0 = true) : Dp K H v d := by
  rcases r with r | ⟨a, e, o⟩
  · exact r.dp c
  · subst e
    cases d with
    | list ds => obtain ⟨vs, h, r⟩ := o; exact .lst (.of h) (r.dp (by simpa [PyData.canLay0] using c))
    | dict ps => simp [PyData.canLay0] at c
    | _ => exact o.elim

/-- the entry's heap and its changeable things, the heap and the changeable things now -/
structure EnvOk (K : PySem.W.Frag) (H0 : Hp) (M0 : Addr → Prop) (H : Hp) (M : Addr → Prop) (ρ : Env) (σ : L2.St) : Prop where
  len : ρ.length = σ.length
  same : Same H0 H
  mkh0 : MK H0 M0
  sub : ∀ a, M0 a → M a
  mkh : MK H M
  sh : ∀ (i : Nat) d, ρ[i]? = some (.sh d) → ∃ v, σ[i]? = some (some v) ∧ Rep K H M d v
  ow : ∀ (i : Nat) d, ρ[i]? = some (.ow d) → ∃ a, σ[i]? = some (some (.ref a)) ∧ M a ∧ H0 a = none ∧ Own K H M d a
  ap : ∀ (i j : Nat) d d' a, ρ[i]? = some (.ow d) → ρ[j]? = some (.ow d') → σ[i]? = some (some (.ref a)) → σ[j]? = some (some (.ref a)) → i = j
theorem EnvOk.to {M0 : Addr → Prop} {ρ : Env} {σ : L2.St} (E : EnvOk K H0 M0 H M ρ σ) (s : Same H H') : EnvOk K H0 M0 H' M ρ σ where
  len := E.len
  same := E.same.trans s
  mkh0 := E.mkh0
  sub := E.sub
  mkh := E.mkh.same s
  sh := fun i d h => let ⟨v, e, r⟩ := E.sh i d h; ⟨v, e, r.same E.mkh s⟩
  ow := fun i d h => let ⟨a, e, m, n, o⟩ := E.ow i d h; ⟨a, e, m, n, o.same E.mkh s⟩
  ap := E.ap
/-- M grows by what was free -/
theorem EnvOk.more {M0 : Addr → Prop} {ρ : Env} {σ : L2.St} (E : EnvOk K H0 M0 H M ρ σ) (mk' : MK H' M') (sub : ∀ a, M a → M' a) (st : Stay H M H') (s0 : Same H0 H') (n : New H M M') (hm : ∀ a, M a → H' a = H a) : EnvOk K H0 M0 H' M' ρ σ where
  len := E.len
  same := s0
  mkh0 := E.mkh0
  sub := fun a h => sub a (E.sub a h)
  mkh := mk'
  sh := fun i d h => let ⟨v, e, r⟩ := E.sh i d h; ⟨v, e, r.stay E.mkh st n⟩
  ow := fun i d h => let ⟨a, e, m, n', o⟩ := E.ow i d h; ⟨a, e, sub a m, n', o.stay E.mkh st n (hm a m)⟩
  ap := E.ap
/-- from here to there: what is not changeable stays, what becomes changeable was free -/
structure Step (H : Hp) (M : Addr → Prop) (H' : Hp) (M' : Addr → Prop) : Prop where
  st : Stay H M H'
  nw : New H M M'
theorem Step.refl : Step H M H M := ⟨fun _ _ h _ => h, .refl⟩
theorem Step.of_same (s : Same H H') : Step H M H' M := ⟨.of_same s, .refl⟩
theorem Step.trans {H2 : Hp} {M2 : Addr → Prop} (a : Step H M H' M') (b : Step H' M' H2 M2) : Step H M H2 M2 where
  st := fun x o h n => b.st x o (a.st x o h n) fun m' => by rw [a.nw x m' n] at h; cases h
  nw := fun x m2 n => by
    by_cases m' : M' x
    · exact a.nw x m' n
    · cases e : H x with
      | none => rfl
      | some o => have q := b.nw x m2 m'; rw [a.st x o e n] at q; cases q
end

/-- p besides -/
def plus (M : Addr → Prop) (p : Addr) : Addr → Prop := fun a => M a ∨ a = p
theorem new_plus {H : Hp} {M : Addr → Prop} {p : Addr} (n : H p = none) : New H M (plus M p) := fun a h nm => by
  rcases h with h | h
  · exact absurd h nm
  · rw [h]; exact n
/-! ### expressions -/
def GE (K : PySem.W.Frag) (t : TE) (f : Ev) : Prop := ∀ ⦃H0 : Hp⦄ ⦃M0 : Addr → Prop⦄ ⦃H : Hp⦄ ⦃M : Addr → Prop⦄ ⦃ρ : Env⦄ ⦃σ : L2.St⦄ ⦃Q : VK⦄ ⦃d : D⦄, EnvOk K H0 M0 H M ρ σ → f ρ = some d → (∀ v H', Same H H' → Rep K H' M d v → Q v H') → t σ H Q
def GB (K : PySem.W.Frag) (t : TE) (f : Ev) : Prop := ∀ ⦃H0 : Hp⦄ ⦃M0 : Addr → Prop⦄ ⦃H : Hp⦄ ⦃M : Addr → Prop⦄ ⦃ρ : Env⦄ ⦃σ : L2.St⦄ ⦃Q : VK⦄ ⦃d : D⦄, EnvOk K H0 M0 H M ρ σ → f ρ = some d → (∀ v H', Same H H' → RepB K H' M d v → Q v H') → t σ H Q
def GN (K : PySem.W.Frag) (t : TE) (f : Ev) : Prop := ∀ ⦃H0 : Hp⦄ ⦃M0 : Addr → Prop⦄ ⦃H : Hp⦄ ⦃M : Addr → Prop⦄ ⦃ρ : Env⦄ ⦃σ : L2.St⦄ ⦃Q : VK⦄ ⦃d : D⦄, EnvOk K H0 M0 H M ρ σ → f ρ = some d → (∀ p H', H p = none → Same H H' → Own K H' (plus M p) d p → Q (.ref p) H') → t σ H Q
structure EE (X : Cx) (e : Expr) (t : TE) (f : Ev) : Prop where
  pe : PE X e t
  g : GE X.K t f
structure EB (X : Cx) (e : Expr) (t : TE) (f : Ev) : Prop where
  pe : PE X e t
  g : GB X.K t f
structure EN (X : Cx) (e : Expr) (t : TE) (f : Ev) : Prop where
  pe : PE X e t
  g : GN X.K t f
section
variable {X : Cx} {e : Expr} {t : TE} {f : Ev}
theorem EE.b (h : EE X e t f) : EB X e t f := ⟨h.pe, fun H0 M0 H M ρ σ Q d E hf q => h.g E hf fun v H' s r => q v H' s r.b⟩
theorem EN.toE (h : EN X e t f) : EE X e t f := ⟨h.pe, fun H0 M0 H M ρ σ Q d E hf q => h.g E hf fun p H' n s o => q _ H' s ((o.anti fun a h => .inl h).rep fun m => E.mkh.some m n)⟩
theorem EN.b (h : EN X e t f) : EB X e t f := h.toE.b

def vr (i : Nat) : Ev := fun ρ => match ρ[i]? with
  | some (.sh d) => some d
  | _ => none
def vb (i : Nat) : Ev := fun ρ => match ρ[i]? with
  | some (.sh d) => some d
  | some (.ow d) => some d
  | _ => none
def cst (d : D) : Ev := fun _ => some d
theorem g_vr {K : PySem.W.Frag} (i : Nat) : GE K (tVar i) (vr i) := fun H0 M0 H M ρ σ Q d E hf q => by
  unfold vr at hf
  split at hf
  · rename_i d' h
    cases hf
    obtain ⟨v, e, r⟩ := E.sh i _ h
    exact ⟨v, e, q v H (Same.refl H) r⟩
  · cases hf
theorem g_vb {K : PySem.W.Frag} (i : Nat) : GB K (tVar i) (vb i) := fun H0 M0 H M ρ σ Q d E hf q => by
  unfold vb at hf
  split at hf
  · rename_i d' h
    cases hf
    obtain ⟨v, e, r⟩ := E.sh i _ h
    exact ⟨v, e, q v H (Same.refl H) r.b⟩
  · rename_i d' h
    cases hf
    obtain ⟨a, e, _, _, o⟩ := E.ow i _ h
    exact ⟨_, e, q _ H (Same.refl H) (.inr ⟨a, rfl, o⟩)⟩
  · cases hf
theorem ev (i : Nat) {x : Str} {pos : Pos} (hN : X.N[i]? = some x := by rfl) (hv : Vis X.env.scope x := by first | exact Or.inl rfl | exact Or.inr (Or.inl rfl) | exact Or.inr (Or.inr rfl)) (hd : (x == ("__debug__" : Str)) = false := by decide)
    (hcd : (x == ("__classdict__" : Str)) = false := by decide) : EE X (.Name x pos) (tVar i) (vr i) := ⟨pe_var hN hv hd hcd, g_vr i⟩
theorem bv (i : Nat) {x : Str} {pos : Pos} (hN : X.N[i]? = some x := by rfl) (hv : Vis X.env.scope x := by first | exact Or.inl rfl | exact Or.inr (Or.inl rfl) | exact Or.inr (Or.inr rfl)) (hd : (x == ("__debug__" : Str)) = false := by decide)
    (hcd : (x == ("__classdict__" : Str)) = false := by decide) : EB X (.Name x pos) (tVar i) (vb i) := ⟨pe_var hN hv hd hcd, g_vb i⟩
theorem g_cst {K : PySem.W.Frag} {v : V} {d : D} (h : ∀ H M, Rep K H M d v) : GE K (tC v) (cst d) := fun H0 M0 H M ρ σ Q d' E hf q => by
  have e : d = d' := Option.some.inj hf
  subst e
  exact q v H (Same.refl H) (h H M)
theorem e_int {i : Int} {j : Nat} {pos : Pos} : EE X (.Constant (.int i) j pos) (tC (.int i)) (cst (.int i)) := ⟨pe_int, g_cst fun _ _ => .int i⟩
theorem e_bl {b : Bool} {j : Nat} {pos : Pos} : EE X (.Constant (.bool b) j pos) (tC (.bl b)) (cst (.bool b)) := ⟨pe_bl, g_cst fun _ _ => .bl b⟩
theorem e_non {j : Nat} {pos : Pos} : EE X (.Constant .none j pos) (tC .non) (cst .none) := ⟨pe_non, g_cst fun _ _ => .non⟩
theorem e_str {x : Str} {j : Nat} {pos : Pos} : EE X (.Constant (.str x) j pos) (tC (.str x)) (cst (.str x)) := ⟨pe_str, g_cst fun _ _ => .str x⟩
/-- a constant of the module -/
theorem e_glob {x : Str} {v : V} {u : Value} {pos : Pos} {d : D} (hg : Gl X x) (hm : X.mg x = some u) (r : RelV v u) (hr : ∀ H M, Rep X.K H M d v) (hd : (x == ("__debug__" : Str)) = false := by decide) : EE X (.Name x pos) (tC v) (cst d) :=
  ⟨pe_glob hg hm r hd, g_cst hr⟩
end

/-! ### two in a row -/
def bn (op : D → D → Option D) (f g : Ev) : Ev := fun ρ => (f ρ).bind fun x => (g ρ).bind fun y => op x y
def un (op : D → Option D) (f : Ev) : Ev := fun ρ => (f ρ).bind op
theorem bind_some {α β : Type} {o : Option α} {k : α → Option β} {b : β} (h : o.bind k = some b) : ∃ a, o = some a ∧ k a = some b := by
  cases o with
  | none => cases h
  | some a => exact ⟨a, rfl, h⟩
/-- what a rule by values r does is told by op -/
def Does2 (K : PySem.W.Frag) (r : R2) (op : D → D → Option D) : Prop := ∀ ⦃H : Hp⦄ ⦃M : Addr → Prop⦄ ⦃x y : V⦄ ⦃a b d : D⦄ ⦃Q : VK⦄, MK H M → RepB K H M a x → RepB K H M b y → op a b = some d → (∀ v H', Same H H' → Rep K H' M d v → Q v H') → r x y H Q
def Does2N (K : PySem.W.Frag) (r : R2) (op : D → D → Option D) : Prop := ∀ ⦃H : Hp⦄ ⦃M : Addr → Prop⦄ ⦃x y : V⦄ ⦃a b d : D⦄ ⦃Q : VK⦄, MK H M → RepB K H M a x → RepB K H M b y → op a b = some d → (∀ p H', H p = none → Same H H' → Own K H' (plus M p) d p → Q (.ref p) H') → r x y H Q
theorem g_op {K : PySem.W.Frag} {r : R2} {op : D → D → Option D} {ta tb : TE} {f g : Ev} (h : Does2 K r op) (ha : GB K ta f) (hb : GB K tb g) : GE K (tOp r ta tb) (bn op f g) := fun H0 M0 H M ρ σ Q d E hf q => by
  obtain ⟨a, e1, hf⟩ := bind_some hf
  obtain ⟨b, e2, hf⟩ := bind_some hf
  refine ha E e1 fun x H1 s1 r1 => ?_
  refine hb (E.to s1) e2 fun y H2 s2 r2 => ?_
  exact h ((E.mkh.same s1).same s2) (r1.same (E.mkh.same s1) s2) r2 hf fun v H' s r => q v H' (s1.trans (s2.trans s)) r
theorem g_opN {K : PySem.W.Frag} {r : R2} {op : D → D → Option D} {ta tb : TE} {f g : Ev} (h : Does2N K r op) (ha : GB K ta f) (hb : GB K tb g) : GN K (tOp r ta tb) (bn op f g) := fun H0 M0 H M ρ σ Q d E hf q => by
  obtain ⟨a, e1, hf⟩ := bind_some hf
  obtain ⟨b, e2, hf⟩ := bind_some hf
  refine ha E e1 fun x H1 s1 r1 => ?_
  refine hb (E.to s1) e2 fun y H2 s2 r2 => ?_
  exact h ((E.mkh.same s1).same s2) (r1.same (E.mkh.same s1) s2) r2 hf fun p H' n s r => q p H' (s1.free (s2.free n)) (s1.trans (s2.trans s)) r
section
variable {X : Cx} {a b c : Expr} {ta tb tc : TE} {f g k : Ev} {pos : Pos} {r r' : R2} {op' op'' : D → D → Option D}
theorem e_op {o : Operator} (h1 : OpR X (binaryOp o) r) (h2 : Does2 X.K r op') (ha : EB X a ta f) (hb : EB X b tb g) : EE X (.BinOp a o b pos) (tOp r ta tb) (bn op' f g) := ⟨pe_op h1 ha.pe hb.pe, g_op h2 ha.g hb.g⟩
theorem n_op {o : Operator} (h1 : OpR X (binaryOp o) r) (h2 : Does2N X.K r op') (ha : EB X a ta f) (hb : EB X b tb g) : EN X (.BinOp a o b pos) (tOp r ta tb) (bn op' f g) := ⟨pe_op h1 ha.pe hb.pe, g_opN h2 ha.g hb.g⟩
theorem e_cmp {o : CmpOp} (h1 : OpR X (compareOp o) r) (h2 : Does2 X.K r op') (ha : EB X a ta f) (hb : EB X b tb g) (hm : behindInMarks o b = false := by first | exact nomark _ | rfl) : EE X (.Compare a [o] [b] pos) (tOp r ta tb) (bn op' f g) := ⟨pe_cmpR h1 ha.pe hb.pe hm, g_op h2 ha.g hb.g⟩
/-- a chain of two comparisons -/
def chn (op op' : D → D → Option D) (f g k : Ev) : Ev := fun ρ => (f ρ).bind fun x => (g ρ).bind fun y => match op x y with
  | some (.bool true) => (k ρ).bind fun z => op' y z
  | some (.bool false) => some (.bool false)
  | _ => none
theorem e_chain {o o' : CmpOp} (h1 : OpR X (compareOp o) r) (h1' : OpR X (compareOp o') r') (h2 : Does2 X.K r op') (h2' : Does2 X.K r' op'') (ha : EB X a ta f) (hb : EB X b tb g) (hc : EB X c tc k) (hm : lastMarks [o, o'] [b, c] = false := by with_unfolding_all rfl) : EE X (.Compare a [o, o'] [b, c] pos) (tChain r r' ta tb tc) (chn op' op'' f g k) :=
  ⟨pe_chain h1 h1' ha.pe hb.pe hc.pe hm, fun H0 M0 H M ρ σ Q d E hf q => by
    obtain ⟨x, e1, hf⟩ := bind_some hf
    obtain ⟨y, e2, hf⟩ := bind_some hf
    refine ha.g E e1 fun v H1 s1 r1 => hb.g (E.to s1) e2 fun u H2 s2 r2 => ?_
    have m2 := (E.mkh.same s1).same s2
    split at hf
    · rename_i e3
      refine h2 m2 (r1.same (E.mkh.same s1) s2) r2 e3 fun w H3 s3 r3 => ?_
      obtain ⟨z, e4, hf⟩ := bind_some hf
      cases r3
      refine ⟨true, rfl, ?_⟩
      rw [if_pos rfl]
      refine hc.g ((E.to s1).to (s2.trans s3)) e4 fun w' H4 s4 r4 => ?_
      exact h2' ((m2.same s3).same s4) (r2.same m2 (s3.trans s4)) r4 hf fun v' H' s r => q v' H' (s1.trans (s2.trans (s3.trans (s4.trans s)))) r
    · rename_i e3
      cases hf
      refine h2 m2 (r1.same (E.mkh.same s1) s2) r2 e3 fun w H3 s3 r3 => ?_
      cases r3
      refine ⟨false, rfl, ?_⟩
      rw [if_neg Bool.false_ne_true]
      exact q _ H3 (s1.trans (s2.trans s3)) (.bl false)
    · cases hf⟩
end
end Pu

set_option Elab.async false
set_option linter.all false
set_option maxRecDepth 100000
namespace Pu
open PySem PySem.Spec PyProof.Rows L2

/-! ### operators by values -/
def intsOp (g : Int → Int → D) : D → D → Option D
  | .int i, .int j => some (g i j)
  | _, _ => none
def intsOpC (C : Int → Int → Bool) (g : Int → Int → D) : D → D → Option D
  | .int i, .int j => if C i j = true then some (g i j) else none
  | _, _ => none
def subD : D → D → Option D
  | .int i, .int j => some (.int (i - j))
  | .bool a, .bool b => some (.int (b2i a - b2i b))
  | _, _ => none
/-- products where one side is below 2 ^ 64 -/
def mulOk (i j : Int) : Bool := decide (i.natAbs < 2 ^ 64) || decide (j.natAbs < 2 ^ 64)
def divOk (j : Int) : Bool := decide (j ≠ 0) && decide (j.natAbs < 1073741824)
def fdivD : D → D → Option D := intsOpC (fun _ j => divOk j) fun i j => .int (i.fdiv j)
def modD : D → D → Option D := intsOpC (fun _ j => decide (j ≠ 0)) fun i j => .int (i.fmod j)
def powOk (i j : Int) : Bool := decide (0 ≤ j) && decide (j ≤ 1000000) && decide (i.natAbs < 2 ^ 64)
def powD : D → D → Option D := intsOpC powOk fun i j => .int (i ^ j.toNat)
def shlD : D → D → Option D := intsOpC powOk fun i j => .int (i * 2 ^ j.toNat)
def shrD : D → D → Option D := intsOpC (fun _ j => decide (0 ≤ j)) fun i j => .int (i / 2 ^ j.toNat)
def bandD : D → D → Option D := intsOp fun i j => .int (Builtin.bitAnd i j)
def borD : D → D → Option D := intsOp fun i j => .int (Builtin.bitOr i j)
def addD : D → D → Option D
  | .int i, .int j => some (.int (i + j))
  | .str x, .str y => if x.length + y.length ≤ sizeLine then some (.str (x ++ y)) else none
  | .tuple xs, .tuple ys => if xs.length + ys.length ≤ sizeLine then some (.tuple (xs ++ ys)) else none
  | _, _ => none
def addL : D → D → Option D
  | .list xs, .list ys => if xs.length + ys.length ≤ sizeLine then some (.list (xs ++ ys)) else none
  | _, _ => none
def repS (x : Str) (n : Nat) : Str := ⟨(List.replicate n x.cps).foldl (· ++ ·) #[]⟩
def mulD : D → D → Option D
  | .int i, .int j => if mulOk i j = true then some (.int (i * j)) else none
  | .str x, .int n => if n ≤ 1000 ∧ -(2 ^ 62) < n ∧ x.length ≤ 1000 then some (.str (if n < 1 then Str.empty else if (n == 1 || x.length == 0) = true then x else repS x n.toNat)) else none
  | .tuple xs, .int k => if xs ≠ [] ∧ 2 ≤ k ∧ k ≤ 1000 ∧ xs.length ≤ 1000 then some (.tuple (List.replicate k.toNat xs).flatten) else none
  | _, _ => none
def mulL : D → D → Option D
  | .list xs, .int k => if -(2 ^ 62) < k ∧ k < 2 ^ 62 ∧ xs.length * k.toNat ≤ 2 ^ 24 then some (.list (List.replicate k.toNat xs).flatten) else none
  | _, _ => none

section
variable {X : Cx}
theorem op_sub_bb : OpR X (binaryOp .Sub) (fun x y H Q => ∃ a b, x = .bl a ∧ y = .bl b ∧ Q (.int (b2i a - b2i b)) H) := by
  intro pins s σ H x y v u Q I rx ry h
  obtain ⟨a, b, rfl, rfl, q⟩ := h
  cases (show v = Value.bool a from rx)
  cases (show u = Value.bool b from ry)
  exact sub_bool ⟨.int _, H, I.tok _, ⟨_, rfl⟩, q⟩
/-- lists of any standing put together -/
def rCatL (K : PySem.W.Frag) : R2 := fun x y H Q => ∃ a b xs zs, x = .ref a ∧ y = .ref b ∧ SqL K H a xs ∧ SqL K H b zs ∧ xs.length + zs.length ≤ sizeLine ∧ ∀ p, H p = none → Q (.ref p) (upd H p (.lst (xs ++ zs)))
theorem op_catL : OpR X (binaryOp .Add) (rCatL X.K) := by
  intro pins s σ H x y v u Q I rx ry h
  obtain ⟨a, b, xs, zs, rfl, rfl, ha, hb, hz, q⟩ := h
  cases rx
  cases ry
  obtain ⟨vs, r1, ⟨⟨cls, dd, data, sl⟩, n, ho, hc, _, hd⟩, l1⟩ := I.list ha
  obtain ⟨ws, r2, ⟨⟨cls2, dd2, data2, sl2⟩, n2, ho2, hc2, _, hd2⟩, l2⟩ := I.list hb
  simp only at hc hd hc2 hd2
  subst hc hd hc2 hd2
  have e : vs.toArray ++ ws.toArray = (vs ++ ws).toArray := by simp
  have h1 := r1.length
  have h2 := r2.length
  refine concat_meets ⟨_, ho, rfl⟩ ⟨_, ho2, rfl⟩ noFill_list_add seq_list_add PySem.F.slot_list_add PySem.F.entry_list_add (PySem.F.args_list_add_2 _ _)
    (list_addW a b vs.toArray ws.toArray n n2 dd dd2 sl sl2 (by simp only [List.size_toArray]; omega)) ⟨ho, ho2, ?_⟩
  rw [e]
  exact ⟨.ref _, _, I.lnew (t' := s.toks) (r1.append r2) (by rw [List.length_append]; omega), rfl, q _ I.fresh⟩
def rRepL (K : PySem.W.Frag) : R2 := fun x y H Q => ∃ a xs k, x = .ref a ∧ y = .int k ∧ SqL K H a xs ∧ -(2 ^ 62) < k ∧ k < 2 ^ 62 ∧ xs.length * k.toNat ≤ 2 ^ 24 ∧ ∀ p, H p = none → Q (.ref p) (upd H p (.lst (List.replicate k.toNat xs).flatten))
theorem op_repL : OpR X (binaryOp .Mult) (rRepL X.K) := by
  intro pins s σ H x y v u Q I rx ry h
  obtain ⟨a, xs, k, rfl, rfl, ha, k1, k2, hz, q⟩ := h
  cases rx
  obtain ⟨t, rfl⟩ := ry
  obtain ⟨vs, r1, ⟨⟨cls, dd, data, sl⟩, n, ho, hc, _, hd⟩, l1⟩ := I.list ha
  simp only at hc hd
  subst hc hd
  have hl := r1.length
  have hsz' : vs.toArray.size * k.toNat ≤ 2 ^ 24 := by rw [List.size_toArray, ← hl]; exact hz
  refine wpAny_binaryOp_repeat_ref (T := "list") (U := "int") (by decide) ⟨_, ho, rfl⟩ (fun s' => typeIs_int s' k t) noFill_list_mul PySem.F.fills_int_mul PySem.F.slot_int_rmul repeat_list PySem.F.slot_int_index.lookup
    (call_meets PySem.F.slot_int_rmul (typeIs_int s k t) PySem.F.entry_int_rmul (PySem.F.args_int_rmul_2 _ _) (lm_int_rmul_list_any k t a vs.toArray n dd sl)
      ⟨ho, rfl, ⟨_, ho, rfl⟩, call_meets PySem.F.slot_list_mul ⟨_, ho, rfl⟩ PySem.F.entry_list_mul (PySem.F.args_list_mul_2 _ _)
        (lm_list_mul_any a vs.toArray n dd sl k t (by simp [Builtin.List.listFitsIndex]; omega) (by omega) (by simp [Builtin.List.listTooLong, sizeLine]; omega))
        ⟨ho, ?_⟩⟩)
  rw [listMul_foldl_if]
  exact ⟨.ref _, _, I.lnew (t' := s.toks) (r1.rep k.toNat) (by rw [PyProof.Rows.lm_len_rep_flat, sizeLine_eq, Nat.mul_comm]; omega), rfl, q _ I.fresh⟩
theorem op_mul_str : OpR X (binaryOp .Mult) (fun x y H Q => ∃ z n, x = .str z ∧ y = .int n ∧ n ≤ 1000 ∧ -(2 ^ 62) < n ∧ z.length ≤ 1000 ∧ Q (.str (if n < 1 then Str.empty else if (n == 1 || z.length == 0) = true then z else repS z n.toNat)) H) := by
  intro pins s σ H x y v u Q I rx ry h
  obtain ⟨z, n, rfl, rfl, n1, n2, hz, q⟩ := h
  obtain ⟨t, rfl⟩ := rx
  obtain ⟨t', rfl⟩ := ry
  have hn : (decide (n < -(2 ^ 63 : Int)) || decide (n ≥ 2 ^ 63)) = false := by rw [decide_eq_false (by omega), decide_eq_false (by omega)]; rfl
  refine PySem.P.mul_str hn (fun h1 _ => ?_) (fun h1 _ => ?_) ?_
  · have : (1000 : Int) ≤ (2 ^ 63 - 1) / n := by
      rw [Int.le_ediv_iff_mul_le (by omega)]; omega
    omega
  · have a1 : z.length * n.toNat ≤ 1000 * 1000 := Nat.mul_le_mul hz (by omega)
    unfold Builtin.Str.tooLong
    simp only [decide_eq_false_iff_not, sizeLine_eq]
    omega
  · split
    · rename_i h1
      rw [if_pos h1] at q
      exact ⟨by decide, ⟨.str Str.empty, H, I.tok _, ⟨_, rfl⟩, q⟩⟩
    · rename_i h1
      rw [if_neg h1] at q
      split
      · rename_i h2
        rw [if_pos h2] at q
        exact ⟨.str z, H, I, ⟨_, rfl⟩, q⟩
      · rename_i h2
        rw [if_neg h2] at q
        refine ⟨?_, ⟨.str _, H, I.tok _, ⟨_, rfl⟩, q⟩⟩
        have e1 : ∀ (m : Nat) (a : Array Nat), ((List.replicate m z.cps).foldl (· ++ ·) a).size = a.size + m * z.cps.size := by
          intro m
          induction m with
          | zero => intro a; simp
          | succ m ih => intro a; rw [List.replicate_succ, List.foldl_cons, ih, Array.size_append, Nat.succ_mul]; omega
        show ((List.replicate n.toNat z.cps).foldl (· ++ ·) #[]).size ≤ sizeLine
        rw [e1]
        have a1 : n.toNat * z.cps.size ≤ 1000 * 1000 := Nat.mul_le_mul (by omega) hz
        rw [sizeLine_eq]
        simp only [List.size_toArray, List.length_nil]
        omega
/-- < of alike data -/
def rLtA (K : PySem.W.Frag) : R2 := fun x y H Q => ∃ d e, Dp K H x d ∧ Dp K H y e ∧ PySem.W.alike d e = true ∧ d ≠ .none ∧ d.depth ≤ 60 ∧ Q (.bl (PySem.W.dataLt d e)) H
theorem op_ltA (hu : X.A.units + 64 < cLine) : OpR X (compareOp .Lt) (rLtA X.K) := by
  intro pins s σ H x y v u Q I rx ry h
  obtain ⟨d, e, hd, he, al, nn, dp, q⟩ := h
  obtain ⟨as, r1⟩ := Dp.reads I d x v hd rx
  obtain ⟨bs, r2⟩ := Dp.reads I e y u he ry
  exact PySem.W.rcLt_alike d e X.A s v u as bs r1 r2 al nn (by have := Nat.min_le_left d.depth e.depth; omega) _ _ _ _ ⟨.bl _, H, I, rfl, q⟩
/-- in a tuple, data at any depth -/
def rInT (K : PySem.W.Frag) (neg : Bool) : R2 := fun x y H Q => ∃ d ds, Dp K H x d ∧ Dp K H y (.tuple ds) ∧ SeqAt.shaped d = true ∧ SeqAt.shaped (.tuple ds) = true ∧ Q (.bl (if neg then !(ds.any fun z => PyData.eqv z d) else ds.any fun z => PyData.eqv z d)) H
theorem op_inT (hu : X.A.units + 65 < cLine) : OpR X (compareOp .In) (rInT X.K false) := by
  intro pins s σ H x y v u Q I rx ry h
  obtain ⟨d, ds, hd, he, sd, se, q⟩ := h
  obtain ⟨as, r1⟩ := Dp.reads I d x v hd rx
  obtain ⟨bs, r2⟩ := Dp.reads I (.tuple ds) y u he ry
  exact SeqAt.in_tuple_reads r2 r1 (SeqAt.canLay_of_shaped se) (SeqAt.canLay_of_shaped sd) (room_in_shaped sd hu) ⟨.bl _, H, I, rfl, q⟩
theorem op_notInT (hu : X.A.units + 65 < cLine) : OpR X (compareOp .NotIn) (rInT X.K true) := by
  intro pins s σ H x y v u Q I rx ry h
  obtain ⟨d, ds, hd, he, sd, se, q⟩ := h
  obtain ⟨as, r1⟩ := Dp.reads I d x v hd rx
  obtain ⟨bs, r2⟩ := Dp.reads I (.tuple ds) y u he ry
  exact SeqAt.notIn_tuple_reads r2 r1 (SeqAt.canLay_of_shaped se) (SeqAt.canLay_of_shaped sd) (room_in_shaped sd hu) ⟨.bl _, H, I, rfl, q⟩
end
end Pu

set_option Elab.async false
set_option linter.all false
set_option maxRecDepth 100000
namespace Pu
open PySem PySem.Spec PyProof.Rows L2

/-! ### ints -/
theorem does_ints {K : PySem.W.Frag} {g : Int → Int → V} {g' : Int → Int → D} (h : ∀ i j H M, Rep K H M (g' i j) (g i j)) : Does2 K (rI0 g) (intsOp g') := fun H M x y a b d Q m ra rb e q => by
  cases a <;> cases b <;> first | (simp [intsOp] at e; done) | skip
  simp only [intsOp, Option.some.injEq] at e
  subst e
  exact ⟨_, _, ra.int, rb.int, q _ H (Same.refl H) (h _ _ _ _)⟩
theorem does_intsC {K : PySem.W.Frag} {C : Int → Int → Prop} {C' : Int → Int → Bool} {g : Int → Int → V} {g' : Int → Int → D} (hc : ∀ i j, C' i j = true → C i j) (h : ∀ i j H M, Rep K H M (g' i j) (g i j)) : Does2 K (rI C g) (intsOpC C' g') := fun H M x y a b d Q m ra rb e q => by
  cases a <;> cases b <;> first | (simp [intsOpC] at e; done) | skip
  unfold intsOpC at e
  simp only at e
  split at e
  · rename_i hcc
    cases e
    exact ⟨_, _, ra.int, rb.int, hc _ _ hcc, q _ H (Same.refl H) (h _ _ _ _)⟩
  · cases e
theorem mulOk_C {i j : Int} (h : mulOk i j = true) : CMul i j := by
  unfold mulOk at h
  simp only [Bool.or_eq_true, decide_eq_true_eq] at h
  unfold CMul
  omega
theorem divOk_C {i j : Int} (h : divOk j = true) : CDivN i j := by
  unfold divOk at h
  simp only [Bool.and_eq_true, decide_eq_true_eq] at h
  exact h
theorem powOk_C {i j : Int} (h : powOk i j = true) : CPow i j := by
  unfold powOk at h
  simp only [Bool.and_eq_true, decide_eq_true_eq] at h
  exact ⟨h.1.1, h.1.2, h.2⟩
section
variable {K : PySem.W.Frag}
theorem does_fdiv : Does2 K (rI CDivN fun i j => .int (i.fdiv j)) fdivD := does_intsC (fun _ _ h => divOk_C h) fun _ _ _ _ => .int _
theorem does_mod : Does2 K (rI (fun _ j => j ≠ 0) fun i j => .int (i.fmod j)) modD := does_intsC (fun _ _ h => of_decide_eq_true h) fun _ _ _ _ => .int _
theorem does_pow : Does2 K (rI CPow fun i j => .int (i ^ j.toNat)) powD := does_intsC (fun _ _ h => powOk_C h) fun _ _ _ _ => .int _
theorem does_shl : Does2 K (rI CPow fun i j => .int (i * 2 ^ j.toNat)) shlD := does_intsC (fun _ _ h => powOk_C h) fun _ _ _ _ => .int _
theorem does_shr : Does2 K (rI (fun _ j => 0 ≤ j) fun i j => .int (i / 2 ^ j.toNat)) shrD := does_intsC (fun _ _ h => of_decide_eq_true h) fun _ _ _ _ => .int _
theorem does_band : Does2 K (rI0 fun i j => .int (Builtin.bitAnd i j)) bandD := does_ints fun _ _ _ _ => .int _
theorem does_bor : Does2 K (rI0 fun i j => .int (Builtin.bitOr i j)) borD := does_ints fun _ _ _ _ => .int _
/-! ### +, -, * of several kinds -/
def rAddD (K : PySem.W.Frag) : R2 := fun x y H Q => (rI0 (fun i j => .int (i + j)) x y H Q) ∨ ((∃ i j, x = .str i ∧ y = .str j ∧ i.length + j.length ≤ sizeLine ∧ Q (.str (i ++ j)) H) ∨ rCatA K x y H Q)
theorem does_add : Does2 K (rAddD K) addD := fun H M x y a b d Q m ra rb e q => by
  unfold addD at e
  split at e
  · cases e
    exact .inl ⟨_, _, ra.int, rb.int, q _ H (Same.refl H) (.int _)⟩
  · split at e
    · rename_i hz
      cases e
      exact .inr (.inl ⟨_, _, ra.str, rb.str, hz, q _ H (Same.refl H) (.str _)⟩)
    · cases e
  · split at e
    · rename_i hz
      cases e
      obtain ⟨a1, vs, rfl, h1, r1⟩ := ra.tup
      obtain ⟨b1, us, rfl, h2, r2⟩ := rb.tup
      refine .inr (.inr ⟨_, _, vs, us, rfl, rfl, h1, h2, by rw [← r1.length, ← r2.length]; exact hz, fun e1 => ?_, fun _ e2 => ?_, fun _ _ p np => ?_⟩)
      · subst e1
        cases r1
        exact q _ H (Same.refl H) (.tup h2 r2)
      · subst e2
        cases r2
        rw [List.append_nil] at q
        exact q _ H (Same.refl H) (.tup h1 r1)
      · have s := same_upd (o := .tup (vs ++ us)) np
        exact q _ _ s (.tup (.of upd_same) ((r1.append r2).same m s))
    · cases e
  · cases e
def rSubD : R2 := fun x y H Q => (rI0 (fun i j => .int (i - j)) x y H Q) ∨ (∃ a b, x = .bl a ∧ y = .bl b ∧ Q (.int (b2i a - b2i b)) H)
theorem does_sub : Does2 K rSubD subD := fun H M x y a b d Q m ra rb e q => by
  unfold subD at e
  split at e
  · cases e
    exact .inl ⟨_, _, ra.int, rb.int, q _ H (Same.refl H) (.int _)⟩
  · cases e
    exact .inr ⟨_, _, ra.bl, rb.bl, q _ H (Same.refl H) (.int _)⟩
  · cases e
theorem reps_rep {H : Hp} {M : Addr → Prop} {ds : List D} {vs : List V} (r : Reps K H M ds vs) : ∀ n : Nat, Reps K H M (List.replicate n ds).flatten (List.replicate n vs).flatten
  | 0 => .nil
  | n + 1 => by rw [List.replicate_succ, List.replicate_succ, List.flatten_cons, List.flatten_cons]; exact r.append (reps_rep r n)
def rMulS : R2 := fun x y H Q => ∃ z n, x = .str z ∧ y = .int n ∧ n ≤ 1000 ∧ -(2 ^ 62) < n ∧ z.length ≤ 1000 ∧ Q (.str (if n < 1 then Str.empty else if (n == 1 || z.length == 0) = true then z else repS z n.toNat)) H
def rMulD (K : PySem.W.Frag) : R2 := fun x y H Q => (rI CMul (fun i j => .int (i * j)) x y H Q) ∨ (rMulS x y H Q ∨ rRepT K x y H Q)
theorem does_mul : Does2 K (rMulD K) mulD := fun H M x y a b d Q m ra rb e q => by
  unfold mulD at e
  split at e
  · split at e
    · rename_i hc
      cases e
      exact .inl ⟨_, _, ra.int, rb.int, mulOk_C hc, q _ H (Same.refl H) (.int _)⟩
    · cases e
  · split at e
    · rename_i hc
      cases e
      exact .inr (.inl ⟨_, _, ra.str, rb.int, hc.1, hc.2.1, hc.2.2, q _ H (Same.refl H) (.str _)⟩)
    · cases e
  · split at e
    · rename_i hc
      cases e
      obtain ⟨a1, vs, rfl, h1, r1⟩ := ra.tup
      refine .inr (.inr ⟨_, _, vs, rfl, rb.int, h1, fun z => ?_, hc.2.1, hc.2.2.1, by rw [← r1.length]; exact hc.2.2.2, fun p np => ?_⟩)
      · subst z
        cases r1
        exact hc.1 rfl
      · exact q _ _ (same_upd np) (.tup (.of upd_same) ((reps_rep r1 _).same m (same_upd np)))
    · cases e
  · cases e
theorem does_addL : Does2N K (rCatL K) addL := fun H M x y a b d Q m ra rb e q => by
  unfold addL at e
  split at e
  · split at e
    · rename_i hz
      cases e
      obtain ⟨a1, vs, rfl, h1, r1⟩ := ra.lst
      obtain ⟨b1, us, rfl, h2, r2⟩ := rb.lst
      refine ⟨_, _, vs, us, rfl, rfl, h1, h2, by rw [← r1.length, ← r2.length]; exact hz, fun p np => ?_⟩
      have s := same_upd (o := .lst (vs ++ us)) np
      exact q _ _ np s ⟨_, upd_same, (r1.append r2).stay m (.of_same s) (new_plus np)⟩
    · cases e
  · cases e
theorem does_mulL : Does2N K (rRepL K) mulL := fun H M x y a b d Q m ra rb e q => by
  unfold mulL at e
  split at e
  · split at e
    · rename_i hc
      cases e
      obtain ⟨a1, vs, rfl, h1, r1⟩ := ra.lst
      refine ⟨_, vs, _, rfl, rb.int, h1, hc.1, hc.2.1, by rw [← r1.length]; exact hc.2.2, fun p np => ?_⟩
      exact q _ _ np (same_upd np) ⟨_, upd_same, (reps_rep r1 _).stay m (.of_same (same_upd np)) (new_plus np)⟩
    · cases e
  · cases e
/-! ### comparisons -/
def eqD (a b : D) : Option D := if (SeqAt.shaped a && SeqAt.shaped b) = true then some (.bool (PyData.eqv a b)) else none
def neD (a b : D) : Option D := if (SeqAt.shaped a && SeqAt.shaped b) = true then some (.bool (!PyData.eqv a b)) else none
theorem does_eq : Does2 K (rEqD K) eqD := fun H M x y a b d Q m ra rb e q => by
  unfold eqD at e
  split at e
  · rename_i hc
    cases e
    rw [Bool.and_eq_true] at hc
    exact ⟨a, b, ra.dp (SeqAt.canLay_of_shaped hc.1), rb.dp (SeqAt.canLay_of_shaped hc.2), hc.1, hc.2, q _ H (Same.refl H) (.bl _)⟩
  · cases e
theorem does_ne : Does2 K (rNeD K) neD := fun H M x y a b d Q m ra rb e q => by
  unfold neD at e
  split at e
  · rename_i hc
    cases e
    rw [Bool.and_eq_true] at hc
    exact ⟨a, b, ra.dp (SeqAt.canLay_of_shaped hc.1), rb.dp (SeqAt.canLay_of_shaped hc.2), hc.1, hc.2, q _ H (Same.refl H) (.bl _)⟩
  · cases e
def isNon : D → Bool
  | .none => true
  | _ => false
theorem isNon_of {d : D} (h : isNon d = false) : d ≠ .none := fun e => by subst e; cases h
def ltD : D → D → Option D
  | .int i, .int j => some (.bool (decide (i < j)))
  | a, b => if (a.canLay0 && b.canLay0 && PySem.W.alike a b && decide (a.depth ≤ 60) && !isNon a) = true then some (.bool (PySem.W.dataLt a b)) else none
def rLtD (K : PySem.W.Frag) : R2 := fun x y H Q => (rI0 (fun i j => .bl (decide (i < j))) x y H Q) ∨ rLtA K x y H Q
theorem does_lt : Does2 K (rLtD K) ltD := fun H M x y a b d Q m ra rb e q => by
  unfold ltD at e
  split at e
  · cases e
    exact .inl ⟨_, _, ra.int, rb.int, q _ H (Same.refl H) (.bl _)⟩
  · split at e
    · rename_i hc
      cases e
      simp only [Bool.and_eq_true, decide_eq_true_eq, Bool.not_eq_true'] at hc
      exact .inr ⟨a, b, ra.dp hc.1.1.1.1, rb.dp hc.1.1.1.2, hc.1.1.2, isNon_of hc.2, hc.1.2, q _ H (Same.refl H) (.bl _)⟩
    · cases e
def leD : D → D → Option D := intsOp fun i j => .bool (decide (i ≤ j))
def gtD : D → D → Option D := intsOp fun i j => .bool (decide (j < i))
def geD : D → D → Option D := intsOp fun i j => .bool (decide (j ≤ i))
theorem does_le : Does2 K (rI0 fun i j => .bl (decide (i ≤ j))) leD := does_ints fun _ _ _ _ => .bl _
theorem does_gt : Does2 K (rI0 fun i j => .bl (decide (j < i))) gtD := does_ints fun _ _ _ _ => .bl _
theorem does_ge : Does2 K (rI0 fun i j => .bl (decide (j ≤ i))) geD := does_ints fun _ _ _ _ => .bl _
/-- in a list, a tuple, a text -/
def isIn (d : D) (ds : List D) : Bool := ds.any fun z => PyData.eqv z d
def strIn (i j : Str) : Bool := !(Builtin.Str.occurrences j i 0 j.length 1).isEmpty
def inD : D → D → Option D
  | .str i, .str j => some (.bool (strIn i j))
  | d, .list ds => if (SeqAt.shaped d && SeqAt.shaped (.list ds)) = true then some (.bool (isIn d ds)) else none
  | d, .tuple ds => if (SeqAt.shaped d && SeqAt.shaped (.tuple ds)) = true then some (.bool (isIn d ds)) else none
  | _, _ => none
def notB : D → Option D
  | .bool b => some (.bool (!b))
  | _ => none
def notInD (a b : D) : Option D := (inD a b).bind notB
def rInA (K : PySem.W.Frag) : R2 := fun x y H Q => (∃ i j, x = .str i ∧ y = .str j ∧ Q (.bl (!(Builtin.Str.occurrences j i 0 j.length 1).isEmpty)) H) ∨ (rInD K x y H Q ∨ rInT K false x y H Q)
def rNotInA (K : PySem.W.Frag) : R2 := fun x y H Q => (∃ i j, x = .str i ∧ y = .str j ∧ Q (.bl (!(!(Builtin.Str.occurrences j i 0 j.length 1).isEmpty))) H) ∨ (rNotInD K x y H Q ∨ rInT K true x y H Q)
theorem does_in : Does2 K (rInA K) inD := fun H M x y a b d Q m ra rb e q => by
  unfold inD at e
  split at e
  · cases e
    exact .inl ⟨_, _, ra.str, rb.str, q _ H (Same.refl H) (.bl _)⟩
  · split at e
    · rename_i hc
      cases e
      rw [Bool.and_eq_true] at hc
      exact .inr (.inl ⟨_, _, ra.dp (SeqAt.canLay_of_shaped hc.1), rb.dp (SeqAt.canLay_of_shaped hc.2), hc.1, hc.2, q _ H (Same.refl H) (.bl _)⟩)
    · cases e
  · split at e
    · rename_i hc
      cases e
      rw [Bool.and_eq_true] at hc
      exact .inr (.inr ⟨_, _, ra.dp (SeqAt.canLay_of_shaped hc.1), rb.dp (SeqAt.canLay_of_shaped hc.2), hc.1, hc.2, q _ H (Same.refl H) (.bl _)⟩)
    · cases e
  · cases e
theorem does_notIn : Does2 K (rNotInA K) notInD := fun H M x y a b d Q m ra rb e q => by
  unfold notInD inD at e
  split at e
  · cases e
    exact .inl ⟨_, _, ra.str, rb.str, q _ H (Same.refl H) (.bl _)⟩
  · split at e
    · rename_i hc
      cases e
      rw [Bool.and_eq_true] at hc
      exact .inr (.inl ⟨_, _, ra.dp (SeqAt.canLay_of_shaped hc.1), rb.dp (SeqAt.canLay_of_shaped hc.2), hc.1, hc.2, q _ H (Same.refl H) (.bl _)⟩)
    · cases e
  · split at e
    · rename_i hc
      cases e
      rw [Bool.and_eq_true] at hc
      exact .inr (.inr ⟨_, _, ra.dp (SeqAt.canLay_of_shaped hc.1), rb.dp (SeqAt.canLay_of_shaped hc.2), hc.1, hc.2, q _ H (Same.refl H) (.bl _)⟩)
    · cases e
  · cases e
def isD : D → D → Option D
  | .bool a, .bool b => some (.bool (decide (a = b)))
  | a, .none => some (.bool (isNon a))
  | _, _ => none
def isNotD (a b : D) : Option D := (isD a b).bind notB
def rIsA : R2 := fun x y H Q => (y = .non ∧ Q (.bl (decide (x = .non))) H) ∨ (∃ a b, x = .bl a ∧ y = .bl b ∧ Q (.bl (decide (a = b))) H)
def rIsNotA : R2 := fun x y H Q => (y = .non ∧ Q (.bl (!decide (x = .non))) H) ∨ (∃ a b, x = .bl a ∧ y = .bl b ∧ Q (.bl (!decide (a = b))) H)
theorem RepB.isNon {H : Hp} {M : Addr → Prop} {a : D} {x : V} (r : RepB K H M a x) : decide (x = .non) = isNon a := by
  rcases r with r | ⟨p, rfl, o⟩
  · cases r <;> simp [Pu.isNon]
  · cases a <;> first | (simp [Pu.isNon]; done) | exact o.elim
theorem does_is : Does2 K rIsA isD := fun H M x y a b d Q m ra rb e q => by
  unfold isD at e
  split at e
  · cases e
    exact .inr ⟨_, _, ra.bl, rb.bl, q _ H (Same.refl H) (.bl _)⟩
  · cases e
    exact .inl ⟨rb.non, by rw [ra.isNon]; exact q _ H (Same.refl H) (.bl _)⟩
  · cases e
theorem does_isNot : Does2 K rIsNotA isNotD := fun H M x y a b d Q m ra rb e q => by
  unfold isNotD isD at e
  split at e
  · cases e
    exact .inr ⟨_, _, ra.bl, rb.bl, q _ H (Same.refl H) (.bl _)⟩
  · cases e
    exact .inl ⟨rb.non, by rw [ra.isNon]; exact q _ H (Same.refl H) (.bl _)⟩
  · cases e
end
section
variable {X : Cx} {a b c : Expr} {ta tb tc : TE} {f g k : Ev} {pos : Pos} {n : Nat}
theorem x_add (ha : EB X a ta f) (hb : EB X b tb g) : EE X (.BinOp a .Add b pos) (tOp (rAddD X.K) ta tb) (bn addD f g) := e_op (op_add.or (op_add_str.or op_catA)) does_add ha hb
theorem x_sub (ha : EB X a ta f) (hb : EB X b tb g) : EE X (.BinOp a .Sub b pos) (tOp rSubD ta tb) (bn subD f g) := e_op (op_sub.or op_sub_bb) does_sub ha hb
theorem x_mul (ha : EB X a ta f) (hb : EB X b tb g) : EE X (.BinOp a .Mult b pos) (tOp (rMulD X.K) ta tb) (bn mulD f g) := e_op (op_mul.or (op_mul_str.or op_repT)) does_mul ha hb
theorem x_fdiv (ha : EB X a ta f) (hb : EB X b tb g) : EE X (.BinOp a .FloorDiv b pos) (tOp (rI CDivN fun i j => .int (i.fdiv j)) ta tb) (bn fdivD f g) := e_op op_fdivN does_fdiv ha hb
theorem x_mod (ha : EB X a ta f) (hb : EB X b tb g) : EE X (.BinOp a .Mod b pos) (tOp (rI (fun _ j => j ≠ 0) fun i j => .int (i.fmod j)) ta tb) (bn modD f g) := e_op op_modN does_mod ha hb
theorem x_pow (ha : EB X a ta f) (hb : EB X b tb g) : EE X (.BinOp a .Pow b pos) (tOp (rI CPow fun i j => .int (i ^ j.toNat)) ta tb) (bn powD f g) := e_op op_pow does_pow ha hb
theorem x_shl (ha : EB X a ta f) (hb : EB X b tb g) : EE X (.BinOp a .LShift b pos) (tOp (rI CPow fun i j => .int (i * 2 ^ j.toNat)) ta tb) (bn shlD f g) := e_op op_shl does_shl ha hb
theorem x_shr (ha : EB X a ta f) (hb : EB X b tb g) : EE X (.BinOp a .RShift b pos) (tOp (rI (fun _ j => 0 ≤ j) fun i j => .int (i / 2 ^ j.toNat)) ta tb) (bn shrD f g) := e_op op_shr does_shr ha hb
theorem x_band (ha : EB X a ta f) (hb : EB X b tb g) : EE X (.BinOp a .BitAnd b pos) (tOp (rI0 fun i j => .int (Builtin.bitAnd i j)) ta tb) (bn bandD f g) := e_op op_and does_band ha hb
theorem x_bor (ha : EB X a ta f) (hb : EB X b tb g) : EE X (.BinOp a .BitOr b pos) (tOp (rI0 fun i j => .int (Builtin.bitOr i j)) ta tb) (bn borD f g) := e_op op_or does_bor ha hb
theorem n_add (ha : EB X a ta f) (hb : EB X b tb g) : EN X (.BinOp a .Add b pos) (tOp (rCatL X.K) ta tb) (bn addL f g) := n_op op_catL does_addL ha hb
theorem n_mul (ha : EB X a ta f) (hb : EB X b tb g) : EN X (.BinOp a .Mult b pos) (tOp (rRepL X.K) ta tb) (bn mulL f g) := n_op op_repL does_mulL ha hb
theorem x_eq (hr : Room n X.A) (ha : EB X a ta f) (hb : EB X b tb g) : EE X (.Compare a [.Eq] [b] pos) (tOp (rEqD X.K) ta tb) (bn eqD f g) := e_cmp (op_eqD hr.units) does_eq ha hb
theorem x_ne (hr : Room n X.A) (ha : EB X a ta f) (hb : EB X b tb g) : EE X (.Compare a [.NotEq] [b] pos) (tOp (rNeD X.K) ta tb) (bn neD f g) := e_cmp (op_neD hr.units) does_ne ha hb
theorem x_lt (hr : Room n X.A) (ha : EB X a ta f) (hb : EB X b tb g) : EE X (.Compare a [.Lt] [b] pos) (tOp (rLtD X.K) ta tb) (bn ltD f g) := e_cmp (op_lt.or (op_ltA hr.units)) does_lt ha hb
theorem x_le (ha : EB X a ta f) (hb : EB X b tb g) : EE X (.Compare a [.LtE] [b] pos) (tOp (rI0 fun i j => .bl (decide (i ≤ j))) ta tb) (bn leD f g) := e_cmp op_le does_le ha hb
theorem x_gt (ha : EB X a ta f) (hb : EB X b tb g) : EE X (.Compare a [.Gt] [b] pos) (tOp (rI0 fun i j => .bl (decide (j < i))) ta tb) (bn gtD f g) := e_cmp op_gt does_gt ha hb
theorem x_ge (ha : EB X a ta f) (hb : EB X b tb g) : EE X (.Compare a [.GtE] [b] pos) (tOp (rI0 fun i j => .bl (decide (j ≤ i))) ta tb) (bn geD f g) := e_cmp op_ge does_ge ha hb
theorem hu65 {n : Nat} {A : Around} (hr : Room n A) : A.units + 65 < cLine := by have := hr.un; omega
theorem x_in (hr : Room n X.A) (ha : EB X a ta f) (hb : EB X b tb g) (hm : behindInMarks .In b = false := by rfl) : EE X (.Compare a [.In] [b] pos) (tOp (rInA X.K) ta tb) (bn inD f g) := e_cmp (op_in_str.or ((op_inD (hu65 hr)).or (op_inT (hu65 hr)))) does_in ha hb hm
theorem x_notIn (hr : Room n X.A) (ha : EB X a ta f) (hb : EB X b tb g) (hm : behindInMarks .NotIn b = false := by rfl) : EE X (.Compare a [.NotIn] [b] pos) (tOp (rNotInA X.K) ta tb) (bn notInD f g) := e_cmp (op_notin_str.or ((op_notInD (hu65 hr)).or (op_notInT (hu65 hr)))) does_notIn ha hb hm
theorem x_is (ha : EB X a ta f) (hb : EB X b tb g) : EE X (.Compare a [.Is] [b] pos) (tOp rIsA ta tb) (bn isD f g) := e_cmp (op_isN.or op_is_bl) does_is ha hb
theorem x_isNot (ha : EB X a ta f) (hb : EB X b tb g) : EE X (.Compare a [.IsNot] [b] pos) (tOp rIsNotA ta tb) (bn isNotD f g) := e_cmp (op_notN.or op_isnot_bl) does_isNot ha hb
end
end Pu

set_option Elab.async false
set_option linter.all false
set_option maxRecDepth 100000
namespace Pu
open PySem PySem.Spec PyProof.Rows L2

/-! ### tests -/
abbrev Et := Env → Option Bool
def GT (K : PySem.W.Frag) (t : TT) (g : Et) : Prop := ∀ ⦃H0 : Hp⦄ ⦃M0 : Addr → Prop⦄ ⦃H : Hp⦄ ⦃M : Addr → Prop⦄ ⦃ρ : Env⦄ ⦃σ : L2.St⦄ ⦃Q : Bool → Hp → Prop⦄ ⦃b : Bool⦄, EnvOk K H0 M0 H M ρ σ → g ρ = some b → (∀ H', Same H H' → Q b H') → t σ H Q
structure ET (X : Cx) (e : Expr) (t : TT) (g : Et) : Prop where
  pt : PT X e t
  g : GT X.K t g
structure EW (X : Cx) (e : Expr) (t : TT) (g : Et) : Prop where
  pw : PW X e t
  g : GT X.K t g
def boolOf : D → Option Bool
  | .bool b => some b
  | _ => none
def truD : D → Option Bool
  | .none => some false
  | .bool b => some b
  | .int i => some (i != 0)
  | .str x => if x.length ≤ sizeLine then some ((x.length : Int) != 0) else none
  | .list ds => some (!ds.isEmpty)
  | .tuple ds => some (!ds.isEmpty)
  | .dict _ => none
def ts (k : D → Option Bool) (f : Ev) : Et := fun ρ => (f ρ).bind k
theorem isEmpty_reps {K : PySem.W.Frag} {H : Hp} {M : Addr → Prop} {ds : List D} {vs : List V} (r : Reps K H M ds vs) : ds.isEmpty = vs.isEmpty := by cases r <;> rfl
theorem g_test {K : PySem.W.Frag} {t : TE} {f : Ev} (h : GE K t f) : GT K (tTest t) (ts boolOf f) := fun H0 M0 H M ρ σ Q b E hf q => by
  obtain ⟨d, e1, hf⟩ := bind_some hf
  refine h E e1 fun v H' s r => ?_
  unfold boolOf at hf
  split at hf
  · cases hf
    cases r
    exact ⟨_, rfl, q H' s⟩
  · cases hf
theorem g_tru {K : PySem.W.Frag} {t : TE} {f : Ev} (h : GB K t f) : GT K (fun σ H Q => t σ H fun x H' => ∃ k, TruV K x H' k ∧ Q k H') (ts truD f) := fun H0 M0 H M ρ σ Q b E hf q => by
  obtain ⟨d, e1, hf⟩ := bind_some hf
  refine h E e1 fun v H' s r => ⟨b, ?_, q H' s⟩
  unfold truD at hf
  split at hf
  · cases hf; rw [r.non]; rfl
  · cases hf; rw [r.bl]; rfl
  · cases hf; rw [r.int]; rfl
  · split at hf
    · rename_i hz
      cases hf; rw [r.str]; exact ⟨hz, rfl⟩
    · cases hf
  · cases hf
    obtain ⟨a, vs, rfl, h1, r1⟩ := r.lst
    exact .inl ⟨vs, h1, by rw [isEmpty_reps r1]⟩
  · cases hf
    obtain ⟨a, vs, rfl, h1, r1⟩ := r.tup
    exact .inr (.inl ⟨vs, h1, by rw [isEmpty_reps r1]⟩)
  · cases hf
section
variable {X : Cx} {a b c e : Expr} {ta tb tc te : TE} {f g k : Ev} {pos : Pos} {r r' : R2} {op' op'' : D → D → Option D} {t u : TT} {gt gu : Et} {rest : List Expr} {n : Nat}
theorem t_cmp {o : CmpOp} (h1 : OpR X (compareOp o) r) (h2 : Does2 X.K r op') (ha : EB X a ta f) (hb : EB X b tb g) (hm : behindInMarks o b = false := by first | exact nomark _ | rfl) : ET X (.Compare a [o] [b] pos) (tTest (tOp r ta tb)) (ts boolOf (bn op' f g)) := ⟨pt_cmpR h1 ha.pe hb.pe hm, g_test (g_op h2 ha.g hb.g)⟩
theorem g_chain (h2 : Does2 X.K r op') (h2' : Does2 X.K r' op'') (ha : GB X.K ta f) (hb : GB X.K tb g) (hc : GB X.K tc k) : GE X.K (tChain r r' ta tb tc) (chn op' op'' f g k) := fun H0 M0 H M ρ σ Q d E hf q => by
    obtain ⟨x, e1, hf⟩ := bind_some hf
    obtain ⟨y, e2, hf⟩ := bind_some hf
    refine ha E e1 fun v H1 s1 r1 => hb (E.to s1) e2 fun u H2 s2 r2 => ?_
    have m2 := (E.mkh.same s1).same s2
    split at hf
    · rename_i e3
      refine h2 m2 (r1.same (E.mkh.same s1) s2) r2 e3 fun w H3 s3 r3 => ?_
      obtain ⟨z, e4, hf⟩ := bind_some hf
      cases r3
      refine ⟨true, rfl, ?_⟩
      rw [if_pos rfl]
      refine hc ((E.to s1).to (s2.trans s3)) e4 fun w' H4 s4 r4 => ?_
      exact h2' ((m2.same s3).same s4) (r2.same m2 (s3.trans s4)) r4 hf fun v' H' s r => q v' H' (s1.trans (s2.trans (s3.trans (s4.trans s)))) r
    · rename_i e3
      cases hf
      refine h2 m2 (r1.same (E.mkh.same s1) s2) r2 e3 fun w H3 s3 r3 => ?_
      cases r3
      refine ⟨false, rfl, ?_⟩
      rw [if_neg Bool.false_ne_true]
      exact q _ H3 (s1.trans (s2.trans s3)) (.bl false)
    · cases hf
theorem t_chain {o o' : CmpOp} (h1 : OpR X (compareOp o) r) (h1' : OpR X (compareOp o') r') (h2 : Does2 X.K r op') (h2' : Does2 X.K r' op'') (ha : EB X a ta f) (hb : EB X b tb g) (hc : EB X c tc k) (hm : lastMarks [o, o'] [b, c] = false := by with_unfolding_all rfl) :
    ET X (.Compare a [o, o'] [b, c] pos) (tTest (tChain r r' ta tb tc)) (ts boolOf (chn op' op'' f g k)) := ⟨pt_chain h1 h1' ha.pe hb.pe hc.pe hm, g_test (g_chain h2 h2' ha.g hb.g hc.g)⟩
theorem t_tru (ha : EB X a ta f) (he : ∀ whole, isTrue a X.env whole = (do let v ← whole; standAt a.pos; holding [v] (truthy v)) := by intro _; rfl) : ET X a (fun σ H Q => ta σ H fun x H' => ∃ k, TruV X.K x H' k ∧ Q k H') (ts truD f) := ⟨pt_truth ha.pe he, g_tru ha.g⟩
theorem EW.toT (h : EW X e t gt) : ET X e t gt := ⟨h.pw.pt, h.g⟩
def andB (f g : Et) : Et := fun ρ => (f ρ).bind fun b => if b = true then g ρ else some false
def orB (f g : Et) : Et := fun ρ => (f ρ).bind fun b => if b = true then some true else g ρ
theorem g_and {K : PySem.W.Frag} (h1 : GT K t gt) (h2 : GT K u gu) : GT K (tAnd t u) (andB gt gu) := fun H0 M0 H M ρ σ Q b E hf q => by
  obtain ⟨d, e1, hf⟩ := bind_some hf
  refine h1 E e1 fun H1 s1 => ?_
  cases d with
  | true => rw [if_pos rfl] at hf ⊢; exact h2 (E.to s1) hf fun H2 s2 => q H2 (s1.trans s2)
  | false => rw [if_neg Bool.false_ne_true] at hf ⊢; cases hf; exact q H1 s1
theorem g_or {K : PySem.W.Frag} (h1 : GT K t gt) (h2 : GT K u gu) : GT K (tOr t u) (orB gt gu) := fun H0 M0 H M ρ σ Q b E hf q => by
  obtain ⟨d, e1, hf⟩ := bind_some hf
  refine h1 E e1 fun H1 s1 => ?_
  cases d with
  | true => rw [if_pos rfl] at hf ⊢; cases hf; exact q H1 s1
  | false => rw [if_neg Bool.false_ne_true] at hf ⊢; exact h2 (E.to s1) hf fun H2 s2 => q H2 (s1.trans s2)
theorem w_and1 (h : ET X a t gt) : EW X (.BoolOp .And [a] pos) t gt := ⟨pw_and1 h.pt, h.g⟩
theorem w_or1 (h : ET X a t gt) : EW X (.BoolOp .Or [a] pos) t gt := ⟨pw_or1 h.pt, h.g⟩
theorem w_and (h : ET X a t gt) (h2 : EW X (.BoolOp .And (b :: rest) pos) u gu) : EW X (.BoolOp .And (a :: b :: rest) pos) (tAnd t u) (andB gt gu) := ⟨pw_and h.pt h2.pw, g_and h.g h2.g⟩
theorem w_or (h : ET X a t gt) (h2 : EW X (.BoolOp .Or (b :: rest) pos) u gu) : EW X (.BoolOp .Or (a :: b :: rest) pos) (tOr t u) (orB gt gu) := ⟨pw_or h.pt h2.pw, g_or h.g h2.g⟩
def notT (f : Et) : Et := fun ρ => (f ρ).map (!·)
theorem t_not (h : ET X a t gt) : ET X (.UnaryOp .Not a pos) (tNot t) (notT gt) := ⟨pt_not h.pt, fun H0 M0 H M ρ σ Q b E hf q => by
  unfold notT at hf
  cases e1 : gt ρ with
  | none => rw [e1] at hf; cases hf
  | some c =>
    rw [e1] at hf
    cases hf
    exact h.g E e1 fun H' s => q H' s⟩
/-! as values -/
def andV (f g : Ev) : Ev := fun ρ => (f ρ).bind fun d => match d with
  | .bool true => g ρ
  | .bool false => some (.bool false)
  | _ => none
def orV (f g : Ev) : Ev := fun ρ => (f ρ).bind fun d => match d with
  | .bool true => some (.bool true)
  | .bool false => g ρ
  | _ => none
theorem v_one {op : PySem.BoolOp} (h : EE X a ta f) : EE X (.BoolOp op [a] pos) ta f := ⟨pe_one h.pe, h.g⟩
theorem v_and (h : EE X a ta f) (h2 : EE X (.BoolOp .And (b :: rest) pos) tb g) : EE X (.BoolOp .And (a :: b :: rest) pos) (tAndV ta tb) (andV f g) := ⟨pe_and h.pe h2.pe, fun H0 M0 H M ρ σ Q d E hf q => by
  obtain ⟨x, e1, hf⟩ := bind_some hf
  refine h.g E e1 fun v H1 s1 r1 => ?_
  split at hf
  · cases r1
    refine ⟨true, rfl, ?_⟩
    rw [if_pos rfl]
    exact h2.g (E.to s1) hf fun v H2 s2 r => q v H2 (s1.trans s2) r
  · cases r1
    cases hf
    refine ⟨false, rfl, ?_⟩
    rw [if_neg Bool.false_ne_true]
    exact q _ H1 s1 (.bl false)
  · cases hf⟩
theorem v_or (h : EE X a ta f) (h2 : EE X (.BoolOp .Or (b :: rest) pos) tb g) : EE X (.BoolOp .Or (a :: b :: rest) pos) (tOrV ta tb) (orV f g) := ⟨pe_or h.pe h2.pe, fun H0 M0 H M ρ σ Q d E hf q => by
  obtain ⟨x, e1, hf⟩ := bind_some hf
  refine h.g E e1 fun v H1 s1 r1 => ?_
  split at hf
  · cases r1
    cases hf
    refine ⟨true, rfl, ?_⟩
    rw [if_pos rfl]
    exact q _ H1 s1 (.bl true)
  · cases r1
    refine ⟨false, rfl, ?_⟩
    rw [if_neg Bool.false_ne_true]
    exact h2.g (E.to s1) hf fun v H2 s2 r => q v H2 (s1.trans s2) r
  · cases hf⟩
/-- not a, a truth value -/
theorem v_not (h : EE X a ta f) : EE X (.UnaryOp .Not a pos) (tNotV ta) (un notB f) := ⟨pe_not h.pe, fun H0 M0 H M ρ σ Q d E hf q => by
  obtain ⟨x, e1, hf⟩ := bind_some hf
  refine h.g E e1 fun v H1 s1 r1 => ?_
  unfold notB at hf
  split at hf
  · cases hf
    cases r1
    exact ⟨_, rfl, q _ H1 s1 (.bl _)⟩
  · cases hf⟩
/-- a if c else b -/
def ifV (c : Et) (f g : Ev) : Ev := fun ρ => (c ρ).bind fun b => if b = true then f ρ else g ρ
theorem v_if (hc : ET X c t gt) (ha : EE X a ta f) (hb : EE X b tb g) : EE X (.IfExp c a b pos) (tIf t ta tb) (ifV gt f g) := ⟨pe_ifExp hc.pt ha.pe hb.pe, fun H0 M0 H M ρ σ Q d E hf q => by
  obtain ⟨x, e1, hf⟩ := bind_some hf
  refine hc.g E e1 fun H1 s1 => ?_
  cases x with
  | true => rw [if_pos rfl] at hf ⊢; exact ha.g (E.to s1) hf fun v H2 s2 r => q v H2 (s1.trans s2) r
  | false => rw [if_neg Bool.false_ne_true] at hf ⊢; exact hb.g (E.to s1) hf fun v H2 s2 r => q v H2 (s1.trans s2) r⟩
def negD : D → Option D
  | .int i => some (.int (-i))
  | _ => none
theorem v_neg (h : EE X a ta f) : EE X (.UnaryOp .USub a pos) (tUn (rU fun i => .int (-i)) ta) (un negD f) := ⟨pe_un un_neg h.pe, fun H0 M0 H M ρ σ Q d E hf q => by
  obtain ⟨x, e1, hf⟩ := bind_some hf
  refine h.g E e1 fun v H1 s1 r1 => ?_
  unfold negD at hf
  split at hf
  · cases hf
    cases r1
    exact ⟨_, rfl, q _ H1 s1 (.int _)⟩
  · cases hf⟩
end

/-! ### argument lists -/
inductive RepsB (K : PySem.W.Frag) (H : Hp) (M : Addr → Prop) : List D → List V → Prop
  | nil : RepsB K H M [] []
  | cons {d : D} {v : V} {ds : List D} {vs : List V} : RepB K H M d v → RepsB K H M ds vs → RepsB K H M (d :: ds) (v :: vs)
theorem RepsB.same {K : PySem.W.Frag} {H H' : Hp} {M : Addr → Prop} (m : MK H M) (s : Same H H') : ∀ {ds : List D} {vs : List V}, RepsB K H M ds vs → RepsB K H' M ds vs
  | _, _, .nil => .nil
  | _, _, .cons r t => .cons (r.same m s) (RepsB.same m s t)
theorem Reps.b {K : PySem.W.Frag} {H : Hp} {M : Addr → Prop} : ∀ {ds : List D} {vs : List V}, Reps K H M ds vs → RepsB K H M ds vs
  | _, _, .nil => .nil
  | _, _, .cons r t => .cons r.b (Reps.b t)
abbrev Es := Env → Option (List D)
def GA (K : PySem.W.Frag) (t : TA) (f : Es) : Prop := ∀ ⦃H0 : Hp⦄ ⦃M0 : Addr → Prop⦄ ⦃H : Hp⦄ ⦃M : Addr → Prop⦄ ⦃ρ : Env⦄ ⦃σ : L2.St⦄ ⦃Q : List V → Hp → Prop⦄ ⦃ds : List D⦄, EnvOk K H0 M0 H M ρ σ → f ρ = some ds → (∀ vs H', Same H H' → Reps K H' M ds vs → Q vs H') → t σ H Q
def GAB (K : PySem.W.Frag) (t : TA) (f : Es) : Prop := ∀ ⦃H0 : Hp⦄ ⦃M0 : Addr → Prop⦄ ⦃H : Hp⦄ ⦃M : Addr → Prop⦄ ⦃ρ : Env⦄ ⦃σ : L2.St⦄ ⦃Q : List V → Hp → Prop⦄ ⦃ds : List D⦄, EnvOk K H0 M0 H M ρ σ → f ρ = some ds → (∀ vs H', Same H H' → RepsB K H' M ds vs → Q vs H') → t σ H Q
structure AE (X : Cx) (es : List Expr) (t : TA) (f : Es) : Prop where
  pa : PA X es t
  g : GA X.K t f
  ln : ∀ ρ ds, f ρ = some ds → ds.length = es.length
structure AB (X : Cx) (es : List Expr) (t : TA) (f : Es) : Prop where
  pa : PA X es t
  g : GAB X.K t f
  ln : ∀ ρ ds, f ρ = some ds → ds.length = es.length
def nl : Es := fun _ => some []
def cs (f : Ev) (g : Es) : Es := fun ρ => (f ρ).bind fun d => (g ρ).bind fun ds => some (d :: ds)
theorem cs_len {f : Ev} {g : Es} {n : Nat} (h : ∀ ρ ds, g ρ = some ds → ds.length = n) : ∀ ρ ds, cs f g ρ = some ds → ds.length = n + 1 := fun ρ ds e => by
  obtain ⟨x, _, e⟩ := bind_some e
  obtain ⟨xs, e2, e⟩ := bind_some e
  cases e
  exact congrArg (· + 1) (h ρ xs e2)
section
variable {X : Cx} {a b e : Expr} {es : List Expr} {ta tb te : TE} {t : TA} {f g : Ev} {fs : Es} {pos : Pos}
theorem a_nil : AE X [] tNil nl := ⟨pa_nil, fun H0 M0 H M ρ σ Q ds E hf q => by cases hf; exact q [] H (Same.refl H) .nil, fun _ _ e => by cases e; rfl⟩
theorem b_nil : AB X [] tNil nl := ⟨pa_nil, fun H0 M0 H M ρ σ Q ds E hf q => by cases hf; exact q [] H (Same.refl H) .nil, fun _ _ e => by cases e; rfl⟩
theorem a_cons (h : EE X a ta f) (h2 : AE X es t fs) (hs : starEach (a :: es) X.env = (false, eval a X.env) :: starEach es X.env := by rfl) : AE X (a :: es) (tCons ta t) (cs f fs) := ⟨pa_cons h.pe h2.pa hs, fun H0 M0 H M ρ σ Q ds E hf q => by
  obtain ⟨x, e1, hf⟩ := bind_some hf
  obtain ⟨xs, e2, hf⟩ := bind_some hf
  cases hf
  exact h.g E e1 fun v H1 s1 r1 => h2.g (E.to s1) e2 fun vs H2 s2 r2 => q _ H2 (s1.trans s2) (.cons (r1.same (E.mkh.same s1) s2) r2), cs_len h2.ln⟩
theorem b_cons (h : EB X a ta f) (h2 : AB X es t fs) (hs : starEach (a :: es) X.env = (false, eval a X.env) :: starEach es X.env := by rfl) : AB X (a :: es) (tCons ta t) (cs f fs) := ⟨pa_cons h.pe h2.pa hs, fun H0 M0 H M ρ σ Q ds E hf q => by
  obtain ⟨x, e1, hf⟩ := bind_some hf
  obtain ⟨xs, e2, hf⟩ := bind_some hf
  cases hf
  exact h.g E e1 fun v H1 s1 r1 => h2.g (E.to s1) e2 fun vs H2 s2 r2 => q _ H2 (s1.trans s2) (.cons (r1.same (E.mkh.same s1) s2) r2), cs_len h2.ln⟩
/-! ### displays -/
def mkT (fs : Es) : Ev := fun ρ => (fs ρ).bind fun ds => if ds.length ≤ sizeLine then some (.tuple ds) else none
def mkL (fs : Es) : Ev := fun ρ => (fs ρ).bind fun ds => if ds.length ≤ sizeLine then some (.list ds) else none
theorem d_tup {x1 : Nat} (h : AE X es t fs) : EE X (.Tuple es x1 pos) (tTup t) (mkT fs) := ⟨pe_tup h.pa, fun H0 M0 H M ρ σ Q d E hf q => by
  obtain ⟨xs, e1, hf⟩ := bind_some hf
  split at hf
  · rename_i hz
    cases hf
    refine h.g E e1 fun vs H1 s1 r1 => ⟨by rw [← r1.length]; exact hz, fun p np => ?_⟩
    have s := same_upd (o := .tup vs) np
    exact q _ _ (s1.trans s) (.tup (.of upd_same) (r1.same (E.mkh.same s1) s))
  · cases hf⟩
theorem d_lst (h : AE X es t fs) : EN X (.List es pos) (tLst t) (mkL fs) := ⟨pe_lst h.pa, fun H0 M0 H M ρ σ Q d E hf q => by
  obtain ⟨xs, e1, hf⟩ := bind_some hf
  split at hf
  · rename_i hz
    cases hf
    refine h.g E e1 fun vs H1 s1 r1 => ⟨by rw [← r1.length]; exact hz, fun p np => ?_⟩
    have s := same_upd (o := .lst vs) np
    exact q _ _ (s1.free np) (s1.trans s) ⟨_, upd_same, r1.stay (E.mkh.same s1) (.of_same s) (new_plus np)⟩
  · cases hf⟩
end
/-! ### subscripts -/
def ixD : D → D → Option D
  | .list ds, .int i => atI ds i
  | .tuple ds, .int i => atI ds i
  | .str z, .int i => if z.length ≤ sizeLine then (atI z.cps.toList i).map fun c => .str ⟨#[c]⟩ else none
  | _, _ => none
section
variable {K : PySem.W.Frag} {H : Hp} {M : Addr → Prop}
theorem Reps.atI {ds : List D} {vs : List V} {i : Int} {d : D} (r : Reps K H M ds vs) (e : L2.atI ds i = some d) : ∃ v, L2.atI vs i = some v ∧ Rep K H M d v := by
  unfold L2.atI at e ⊢
  rw [← r.length]
  obtain ⟨j, e1, e2⟩ := bind_some e
  obtain ⟨v, h1, h2⟩ := r.get e2
  exact ⟨v, by rw [e1]; exact h1, h2⟩
theorem does_ix : Does2 K (rIx K) ixD := fun H M x y a b d Q m ra rb e q => by
  unfold ixD at e
  split at e
  · obtain ⟨p, vs, rfl, h1, r1⟩ := ra.lst
    obtain ⟨v, e1, r⟩ := r1.atI e
    exact .inl ⟨p, vs, _, v, rfl, rb.int, h1, e1, q _ H (Same.refl H) r⟩
  · obtain ⟨p, vs, rfl, h1, r1⟩ := ra.tup
    obtain ⟨v, e1, r⟩ := r1.atI e
    exact .inr (.inl ⟨p, vs, _, v, rfl, rb.int, h1, e1, q _ H (Same.refl H) r⟩)
  · split at e
    · rename_i hz
      obtain ⟨c, e1, e2⟩ := Option.map_eq_some_iff.mp e
      subst e2
      exact .inr (.inr ⟨_, _, c, ra.str, rb.int, hz, e1, q _ H (Same.refl H) (.str _)⟩)
    · cases e
  · cases e
end
/-! ### slices -/
abbrev Eo := Env → Option (Option Int)
def GO (K : PySem.W.Frag) (t : TO) (f : Eo) : Prop := ∀ ⦃H0 : Hp⦄ ⦃M0 : Addr → Prop⦄ ⦃H : Hp⦄ ⦃M : Addr → Prop⦄ ⦃ρ : Env⦄ ⦃σ : L2.St⦄ ⦃Q : Option Int → Hp → Prop⦄ ⦃o : Option Int⦄, EnvOk K H0 M0 H M ρ σ → f ρ = some o → (∀ H', Same H H' → Q o H') → t σ H Q
structure EO (X : Cx) (e : Option Expr) (t : TO) (f : Eo) : Prop where
  po : PO X e t
  g : GO X.K t f
def noPart : Eo := fun _ => some none
def intOf : D → Option (Option Int)
  | .int i => some (some i)
  | _ => none
def part (f : Ev) : Eo := fun ρ => (f ρ).bind intOf
def cutD (ds : List D) (lo hi : Option Int) : List D := (ds.drop (HT.sIx ds.length 0 lo)).take (HT.sIx ds.length ds.length hi - HT.sIx ds.length 0 lo)
def slD (x : D) (lo hi : Option Int) : Option D := match x with
  | .tuple ds => some (.tuple (cutD ds lo hi))
  | .str z => if z.length ≤ sizeLine then some (.str (cutS z lo hi)) else none
  | _ => none
def slL (x : D) (lo hi : Option Int) : Option D := match x with
  | .list ds => some (.list (cutD ds lo hi))
  | _ => none
def sl (k : D → Option Int → Option Int → Option D) (f : Ev) (lo hi : Eo) : Ev := fun ρ => (f ρ).bind fun x => (lo ρ).bind fun l => (hi ρ).bind fun h => k x l h
theorem Reps.cut {K : PySem.W.Frag} {H : Hp} {M : Addr → Prop} {ds : List D} {vs : List V} (r : Reps K H M ds vs) (lo hi : Option Int) : Reps K H M (cutD ds lo hi) (cutV vs lo hi) := by
  unfold cutD cutV
  rw [r.length]
  exact (r.drop _).take _
theorem cut_whole {ds : List D} {lo hi : Option Int} (h : HT.sIx ds.length 0 lo = 0 ∧ HT.sIx ds.length ds.length hi = ds.length) : cutD ds lo hi = ds := by
  unfold cutD
  rw [h.1, h.2, List.drop_zero, Nat.sub_zero, List.take_length]
section
variable {X : Cx} {a b e : Expr} {lo hi : Option Expr} {ta tb te : TE} {tl th : TO} {f g : Ev} {fl fh : Eo} {pos p2 : Pos}
theorem s_no : EO X none tNoPart noPart := ⟨po_none, fun H0 M0 H M ρ σ Q o E hf q => by cases hf; exact q H (Same.refl H)⟩
theorem s_at (h : EE X e te f) : EO X (some e) (tPart te) (part f) := ⟨po_some h.pe, fun H0 M0 H M ρ σ Q o E hf q => by
  obtain ⟨x, e1, hf⟩ := bind_some hf
  refine h.g E e1 fun v H1 s1 r1 => ?_
  unfold intOf at hf
  split at hf
  · cases hf; cases r1; exact ⟨_, rfl, q H1 s1⟩
  · cases hf⟩
def rSlX (K : PySem.W.Frag) : V → Option Int → Option Int → Hp → VK → Prop := fun x lo hi H Q => rSlA K x lo hi H Q ∨ rSlS x lo hi H Q
theorem x_sl (he : EB X e te f) (hl : EO X lo tl fl) (hh : EO X hi th fh) : EE X (.Subscript e (.Slice lo hi none p2) pos) (tSl (rSlX X.K) te tl th) (sl slD f fl fh) := ⟨pe_slice (sl_tupA.or sl_str) he.pe hl.po hh.po, fun H0 M0 H M ρ σ Q d E hf q => by
  obtain ⟨x, e1, hf⟩ := bind_some hf
  obtain ⟨l, e2, hf⟩ := bind_some hf
  obtain ⟨h, e3, hf⟩ := bind_some hf
  refine he.g E e1 fun v H1 s1 r1 => hl.g (E.to s1) e2 fun H2 s2 => hh.g ((E.to s1).to s2) e3 fun H3 s3 => ?_
  have m3 := E.mkh.same (s1.trans (s2.trans s3))
  have r3 := r1.same (E.mkh.same s1) (s2.trans s3)
  unfold slD at hf
  split at hf
  · cases hf
    obtain ⟨p, vs, rfl, h1, r⟩ := r3.tup
    refine .inl ⟨p, vs, rfl, h1, fun w => ?_, fun _ p' np => ?_⟩
    · rw [← r.length] at w
      rw [cut_whole w] at q
      exact q _ H3 (s1.trans (s2.trans s3)) (.tup h1 r)
    · have s := same_upd (o := .tup (cutV vs l h)) np
      exact q _ _ ((s1.trans (s2.trans s3)).trans s) (.tup (.of upd_same) ((r.cut l h).same m3 s))
  · split at hf
    · rename_i hz
      cases hf
      exact .inr ⟨_, r3.str, hz, q _ H3 (s1.trans (s2.trans s3)) (.str _)⟩
    · cases hf
  · cases hf⟩
theorem n_sl (he : EB X e te f) (hl : EO X lo tl fl) (hh : EO X hi th fh) : EN X (.Subscript e (.Slice lo hi none p2) pos) (tSl (rSlL X.K) te tl th) (sl slL f fl fh) := ⟨pe_slice sl_list he.pe hl.po hh.po, fun H0 M0 H M ρ σ Q d E hf q => by
  obtain ⟨x, e1, hf⟩ := bind_some hf
  obtain ⟨l, e2, hf⟩ := bind_some hf
  obtain ⟨h, e3, hf⟩ := bind_some hf
  refine he.g E e1 fun v H1 s1 r1 => hl.g (E.to s1) e2 fun H2 s2 => hh.g ((E.to s1).to s2) e3 fun H3 s3 => ?_
  have m3 := E.mkh.same (s1.trans (s2.trans s3))
  have r3 := r1.same (E.mkh.same s1) (s2.trans s3)
  unfold slL at hf
  split at hf
  · cases hf
    obtain ⟨p, vs, rfl, h1, r⟩ := r3.lst
    refine ⟨p, vs, rfl, h1, fun p' np => ?_⟩
    have s := same_upd (o := .lst (cutV vs l h)) np
    exact q _ _ ((s1.trans (s2.trans s3)).free np) ((s1.trans (s2.trans s3)).trans s) ⟨_, upd_same, (r.cut l h).stay m3 (.of_same s) (new_plus np)⟩
  · cases hf⟩
theorem x_ix (ha : EB X a ta f) (hb : EB X b tb g) (hs : PlainIx b := by exact fun _ _ => rfl) : EE X (.Subscript a b pos) (tOp (rIx X.K) ta tb) (bn ixD f g) := ⟨pe_ix ix_seq ha.pe hb.pe hs, g_op does_ix ha.g hb.g⟩
end
end Pu

set_option Elab.async false
set_option linter.all false
set_option maxRecDepth 100000
namespace Pu
open PySem PySem.Spec PyProof.Rows L2

/-! ### sorted of a list or a tuple of alike data -/
section
variable {prog : Program} {w : World} {A : Around} {E : Value → Shared → Prop} {s : Shared}
/-- what a list or a tuple holds, gathered -/
theorem gather {l : Addr} {T : String} {o : Obj} {vs : List Value} {n : Nat} {Q : List Value → Shared → Prop} (hT : T = "list" ∨ T = "tuple") (ho : s.heap.get? l = some o) (hc : o.cls = .type T) (hd : o.data = .seq vs.toArray n) (hsz : vs.length ≤ sizeLine)
    (h : Q vs { s with heap := (s.heap.push (seqObj "list" #[] 0)).update s.heap.objs.size (Obj.mapSeq (· ++ vs.toArray)) }) : wpAny (model prog w) A (collect (.ref l)) Q E s := by
  unfold collect
  refine wpAny_bind (wpAny_runValue (codeAny_builtin entry_proto_collect' ?_))
  show wpAny _ _ (do
    let made ← newList []
    again (.builtin "list.__iadd__" ⟨[made, .ref l], []⟩)) _ _ s
  refine wpAny_bind (wpAny_newList (wpAny_pure ⟨Code.quiet_builtin _ (by decide +kernel), codeAny_builtin entry_list_iadd' ?_⟩))
  show wpAny _ _ (Builtin.List.listExtendWith (.ref s.heap.objs.size) (.ref l) (.ref s.heap.objs.size)) _ _ _
  unfold Builtin.List.listExtendWith
  have ho' : (s.heap.push (seqObj "list" #[] 0)).get? l = some o := Heap.get?_push_of_some _ ho
  refine wpAny_bind (wpAny_typeOf (T := T) ⟨o, ho', hc⟩ ?_)
  rw [if_pos (by rcases hT with e | e <;> subst e <;> simp)]
  refine wpAny_bind (listItems_at ho' hd (wpAny_bind (listItems_at (xs := #[]) (n := 0) (Heap.get?_push_size _ rfl) rfl ?_)))
  rw [if_neg (by simp)]
  refine wpAny_bind (listUpdate_at (xs := #[]) (n := 0) (Heap.get?_push_size _ rfl) rfl (wpAny_pure ?_) (Nat.zero_le _) (by
    show (#[] ++ vs.toArray).size ≤ sizeLine + 1
    simp only [Array.size_append, List.size_toArray, List.length_nil]; omega))
  show wpAny (model prog w) A (load s.heap.objs.size >>= fun o => match o.data with
      | .seq xs _ => pure xs.toList
      | _ => unsupported "internal:collect") Q E { s with heap := (s.heap.push (seqObj "list" #[] 0)).update s.heap.objs.size (Obj.mapSeq (· ++ vs.toArray)) }
  refine wpAny_bind (wpAny_load (get?_update_seq (Heap.get?_push_size _ rfl) _) ?_)
  show wpAny _ _ (pure ((#[] : Array Value) ++ vs.toArray).toList) Q E _
  rw [show ((#[] : Array Value) ++ vs.toArray).toList = vs by simp]
  exact wpAny_pure h
/-- sorted(..) by the sort of the new list -/
theorem sorted_by {l : Addr} {T : String} {o : Obj} {vs : List Value} {n : Nat} {kw : List (Str × Value)} {Q : Value → Shared → Prop} (hT : T = "list" ∨ T = "tuple") (ho : s.heap.get? l = some o) (hc : o.cls = .type T) (hd : o.data = .seq vs.toArray n) (hL : vs.length ≤ sizeLine)
    (ha1 : argsOk "sorted" ⟨[.ref l], kw⟩) (ha2 : ∀ x, argsOk "list.sort" ⟨[.ref x], kw⟩)
    (body : ∀ E' : Value → Shared → Prop, wpAny (model prog w) A.in1.in1 (Builtin.«list.sort» ⟨[.ref (s.heap.objs.size + 1)], kw⟩) (fun f s' => f = .done (.ret .none) ∧ Q (.ref (s.heap.objs.size + 1)) s') E' { s with heap := PySem.W.copyHeap s.heap vs }) :
    wpAny (model prog w) A (call (.builtin "sorted") [.ref l] kw) Q E s := by
  refine call_function_entry_kw kind_sorted plain_sorted entry_sorted ha1 ?_
  unfold Builtin.«sorted»
  refine wpAny_bind (m := checkCount "sorted" 1 1 _) (wpAny_pure (wpAny_bind (gather hT ho hc hd hL (wpAny_bind (wpAny_newList ?_ hL)))))
  have hsz : ((s.heap.push (seqObj "list" #[] 0)).update s.heap.objs.size (Obj.mapSeq (· ++ vs.toArray))).objs.size = s.heap.objs.size + 1 := by
    rw [Heap.size_update, size_push']
  show wpAny _ _ _ _ _ { s with heap := PySem.W.copyHeap s.heap vs }
  rw [hsz]
  refine wpAny_bind (wpAny_holding (wpAny_call_entry_kw slot_list_sort ⟨_, PySem.W.copyHeap_at s.heap vs, rfl⟩ entry_list_sort ?body (ha2 _)))
  case body =>
    refine wpAny_mono (body _) (fun f s' hf => ?_) fun _ _ e => e
    exact ⟨_, hf.1, wpAny_pure ⟨_, rfl, hf.2⟩⟩
end
section
variable {X : Cx}
theorem each_dp {pins : List (Addr × Obj)} {σ : L2.St} {H : Hp} {s : Shared} (I : Inv X pins σ H s) : ∀ {vs : List V} {ds : List D} {us : List Value}, DpAll X.K H vs ds → Vals vs us →
    PySem.W.EachIs (fun (u : Value) (b : V × D) => L2.RelV b.1 u) us (vs.zip ds) ∧ PySem.W.EachIs (fun (u : Value) (b : V × D) => ∃ as, Reads s.heap u b.2 as) us (vs.zip ds) ∧ (vs.zip ds).map Prod.snd = ds
  | _, _, _, .nil, .nil => ⟨.nil, .nil, rfl⟩
  | _, _, _, .cons h t, .cons r rt => by
    obtain ⟨h1, h2, h3⟩ := each_dp I t rt
    exact ⟨.cons r h1, .cons (Dp.reads I _ _ _ h r) h2, by rw [List.zip_cons_cons, List.map_cons, h3]⟩
theorem vals_each : ∀ {us : List Value} {bs : List (V × D)}, PySem.W.EachIs (fun (u : Value) (b : V × D) => L2.RelV b.1 u) us bs → Vals (bs.map Prod.fst) us
  | _, _, .nil => .nil
  | _, _, .cons h t => .cons h (vals_each t)
def sortV (vs : List V) (ds : List D) : List V := ((vs.zip ds).mergeSort (PySem.W.dataLe false Prod.snd)).map Prod.fst
def rSortD (K : PySem.W.Frag) : List V → Hp → VK → Prop := fun xs H Q => ∃ a vs ds, xs = [.ref a] ∧ (SqL K H a vs ∨ SqT K H a vs) ∧ DpAll K H vs ds ∧ PySem.W.AllAlike ds ∧ PySem.W.Sortable ds ∧ (∀ d ∈ ds, d.depth ≤ 60) ∧
  ∀ p, H p = none → Q (.ref p) (upd H p (.lst (sortV vs ds)))
theorem call_sortedD {n : Nat} (hr : Room n X.A) : CallR X (.builtin "sorted") (rSortD X.K) := by
  intro pins s σ H xs us Q I r h
  obtain ⟨a, vs, ds, rfl, hs, hd, al, so, dp, q⟩ := h
  rw [Vals.ref1 r]
  have hsrc : ∃ (T : String) (o : Obj) (its : List Value) (c : Nat), (T = "list" ∨ T = "tuple") ∧ s.heap.get? a = some o ∧ o.cls = .type T ∧ o.data = .seq its.toArray c ∧ Vals vs its ∧ vs.length ≤ sizeLine := by
    rcases hs with hs | hs
    · obtain ⟨its, rv, ⟨o, c, ho, hc, _, hdt⟩, hz⟩ := I.list hs
      exact ⟨"list", o, its, c, .inl rfl, ho, hc, hdt, rv, hz⟩
    · obtain ⟨its, rv, ⟨o, ho, hc, c, hdt⟩, hz⟩ := I.tuple hs
      exact ⟨"tuple", o, its, c, .inr rfl, ho, hc, hdt, rv, hz⟩
  obtain ⟨T, o, its, c, hT, ho, hc, hdt, rv, hz⟩ := hsrc
  obtain ⟨e, er, em⟩ := each_dp I hd rv
  have hL : its.length ≤ sizeLine := by rw [← rv.length]; exact hz
  have er' : PySem.W.EachIs (fun (u : Value) (b : V × D) => ∃ as, Reads (PySem.W.sortingHeap (PySem.W.copyHeap s.heap its) (s.heap.objs.size + 1) its) u b.2 as) its (vs.zip ds) := er.mono fun _ _ ⟨as, r⟩ => ⟨as, PyProof.Rows.Reads.keeps (fun _ _ => PySem.W.sorting_copy_old) r⟩
  have hal : PySem.W.AllAlike ((vs.zip ds).map Prod.snd) := by rw [em]; exact al
  have hk : PySem.W.Sortable ((vs.zip ds).map Prod.snd) := by rw [em]; exact so
  have hu : ∀ b, b ∈ vs.zip ds → X.A.units + 2 + (Prod.snd b : D).depth < cLine := fun b hb => by
    have := dp b.2 (by rw [← em]; exact List.mem_map.mpr ⟨b, hb, rfl⟩)
    have := hr.un
    omega
  refine sorted_by hT ho hc hdt hL (args_sorted1 _) (fun _ => args_list_sort _) fun E' => ?_
  refine PySem.W.list_sort_vals (κ := PySem.W.dataKind (PySem.W.sortingHeap (PySem.W.copyHeap s.heap its) (s.heap.objs.size + 1) its) ((vs.zip ds).map Prod.snd)) (s := { s with heap := PySem.W.copyHeap s.heap its }) (PySem.W.copyHeap_at s.heap its)
    (PySem.W.SortsAt.data (s := { s with heap := PySem.W.sortingHeap (PySem.W.copyHeap s.heap its) (s.heap.objs.size + 1) its }) (PySem.W.each_map (R := fun u d => ∃ as, Reads (PySem.W.sortingHeap (PySem.W.copyHeap s.heap its) (s.heap.objs.size + 1) its) u d as) Prod.snd er') hal hk (PySem.W.bound_map (A := X.A.in1.in1) hu)) hL ⟨rfl, ?_⟩
  have eo := PySem.W.sortVals_data (h' := PySem.W.sortingHeap (PySem.W.copyHeap s.heap its) (s.heap.objs.size + 1) its) (enc := Prod.snd) false e er' hal
  generalize hout : PySem.W.sortVals (PySem.W.dataKind (PySem.W.sortingHeap (PySem.W.copyHeap s.heap its) (s.heap.objs.size + 1) its) ((vs.zip ds).map Prod.snd)) false its its = out at eo ⊢
  obtain ⟨ep, he'⟩ := PyProof.Rows.sortedAll_at s.heap its out.toArray
  have vo := vals_each eo
  have hlen : (sortV vs ds).length ≤ sizeLine := by
    have h1 : (sortV vs ds).length ≤ vs.length := by
      unfold sortV
      rw [List.length_map, List.length_mergeSort, List.length_zip]
      omega
    omega
  exact ⟨.ref _, upd H (s.heap.objs.size + 1) (.lst (sortV vs ds)), I.laid (t' := s.toks) (fun _ _ => PyProof.Rows.sortedAll_old) (Nat.le_succ _) ⟨hlen, out, ep, vo, he'⟩, rfl, q _ (I.hok.fresh (Nat.le_succ _))⟩
end
end Pu

set_option Elab.async false
set_option linter.all false
set_option maxRecDepth 100000
namespace Pu
open PySem PySem.Spec PyProof.Rows L2

def DoesC (K : PySem.W.Frag) (r : List V → Hp → VK → Prop) (op : List D → Option D) : Prop := ∀ ⦃H : Hp⦄ ⦃M : Addr → Prop⦄ ⦃vs : List V⦄ ⦃ds : List D⦄ ⦃d : D⦄ ⦃Q : VK⦄, MK H M → RepsB K H M ds vs → op ds = some d → (∀ v H', Same H H' → Rep K H' M d v → Q v H') → r vs H Q
def DoesCN (K : PySem.W.Frag) (r : List V → Hp → VK → Prop) (op : List D → Option D) : Prop := ∀ ⦃H : Hp⦄ ⦃M : Addr → Prop⦄ ⦃vs : List V⦄ ⦃ds : List D⦄ ⦃d : D⦄ ⦃Q : VK⦄, MK H M → RepsB K H M ds vs → op ds = some d → (∀ p H', H p = none → Same H H' → Own K H' (plus M p) d p → Q (.ref p) H') → r vs H Q
def ap (op : List D → Option D) (fs : Es) : Ev := fun ρ => (fs ρ).bind op
theorem g_ap {K : PySem.W.Frag} {r : List V → Hp → VK → Prop} {op : List D → Option D} {t : TA} {fs : Es} (h : DoesC K r op) (ha : GAB K t fs) : GE K (tCB r t) (ap op fs) := fun H0 M0 H M ρ σ Q d E hf q => by
  obtain ⟨ds, e1, hf⟩ := bind_some hf
  exact ha E e1 fun vs H1 s1 r1 => h (E.mkh.same s1) r1 hf fun v H2 s2 r2 => q v H2 (s1.trans s2) r2
theorem g_apN {K : PySem.W.Frag} {r : List V → Hp → VK → Prop} {op : List D → Option D} {t : TA} {fs : Es} (h : DoesCN K r op) (ha : GAB K t fs) : GN K (tCB r t) (ap op fs) := fun H0 M0 H M ρ σ Q d E hf q => by
  obtain ⟨ds, e1, hf⟩ := bind_some hf
  exact ha E e1 fun vs H1 s1 r1 => h (E.mkh.same s1) r1 hf fun p H2 n s2 r2 => q p H2 (s1.free n) (s1.trans s2) r2
section
variable {X : Cx} {x : Str} {p pos : Pos} {e : Expr} {es : List Expr} {t : TA} {id T : String} {r : List V → Hp → VK → Prop} {op : List D → Option D} {fs : Es}
theorem c_bi (hc : CallR X (.builtin id) r) (hd : DoesC X.K r op) (hg : Gl X x) (hm : X.mg x = none) (hv : bootBuiltins x = some (.builtin id)) (ha : AB X (e :: es) t fs) (hn : x ≠ "__name__" := by decide) (hdb : (x == ("__debug__" : Str)) = false := by decide)
    (he : starEach (e :: es) X.env = (false, eval e X.env) :: starEach es X.env := by rfl) (hpl : (backTo pos (starEach es X.env)).any (·.1) = false := by rfl) : EE X (.Call (.Name x p) (e :: es) [] pos) (tCB r t) (ap op fs) := ⟨pe_callB hc hg hm hv ha.pa hn hdb he hpl, g_ap hd ha.g⟩
theorem c_ty (hc : CallR X (.type T) r) (hd : DoesC X.K r op) (hg : Gl X x) (hm : X.mg x = none) (hv : bootBuiltins x = some (.type T)) (ha : AB X (e :: es) t fs) (hn : x ≠ "__name__" := by decide) (hdb : (x == ("__debug__" : Str)) = false := by decide)
    (he : starEach (e :: es) X.env = (false, eval e X.env) :: starEach es X.env := by rfl) (hpl : (backTo pos (starEach es X.env)).any (·.1) = false := by rfl) : EE X (.Call (.Name x p) (e :: es) [] pos) (tCB r t) (ap op fs) := ⟨pe_callTy hc hg hm hv ha.pa hn hdb he hpl, g_ap hd ha.g⟩
theorem cn_bi (hc : CallR X (.builtin id) r) (hd : DoesCN X.K r op) (hg : Gl X x) (hm : X.mg x = none) (hv : bootBuiltins x = some (.builtin id)) (ha : AB X (e :: es) t fs) (hn : x ≠ "__name__" := by decide) (hdb : (x == ("__debug__" : Str)) = false := by decide)
    (he : starEach (e :: es) X.env = (false, eval e X.env) :: starEach es X.env := by rfl) (hpl : (backTo pos (starEach es X.env)).any (·.1) = false := by rfl) : EN X (.Call (.Name x p) (e :: es) [] pos) (tCB r t) (ap op fs) := ⟨pe_callB hc hg hm hv ha.pa hn hdb he hpl, g_apN hd ha.g⟩
theorem cn_ty (hc : CallR X (.type T) r) (hd : DoesCN X.K r op) (hg : Gl X x) (hm : X.mg x = none) (hv : bootBuiltins x = some (.type T)) (ha : AB X (e :: es) t fs) (hn : x ≠ "__name__" := by decide) (hdb : (x == ("__debug__" : Str)) = false := by decide)
    (he : starEach (e :: es) X.env = (false, eval e X.env) :: starEach es X.env := by rfl) (hpl : (backTo pos (starEach es X.env)).any (·.1) = false := by rfl) : EN X (.Call (.Name x p) (e :: es) [] pos) (tCB r t) (ap op fs) := ⟨pe_callTy hc hg hm hv ha.pa hn hdb he hpl, g_apN hd ha.g⟩
end

/-! ### the built-ins as functions -/
def lenD : List D → Option D
  | [.list ds] => some (.int ds.length)
  | [.tuple ds] => some (.int ds.length)
  | [.str x] => if x.length ≤ sizeLine then some (.int x.length) else none
  | _ => none
def absD : List D → Option D
  | [.int i] => some (.int (if i < 0 then -i else i))
  | _ => none
def min2D : List D → Option D
  | [.int i, .int j] => some (.int (if j < i then j else i))
  | _ => none
def max2D : List D → Option D
  | [.int i, .int j] => some (.int (if j > i then j else i))
  | _ => none
def intD : List D → Option D
  | [.int i] => some (.int i)
  | [.bool b] => some (.int (if b then 1 else 0))
  | _ => none
def ints? : List D → Option (List Int)
  | [] => some []
  | .int i :: ds => (ints? ds).map (i :: ·)
  | _ => none
def bools? : List D → Option (List Bool)
  | [] => some []
  | .bool i :: ds => (bools? ds).map (i :: ·)
  | _ => none
theorem ints?_map : ∀ ns : List Int, ints? (ns.map PyData.int) = some ns
  | [] => rfl
  | n :: ns => by simp [ints?, ints?_map ns]
theorem bools?_map : ∀ ns : List Bool, bools? (ns.map PyData.bool) = some ns
  | [] => rfl
  | n :: ns => by simp [bools?, bools?_map ns]
theorem ints?_some : ∀ {ds : List D} {ns : List Int}, ints? ds = some ns → ds = ns.map PyData.int
  | [], ns, h => by cases h; rfl
  | d :: ds, ns, h => by
    unfold ints? at h
    split at h
    · rename_i e; cases e
    · rename_i i ds' e
      cases e
      obtain ⟨ms, e1, e2⟩ := Option.map_eq_some_iff.mp h
      subst e2
      rw [ints?_some e1]; rfl
    · cases h
theorem bools?_some : ∀ {ds : List D} {ns : List Bool}, bools? ds = some ns → ds = ns.map PyData.bool
  | [], ns, h => by cases h; rfl
  | d :: ds, ns, h => by
    unfold bools? at h
    split at h
    · rename_i e; cases e
    · rename_i i ds' e
      cases e
      obtain ⟨ms, e1, e2⟩ := Option.map_eq_some_iff.mp h
      subst e2
      rw [bools?_some e1]; rfl
    · cases h
theorem reps_ints {K : PySem.W.Frag} {H : Hp} {M : Addr → Prop} : ∀ {ns : List Int} {vs : List V}, Reps K H M (ns.map PyData.int) vs → vs = ns.map V.int
  | [], _, r => by cases r; rfl
  | n :: ns, _, r => by
    cases r with
    | cons h t => cases h; rw [reps_ints t]; rfl
theorem reps_bools {K : PySem.W.Frag} {H : Hp} {M : Addr → Prop} : ∀ {ns : List Bool} {vs : List V}, Reps K H M (ns.map PyData.bool) vs → vs = ns.map V.bl
  | [], _, r => by cases r; rfl
  | n :: ns, _, r => by
    cases r with
    | cons h t => cases h; rw [reps_bools t]; rfl
def seqOf : D → Option (List D)
  | .list ds => some ds
  | .tuple ds => some ds
  | _ => none
def sumD : List D → Option D
  | [.list ds] => (ints? ds).map fun ns => .int ns.sum
  | _ => none
def anyD : List D → Option D
  | [.list ds] => (bools? ds).map fun bs => .bool (bs.any id)
  | _ => none
def allD : List D → Option D
  | [.list ds] => (bools? ds).map fun bs => .bool (bs.all id)
  | _ => none
def leastI : List Int → Int
  | [] => 0
  | x :: xs => xs.foldl min x
def greatestI : List Int → Int
  | [] => 0
  | x :: xs => xs.foldl max x
def minI : List D → Option D
  | [.list ds] => (ints? ds).bind fun ns => if ns.isEmpty then none else some (.int (leastI ns))
  | _ => none
def maxI : List D → Option D
  | [.list ds] => (ints? ds).bind fun ns => if ns.isEmpty then none else some (.int (greatestI ns))
  | _ => none
def tupD : List D → Option D
  | [.list ds] => some (.tuple ds)
  | [.tuple ds] => some (.tuple ds)
  | _ => none
def lstD : List D → Option D
  | [.list ds] => some (.list ds)
  | [.tuple ds] => some (.list ds)
  | _ => none
def strD : List D → Option D
  | [.int i] => if i.natAbs.log2 < 1920 then some (.str (toString i)) else none
  | _ => none
/-- may be sorted -/
def isNE : D → Bool
  | .tuple (_ :: _) => true
  | _ => false
def isTup : D → Bool
  | .tuple _ => true
  | _ => false
def srtOk (ds : List D) : Bool := ds.all (fun d => d.canLay0 && decide (d.depth ≤ 60)) && (ds.all fun d => ds.all fun e => PySem.W.alike d e) && (ds.all isNE || ds.all fun d => !isNon d && !isTup d)
def leA (a b : D) : Bool := !PySem.W.dataLt b a
def sortedD : List D → Option D
  | [x] => (seqOf x).bind fun ds => if srtOk ds = true then some (.list (ds.mergeSort leA)) else none
  | _ => none
theorem foldl_min_le : ∀ (xs : List Int) (a : Int), xs.foldl min a ≤ a ∧ (∀ x ∈ xs, xs.foldl min a ≤ x) ∧ (xs.foldl min a = a ∨ xs.foldl min a ∈ xs)
  | [], a => ⟨Int.le_refl _, (fun _ h => nomatch h), .inl rfl⟩
  | x :: xs, a => by
    obtain ⟨h1, h2, h3⟩ := foldl_min_le xs (min a x)
    rw [List.foldl_cons]
    refine ⟨by omega, fun y hy => ?_, ?_⟩
    · rcases List.mem_cons.mp hy with e | hy
      · subst e; omega
      · exact h2 y hy
    · rcases h3 with e | e
      · by_cases hx : a ≤ x
        · left; omega
        · right; rw [e]; simp; left; omega
      · right; exact List.mem_cons_of_mem _ e
theorem foldl_max_ge : ∀ (xs : List Int) (a : Int), a ≤ xs.foldl max a ∧ (∀ x ∈ xs, x ≤ xs.foldl max a) ∧ (xs.foldl max a = a ∨ xs.foldl max a ∈ xs)
  | [], a => ⟨Int.le_refl _, (fun _ h => nomatch h), .inl rfl⟩
  | x :: xs, a => by
    obtain ⟨h1, h2, h3⟩ := foldl_max_ge xs (max a x)
    rw [List.foldl_cons]
    refine ⟨by omega, fun y hy => ?_, ?_⟩
    · rcases List.mem_cons.mp hy with e | hy
      · subst e; omega
      · exact h2 y hy
    · rcases h3 with e | e
      · by_cases hx : x ≤ a
        · left; omega
        · right; rw [e]; simp; left; omega
      · right; exact List.mem_cons_of_mem _ e
theorem leastI_mem {ns : List Int} (h : ns ≠ []) : leastI ns ∈ ns := by
  cases ns with
  | nil => exact absurd rfl h
  | cons x xs =>
    rcases (foldl_min_le xs x).2.2 with e | e
    · show xs.foldl min x ∈ x :: xs; rw [e]; exact List.mem_cons_self
    · exact List.mem_cons_of_mem _ e
theorem leastI_le {ns : List Int} {y : Int} (h : y ∈ ns) : leastI ns ≤ y := by
  cases ns with
  | nil => cases h
  | cons x xs =>
    rcases List.mem_cons.mp h with e | e
    · subst e; exact (foldl_min_le xs y).1
    · exact (foldl_min_le xs x).2.1 y e
theorem greatestI_mem {ns : List Int} (h : ns ≠ []) : greatestI ns ∈ ns := by
  cases ns with
  | nil => exact absurd rfl h
  | cons x xs =>
    rcases (foldl_max_ge xs x).2.2 with e | e
    · show xs.foldl max x ∈ x :: xs; rw [e]; exact List.mem_cons_self
    · exact List.mem_cons_of_mem _ e
theorem greatestI_ge {ns : List Int} {y : Int} (h : y ∈ ns) : y ≤ greatestI ns := by
  cases ns with
  | nil => cases h
  | cons x xs =>
    rcases List.mem_cons.mp h with e | e
    · subst e; exact (foldl_max_ge xs y).1
    · exact (foldl_max_ge xs x).2.1 y e

/-! ### what they do -/
section
variable {K : PySem.W.Frag} {H : Hp} {M : Addr → Prop}
theorem RepsB.one {d : D} {vs : List V} (r : RepsB K H M [d] vs) : ∃ v, vs = [v] ∧ RepB K H M d v := by
  cases r with
  | cons h t => cases t; exact ⟨_, rfl, h⟩
theorem RepsB.two {d d' : D} {vs : List V} (r : RepsB K H M [d, d'] vs) : ∃ v v', vs = [v, v'] ∧ RepB K H M d v ∧ RepB K H M d' v' := by
  cases r with
  | cons h t => obtain ⟨v', rfl, h'⟩ := t.one; exact ⟨_, _, rfl, h, h'⟩
theorem does_len : DoesC K (fun xs H Q => ∃ x n, xs = [x] ∧ LenV K x H n ∧ Q (.int n) H) lenD := fun H M vs ds d Q m r e q => by
  unfold lenD at e
  split at e
  · cases e
    obtain ⟨v, rfl, z⟩ := r.one
    obtain ⟨a, us, rfl, h, y⟩ := z.lst
    refine ⟨_, us.length, rfl, .inl ⟨us, h, rfl⟩, ?_⟩
    rw [← y.length]
    exact q _ H (Same.refl H) (.int _)
  · cases e
    obtain ⟨v, rfl, z⟩ := r.one
    obtain ⟨a, us, rfl, h, y⟩ := z.tup
    refine ⟨_, us.length, rfl, .inr ⟨us, h, rfl⟩, ?_⟩
    rw [← y.length]
    exact q _ H (Same.refl H) (.int _)
  · split at e
    · rename_i hz
      cases e
      obtain ⟨v, rfl, z⟩ := r.one
      rw [z.str]
      exact ⟨_, _, rfl, ⟨hz, rfl⟩, q _ H (Same.refl H) (.int _)⟩
    · cases e
  · cases e
theorem does_abs : DoesC K (fun xs H Q => ∃ i, xs = [.int i] ∧ Q (.int (if i < 0 then -i else i)) H) absD := fun H M vs ds d Q m r e q => by
  unfold absD at e
  split at e
  · cases e
    obtain ⟨v, rfl, z⟩ := r.one
    exact ⟨_, by rw [z.int], q _ H (Same.refl H) (.int _)⟩
  · cases e
theorem does_min2 : DoesC K (fun xs H Q => ∃ i j, xs = [.int i, .int j] ∧ Q (.int (if j < i then j else i)) H) min2D := fun H M vs ds d Q m r e q => by
  unfold min2D at e
  split at e
  · cases e
    obtain ⟨v, v', rfl, z, z'⟩ := r.two
    exact ⟨_, _, by rw [z.int, z'.int], q _ H (Same.refl H) (.int _)⟩
  · cases e
theorem does_max2 : DoesC K (fun xs H Q => ∃ i j, xs = [.int i, .int j] ∧ Q (.int (if j > i then j else i)) H) max2D := fun H M vs ds d Q m r e q => by
  unfold max2D at e
  split at e
  · cases e
    obtain ⟨v, v', rfl, z, z'⟩ := r.two
    exact ⟨_, _, by rw [z.int, z'.int], q _ H (Same.refl H) (.int _)⟩
  · cases e
theorem does_int : DoesC K (fun xs H Q => (∃ i, xs = [.int i] ∧ Q (.int i) H) ∨ ∃ k, xs = [.bl k] ∧ Q (.int (if k then 1 else 0)) H) intD := fun H M vs ds d Q m r e q => by
  unfold intD at e
  split at e
  · cases e
    obtain ⟨v, rfl, z⟩ := r.one
    exact .inl ⟨_, by rw [z.int], q _ H (Same.refl H) (.int _)⟩
  · cases e
    obtain ⟨v, rfl, z⟩ := r.one
    exact .inr ⟨_, by rw [z.bl], q _ H (Same.refl H) (.int _)⟩
  · cases e
theorem does_str : DoesC K (fun xs H Q => ∃ i, xs = [.int i] ∧ i.natAbs.log2 < 1920 ∧ Q (.str (toString i)) H) strD := fun H M vs ds d Q m r e q => by
  unfold strD at e
  split at e
  · split at e
    · rename_i hz
      cases e
      obtain ⟨v, rfl, z⟩ := r.one
      exact ⟨_, by rw [z.int], hz, q _ H (Same.refl H) (.str _)⟩
    · cases e
  · cases e
theorem one_ints {ds : List D} {ns : List Int} {vs : List V} (r : RepsB K H M [.list ds] vs) (e : ints? ds = some ns) : ∃ a, vs = [.ref a] ∧ SqL K H a (ns.map V.int) := by
  obtain ⟨v, rfl, z⟩ := r.one
  obtain ⟨a, us, rfl, h, y⟩ := z.lst
  rw [ints?_some e] at y
  rw [reps_ints y] at h
  exact ⟨a, rfl, h⟩
theorem one_bools {ds : List D} {ns : List Bool} {vs : List V} (r : RepsB K H M [.list ds] vs) (e : bools? ds = some ns) : ∃ a, vs = [.ref a] ∧ SqL K H a (ns.map V.bl) := by
  obtain ⟨v, rfl, z⟩ := r.one
  obtain ⟨a, us, rfl, h, y⟩ := z.lst
  rw [bools?_some e] at y
  rw [reps_bools y] at h
  exact ⟨a, rfl, h⟩
theorem does_sum : DoesC K (rSum K) sumD := fun H M vs ds d Q m r e q => by
  unfold sumD at e
  split at e
  · obtain ⟨ns, e1, e2⟩ := Option.map_eq_some_iff.mp e
    subst e2
    obtain ⟨a, rfl, h⟩ := one_ints r e1
    exact ⟨a, ns, rfl, h, q _ H (Same.refl H) (.int _)⟩
  · cases e
theorem does_any : DoesC K (rAny K) anyD := fun H M vs ds d Q m r e q => by
  unfold anyD at e
  split at e
  · obtain ⟨ns, e1, e2⟩ := Option.map_eq_some_iff.mp e
    subst e2
    obtain ⟨a, rfl, h⟩ := one_bools r e1
    exact ⟨a, ns, rfl, h, q _ H (Same.refl H) (.bl _)⟩
  · cases e
theorem does_all : DoesC K (rAll K) allD := fun H M vs ds d Q m r e q => by
  unfold allD at e
  split at e
  · obtain ⟨ns, e1, e2⟩ := Option.map_eq_some_iff.mp e
    subst e2
    obtain ⟨a, rfl, h⟩ := one_bools r e1
    exact ⟨a, ns, rfl, h, q _ H (Same.refl H) (.bl _)⟩
  · cases e
theorem does_minI : DoesC K (rMin K) minI := fun H M vs ds d Q m r e q => by
  unfold minI at e
  split at e
  · obtain ⟨ns, e1, e2⟩ := bind_some e
    split at e2
    · cases e2
    · rename_i hne
      cases e2
      have hne' : ns ≠ [] := fun z => hne (by rw [z]; rfl)
      obtain ⟨a, rfl, h⟩ := one_ints r e1
      refine ⟨a, ns, rfl, h, List.length_pos_iff.mpr hne', fun x hx hle => ?_⟩
      have e3 : x = leastI ns := Int.le_antisymm (hle _ (leastI_mem hne')) (leastI_le hx)
      rw [e3]
      exact q _ H (Same.refl H) (.int _)
  · cases e
theorem does_maxI : DoesC K (rMax K) maxI := fun H M vs ds d Q m r e q => by
  unfold maxI at e
  split at e
  · obtain ⟨ns, e1, e2⟩ := bind_some e
    split at e2
    · cases e2
    · rename_i hne
      cases e2
      have hne' : ns ≠ [] := fun z => hne (by rw [z]; rfl)
      obtain ⟨a, rfl, h⟩ := one_ints r e1
      refine ⟨a, ns, rfl, h, List.length_pos_iff.mpr hne', fun x hx hle => ?_⟩
      have e3 : x = greatestI ns := Int.le_antisymm (greatestI_ge hx) (hle _ (greatestI_mem hne'))
      rw [e3]
      exact q _ H (Same.refl H) (.int _)
  · cases e
def rTupOf (K : PySem.W.Frag) : List V → Hp → VK → Prop := fun xs H Q => ∃ p ys, xs = [.ref p] ∧ ((SqL K H p ys ∧ ∀ l, H l = none → Q (.ref l) (upd H l (.tup ys))) ∨ (SqT K H p ys ∧ Q (.ref p) H))
theorem does_tup : DoesC K (rTupOf K) tupD := fun H M vs ds d Q m r e q => by
  unfold tupD at e
  split at e
  · cases e
    obtain ⟨v, rfl, z⟩ := r.one
    obtain ⟨a, us, rfl, h, y⟩ := z.lst
    refine ⟨a, us, rfl, .inl ⟨h, fun p np => ?_⟩⟩
    have s := same_upd (o := .tup us) np
    exact q _ _ s (.tup (.of upd_same) (y.same m s))
  · cases e
    obtain ⟨v, rfl, z⟩ := r.one
    obtain ⟨a, us, rfl, h, y⟩ := z.tup
    exact ⟨a, us, rfl, .inr ⟨h, q _ H (Same.refl H) (.tup h y)⟩⟩
  · cases e
def rLstOf (K : PySem.W.Frag) : List V → Hp → VK → Prop := fun xs H Q => ∃ p ys, xs = [.ref p] ∧ (SqL K H p ys ∨ SqT K H p ys) ∧ ∀ l, H l = none → Q (.ref l) (upd H l (.lst ys))
theorem does_lst : DoesCN K (rLstOf K) lstD := fun H M vs ds d Q m r e q => by
  unfold lstD at e
  split at e
  · cases e
    obtain ⟨v, rfl, z⟩ := r.one
    obtain ⟨a, us, rfl, h, y⟩ := z.lst
    refine ⟨a, us, rfl, .inl h, fun p np => ?_⟩
    have s := same_upd (o := .lst us) np
    exact q _ _ np s ⟨us, upd_same, y.stay m (.of_same s) (new_plus np)⟩
  · cases e
    obtain ⟨v, rfl, z⟩ := r.one
    obtain ⟨a, us, rfl, h, y⟩ := z.tup
    refine ⟨a, us, rfl, .inr h, fun p np => ?_⟩
    have s := same_upd (o := .lst us) np
    exact q _ _ np s ⟨us, upd_same, y.stay m (.of_same s) (new_plus np)⟩
  · cases e
theorem reps_zip : ∀ {vs : List V} {ds : List D}, Reps K H M ds vs → ∀ b ∈ vs.zip ds, Rep K H M b.2 b.1
  | _, _, .nil, b, hb => by cases hb
  | _, _, .cons h t, b, hb => by
    rw [List.zip_cons_cons] at hb
    rcases List.mem_cons.mp hb with e | hb
    · rw [e]; exact h
    · exact reps_zip t b hb
theorem reps_of : ∀ {bs : List (V × D)}, (∀ b ∈ bs, Rep K H M b.2 b.1) → Reps K H M (bs.map Prod.snd) (bs.map Prod.fst)
  | [], _ => .nil
  | b :: bs, h => .cons (h b List.mem_cons_self) (reps_of fun c hc => h c (List.mem_cons_of_mem _ hc))
theorem zip_snd {vs : List V} {ds : List D} (h : ds.length = vs.length) : (vs.zip ds).map Prod.snd = ds := by
  rw [← List.unzip_snd, List.unzip_zip_right]; omega
theorem reps_sort {vs : List V} {ds : List D} (r : Reps K H M ds vs) : Reps K H M (ds.mergeSort leA) (sortV vs ds) := by
  have e : ((vs.zip ds).mergeSort (PySem.W.dataLe false Prod.snd)).map Prod.snd = ds.mergeSort leA := by
    rw [PySem.W.sort_maps (r := PySem.W.dataLe false Prod.snd) (s := leA) Prod.snd (fun a _ b _ => rfl), zip_snd r.length]
  rw [← e]
  exact reps_of fun b hb => reps_zip r b ((List.mergeSort_perm _ _).mem_iff.mp hb)
theorem srt_premises {ds : List D} (h : srtOk ds = true) : PyData.canLayAll0 ds = true ∧ PySem.W.AllAlike ds ∧ PySem.W.Sortable ds ∧ ∀ d ∈ ds, d.depth ≤ 60 := by
  unfold srtOk at h
  simp only [Bool.and_eq_true, Bool.or_eq_true] at h
  obtain ⟨⟨h1, h2⟩, h3⟩ := h
  simp only [List.all_eq_true, Bool.and_eq_true, decide_eq_true_eq] at h1 h2
  refine ⟨?_, fun d hd e he => h2 d hd e he, ?_, fun d hd => (h1 d hd).2⟩
  · clear h2 h3
    induction ds with
    | nil => rfl
    | cons d ds ih => simp only [PyData.canLayAll0, Bool.and_eq_true]; exact ⟨(h1 d List.mem_cons_self).1, ih fun e he => h1 e (List.mem_cons_of_mem _ he)⟩
  · rcases h3 with h3 | h3
    · left
      intro d hd
      have := List.all_eq_true.mp h3 d hd
      unfold isNE at this
      split at this
      · exact ⟨_, _, rfl⟩
      · cases this
    · right
      intro d hd
      have := List.all_eq_true.mp h3 d hd
      simp only [Bool.and_eq_true, Bool.not_eq_true'] at this
      refine ⟨isNon_of this.1, fun xs e => ?_⟩
      subst e
      simp [isTup] at this
theorem does_sorted : DoesCN K (rSortD K) sortedD := fun H M vs ds d Q m r e q => by
  unfold sortedD at e
  split at e
  · rename_i x
    obtain ⟨v, rfl, z⟩ := r.one
    obtain ⟨es, e1, e2⟩ := bind_some e
    split at e2
    · rename_i ok
      cases e2
      obtain ⟨c, al, so, dp⟩ := srt_premises ok
      have hsrc : ∃ a us, v = .ref a ∧ (SqL K H a us ∨ SqT K H a us) ∧ Reps K H M es us := by
        unfold seqOf at e1
        split at e1
        · cases e1; obtain ⟨a, us, e3, h, y⟩ := z.lst; exact ⟨a, us, e3, .inl h, y⟩
        · cases e1; obtain ⟨a, us, e3, h, y⟩ := z.tup; exact ⟨a, us, e3, .inr h, y⟩
        · cases e1
      obtain ⟨a, us, rfl, h, y⟩ := hsrc
      refine ⟨a, us, es, rfl, h, y.dp c, al, so, dp, fun p np => ?_⟩
      have s := same_upd (o := .lst (sortV us es)) np
      exact q _ _ np s ⟨_, upd_same, (reps_sort y).stay m (.of_same s) (new_plus np)⟩
    · cases e2
  · cases e
end
end Pu

set_option Elab.async false
set_option linter.all false
set_option maxRecDepth 100000
namespace Pu
open PySem PySem.Spec PyProof.Rows L2

/-! ### calls of defs -/
def spP (K : PySem.W.Frag) (n : Nat) (sem : List D → Option D) : Sp := fun vs H Q _ => ∃ (M : Addr → Prop) (ds : List D) (d : D), MK H M ∧ Reps K H M ds vs ∧ ds.length = n ∧ sem ds = some d ∧ ∀ v H', Same H H' → Rep K H' M d v → Q v H'
section
variable {X : Cx} {k n : Nat} {f : Addr} {fd : FuncData} {ps : List Str} {sem : List D → Option D} {x : Str} {p pos : Pos} {e : Expr} {es : List Expr} {t : TA} {fs : Es}
theorem c_def (F : FnOk X.prog X.w X.K X.mg X.base CX0 k f fd ps (spP X.K n sem)) (hr : Room k X.A) (hg : Gl X x) (hm : X.mg x = some (.ref f)) (hk : PySem.W.keepIn X.K (.ref f) = true) (hb : Binds X.K fd ps []) (ha : AE X (e :: es) t fs) (hn : (e :: es).length = n := by rfl)
    (hdb : (x == ("__debug__" : Str)) = false := by decide) (he : starEach (e :: es) X.env = (false, eval e X.env) :: starEach es X.env := by rfl) (hpl : (backTo pos (starEach es X.env)).any (·.1) = false := by rfl) :
    EE X (.Call (.Name x p) (e :: es) [] pos) (tCall (spP X.K n sem) [] E0 t) (ap sem fs) := ⟨pe_call F hr hg hm hk hb .nil pass0 ha.pa hdb he hpl, fun H0 M0 H M ρ σ Q d E hf q => by
  obtain ⟨ds, e1, hf⟩ := bind_some hf
  refine ha.g E e1 fun vs H1 s1 r1 => ⟨M, ds, d, E.mkh.same s1, ?_, (ha.ln _ _ e1).trans hn, hf, fun v H2 s2 r2 => q v H2 (s1.trans s2) r2⟩
  rw [List.append_nil]
  exact r1⟩
theorem RepsB.none {K : PySem.W.Frag} {H : Hp} {M : Addr → Prop} : ∀ {ds : List D} {vs : List V}, RepsB K H M ds vs → Reps K H (fun _ => False) ds vs
  | _, _, .nil => .nil
  | _, _, .cons r t => .cons (by
      rcases r with r | ⟨a, e, o⟩
      · exact r.anti fun _ h => h.elim
      · subst e; exact (o.anti (M' := fun _ => False) fun _ h => h.elim).rep fun h => h) t.none
def flat (f : Ev) : Ev := fun ρ => (f ρ).bind fun d => if nolst d = true then some d else none
/-- .. with owned lists handed in: what comes back has no lists -/
theorem c_defB (F : FnOk X.prog X.w X.K X.mg X.base CX0 k f fd ps (spP X.K n sem)) (hr : Room k X.A) (hg : Gl X x) (hm : X.mg x = some (.ref f)) (hk : PySem.W.keepIn X.K (.ref f) = true) (hb : Binds X.K fd ps []) (ha : AB X (e :: es) t fs) (hn : (e :: es).length = n := by rfl)
    (hdb : (x == ("__debug__" : Str)) = false := by decide) (he : starEach (e :: es) X.env = (false, eval e X.env) :: starEach es X.env := by rfl) (hpl : (backTo pos (starEach es X.env)).any (·.1) = false := by rfl) :
    EE X (.Call (.Name x p) (e :: es) [] pos) (tCall (spP X.K n sem) [] E0 t) (flat (ap sem fs)) := ⟨pe_call F hr hg hm hk hb .nil pass0 ha.pa hdb he hpl, fun H0 M0 H M ρ σ Q d E hf q => by
  obtain ⟨d', hf', hf⟩ := bind_some hf
  obtain ⟨ds, e1, hf'⟩ := bind_some hf'
  split at hf
  · rename_i hn'
    cases hf
    refine ha.g E e1 fun vs H1 s1 r1 => ⟨fun _ => False, ds, _, fun _ h => h.elim, ?_, (ha.ln _ _ e1).trans hn, hf', fun v H2 s2 r2 => q v H2 (s1.trans s2) (r2.nol hn')⟩
    rw [List.append_nil]
    exact r1.none
  · cases hf⟩
end

/-! ### statements -/
inductive Out where
  | nx (ρ : Env)
  | rt (d : D)
  | bk (ρ : Env)
  | ct (ρ : Env)
abbrev Eg := Env → Option Out
def OutOk (K : PySem.W.Frag) (H0 : Hp) (M0 : Addr → Prop) (H : Hp) (M : Addr → Prop) (D : Ends) : Out → Prop
  | .nx ρ => ∀ σ' H' M', Step H M H' M' → EnvOk K H0 M0 H' M' ρ σ' → D.nx σ' H'
  | .bk ρ => ∀ σ' H' M', Step H M H' M' → EnvOk K H0 M0 H' M' ρ σ' → D.bk σ' H'
  | .ct ρ => ∀ σ' H' M', Step H M H' M' → EnvOk K H0 M0 H' M' ρ σ' → D.ct σ' H'
  | .rt d => ∀ v H', Same H0 H' → Rep K H' M0 d v → D.rt v H'
def GS (K : PySem.W.Frag) (t : TS) (g : Eg) : Prop := ∀ ⦃H0 : Hp⦄ ⦃M0 : Addr → Prop⦄ ⦃H : Hp⦄ ⦃M : Addr → Prop⦄ ⦃ρ : Env⦄ ⦃σ : L2.St⦄ ⦃D : Ends⦄ ⦃o : Out⦄, EnvOk K H0 M0 H M ρ σ → g ρ = some o → OutOk K H0 M0 H M D o → t D σ H
structure SS (X : Cx) (st : Stmt) (t : TS) (g : Eg) : Prop where
  ps : PS X st t
  g : GS X.K t g
structure SB (X : Cx) (st : List Stmt) (t : TS) (g : Eg) : Prop where
  ps : PSs X st t
  g : GS X.K t g
section
variable {K : PySem.W.Frag} {H0 : Hp} {M0 : Addr → Prop} {H H' : Hp} {M M' : Addr → Prop} {ρ : Env} {σ : L2.St}
theorem get_set_sl {l : List Sl} {i j : Nat} {a b : Sl} (h : (l.set i a)[j]? = some b) : (j = i ∧ b = a ∧ i < l.length) ∨ (j ≠ i ∧ l[j]? = some b) := by
  by_cases e : i = j
  · subst e
    by_cases hl : i < l.length
    · rw [List.getElem?_set_self hl] at h; cases h; exact .inl ⟨rfl, rfl, hl⟩
    · rw [List.getElem?_eq_none (by simpa using hl)] at h; cases h
  · rw [List.getElem?_set_ne e] at h; exact .inr ⟨fun z => e z.symm, h⟩
/-- shared data comes into a slot -/
theorem EnvOk.put (E : EnvOk K H0 M0 H M ρ σ) {i : Nat} {d : D} {v : V} (r : Rep K H M d v) : EnvOk K H0 M0 H M (ρ.set i (.sh d)) (σ.set i (some v)) where
  len := by simp [E.len]
  same := E.same
  mkh0 := E.mkh0
  sub := E.sub
  mkh := E.mkh
  sh := fun j d' h => by
    rcases get_set_sl h with ⟨e, e2, hl⟩ | ⟨e, h⟩
    · subst e
      injection e2 with e2
      subst e2
      exact ⟨v, by rw [List.getElem?_set_self (by rw [← E.len]; exact hl)], r⟩
    · obtain ⟨u, h1, h2⟩ := E.sh j d' h
      exact ⟨u, by rw [List.getElem?_set_ne (Ne.symm e)]; exact h1, h2⟩
  ow := fun j d' h => by
    rcases get_set_sl h with ⟨_, e2, _⟩ | ⟨e, h⟩
    · cases e2
    · obtain ⟨u, h1, h2⟩ := E.ow j d' h
      exact ⟨u, by rw [List.getElem?_set_ne (Ne.symm e)]; exact h1, h2⟩
  ap := fun j l d1 d2 a h1 h2 h3 h4 => by
    rcases get_set_sl h1 with ⟨_, e2, _⟩ | ⟨e, h1⟩
    · cases e2
    rcases get_set_sl h2 with ⟨_, e2, _⟩ | ⟨e', h2⟩
    · cases e2
    rw [List.getElem?_set_ne (Ne.symm e)] at h3
    rw [List.getElem?_set_ne (Ne.symm e')] at h4
    exact E.ap j l d1 d2 a h1 h2 h3 h4
/-- a new list or dict comes into a slot -/
theorem EnvOk.own (E : EnvOk K H0 M0 H M ρ σ) {i : Nat} {d : D} {p : Addr} (np : H p = none) (s : Same H H') (o : Own K H' (plus M p) d p) : EnvOk K H0 M0 H' (plus M p) (ρ.set i (.ow d)) (σ.set i (some (.ref p))) ∧ Step H M H' (plus M p) := by
  have st : Step H M H' (plus M p) := ⟨.of_same s, new_plus np⟩
  have mk' : MK H' (plus M p) := fun a h => by
    rcases h with h | h
    · exact E.mkh.same s a h
    · rw [h]; exact o.mutk
  have E' : EnvOk K H0 M0 H' (plus M p) ρ σ := E.more mk' (fun a h => .inl h) st.st (E.same.trans s) st.nw fun a h => by
    have := E.mkh a h
    cases e : H a with
    | none => rw [e] at this; exact this.elim
    | some u => exact s a u e
  have n0 : H0 p = none := E.same.free np
  refine ⟨⟨by simp [E.len], E'.same, E.mkh0, E'.sub, mk', fun j d' h => ?_, fun j d' h => ?_, fun j l d1 d2 a h1 h2 h3 h4 => ?_⟩, st⟩
  · rcases get_set_sl h with ⟨_, e2, _⟩ | ⟨e, h⟩
    · cases e2
    · obtain ⟨u, h1, h2⟩ := E'.sh j d' h
      exact ⟨u, by rw [List.getElem?_set_ne (Ne.symm e)]; exact h1, h2⟩
  · rcases get_set_sl h with ⟨e, e2, hl⟩ | ⟨e, h⟩
    · subst e
      injection e2 with e2
      subst e2
      exact ⟨p, by rw [List.getElem?_set_self (by rw [← E.len]; exact hl)], .inr rfl, n0, o⟩
    · obtain ⟨u, h1, h2⟩ := E'.ow j d' h
      exact ⟨u, by rw [List.getElem?_set_ne (Ne.symm e)]; exact h1, h2⟩
  · have none_at : ∀ (j : Nat) d', ρ[j]? = some (.ow d') → σ[j]? ≠ some (some (.ref p)) := fun j d' h z => by
      obtain ⟨u, e1, m, _, o'⟩ := E.ow j d' h
      rw [e1] at z
      cases z
      exact E.mkh.some m np
    rcases get_set_sl h1 with ⟨e, _, hl⟩ | ⟨e, h1⟩
    · subst e
      rw [List.getElem?_set_self (by rw [← E.len]; exact hl)] at h3
      cases h3
      rcases get_set_sl h2 with ⟨e', _, _⟩ | ⟨e', h2⟩
      · exact e'.symm
      · rw [List.getElem?_set_ne (Ne.symm e')] at h4
        exact absurd h4 (none_at l _ h2)
    · rw [List.getElem?_set_ne (Ne.symm e)] at h3
      rcases get_set_sl h2 with ⟨e', _, hl⟩ | ⟨e', k2⟩
      · have nj := none_at j _ h1
        rw [e', List.getElem?_set_self (by rw [← E.len]; exact hl)] at h4
        cases h4
        exact absurd h3 nj
      · rw [List.getElem?_set_ne (Ne.symm e')] at h4
        exact E.ap j l d1 d2 a h1 k2 h3 h4
/-- an owned thing is changed -/
theorem EnvOk.mut (E : EnvOk K H0 M0 H M ρ σ) {i : Nat} {d d' : D} {a : Addr} {u : HO} (h : ρ[i]? = some (.ow d)) (hs : σ[i]? = some (some (.ref a))) (mu : Mutk (some u)) (o : Own K (upd H a u) M d' a) : EnvOk K H0 M0 (upd H a u) M (ρ.set i (.ow d')) σ ∧ Step H M (upd H a u) M := by
  obtain ⟨a', e1, ma, n0, o0⟩ := E.ow i d h
  rw [hs] at e1
  cases e1
  have st : Stay H M (upd H a u) := fun b x hb nb => by rw [upd_ne (fun z => nb (by rw [z]; exact ma))]; exact hb
  have mk' : MK (upd H a u) M := fun b hb => by
    by_cases e : b = a
    · rw [e, upd_same]; exact mu
    · rw [upd_ne e]; exact E.mkh b hb
  refine ⟨⟨by simp [E.len], fun b x hb => ?_, E.mkh0, E.sub, mk', fun j d1 h1 => ?_, fun j d1 h1 => ?_, fun j l d1 d2 c h1 h2 h3 h4 => ?_⟩, ⟨st, .refl⟩⟩
  · rw [upd_ne (ne_of_none hb n0)]; exact E.same b x hb
  · rcases get_set_sl h1 with ⟨_, e2, _⟩ | ⟨e, h1⟩
    · cases e2
    · obtain ⟨v, e1, r⟩ := E.sh j d1 h1
      exact ⟨v, e1, r.stay E.mkh st .refl⟩
  · rcases get_set_sl h1 with ⟨e, e2, hl⟩ | ⟨e, h1⟩
    · subst e
      injection e2 with e2
      subst e2
      exact ⟨a, hs, ma, n0, o⟩
    · obtain ⟨b, e1, mb, nb, ob⟩ := E.ow j d1 h1
      have nab : b ≠ a := fun z => by subst z; exact e (E.ap j i _ _ _ h1 h e1 hs)
      exact ⟨b, e1, mb, nb, ob.stay E.mkh st .refl (upd_ne nab)⟩
  · have at_ : ∀ (m : Nat) dm, (ρ.set i (.ow d'))[m]? = some (.ow dm) → ∃ dm', ρ[m]? = some (.ow dm') := fun m dm hm => by
      rcases get_set_sl hm with ⟨e, _, _⟩ | ⟨_, hm⟩
      · subst e; exact ⟨d, h⟩
      · exact ⟨_, hm⟩
    obtain ⟨d3, h1⟩ := at_ j d1 h1
    obtain ⟨d4, h2⟩ := at_ l d2 h2
    exact E.ap j l d3 d4 c h1 h2 h3 h4
/-- an owned thing is given up: from here on shared -/
theorem EnvOk.freeze (E : EnvOk K H0 M0 H M ρ σ) {i : Nat} {d : D} (h : ρ[i]? = some (.ow d)) : ∃ M', EnvOk K H0 M0 H M' (ρ.set i (.sh d)) σ ∧ Step H M H M' := by
  obtain ⟨a, hs, ma, n0, o0⟩ := E.ow i d h
  have le : ∀ b, (M b ∧ b ≠ a) → M b := fun b z => z.1
  refine ⟨fun b => M b ∧ b ≠ a, ⟨by simp [E.len], E.same, E.mkh0, fun b hb => ⟨E.sub b hb, fun z => E.mkh0.some hb (by rw [z]; exact n0)⟩, fun b hb => E.mkh b hb.1, fun j d1 h1 => ?_, fun j d1 h1 => ?_, fun j l d1 d2 c h1 h2 h3 h4 => ?_⟩, ⟨fun _ _ hb _ => hb, fun b hb nb => absurd hb.1 nb⟩⟩
  · rcases get_set_sl h1 with ⟨e, e2, hl⟩ | ⟨e, h1⟩
    · subst e
      injection e2 with e2
      subst e2
      exact ⟨_, hs, (o0.anti le).rep fun z => z.2 rfl⟩
    · obtain ⟨v, e1, r⟩ := E.sh j d1 h1
      exact ⟨v, e1, r.anti le⟩
  · rcases get_set_sl h1 with ⟨_, e2, _⟩ | ⟨e, h1⟩
    · cases e2
    · obtain ⟨b, e1, mb, nb, ob⟩ := E.ow j d1 h1
      have nab : b ≠ a := fun z => by subst z; exact e (E.ap j i _ _ _ h1 h e1 hs)
      exact ⟨b, e1, ⟨mb, nab⟩, nb, ob.anti le⟩
  · rcases get_set_sl h1 with ⟨_, e2, _⟩ | ⟨e, h1⟩
    · cases e2
    rcases get_set_sl h2 with ⟨_, e2, _⟩ | ⟨e', h2⟩
    · cases e2
    exact E.ap j l d1 d2 c h1 h2 h3 h4
end
section
variable {K : PySem.W.Frag} {H0 : Hp} {M0 : Addr → Prop} {H H' : Hp} {M M' : Addr → Prop} {D : Ends} {o : Out}
theorem OutOk.step (q : OutOk K H0 M0 H M D o) (s : Step H M H' M') : OutOk K H0 M0 H' M' D o := by
  cases o with
  | nx ρ => exact fun σ' H2 M2 s2 E => q σ' H2 M2 (s.trans s2) E
  | bk ρ => exact fun σ' H2 M2 s2 E => q σ' H2 M2 (s.trans s2) E
  | ct ρ => exact fun σ' H2 M2 s2 E => q σ' H2 M2 (s.trans s2) E
  | rt d => exact q
end
def nxt : Eg := fun ρ => some (.nx ρ)
def seq (f g : Eg) : Eg := fun ρ => (f ρ).bind fun o => match o with
  | .nx ρ' => g ρ'
  | o => some o
section
variable {X : Cx} {st : Stmt} {rest : List Stmt} {t u : TS} {f g : Eg} {pos : Pos} {e : Expr} {te : TE} {fe : Ev}
theorem s_nil : SB X [] tNext nxt := ⟨pss_nil, fun H0 M0 H M ρ σ D o E hf q => by cases hf; exact q σ H M .refl E⟩
theorem s_one (h : SS X st t f) : SB X [st] t f := ⟨pss_one h.ps, h.g⟩
theorem s_cons (h : SS X st t f) (h2 : SB X rest u g) : SB X (st :: rest) (tSeq t u) (seq f g) := ⟨pss_cons h.ps h2.ps, fun H0 M0 H M ρ σ D o E hf q => by
  obtain ⟨o1, e1, hf⟩ := bind_some hf
  refine h.g E e1 ?_
  cases o1 with
  | nx ρ' => exact fun σ' H' M' s E' => h2.g E' hf (q.step s)
  | rt d => cases hf; exact q
  | bk ρ' => cases hf; exact q
  | ct ρ' => cases hf; exact q⟩
theorem s_pass : SS X (.Pass pos) tNext nxt := ⟨ps_pass, fun H0 M0 H M ρ σ D o E hf q => by cases hf; exact q σ H M .refl E⟩
def brk : Eg := fun ρ => some (.bk ρ)
theorem s_break : SS X (.Break pos) tBreak brk := ⟨ps_break, fun H0 M0 H M ρ σ D o E hf q => by cases hf; exact q σ H M .refl E⟩
def ret (f : Ev) : Eg := fun ρ => (f ρ).map .rt
theorem s_ret (h : EE X e te fe) : SS X (.Return (some e) pos) (tRet te) (ret fe) := ⟨ps_ret h.pe, fun H0 M0 H M ρ σ D o E hf q => by
  obtain ⟨d, e1, e2⟩ := Option.map_eq_some_iff.mp hf
  subst e2
  exact h.g E e1 fun v H' s r => q v H' (E.same.trans s) (r.anti E.sub)⟩
/-- return of a name, owned or not -/
theorem s_retV (i : Nat) {x : Str} {p2 : Pos} (hN : X.N[i]? = some x := by rfl) (hv : Vis X.env.scope x := by first | exact Or.inl rfl | exact Or.inr (Or.inl rfl) | exact Or.inr (Or.inr rfl)) (hd : (x == ("__debug__" : Str)) = false := by decide)
    (hcd : (x == ("__classdict__" : Str)) = false := by decide) : SS X (.Return (some (.Name x p2)) pos) (tRet (tVar i)) (ret (vb i)) := ⟨ps_ret (pe_var hN hv hd hcd), fun H0 M0 H M ρ σ D o E hf q => by
  obtain ⟨d, e1, e2⟩ := Option.map_eq_some_iff.mp hf
  subst e2
  unfold vb at e1
  split at e1
  · rename_i d' h
    cases e1
    obtain ⟨v, e, r⟩ := E.sh i _ h
    exact ⟨v, e, q v H E.same (r.anti E.sub)⟩
  · rename_i d' h
    cases e1
    obtain ⟨a, e, _, n0, o⟩ := E.ow i _ h
    exact ⟨_, e, q _ H E.same ((o.anti E.sub).rep fun z => E.mkh0.some z n0)⟩
  · cases e1⟩
theorem s_retN : SS X (.Return none pos) tRetN (ret (cst .none)) := ⟨ps_retN, fun H0 M0 H M ρ σ D o E hf q => by
  cases hf
  exact q _ H E.same .non⟩
def ifS (c : Et) (f g : Eg) : Eg := fun ρ => (c ρ).bind fun b => if b = true then f ρ else g ρ
theorem s_if {c : Expr} {a b : List Stmt} {tc : TT} {gc : Et} (hc : ET X c tc gc) (ha : SB X a t f) (hb : SB X b u g) : SS X (.If c a b pos) (tIfS tc t u) (ifS gc f g) := ⟨ps_if hc.pt ha.ps hb.ps, fun H0 M0 H M ρ σ D o E hf q => by
  obtain ⟨x, e1, hf⟩ := bind_some hf
  refine hc.g E e1 fun H1 s1 => ?_
  cases x with
  | true => rw [if_pos rfl] at hf ⊢; exact ha.g (E.to s1) hf (q.step (.of_same s1))
  | false => rw [if_neg Bool.false_ne_true] at hf ⊢; exact hb.g (E.to s1) hf (q.step (.of_same s1))⟩
/-- name = e -/
def setS (i : Nat) (f : Ev) : Eg := fun ρ => (f ρ).map fun d => .nx (ρ.set i (.sh d))
def ownS (i : Nat) (f : Ev) : Eg := fun ρ => (f ρ).map fun d => .nx (ρ.set i (.ow d))
theorem g_set {i : Nat} (h : GE X.K te fe) : GS X.K (tAsg te (gName i)) (setS i fe) := fun H0 M0 H M ρ σ D o E hf q => by
  obtain ⟨d, e1, e2⟩ := Option.map_eq_some_iff.mp hf
  subst e2
  exact h E e1 fun v H' s r => q _ H' M (.of_same s) ((E.to s).put r)
theorem g_own {i : Nat} (h : GN X.K te fe) : GS X.K (tAsg te (gName i)) (ownS i fe) := fun H0 M0 H M ρ σ D o E hf q => by
  obtain ⟨d, e1, e2⟩ := Option.map_eq_some_iff.mp hf
  subst e2
  refine h E e1 fun p H' np s ow => ?_
  obtain ⟨E', st⟩ := E.own np s ow (i := i)
  exact q _ H' _ st E'
theorem s_set (i : Nat) {x : Str} {p2 : Pos} (h : EE X e te fe) (hN : X.N.Nodup) (hi : X.N[i]? = some x := by rfl) (hx : Loc X.env.scope x := by first | exact Or.inl rfl | exact Or.inr rfl) (hs : swapsWith e (some (.Name x p2)) pos.line X.env = pure false := by rfl)
    (hf : X.fn x = true ∨ X.env.scope.names.lookup x = some .local := by first | exact .inl rfl | exact .inr rfl) : SS X (.Assign [.Name x p2] e pos) (tAsg te (gName i)) (setS i fe) := ⟨L2.ps_set hN hi hx h.pe hs hf, g_set h.g⟩
theorem s_own (i : Nat) {x : Str} {p2 : Pos} (h : EN X e te fe) (hN : X.N.Nodup) (hi : X.N[i]? = some x := by rfl) (hx : Loc X.env.scope x := by first | exact Or.inl rfl | exact Or.inr rfl) (hs : swapsWith e (some (.Name x p2)) pos.line X.env = pure false := by rfl)
    (hf : X.fn x = true ∨ X.env.scope.names.lookup x = some .local := by first | exact .inl rfl | exact .inr rfl) : SS X (.Assign [.Name x p2] e pos) (tAsg te (gName i)) (ownS i fe) := ⟨L2.ps_set hN hi hx h.pe hs hf, g_own h.g⟩
/-- an owned name is given up ahead of a statement -/
def frz (i : Nat) (ρ : Env) : Env := match ρ[i]? with
  | some (.ow d) => ρ.set i (.sh d)
  | _ => ρ
def frzS (i : Nat) (f : Eg) : Eg := fun ρ => f (frz i ρ)
theorem g_frz {i : Nat} {K : PySem.W.Frag} (h : GS K t f) : GS K t (frzS i f) := fun H0 M0 H M ρ σ D o E hf q => by
  unfold frzS frz at hf
  split at hf
  · rename_i d hd
    obtain ⟨M', E', st⟩ := E.freeze hd
    exact h E' hf (q.step st)
  · exact h E hf q
theorem s_frz (i : Nat) (h : SS X st t f) : SS X st t (frzS i f) := ⟨h.ps, g_frz h.g⟩
end
section
variable {X : Cx} {st : Stmt} {body : List Stmt} {t u tb : TS} {f gb : Eg} {pos : Pos} {e : Expr} {te : TE} {fe fi : Ev}
/-! ### changes -/
def appS (i : Nat) (f : Ev) : Eg := fun ρ => (f ρ).bind fun d => match ρ[i]? with
  | some (.ow (.list ds)) => if ds.length < sizeLine then some (.nx (ρ.set i (.ow (.list (ds ++ [d]))))) else none
  | _ => none
theorem g_app {i : Nat} (h : GE X.K te fe) : GS X.K (tDrop (tBM X.K "list" rAppend (tVar i) (tCons te tNil))) (appS i fe) := fun H0 M0 H M ρ σ D o E hf q => by
  obtain ⟨d, e1, hf⟩ := bind_some hf
  split at hf
  · rename_i ds hi
    split at hf
    · rename_i hz
      cases hf
      obtain ⟨a, hs, ma, n0, vs, ha, r0⟩ := E.ow i _ hi
      refine ⟨_, hs, .inl ⟨rfl, vs, .of ha⟩, h E e1 fun v H1 s1 r1 => ⟨a, vs, v, rfl, rfl, s1 _ _ ha, by rw [← r0.length]; exact hz, ?_⟩⟩
      have E1 := E.to s1
      have r2 : Reps X.K H1 M (ds ++ [d]) (vs ++ [v]) := (r0.same E.mkh s1).append (.cons r1 .nil)
      obtain ⟨a', e', _, _, _⟩ := E1.ow i _ hi
      have stay : Stay H1 M (upd H1 a (.lst (vs ++ [v]))) := fun b x hb nb => by rw [upd_ne (fun z => nb (by rw [z]; exact ma))]; exact hb
      obtain ⟨E2, st⟩ := E1.mut (u := .lst (vs ++ [v])) (d' := .list (ds ++ [d])) hi hs True.intro ⟨_, upd_same, r2.stay E1.mkh stay .refl⟩
      exact q _ _ _ ((Step.of_same s1).trans st) E2
    · cases hf
  · cases hf
structure BmOk (X : Cx) (o e : Expr) (es : List Expr) (name : Str) (apos cpos : Pos) : Prop where
  hbase : attributeBase o name X.env (eval o X.env) = eval o X.env
  hfew : ((backTo cpos (starEach (e :: es) X.env)).all (fun x => !x.1) && (backToKw cpos (keywordEach [] X.env)).all (fun x => x.1.isSome)
      && decide ((e :: es).length + ([] : List Keyword).length + (if ([] : List Keyword).isEmpty then 0 else 1) < 30)) = true
  hline : (apos.endLine == cpos.line) = true
  hs : starEach (e :: es) X.env = (false, eval e X.env) :: starEach es X.env
  hplain : (backTo cpos (starEach es X.env)).any (·.1) = false
structure NmOk (X : Cx) (i : Nat) (x : Str) : Prop where
  hN : X.N[i]? = some x
  hv : Vis X.env.scope x
  hd : (x == ("__debug__" : Str)) = false
  hcd : (x == ("__classdict__" : Str)) = false
theorem nm_l {i : Nat} {x : Str} (hN : X.N[i]? = some x) (h : X.env.scope.names.lookup x = some .local) (hd : (x == ("__debug__" : Str)) = false := by decide) (hcd : (x == ("__classdict__" : Str)) = false := by decide) : NmOk X i x := ⟨hN, .inl h, hd, hcd⟩
theorem nm_c {i : Nat} {x : Str} (hN : X.N[i]? = some x) (h : X.env.scope.names.lookup x = some .cell) (hd : (x == ("__debug__" : Str)) = false := by decide) (hcd : (x == ("__classdict__" : Str)) = false := by decide) : NmOk X i x := ⟨hN, .inr (.inl h), hd, hcd⟩
theorem NmOk.pe {i : Nat} {x : Str} {pos : Pos} (h : NmOk X i x) : PE X (.Name x pos) (tVar i) := pe_var h.hN h.hv h.hd h.hcd
theorem pe_bmB {T id : String} {name : Str} {o e : Expr} {es : List Expr} {to : TE} {t : TA} {r : V → List V → Hp → VK → Prop} {apos cpos : Pos} (pa : PlainAttrs T) (slot : Slot T name id) (hty : typeOf (.builtin id) = pure (.type "method_descriptor")) (hm : MtR X id r) (ho : PE X o to) (ha : PA X (e :: es) t) (b : BmOk X o e es name apos cpos) :
    PE X (.Call (.Attribute o name apos) (e :: es) [] cpos) (tBM X.K T r to t) := pe_bm pa slot hty hm ho ha b.hbase b.hfew b.hline b.hs b.hplain
theorem s_app (i : Nat) {x : Str} {apos p1 p2 : Pos} (h : EE X e te fe) (nm : NmOk X i x := by first | exact nm_l rfl rfl | exact nm_c rfl rfl) (b : BmOk X (.Name x p1) e [] "append" apos p2 := by exact ⟨rfl, rfl, rfl, rfl, rfl⟩)
    (hs : swapsWith (.Call (.Attribute (.Name x p1) "append" apos) [e] [] p2) none pos.line X.env = pure false := by rfl) : SS X (.Expr (.Call (.Attribute (.Name x p1) "append" apos) [e] [] p2) pos) (tDrop (tBM X.K "list" rAppend (tVar i) (tCons te tNil))) (appS i fe) :=
  ⟨ps_expr (pe_bmB PySem.F.plainAttrs_list PySem.F.slot_list_append PySem.F.type_list_append mt_append nm.pe (pa_cons h.pe pa_nil b.hs) b) hs, g_app h.g⟩
/-! xs.extend(ys), ys a list or a tuple of any standing -/
theorem extend_any (T : String) (hT : T = "list" ∨ T = "tuple") (l : Addr) (items : Array Value) (n : Nat) (b : Addr) (items2 : Array Value) (n2 : Nat) (dd : Option Addr) (slx : Array (Option Value)) (hc0 : ¬(!items.isEmpty && Builtin.List.listTooLong (items.size + items2.size)) = true) (hc1 : items.size ≤ sizeLine) (hs2 : items.size + items2.size ≤ sizeLine + 1) :
    Meets (Builtin.«list.extend» ⟨[.ref l, .ref b], []⟩) (fun _ R s => s.heap.get? l = some { cls := .type "list", dict := none, data := .seq items n, slots := #[] } ∧ s.heap.get? b = some { cls := .type T, dict := dd, data := .seq items2 n2, slots := slx } ∧
      R (.ok (.ret Value.none)) { s with heap := s.heap.update l (Obj.mapSeq fun x => x ++ items2), toks := s.toks }) :=
  .of_wp fun prog w A R s h => by
    obtain ⟨hp, g, d, tk, os⟩ := s
    obtain ⟨hl, hb, h⟩ := h
    have hz' : (items ++ items2).size ≤ sizeLine + 1 := by rw [Array.size_append]; exact hs2
    have f1 := AutoSeq1.idx_int; have f2 := AutoSeq1.sub_tuple_tuple; have f3 := AutoSeq1.sub_list_list
    have f4 := AutoSeq1.sub_tuple_list; have f5 := AutoSeq1.sub_list_tuple
    rcases hT with e | e <;> subst e <;>
    · wp_walk using (wpAny_updateSeq hl rfl (hz := hc1) (_hz' := hz')), AutoSeq1.wpAny_loadPart' hl, AutoSeq1.wpAny_loadPart' hb
      exact ⟨_, rfl, h⟩
def rExtA (K : PySem.W.Frag) : V → List V → Hp → VK → Prop := fun x vs H Q => ∃ l b xs zs, x = .ref l ∧ vs = [.ref b] ∧ H l = some (.lst xs) ∧ (SqL K H b zs ∨ SqT K H b zs) ∧ xs.length + zs.length ≤ sizeLine ∧ Q .non (upd H l (.lst (xs ++ zs)))
theorem mt_extendA : MtR X "list.extend" (rExtA X.K) := by
  intro pins s σ H x vs v us Q I rx rv h
  obtain ⟨l, b, xs, zs, rfl, rfl, hH, hB, hz, q⟩ := h
  cases rx
  rw [Vals.ref1 rv]
  obtain ⟨z, its, n, r, hl, e⟩ := I.lstM hH
  have hsrc : ∃ (T : String) (o : Obj) (its2 : List Value) (c : Nat), (T = "list" ∨ T = "tuple") ∧ s.heap.get? b = some o ∧ o.cls = .type T ∧ o.data = .seq its2.toArray c ∧ Vals zs its2 := by
    rcases hB with hs | hs
    · obtain ⟨its2, rv, ⟨o, c, ho, hc, _, hdt⟩, _⟩ := I.list hs
      exact ⟨"list", o, its2, c, .inl rfl, ho, hc, hdt, rv⟩
    · obtain ⟨its2, rv, ⟨o, ho, hc, c, hdt⟩, _⟩ := I.tuple hs
      exact ⟨"tuple", o, its2, c, .inr rfl, ho, hc, hdt, rv⟩
  obtain ⟨T, ⟨cls, dd, data, slx⟩, its2, n2, hT, e2, hc, hdt, r2⟩ := hsrc
  simp only at hc hdt
  subst hc hdt
  have hl2 := r2.length
  have hsz : its.toArray.size + its2.toArray.size ≤ sizeLine := by rw [List.size_toArray, List.size_toArray]; omega
  have hlong : ¬ (!its.toArray.isEmpty && Builtin.List.listTooLong (its.toArray.size + its2.toArray.size)) = true := by
    rw [notLongL hsz, Bool.and_false]; decide
  refine call_meets PySem.F.slot_list_extend ⟨_, e, rfl⟩ PySem.F.entry_list_extend (PySem.F.args_list_extend_2 _ _)
    (extend_any T hT l its.toArray n b its2.toArray n2 dd slx hlong (by rw [List.size_toArray]; omega) (by omega)) ⟨e, e2, ?_⟩
  exact ⟨.non, _, I.lset (its' := its ++ its2) hH e (by simp) (r.append r2) (by rw [List.length_append]; omega), rfl, q⟩
def extS (i : Nat) (f : Ev) : Eg := fun ρ => (f ρ).bind fun d => (seqOf d).bind fun es => match ρ[i]? with
  | some (.ow (.list ds)) => if ds.length + es.length ≤ sizeLine then some (.nx (ρ.set i (.ow (.list (ds ++ es))))) else none
  | _ => none
theorem RepB.seqOf {K : PySem.W.Frag} {H : Hp} {M : Addr → Prop} {d : D} {es : List D} {v : V} (r : RepB K H M d v) (e : Pu.seqOf d = some es) : ∃ a us, v = .ref a ∧ (SqL K H a us ∨ SqT K H a us) ∧ Reps K H M es us := by
  unfold Pu.seqOf at e
  split at e
  · cases e; obtain ⟨a, us, e3, h, y⟩ := r.lst; exact ⟨a, us, e3, .inl h, y⟩
  · cases e; obtain ⟨a, us, e3, h, y⟩ := r.tup; exact ⟨a, us, e3, .inr h, y⟩
  · cases e
theorem g_ext {i : Nat} (h : GB X.K te fe) : GS X.K (tDrop (tBM X.K "list" (rExtA X.K) (tVar i) (tCons te tNil))) (extS i fe) := fun H0 M0 H M ρ σ D o E hf q => by
  obtain ⟨d, e1, hf⟩ := bind_some hf
  obtain ⟨es, e2, hf⟩ := bind_some hf
  split at hf
  · rename_i ds hi
    split at hf
    · rename_i hz
      cases hf
      obtain ⟨a, hs, ma, n0, vs, ha, r0⟩ := E.ow i _ hi
      refine ⟨_, hs, .inl ⟨rfl, vs, .of ha⟩, h E e1 fun v H1 s1 r1 => ?_⟩
      obtain ⟨b, us, rfl, hb, r1⟩ := r1.seqOf e2
      refine ⟨a, b, vs, us, rfl, rfl, s1 _ _ ha, hb, by rw [← r0.length, ← r1.length]; exact hz, ?_⟩
      have E1 := E.to s1
      have r2 : Reps X.K H1 M (ds ++ es) (vs ++ us) := (r0.same E.mkh s1).append r1
      have stay : Stay H1 M (upd H1 a (.lst (vs ++ us))) := fun b x hb nb => by rw [upd_ne (fun z => nb (by rw [z]; exact ma))]; exact hb
      obtain ⟨E2, st⟩ := E1.mut (u := .lst (vs ++ us)) (d' := .list (ds ++ es)) hi hs True.intro ⟨_, upd_same, r2.stay E1.mkh stay .refl⟩
      exact q _ _ _ ((Step.of_same s1).trans st) E2
    · cases hf
  · cases hf
theorem s_ext (i : Nat) {x : Str} {apos p1 p2 : Pos} (h : EB X e te fe) (nm : NmOk X i x := by first | exact nm_l rfl rfl | exact nm_c rfl rfl) (b : BmOk X (.Name x p1) e [] "extend" apos p2 := by exact ⟨rfl, rfl, rfl, rfl, rfl⟩)
    (hs : swapsWith (.Call (.Attribute (.Name x p1) "extend" apos) [e] [] p2) none pos.line X.env = pure false := by rfl) : SS X (.Expr (.Call (.Attribute (.Name x p1) "extend" apos) [e] [] p2) pos) (tDrop (tBM X.K "list" (rExtA X.K) (tVar i) (tCons te tNil))) (extS i fe) :=
  ⟨ps_expr (pe_bmB PySem.F.plainAttrs_list PySem.F.slot_list_extend PySem.F.type_list_extend mt_extendA nm.pe (pa_cons h.pe pa_nil b.hs) b) hs, g_ext h.g⟩
/-! xs[k] = e -/
def stoS (i : Nat) (f fi : Ev) : Eg := fun ρ => (f ρ).bind fun d => (fi ρ).bind fun j => match ρ[i]?, j with
  | some (.ow (.list ds)), .int k => (ixN ds.length k).bind fun j => some (.nx (ρ.set i (.ow (.list (ds.set j d)))))
  | _, _ => none
theorem g_sto {i : Nat} {ti : TE} (h : GE X.K te fe) (h2 : GE X.K ti fi) : GS X.K (tAsg te (gSub (tVar i) ti rSetL)) (stoS i fe fi) := fun H0 M0 H M ρ σ D o E hf q => by
  obtain ⟨d, e1, hf⟩ := bind_some hf
  obtain ⟨j, e2, hf⟩ := bind_some hf
  split at hf
  · rename_i ds k hi
    obtain ⟨j, ej, hf⟩ := bind_some hf
    cases hf
    obtain ⟨a, hs, ma, n0, vs, ha, r0⟩ := E.ow i _ hi
    refine h E e1 fun v H1 s1 r1 => ⟨_, hs, h2 (E.to s1) e2 fun w H2 s2 r2 => ?_⟩
    cases r2
    refine ⟨a, vs, k, j, rfl, rfl, s2 _ _ (s1 _ _ ha), by rw [← r0.length]; exact ej, ?_⟩
    have E2 := (E.to s1).to s2
    have r3 : Reps X.K H2 M (ds.set j d) (vs.set j v) := Reps.set (r1.same (E.mkh.same s1) s2) j ((r0.same E.mkh s1).same (E.mkh.same s1) s2)
    have stay : Stay H2 M (upd H2 a (.lst (vs.set j v))) := fun b x hb nb => by rw [upd_ne (fun z => nb (by rw [z]; exact ma))]; exact hb
    obtain ⟨E3, st⟩ := E2.mut (u := .lst (vs.set j v)) (d' := .list (ds.set j d)) hi hs True.intro ⟨_, upd_same, r3.stay E2.mkh stay .refl⟩
    exact q _ _ _ ((Step.of_same (s1.trans s2)).trans st) E3
  · cases hf
structure SubOk (X : Cx) (o i e : Expr) (p2 pos : Pos) : Prop where
  ha : ∀ v, assign (.Subscript o i p2) X.env v = (do
      let ov ← holding [v] (eval o X.env)
      let iv ← holding [v, ov] (eval i X.env)
      standAt p2
      holding [v, ov, iv] (setItem ov iv v)
      release [v, ov, iv] [])
  hs : swapsWithSole [.Subscript o i p2] e pos.line X.env = pure false
  hw : swappedStores [.Subscript o i p2] e X.env = pure none
  h1 : (assignEach [.Subscript o i p2] X.env).map (·.2) = [assign (.Subscript o i p2) X.env]
theorem s_sto (i : Nat) {x : Str} {ie : Expr} {ti : TE} {p1 p2 : Pos} (h : EE X e te fe) (h2 : EE X ie ti fi) (nm : NmOk X i x := by first | exact nm_l rfl rfl | exact nm_c rfl rfl) (b : SubOk X (.Name x p1) ie e p2 pos := by exact ⟨fun _ => rfl, rfl, rfl, rfl⟩) :
    SS X (.Assign [.Subscript (.Name x p1) ie p2] e pos) (tAsg te (gSub (tVar i) ti rSetL)) (stoS i fe fi) := ⟨L2.ps_asg h.pe (pg_sub nm.pe h2.pe set_list b.ha) b.hs b.hw b.h1, g_sto h.g h2.g⟩
/-! x op= e, ints -/
def augS (i : Nat) (op : D → D → Option D) (f : Ev) : Eg := fun ρ => (vr i ρ).bind fun x => (f ρ).bind fun y => (op x y).map fun d => .nx (ρ.set i (.sh d))
theorem g_aug {i : Nat} {r : R2} {op : D → D → Option D} (hd : Does2 X.K r op) (h : GE X.K te fe) : GS X.K (tAug i te r) (augS i op fe) := fun H0 M0 H M ρ σ D o E hf q => by
  obtain ⟨x, e0, hf⟩ := bind_some hf
  obtain ⟨y, e1, hf⟩ := bind_some hf
  obtain ⟨d, e2, e3⟩ := Option.map_eq_some_iff.mp hf
  subst e3
  unfold vr at e0
  split at e0
  · rename_i d' hi
    cases e0
    obtain ⟨v, hv, r0⟩ := E.sh i _ hi
    refine ⟨v, hv, h E e1 fun w H1 s1 r1 => hd (E.mkh.same s1) (r0.same E.mkh s1).b r1.b e2 fun u H2 s2 r2 => ?_⟩
    exact q _ H2 M (.of_same (s1.trans s2)) (((E.to s1).to s2).put r2)
  · cases e0
structure LcOk (X : Cx) (i : Nat) (x : Str) : Prop where
  hN : X.N[i]? = some x
  hx : Loc X.env.scope x
  hf : X.fn x = true ∨ X.env.scope.names.lookup x = some .local
theorem lc_l {i : Nat} {x : Str} (hN : X.N[i]? = some x) (h : X.env.scope.names.lookup x = some .local) : LcOk X i x := ⟨hN, .inl h, .inr h⟩
theorem lc_c {i : Nat} {x : Str} (hN : X.N[i]? = some x) (h : X.env.scope.names.lookup x = some .cell) (hf : X.fn x = true) : LcOk X i x := ⟨hN, .inr h, .inl hf⟩
theorem s_aug {o : Operator} {r : R2} {op : D → D → Option D} (hr : OpR X (inplaceOp o) r) (hd : Does2 X.K r op) (i : Nat) {x : Str} {p1 : Pos} (h : EE X e te fe) (hN : X.N.Nodup) (lc : LcOk X i x) : SS X (.AugAssign (.Name x p1) o e pos) (tAug i te r) (augS i op fe) :=
  ⟨L2.ps_aug hN lc.hN lc.hx h.pe hr lc.hf, g_aug hd h.g⟩
def addI : D → D → Option D := intsOp fun i j => .int (i + j)
def subI : D → D → Option D := intsOp fun i j => .int (i - j)
def mulI : D → D → Option D := intsOpC mulOk fun i j => .int (i * j)
theorem s_augAdd (i : Nat) {x : Str} {p1 : Pos} (h : EE X e te fe) (hN : X.N.Nodup) (lc : LcOk X i x := by first | exact lc_l rfl rfl | exact lc_c rfl rfl rfl) : SS X (.AugAssign (.Name x p1) .Add e pos) (tAug i te (rI0 fun i j => .int (i + j))) (augS i addI fe) := s_aug iop_add (does_ints fun _ _ _ _ => .int _) i h hN lc
theorem s_augSub (i : Nat) {x : Str} {p1 : Pos} (h : EE X e te fe) (hN : X.N.Nodup) (lc : LcOk X i x := by first | exact lc_l rfl rfl | exact lc_c rfl rfl rfl) : SS X (.AugAssign (.Name x p1) .Sub e pos) (tAug i te (rI0 fun i j => .int (i - j))) (augS i subI fe) := s_aug iop_sub (does_ints fun _ _ _ _ => .int _) i h hN lc
theorem s_augMul (i : Nat) {x : Str} {p1 : Pos} (h : EE X e te fe) (hN : X.N.Nodup) (lc : LcOk X i x := by first | exact lc_l rfl rfl | exact lc_c rfl rfl rfl) : SS X (.AugAssign (.Name x p1) .Mult e pos) (tAug i te (rI CMul fun i j => .int (i * j))) (augS i mulI fe) := s_aug iop_mul (does_intsC (fun _ _ h => mulOk_C h) fun _ _ _ _ => .int _) i h hN lc
theorem s_augOr (i : Nat) {x : Str} {p1 : Pos} (h : EE X e te fe) (hN : X.N.Nodup) (lc : LcOk X i x := by first | exact lc_l rfl rfl | exact lc_c rfl rfl rfl) : SS X (.AugAssign (.Name x p1) .BitOr e pos) (tAug i te (rI0 fun i j => .int (Builtin.bitOr i j))) (augS i borD fe) := s_aug iop_or does_bor i h hN lc
end
end Pu

set_option Elab.async false
set_option linter.all false
set_option maxRecDepth 100000
namespace Pu
open PySem PySem.Spec PyProof.Rows L2

/-! ### targets -/
abbrev Tg := D → Env → Option Env
def GG (K : PySem.W.Frag) (g : TG) (ix : List Nat) (t : Tg) : Prop := ∀ ⦃H0 : Hp⦄ ⦃M0 : Addr → Prop⦄ ⦃H : Hp⦄ ⦃M : Addr → Prop⦄ ⦃ρ : Env⦄ ⦃σ : L2.St⦄ ⦃v : V⦄ ⦃d : D⦄ ⦃ρ' : Env⦄ ⦃Q : L2.St → Hp → Prop⦄, EnvOk K H0 M0 H M ρ σ → Rep K H M d v → t d ρ = some ρ' →
  (∀ σ', EnvOk K H0 M0 H M ρ' σ' → (∀ vs : List Nat, (∀ i ∈ ix, i ∈ vs) → wipe σ' vs = wipe σ vs) → Q σ' H) → g v σ H Q
def tEach : List Tg → List D → Env → Option Env
  | [], [], ρ => some ρ
  | t :: ts, d :: ds, ρ => (t d ρ).bind (tEach ts ds)
  | _, _, _ => none
def GGs (K : PySem.W.Frag) (g : TGs) (ix : List Nat) (t : List Tg) : Prop := ∀ ⦃H0 : Hp⦄ ⦃M0 : Addr → Prop⦄ ⦃H : Hp⦄ ⦃M : Addr → Prop⦄ ⦃ρ : Env⦄ ⦃σ : L2.St⦄ ⦃vs : List V⦄ ⦃ds : List D⦄ ⦃ρ' : Env⦄ ⦃Q : L2.St → Hp → Prop⦄, EnvOk K H0 M0 H M ρ σ → Reps K H M ds vs → tEach t ds ρ = some ρ' →
  (∀ σ', EnvOk K H0 M0 H M ρ' σ' → (∀ vs : List Nat, (∀ i ∈ ix, i ∈ vs) → wipe σ' vs = wipe σ vs) → Q σ' H) → g vs σ H Q
structure EG (X : Cx) (tg : Expr) (g : TG) (ix : List Nat) (t : Tg) : Prop where
  pg : PG X tg g
  g : GG X.K g ix t
structure EGs (X : Cx) (tg : List Expr) (g : TGs) (ix : List Nat) (t : List Tg) : Prop where
  pgs : PGs X tg g
  g : GGs X.K g ix t
def tN (i : Nat) : Tg := fun d ρ => some (ρ.set i (.sh d))
def tT (ts : List Tg) : Tg := fun d ρ => match d with
  | .tuple ds => tEach ts ds ρ
  | _ => none
theorem wipe_set {σ : L2.St} {i : Nat} {x : Option V} : ∀ {vs : List Nat}, i ∈ vs → wipe (σ.set i x) vs = wipe σ vs
  | v :: vs, h => by
    unfold wipe
    rcases List.mem_cons.mp h with e | h
    · subst e
      have out : ∀ us : List Nat, (wipe (σ.set i x) us).set i none = (wipe σ us).set i none := by
        intro us
        induction us with
        | nil => unfold wipe; rw [List.set_set]
        | cons u us ih =>
          unfold wipe
          by_cases e : u = i
          · subst e; rw [List.set_set, List.set_set]; exact ih
          · rw [List.set_comm _ _ e, ih, List.set_comm _ _ (Ne.symm e)]
      exact out vs
    · rw [wipe_set h]
section
variable {X : Cx} {e : Expr} {es : List Expr} {g : TG} {gs : TGs} {ix jx : List Nat} {t : Tg} {ts : List Tg} {pos : Pos}
theorem t_name (i : Nat) {x : Str} (hN : X.N.Nodup) (lc : LcOk X i x := by first | exact lc_l rfl rfl | exact lc_c rfl rfl rfl) : EG X (.Name x pos) (gName i) [i] (tN i) := ⟨pg_name hN lc.hN lc.hx lc.hf, fun H0 M0 H M ρ σ v d ρ' Q E r e q => by
  cases e
  exact q _ (E.put r) fun vs h => wipe_set (h i (by simp))⟩
theorem ts_nil : EGs X [] gNil [] [] := ⟨pgs_nil, fun H0 M0 H M ρ σ vs ds ρ' Q E r e q => by
  cases r
  · cases e
    exact ⟨rfl, q _ E fun _ _ => rfl⟩
  · cases e⟩
theorem ts_cons (h : EG X e g ix t) (h2 : EGs X es gs jx ts) (hs : (assignEach (e :: es) X.env).map (·.2) = assign e X.env :: (assignEach es X.env).map (·.2) := by rfl) : EGs X (e :: es) (gCons g gs) (ix ++ jx) (t :: ts) := ⟨pgs_cons h.pg h2.pgs hs, fun H0 M0 H M ρ σ vs ds ρ' Q E r e q => by
  cases r with
  | nil => cases e
  | cons r rs =>
    obtain ⟨ρ1, e1, e⟩ := bind_some e
    refine ⟨_, _, rfl, h.g E r e1 fun σ1 E1 w1 => h2.g E1 rs e fun σ2 E2 w2 => q σ2 E2 fun vs hv => ?_⟩
    rw [w2 vs fun i hi => hv i (List.mem_append_right _ hi), w1 vs fun i hi => hv i (List.mem_append_left _ hi)]⟩
theorem tEach_len : ∀ {ts : List Tg} {ds : List D} {ρ ρ' : Env}, tEach ts ds ρ = some ρ' → ds.length = ts.length
  | [], [], _, _, _ => rfl
  | _ :: _, _ :: _, _, _, h => by obtain ⟨_, _, h⟩ := bind_some h; exact congrArg (· + 1) (tEach_len h)
  | [], _ :: _, _, _, h => by cases h
  | _ :: _, [], _, _, h => by cases h
theorem t_tup {k : Nat} (hc : X.calm = true) (h : EGs X es gs ix ts) (hn : (assignEach es X.env).length = ts.length := by rfl) (hst : (assignEach es X.env).findIdx? (·.1) = none := by rfl) : EG X (.Tuple es k pos) (gTup X.K ts.length gs) ix (tT ts) := ⟨pg_tup hc h.pgs hn hst, fun H0 M0 H M ρ σ v d ρ' Q E r e q => by
  unfold tT at e
  split at e
  · cases r with
    | tup h1 r1 => exact ⟨_, _, rfl, h1, r1.length.symm.trans (tEach_len e), h.g E r1 e q⟩
  · cases e⟩
end
/-- target = e, e told by its value -/
def asgS (t : Tg) (f : Ev) : Eg := fun ρ => (f ρ).bind fun d => (t d ρ).map .nx
section
variable {X : Cx} {e tg : Expr} {te : TE} {fe : Ev} {g : TG} {ix : List Nat} {t : Tg} {pos : Pos}
structure AsOk (X : Cx) (tg e : Expr) (pos : Pos) : Prop where
  hs : swapsWithSole [tg] e pos.line X.env = pure false
  hw : swappedStores [tg] e X.env = pure none
  h1 : (assignEach [tg] X.env).map (·.2) = [assign tg X.env]
theorem s_asg (h : EE X e te fe) (h2 : EG X tg g ix t) (b : AsOk X tg e pos := by exact ⟨rfl, rfl, rfl⟩) : SS X (.Assign [tg] e pos) (tAsg te g) (asgS t fe) := ⟨L2.ps_asg h.pe h2.pg b.hs b.hw b.h1, fun H0 M0 H M ρ σ D o E hf q => by
  obtain ⟨d, e1, hf⟩ := bind_some hf
  obtain ⟨ρ', e2, e3⟩ := Option.map_eq_some_iff.mp hf
  subst e3
  exact h.g E e1 fun v H1 s1 r1 => h2.g (E.to s1) r1 e2 fun σ' E' _ => q σ' H1 M (.of_same s1) E'⟩
/-- x, y = a, b with plain local names -/
def parS (i j : Nat) (fs : Es) : Eg := fun ρ => (fs ρ).bind fun ds => match ds with
  | [d, d'] => some (.nx ((ρ.set i (.sh d)).set j (.sh d')))
  | _ => none
theorem s_par (i j : Nat) {x y : Str} {a b : Expr} {ta : TA} {fs : Es} {px py pt : Pos} {kt k2 : Nat} {pt2 : Pos} (hc : X.calm = true) (hN : X.N.Nodup) (h : AE X [a, b] ta fs) (hi : X.N[i]? = some x := by rfl) (hj : X.N[j]? = some y := by rfl) (hij : i ≠ j := by decide)
    (hx : X.env.scope.names.lookup x = some .local := by rfl) (hy : X.env.scope.names.lookup y = some .local := by rfl)
    (hw : swappedStores [.Tuple [.Name x px, .Name y py] kt pt] (.Tuple [a, b] k2 pt2) X.env = pure (some [x, y]) := by rfl)
    (hs : swapsWithSole [.Tuple [.Name x px, .Name y py] kt pt] (.Tuple [a, b] k2 pt2) pos.line X.env = pure false := by rfl) :
    SS X (.Assign [.Tuple [.Name x px, .Name y py] kt pt] (.Tuple [a, b] k2 pt2) pos) (tPar i j ta) (parS i j fs) := ⟨ps_par hc hN hi hj hij hx hy h.pa hw hs, fun H0 M0 H M ρ σ D o E hf q => by
  obtain ⟨ds, e1, hf⟩ := bind_some hf
  split at hf
  · cases hf
    refine h.g E e1 fun vs H1 s1 r1 => ?_
    cases r1 with
    | cons r1 r =>
      cases r with
      | cons r2 r =>
        cases r
        exact ⟨_, _, rfl, q _ H1 M (.of_same s1) (((E.to s1).put r1).put r2)⟩
  · cases hf⟩
end

/-! ### what is walked -/
def Walks (K : PySem.W.Frag) (J : It) (ds : List D) (P : Hp → (Addr → Prop) → Prop) : Prop := ∃ (G : Hp → Prop) (Y : Nat → Hp → V → Hp → Prop), Walk J ds.length G Y ∧ (∀ H M, P H M → MK H M → G H) ∧
  ∀ i H x H' M, i < ds.length → P H M → MK H M → Y i H x H' → Same H H' ∧ ∀ d, ds[i]? = some d → Rep K H' M d x
theorem Walks.mono {K : PySem.W.Frag} {J : It} {ds : List D} {P P' : Hp → (Addr → Prop) → Prop} (w : Walks K J ds P) (h : ∀ H M, P' H M → P H M) : Walks K J ds P' := by
  obtain ⟨G, Y, w, g, y⟩ := w
  exact ⟨G, Y, w, fun H M p => g H M (h H M p), fun i H x H' M hi p => y i H x H' M hi (h H M p)⟩
/-- in a loop; in a comprehension -/
abbrev PL (H1 : Hp) (M : Addr → Prop) : Hp → (Addr → Prop) → Prop := fun H2 M2 => Step H1 M H2 M2
abbrev PC' (H1 : Hp) (M : Addr → Prop) : Hp → (Addr → Prop) → Prop := fun H2 M2 => Same H1 H2 ∧ New H1 M M2
abbrev Src := Env → Option (List D)
def GI (K : PySem.W.Frag) (wi : TI) (f : Src) : Prop := ∀ ⦃H0 : Hp⦄ ⦃M0 : Addr → Prop⦄ ⦃H : Hp⦄ ⦃M : Addr → Prop⦄ ⦃ρ : Env⦄ ⦃σ : L2.St⦄ ⦃R : It → Hp → Prop⦄ ⦃ds : List D⦄, EnvOk K H0 M0 H M ρ σ → f ρ = some ds → (∀ J H1, Same H H1 → Walks K J ds (PL H1 M) → R J H1) → wi σ H R
def GC (K : PySem.W.Frag) (wi : TI) (f : Src) : Prop := ∀ ⦃H0 : Hp⦄ ⦃M0 : Addr → Prop⦄ ⦃H : Hp⦄ ⦃M : Addr → Prop⦄ ⦃ρ : Env⦄ ⦃σ : L2.St⦄ ⦃R : It → Hp → Prop⦄ ⦃ds : List D⦄, EnvOk K H0 M0 H M ρ σ → f ρ = some ds → (∀ J H1, Same H H1 → Walks K J ds (PC' H1 M) → R J H1) → wi σ H R
structure EI (X : Cx) (tg e : Expr) (wi : TI) (f : Src) : Prop where
  pi : PI X tg e wi
  g : GI X.K wi f
/-- the source of a comprehension -/
structure EC (X : Cx) (tg e : Expr) (wi : TI) (f : Src) : Prop where
  pi : PI X tg e wi
  g : GC X.K wi f
theorem EI.c {X : Cx} {tg e : Expr} {wi : TI} {f : Src} (h : EI X tg e wi f) : EC X tg e wi f := ⟨h.pi, fun H0 M0 H M ρ σ R ds E hf q => h.g E hf fun J H1 s w => q J H1 s (w.mono fun H2 M2 p => ⟨.of_same p.1, p.2⟩)⟩

def iAny (K : PySem.W.Frag) (tl : TE) : TI := fun σ H R => tl σ H fun x H1 => (∃ a, x = .ref a ∧ (∃ xs, SqL K H1 a xs) ∧ R (Itl K a) H1) ∨ (∃ a, x = .ref a ∧ (∃ xs, SqT K H1 a xs) ∧ R (Itt K a) H1) ∨ (∃ z, x = .str z ∧ R (Its z) H1)
theorem pi_any {X : Cx} {tg l : Expr} {tl : TE} (hl : PE X l tl) : PI X tg l (iAny X.K tl) := by
  refine ⟨fun pins s σ H R I h => thn (hl.run pins s σ H _ I h) fun v s1 ⟨x, H1, I1, r1, q1⟩ => ?_⟩
  rcases q1 with ⟨a, e, ⟨xs, hq⟩, q⟩ | ⟨a, e, ⟨xs, hq⟩, q⟩ | ⟨z, e, q⟩
  · subst e
    cases r1
    obtain ⟨its, rv, p, hz⟩ := I1.list hq
    exact wpAny_pyIter_list p.isList (pi_one (tk := s1.toks) I1 _ (turn_list a _) ⟨_, Heap.get?_push_size _ rfl, rfl, rfl⟩ q)
  · subst e
    cases r1
    obtain ⟨its, rv, p, hz⟩ := I1.tuple hq
    exact wpAny_pyIter_tuple (show s1.heap.IsTuple a its.toArray from p) (pi_one (tk := s1.toks) I1 _ (turn_tuple a _) ⟨_, Heap.get?_push_size _ rfl, rfl, rfl⟩ q)
  · subst e
    obtain ⟨t, rfl⟩ := r1
    cases ha : z.cps.all (· < 128)
    · exact wpAny_pyIter_wide ha (pi_one (tk := s1.toks) I1 _ (turn_str _ z t "str_iterator" (.inr rfl)) ⟨_, Heap.get?_push_size _ rfl, rfl, rfl⟩ q)
    · exact wpAny_pyIter_ascii ha (pi_one (tk := s1.toks) I1 _ (turn_str _ z t "str_ascii_iterator" (.inl rfl)) ⟨_, Heap.get?_push_size _ rfl, rfl, rfl⟩ q)
def itemsOf : D → Option (List D)
  | .list ds => some ds
  | .tuple ds => some ds
  | .str z => some (z.cps.toList.map fun c => .str ⟨#[c]⟩)
  | _ => none
def srcOf (f : Ev) : Src := fun ρ => (f ρ).bind itemsOf
theorem walks_str {K : PySem.W.Frag} {z : Str} {P : Hp → (Addr → Prop) → Prop} : Walks K (Its z) (z.cps.toList.map fun c => .str ⟨#[c]⟩) P := by
  refine ⟨fun _ => True, fun i H v H' => H' = H ∧ ∃ c, z.cps[i]? = some c ∧ v = .str ⟨#[c]⟩, ?_, fun _ _ _ _ => True.intro, ?_⟩
  · rw [List.length_map, Array.length_toList]; exact walk_str
  · rintro i H x H' M hi p m ⟨rfl, c, hc, rfl⟩
    refine ⟨Same.refl _, fun d hd => ?_⟩
    have e : (z.cps.toList.map fun c => PyData.str ⟨#[c]⟩)[i]? = some (PyData.str ⟨#[c]⟩) := by
      rw [List.getElem?_map, Array.getElem?_toList, hc]; rfl
    rw [e] at hd
    cases hd
    exact .str _
/-- sources that stand still: walked by a loop -/
theorem g_srcI {K : PySem.W.Frag} {te : TE} {f : Ev} (h : GE K te f) : GI K (iAny K te) (srcOf f) := fun H0 M0 H M ρ σ R ds E hf q => by
  obtain ⟨d, e1, hf⟩ := bind_some hf
  refine h E e1 fun v H1 s1 r1 => ?_
  have m1 := E.mkh.same s1
  unfold itemsOf at hf
  split at hf
  · cases hf
    cases r1 with
    | @lst a vs ds hl r =>
      refine .inl ⟨a, rfl, ⟨vs, hl.sq⟩, q _ H1 s1 ⟨fun H => SqL K H a vs, YAt vs, by rw [r.length]; exact walk_list, fun H2 M2 p m => (p.st.lo m1 p.nw hl).sq, ?_⟩⟩
      rintro i H2 x H3 M2 hi p m ⟨rfl, hx⟩
      refine ⟨Same.refl _, fun d hd => ?_⟩
      obtain ⟨v, hv, r⟩ := r.get hd
      rw [hx] at hv; cases hv
      exact r.stay m1 p.st p.nw
  · cases hf
    cases r1 with
    | @tup a vs ds hl r =>
      refine .inr (.inl ⟨a, rfl, ⟨vs, hl⟩, q _ H1 s1 ⟨fun H => SqT K H a vs, YAt vs, by rw [r.length]; exact walk_tup, fun H2 M2 p m => p.st.sqT m1 hl, ?_⟩⟩)
      rintro i H2 x H3 M2 hi p m ⟨rfl, hx⟩
      refine ⟨Same.refl _, fun d hd => ?_⟩
      obtain ⟨v, hv, r⟩ := r.get hd
      rw [hx] at hv; cases hv
      exact r.stay m1 p.st p.nw
  · cases hf
    cases r1
    exact .inr (.inr ⟨_, rfl, q _ H1 s1 walks_str⟩)
  · cases hf
theorem g_srcC {K : PySem.W.Frag} {te : TE} {f : Ev} (h : GB K te f) : GC K (iAny K te) (srcOf f) := fun H0 M0 H M ρ σ R ds E hf q => by
  obtain ⟨d, e1, hf⟩ := bind_some hf
  refine h E e1 fun v H1 s1 r1 => ?_
  have m1 := E.mkh.same s1
  unfold itemsOf at hf
  split at hf
  · cases hf
    obtain ⟨a, vs, rfl, hl, r⟩ := r1.lst
    refine .inl ⟨a, rfl, ⟨vs, hl⟩, q _ H1 s1 ⟨fun H => SqL K H a vs, YAt vs, by rw [r.length]; exact walk_list, fun H2 M2 p m => p.1.seq hl, ?_⟩⟩
    rintro i H2 x H3 M2 hi p m ⟨rfl, hx⟩
    refine ⟨Same.refl _, fun d hd => ?_⟩
    obtain ⟨v, hv, r⟩ := r.get hd
    rw [hx] at hv; cases hv
    exact r.stay m1 (.of_same p.1) p.2
  · cases hf
    obtain ⟨a, vs, rfl, hl, r⟩ := r1.tup
    refine .inr (.inl ⟨a, rfl, ⟨vs, hl⟩, q _ H1 s1 ⟨fun H => SqT K H a vs, YAt vs, by rw [r.length]; exact walk_tup, fun H2 M2 p m => (Stay.of_same p.1).sqT m1 hl, ?_⟩⟩)
    rintro i H2 x H3 M2 hi p m ⟨rfl, hx⟩
    refine ⟨Same.refl _, fun d hd => ?_⟩
    obtain ⟨v, hv, r⟩ := r.get hd
    rw [hx] at hv; cases hv
    exact r.stay m1 (.of_same p.1) p.2
  · cases hf
    rw [r1.str]
    exact .inr (.inr ⟨_, rfl, q _ H1 s1 walks_str⟩)
  · cases hf
section
variable {X : Cx} {tg e e2 : Expr} {te : TE} {f : Ev} {ta : TA} {fs : Es} {p pos : Pos}
theorem i_any (h : EE X e te f) : EI X tg e (iAny X.K te) (srcOf f) := ⟨pi_any h.pe, g_srcI h.g⟩
theorem ic_any (h : EB X e te f) : EC X tg e (iAny X.K te) (srcOf f) := ⟨pi_any h.pe, g_srcC h.g⟩
/-! ranges -/
def rng (lo : Int) (n : Nat) : List D := (List.range n).map fun i => .int (lo + (i : Nat))
def rg1 (fs : Es) : Src := fun ρ => (fs ρ).bind fun ds => match ds with
  | [.int j] => if -(2 ^ 62) ≤ j ∧ j < 2 ^ 62 then some (rng 0 j.toNat) else none
  | _ => none
def rg2 (fs : Es) : Src := fun ρ => (fs ρ).bind fun ds => match ds with
  | [.int i, .int j] => if -(2 ^ 62) ≤ i ∧ i < 2 ^ 62 ∧ -(2 ^ 62) ≤ j ∧ j < 2 ^ 62 then some (rng i (j - i).toNat) else none
  | _ => none
theorem walks_range {K : PySem.W.Frag} {lo : Int} {n : Nat} {P : Hp → (Addr → Prop) → Prop} : Walks K (Itr lo n) (rng lo n) P := by
  refine ⟨fun _ => True, YFn fun i => .int (lo + i), by unfold rng; rw [List.length_map, List.length_range]; exact walk_range, fun _ _ _ _ => True.intro, ?_⟩
  rintro i H x H' M hi p m ⟨rfl, rfl⟩
  refine ⟨Same.refl _, fun d hd => ?_⟩
  unfold rng at hd
  rw [List.getElem?_map] at hd
  obtain ⟨j, e1, e2⟩ := Option.map_eq_some_iff.mp hd
  obtain ⟨hj, e3⟩ := List.getElem?_eq_some_iff.mp e1
  rw [List.getElem_range] at e3
  subst e3 e2
  exact .int _
theorem i_rng1 (hg : Gl X "range") (hm : X.mg "range" = none) (h : AE X [e] ta fs) (hs : starEach [e] X.env = [(false, eval e X.env)] := by rfl) : EI X tg (.Call (.Name "range" p) [e] [] pos) (iRng1 ta) (rg1 fs) := ⟨pi_range1 hg hm h.pa hs, fun H0 M0 H M ρ σ R ds E hf q => by
  obtain ⟨as, e1, hf⟩ := bind_some hf
  split at hf
  · split at hf
    · rename_i hb
      cases hf
      refine h.g E e1 fun vs H1 s1 r1 => ?_
      cases r1 with
      | cons r rs =>
        cases rs
        cases r
        exact ⟨_, rfl, hb.1, hb.2, q _ H1 s1 walks_range⟩
    · cases hf
  · cases hf⟩
theorem i_rng2 (hg : Gl X "range") (hm : X.mg "range" = none) (h : AE X [e, e2] ta fs) (hs : starEach [e, e2] X.env = [(false, eval e X.env), (false, eval e2 X.env)] := by rfl) (hs2 : starEach [e2] X.env = [(false, eval e2 X.env)] := by rfl) : EI X tg (.Call (.Name "range" p) [e, e2] [] pos) (iRng2 ta) (rg2 fs) := ⟨pi_range2 hg hm h.pa hs hs2, fun H0 M0 H M ρ σ R ds E hf q => by
  obtain ⟨as, e1, hf⟩ := bind_some hf
  split at hf
  · split at hf
    · rename_i hb
      cases hf
      refine h.g E e1 fun vs H1 s1 r1 => ?_
      cases r1 with
      | cons r rs =>
        cases rs with
        | cons r' rs =>
          cases rs
          cases r
          cases r'
          exact ⟨_, _, rfl, hb, q _ H1 s1 walks_range⟩
    · cases hf
  · cases hf⟩
end

/-! ### for -/
def forL (t : Tg) (gb : Eg) : List D → Env → Option Out
  | [], ρ => some (.nx ρ)
  | d :: ds, ρ => (t d ρ).bind fun ρ1 => (gb ρ1).bind fun o => match o with
    | .nx ρ2 => forL t gb ds ρ2
    | .ct ρ2 => forL t gb ds ρ2
    | .bk ρ2 => some (.nx ρ2)
    | .rt r => some (.rt r)
def forS (f : Src) (t : Tg) (gb : Eg) : Eg := fun ρ => (f ρ).bind fun ds => forL t gb ds ρ
theorem g_for {K : PySem.W.Frag} {wi : TI} {g : TG} {tb : TS} {f : Src} {ix : List Nat} {t : Tg} {gb : Eg} (hi : GI K wi f) (hg : GG K g ix t) (hb : GS K tb gb) : GS K (tFor wi g tb) (forS f t gb) := fun H0 M0 H M ρ σ D o E hf q => by
  obtain ⟨ds, e1, hf⟩ := bind_some hf
  refine hi E e1 fun J H1 s1 w => ?_
  obtain ⟨G, Y, w, gG, yY⟩ := w
  refine for_it w (fun i σ' H' => ∃ ρ' M', Step H1 M H' M' ∧ EnvOk K H0 M0 H' M' ρ' σ' ∧ forL t gb (ds.drop i) ρ' = some o) ⟨ρ, M, .refl, E.to s1, by rw [List.drop_zero]; exact hf⟩ ?_ ?_ ?_
  · rintro i σ' H' hi ⟨ρ', M', st, E', _⟩
    exact gG H' M' st E'.mkh
  · rintro i x σ' H' H2 hi ⟨ρ', M', st, E', e2⟩ y
    obtain ⟨s2, rr⟩ := yY i H' x H2 M' hi st E'.mkh y
    have hd : ds[i]? = some ds[i] := List.getElem?_eq_getElem hi
    rw [List.drop_eq_getElem_cons hi] at e2
    obtain ⟨ρ1, e3, e2⟩ := bind_some e2
    obtain ⟨o1, e4, e2⟩ := bind_some e2
    refine hg (E'.to s2) (rr _ hd) e3 fun σ3 E3 _ => hb E3 e4 ?_
    have st2 : Step H1 M H2 M' := st.trans (.of_same s2)
    cases o1 with
    | nx ρ2 => exact fun σ4 H4 M4 st4 E4 => ⟨ρ2, M4, st2.trans st4, E4, e2⟩
    | ct ρ2 => exact fun σ4 H4 M4 st4 E4 => ⟨ρ2, M4, st2.trans st4, E4, e2⟩
    | bk ρ2 =>
      cases e2
      exact fun σ4 H4 M4 st4 E4 => q σ4 H4 M4 ((Step.of_same s1).trans (st2.trans st4)) E4
    | rt r =>
      cases e2
      exact q
  · rintro σ' H' ⟨ρ', M', st, E', e2⟩
    rw [List.drop_length] at e2
    cases e2
    exact q σ' H' M' ((Step.of_same s1).trans st) E'
theorem s_for {X : Cx} {tg iter : Expr} {body : List Stmt} {wi : TI} {g : TG} {tb : TS} {pos : Pos} {f : Src} {ix : List Nat} {t : Tg} {gb : Eg} (hp : PassesOwn (model X.prog X.w) X.A X.env X.xe) (hc : X.calm = true) (hi : EI X tg iter wi f) (hg : EG X tg g ix t) (hb : SB X body tb gb)
    (hs : ∀ x, foldedSetIterable iter X.env x = pure x := by intro _; rfl) : SS X (.For tg iter body [] pos) (tFor wi g tb) (forS f t gb) := ⟨ps_for hp hc hi.pi hg.pg hb.ps hs, g_for hi.g hg.g hb.g⟩

/-! ### while -/
def whL (c : Et) (gb : Eg) : Nat → Env → Option Out
  | 0, _ => none
  | n + 1, ρ => (c ρ).bind fun b => if b = true then (gb ρ).bind fun o => (match o with
      | .nx ρ2 => whL c gb n ρ2
      | .ct ρ2 => whL c gb n ρ2
      | .bk ρ2 => some (.nx ρ2)
      | .rt r => some (.rt r)) else some (.nx ρ)
theorem g_while {K : PySem.W.Frag} {tc : TT} {tb : TS} {c : Et} {gb : Eg} {n : Nat} (hc : GT K tc c) (hb : GS K tb gb) : GS K (tWhile tc tb) (whL c gb n) := fun H0 M0 H M ρ σ D o E hf q => by
  refine ⟨fun m σ' H' => ∃ ρ' M', Step H M H' M' ∧ EnvOk K H0 M0 H' M' ρ' σ' ∧ whL c gb m ρ' = some o, ⟨n, ρ, M, .refl, E, hf⟩, ?_⟩
  rintro m σ' H' ⟨ρ', M', st, E', e⟩
  cases m with
  | zero => cases e
  | succ m =>
    obtain ⟨b, e1, e⟩ := bind_some e
    refine hc E' e1 fun H2 s2 => ?_
    have st2 : Step H M H2 M' := st.trans (.of_same s2)
    cases b with
    | false =>
      rw [if_neg Bool.false_ne_true] at e ⊢
      cases e
      exact q σ' H2 M' st2 (E'.to s2)
    | true =>
      rw [if_pos rfl] at e ⊢
      obtain ⟨o1, e4, e⟩ := bind_some e
      refine ⟨fun σ4 H4 => ∃ ρ2 M4, Step H M H4 M4 ∧ EnvOk K H0 M0 H4 M4 ρ2 σ4 ∧ whL c gb m ρ2 = some o, fun σ4 H4 h => ⟨m, Nat.lt_succ_self m, h⟩, hb (E'.to s2) e4 ?_⟩
      cases o1 with
      | nx ρ2 => exact fun σ4 H4 M4 st4 E4 => ⟨ρ2, M4, st2.trans st4, E4, e⟩
      | ct ρ2 => exact fun σ4 H4 M4 st4 E4 => ⟨ρ2, M4, st2.trans st4, E4, e⟩
      | bk ρ2 =>
        cases e
        exact fun σ4 H4 M4 st4 E4 => q σ4 H4 M4 (st2.trans st4) E4
      | rt r =>
        cases e
        exact q
/-- the most turns of a while -/
def FU : Nat := 1000000
def whS (c : Et) (gb : Eg) : Eg := whL c gb FU
theorem s_while {X : Cx} {c : Expr} {body : List Stmt} {tc : TT} {tb : TS} {pos : Pos} {gc : Et} {gb : Eg} (hp : PassesOwn (model X.prog X.w) X.A X.env X.xe) (hc : ET X c tc gc) (hb : SB X body tb gb) : SS X (.While c body [] pos) (tWhile tc tb) (whS gc gb) := ⟨ps_while hp hc.pt hb.ps, g_while hc.g hb.g⟩
end Pu

set_option Elab.async false
set_option linter.all false
set_option maxRecDepth 100000
namespace Pu
open PySem PySem.Spec PyProof.Rows L2

/-! ### comprehensions -/
def wipeE (ρ : Env) : List Nat → Env
  | [] => ρ
  | v :: vs => (wipeE ρ vs).set v .no
theorem wipeE_len (ρ : Env) : ∀ vs : List Nat, (wipeE ρ vs).length = ρ.length
  | [] => rfl
  | v :: vs => by unfold wipeE; rw [List.length_set, wipeE_len ρ vs]
theorem wipe_none {σ : L2.St} {i : Nat} : ∀ {vs : List Nat}, i ∉ vs → (wipe σ vs)[i]? = σ[i]?
  | [], _ => rfl
  | v :: vs, h => by
    unfold wipe
    rw [List.getElem?_set_ne (fun e => h (by rw [e]; exact List.mem_cons_self))]
    exact wipe_none fun m => h (List.mem_cons_of_mem _ m)
theorem wipeE_some {ρ : Env} {i : Nat} {s : Sl} (hs : s ≠ .no) : ∀ {vs : List Nat}, (wipeE ρ vs)[i]? = some s → ρ[i]? = some s ∧ i ∉ vs
  | [], h => ⟨h, by simp⟩
  | v :: vs, h => by
    unfold wipeE at h
    rcases get_set_sl h with ⟨_, e, _⟩ | ⟨e, h⟩
    · exact absurd e hs
    · obtain ⟨h1, h2⟩ := wipeE_some hs h
      exact ⟨h1, by simp only [List.mem_cons, not_or]; exact ⟨e, h2⟩⟩
theorem EnvOk.wiped {K : PySem.W.Frag} {H0 : Hp} {M0 : Addr → Prop} {H : Hp} {M : Addr → Prop} {ρ : Env} {σ : L2.St} (E : EnvOk K H0 M0 H M ρ σ) (vs : List Nat) : EnvOk K H0 M0 H M (wipeE ρ vs) (wipe σ vs) where
  len := by rw [wipeE_len, wipe_length, E.len]
  same := E.same
  mkh0 := E.mkh0
  sub := E.sub
  mkh := E.mkh
  sh := fun i d h => by
    obtain ⟨h1, h2⟩ := wipeE_some (by intro z; cases z) h
    rw [wipe_none h2]
    exact E.sh i d h1
  ow := fun i d h => by
    obtain ⟨h1, h2⟩ := wipeE_some (by intro z; cases z) h
    rw [wipe_none h2]
    exact E.ow i d h1
  ap := fun i j d d' a h1 h2 h3 h4 => by
    obtain ⟨k1, n1⟩ := wipeE_some (by intro z; cases z) h1
    obtain ⟨k2, n2⟩ := wipeE_some (by intro z; cases z) h2
    rw [wipe_none n1] at h3
    rw [wipe_none n2] at h4
    exact E.ap i j d d' a k1 k2 h3 h4
def yes : Et := fun _ => some true
def lcL (t : Tg) (tt : Et) (f : Ev) (ρ : Env) : List D → Option (List D)
  | [] => some []
  | d :: ds => (t d ρ).bind fun ρ1 => (tt ρ1).bind fun b => if b = true then (f ρ1).bind fun x => (lcL t tt f ρ ds).bind fun xs => some (x :: xs) else lcL t tt f ρ ds
def lcS (src : Src) (t : Tg) (tt : Et) (f : Ev) (own : List Nat) : Ev := fun ρ => (src ρ).bind fun ds => if ds.length ≤ sizeLine then (lcL t tt f (wipeE ρ own) ds).bind fun xs => some (.list xs) else none
/-- .. within it the new list at A -/
theorem g_lc {K : PySem.W.Frag} {wi : TI} {g : TG} {tt : TT} {te : TE} {own ix : List Nat} {src : Src} {t : Tg} {gt : Et} {f : Ev} (hi : GC K wi src) (hg : GG K g ix t) (hix : ∀ i ∈ ix, i ∈ own) (ht : GT K tt gt) (he : GE K te f) : GN K (tLc wi g tt te own) (lcS src t gt f own) := fun H0 M0 H M ρ σ Q d E hf q => by
  obtain ⟨ds, e1, hf⟩ := bind_some hf
  split at hf
  · rename_i hz
    obtain ⟨fin, e2, hf⟩ := bind_some hf
    cases hf
    refine hi E e1 fun J H1 s1 w A nA => ?_
    obtain ⟨G, Y, w, gG, yY⟩ := w
    have nw : New H1 M (plus M A) := new_plus nA
    have m1 := E.mkh.same s1
    -- the state at a turn
    have mkA : ∀ {H' : Hp} {vs : List V}, Same H1 H' → H' A = some (.lst vs) → MK H' (plus M A) := fun {H' vs} s hA a h => by
      rcases h with h | h
      · exact m1.same s a h
      · rw [h, hA]; trivial
    have envA : ∀ {H' : Hp} {vs : List V}, Same H1 H' → H' A = some (.lst vs) → EnvOk K H0 M0 H' (plus M A) (wipeE ρ own) (wipe σ own) := fun {H' vs} s hA =>
      ((E.to s1).more (mkA s hA) (fun a h => .inl h) (.of_same s) ((E.to s1).same.trans s) nw fun a h => by
        have := m1 a h
        cases e : H1 a with
        | none => rw [e] at this; exact this.elim
        | some u => exact s a u e).wiped own
    refine lc_it w (fun i H' => Same H1 H' ∧ ∃ acc rest vs, H' A = some (.lst vs) ∧ Reps K H' (plus M A) acc vs ∧ lcL t gt f (wipeE ρ own) (ds.drop i) = some rest ∧ acc ++ rest = fin ∧ acc.length ≤ i) ⟨same_upd nA, [], fin, [], upd_same, .nil, by rw [List.drop_zero]; exact e2, rfl, Nat.le_refl _⟩ ?_ ?_ ?_
    · rintro i H' hi ⟨s, acc, rest, vs, hA, _⟩
      exact gG H' _ ⟨s, nw⟩ (mkA s hA)
    · rintro i x H' H2 hi ⟨s, acc, rest, vs, hA, r, e3, e4, hl⟩ y
      have E' := envA s hA
      obtain ⟨s2, rr⟩ := yY i H' x H2 _ hi ⟨s, nw⟩ E'.mkh y
      rw [List.drop_eq_getElem_cons hi] at e3
      obtain ⟨ρ1, e5, e3⟩ := bind_some e3
      obtain ⟨b, e6, e3⟩ := bind_some e3
      refine hg (E'.to s2) (rr _ (List.getElem?_eq_getElem hi)) e5 fun σ3 E3 hw => ⟨?_, ht E3 e6 fun H3 s3 => ?_⟩
      · rw [hw own hix]
        have out : ∀ us : List Nat, (∀ i ∈ us, i ∈ own) → wipe (wipe σ own) us = wipe σ own := by
          intro us
          induction us with
          | nil => intro _; rfl
          | cons u us ih =>
            intro hu
            show (wipe (wipe σ own) us).set u none = wipe σ own
            rw [ih fun i hi => hu i (List.mem_cons_of_mem _ hi)]
            refine List.ext_getElem? fun j => ?_
            by_cases e : u = j
            · subst e
              by_cases hl : u < (wipe σ own).length
              · rw [List.getElem?_set_self hl]
                have gone : ∀ ws : List Nat, u ∈ ws → u < (wipe σ ws).length → (wipe σ ws)[u]? = some none := by
                  intro ws
                  induction ws with
                  | nil => intro h; cases h
                  | cons z ws ih2 =>
                    intro h hl
                    show ((wipe σ ws).set z none)[u]? = some none
                    have hl' : u < (wipe σ ws).length := by rw [wipe_length] at hl ⊢; exact hl
                    by_cases e : z = u
                    · subst e; rw [List.getElem?_set_self hl']
                    · rw [List.getElem?_set_ne e]
                      rcases List.mem_cons.mp h with z' | z'
                      · exact absurd z'.symm e
                      · exact ih2 z' hl'
                exact (gone own (hu u List.mem_cons_self) hl).symm
              · rw [List.getElem?_eq_none (by simpa using hl), List.getElem?_eq_none (by simpa using hl)]
            · rw [List.getElem?_set_ne e]
        exact out own fun i hi => hi
      · have sA3 := s.trans (s2.trans s3)
        have hA3 : H3 A = some (.lst vs) := s3 _ _ (s2 _ _ hA)
        have r3 := (r.same E'.mkh s2).same (E'.mkh.same s2) s3
        cases b with
        | false =>
          rw [if_neg Bool.false_ne_true] at e3 ⊢
          exact ⟨sA3, acc, rest, vs, hA3, r3, e3, e4, by omega⟩
        | true =>
          rw [if_pos rfl] at e3 ⊢
          obtain ⟨z, e7, e3⟩ := bind_some e3
          obtain ⟨rest', e8, e3⟩ := bind_some e3
          cases e3
          refine he (E3.to s3) e7 fun u H4 s4 r4 => ⟨vs, s4 _ _ hA3, by rw [← r.length]; omega, ?_⟩
          have mA4 : MK H4 (plus M A) := (E3.to s3).mkh.same s4
          have stay : Stay H4 (plus M A) (upd H4 A (.lst (vs ++ [u]))) := fun b o hb nb => by rw [upd_ne (fun z => nb (.inr z))]; exact hb
          refine ⟨fun b o hb => ?_, acc ++ [z], rest', vs ++ [u], upd_same, ?_, e8, by rw [List.append_assoc]; exact e4, by rw [List.length_append]; simp; omega⟩
          · have : b ≠ A := ne_of_none hb nA
            rw [upd_ne this]
            exact s4 b o (sA3 b o hb)
          · exact ((r3.same (E3.to s3).mkh s4).append (.cons r4 .nil)).stay mA4 stay .refl
    · rintro H' ⟨s, acc, rest, vs, hA, r, e3, e4, _⟩
      rw [List.drop_length] at e3
      cases e3
      rw [List.append_nil] at e4
      subst e4
      exact q A H' (s1.free nA) (s1.trans s) ⟨vs, hA, r⟩
  · cases hf
structure PTsE (X : Cx) (ifs : List Expr) (t : TT) (g : Et) : Prop where
  pts : PTs X ifs t
  g : GT X.K t g
theorem k_nil {X : Cx} : PTsE X [] tYes yes := ⟨pts_nil, fun H0 M0 H M ρ σ Q b E hf q => by cases hf; exact q H (Same.refl H)⟩
theorem k_one {X : Cx} {c : Expr} {t : TT} {g : Et} (h : ET X c t g) : PTsE X [c] t g := ⟨pts_one h.pt, h.g⟩
section
variable {X : Cx}
abbrev Blk (X : Cx) (scope : Scope) (P : Cx → Prop) : Prop := ∀ (s : Shared) (H : Hp) (C : Addr) (cl : List (Str × Addr)) (fp : List Addr), P (X.blk s H scope (compEnvC scope cl C X.env) fp)
theorem Blk.at {scope : Scope} {P : Cx → Prop} (h : Blk X scope P) : P (X.blk X.s_0 X.H_0 scope (compEnvC scope [] 0 X.env) []) := h _ _ _ _ _
theorem n_lc {elt tg iter : Expr} {ifs : List Expr} {scope : Scope} {own : List (Str × Nat)} {pos : Pos} {wi : TI} {g : TG} {tt : TT} {te : TE} {src : Src} {ix : List Nat} {t : Tg} {gt : Et} {f : Ev} (hc : X.calm = true) (hN : X.N.Nodup) (hi : EC X tg iter wi src) (ok : blkC X.N X.env.scope scope own = true)
    (hg : Blk X scope fun Y => EG Y tg g ix t) (ht : Blk X scope fun Y => PTsE Y ifs tt gt) (he : Blk X scope fun Y => EE Y elt te f) (hix : ∀ i ∈ ix, i ∈ own.map (·.2) := by decide) (hs : ∀ x, foldedSetIterable iter X.env x = pure x := by intro _; rfl) :
    EN X (.ListComp elt [⟨tg, iter, ifs, 0⟩] scope pos) (tLc wi g tt te (own.map (·.2))) (lcS src t gt f (own.map (·.2))) :=
  ⟨pe_lc hc hN hi.pi (blkOk_by ok) (fun s H C cl fp => (hg s H C cl fp).pg) (fun s H C cl fp => (ht s H C cl fp).pts) (fun s H C cl fp => (he s H C cl fp).pe) hs, g_lc hi.g (Blk.at hg).g hix (Blk.at ht).g (Blk.at he).g⟩
/-- name = [..] -/
theorem s_lc (i : Nat) {y : Str} {py : Pos} {elt tg iter : Expr} {ifs : List Expr} {scope : Scope} {own : List (Str × Nat)} {pos spos : Pos} {wi : TI} {g : TG} {tt : TT} {te : TE} {src : Src} {ix : List Nat} {t : Tg} {gt : Et} {f : Ev} (hc : X.calm = true) (hN : X.N.Nodup)
    (hi : EC X tg iter wi src) (ok : blkC X.N X.env.scope scope own = true)
    (hg : Blk X scope fun Y => EG Y tg g ix t) (ht : Blk X scope fun Y => PTsE Y ifs tt gt) (he : Blk X scope fun Y => EE Y elt te f) (hy : X.N[i]? = some y := by rfl) (hyl : X.env.scope.names.lookup y = some .local := by rfl)
    (hsw : swapsWith (.ListComp elt [⟨tg, iter, ifs, 0⟩] scope pos) (some (.Name y py)) spos.line X.env = pure true := by exact sw_true rfl rfl rfl (by decide +kernel))
    (hix : ∀ i ∈ ix, i ∈ own.map (·.2) := by decide) (hs : ∀ x, foldedSetIterable iter X.env x = pure x := by intro _; rfl) :
    SS X (.Assign [.Name y py] (.ListComp elt [⟨tg, iter, ifs, 0⟩] scope pos) spos) (tAsg (tLc wi g tt te (own.map (·.2))) (gName i)) (ownS i (lcS src t gt f (own.map (·.2)))) :=
  ⟨ps_setLc hc hN hy hyl hsw hi.pi (blkOk_by ok) (fun s H C cl fp => (hg s H C cl fp).pg) (fun s H C cl fp => (ht s H C cl fp).pts) (fun s H C cl fp => (he s H C cl fp).pe) hs, g_own (g_lc hi.g (Blk.at hg).g hix (Blk.at ht).g (Blk.at he).g)⟩
end

/-! ### defs -/
def startE (n : Nat) (ds : List D) : Env := ds.map .sh ++ List.replicate (n - ds.length) .no
def outD : Out → Option D
  | .rt d => some d
  | .nx _ => some .none
  | _ => none
def run (n : Nat) (g : Eg) : List D → Option D := fun ds => (g (startE n ds)).bind outD
theorem env_start {K : PySem.W.Frag} {H : Hp} {M : Addr → Prop} {ds : List D} {vs : List V} {N : List Str} (m : MK H M) (r : Reps K H M ds vs) : EnvOk K H M H M (startE N.length ds) (L2.start N vs) where
  len := by unfold startE L2.start; simp [r.length]
  same := Same.refl H
  mkh0 := m
  sub := fun _ h => h
  mkh := m
  sh := fun i d h => by
    unfold startE at h
    by_cases hi : i < ds.length
    · rw [List.getElem?_append_left (by simpa using hi), List.getElem?_map] at h
      obtain ⟨d', e1, e2⟩ := Option.map_eq_some_iff.mp h
      injection e2 with e2
      subst e2
      obtain ⟨v, h1, h2⟩ := r.get e1
      refine ⟨v, ?_, h2⟩
      unfold L2.start
      rw [List.getElem?_append_left (by rw [List.length_map, ← r.length]; exact hi), List.getElem?_map, h1]
      rfl
    · rw [List.getElem?_append_right (by simpa using hi), List.getElem?_replicate] at h
      split at h <;> cases h
  ow := fun i d h => by
    unfold startE at h
    by_cases hi : i < ds.length
    · rw [List.getElem?_append_left (by simpa using hi), List.getElem?_map] at h
      obtain ⟨d', e1, e2⟩ := Option.map_eq_some_iff.mp h
      cases e2
    · rw [List.getElem?_append_right (by simpa using hi), List.getElem?_replicate] at h
      split at h <;> cases h
  ap := fun i j d d' a h => by
    unfold startE at h
    by_cases hi : i < ds.length
    · rw [List.getElem?_append_left (by simpa using hi), List.getElem?_map] at h
      obtain ⟨d', e1, e2⟩ := Option.map_eq_some_iff.mp h
      cases e2
    · rw [List.getElem?_append_right (by simpa using hi), List.getElem?_replicate] at h
      split at h <;> cases h
section
variable {P : Program} {w : World} {K : PySem.W.Frag} {mg : Str → Option Value} {base : Heap} {x qual : Str} {params : Arguments} {body : List Stmt} {scope : Scope} {f : Addr} {fd : FuncData}
theorem def_ok {N ps : List Str} {k : Nat} {g : Eg} (F : FunD K x qual params body scope [] [] f fd) (S : FnScope N ps scope)
    (hb : ∀ (cdv : Value) (A : Around) (outer : List PySem.Env) (s : Shared) (H : Hp) (E : XK), Room k (A.deeper (envOfC qual scope s.heap.objs.size f cdv)) →
      ∃ t, SB (cxOf CX0 P w K mg base N qual scope f cdv A outer s H E).nox body t g) : FnOk P w K mg base CX0 (k + 1) f fd ps (spP K ps.length (run N.length g)) := by
  refine F.ok S (fun vs H Q E h => ?_) fun cdv A outer s H vs Q E hr h => ?_
  · obtain ⟨M, ds, d, m, r, hl, _⟩ := h
    rw [← r.length]; exact hl
  · obtain ⟨M, ds, d, m, r, hl, e, q⟩ := h
    obtain ⟨t, ht⟩ := hb cdv A outer s H E hr
    refine ⟨t, ht.ps.nox, ?_⟩
    obtain ⟨o, e1, e2⟩ := bind_some e
    refine ht.g (env_start m r) e1 ?_
    cases o with
    | rt d' => cases e2; exact fun v H' s r => q v H' s r
    | nx ρ => cases e2; exact fun σ' H' M' st E' => q _ H' E'.same .non
    | bk ρ => cases e2
    | ct ρ => cases e2
/-- the law's def: a script of ints -/
theorem law_sp {n : Nat} {sem : List D → Option D} (hn : n = 1) (h : ∀ ns : List Int, ns.length ≤ 63 → sem [.list (ns.map .int)] = some (.bool true)) {H : Hp} {a : Addr} {ns : List Int} (hl : ns.length ≤ 63) (hS : SqL K H a (ns.map V.int)) :
    spP K n sem [.ref a] H (fun v _ => v = .bl true) fun _ _ _ => False := by
  have r : ∀ ns : List Int, Reps K H (fun _ => False) (ns.map PyData.int) (ns.map V.int) := fun ns => by
    induction ns with
    | nil => exact .nil
    | cons x xs ih => exact .cons (.int x) ih
  refine ⟨fun _ => False, [.list (ns.map .int)], .bool true, fun _ h => h.elim, .cons (.lst ?_ (r ns)) .nil, hn.symm, h ns hl, fun v H' _ r => by cases r; rfl⟩
  rcases hS with h | h
  · exact .inl ⟨h, fun z => z⟩
  · exact .inr h
end
end Pu

set_option Elab.async false
set_option linter.all false
set_option maxRecDepth 100000
namespace Pu
open PySem PySem.Spec PyProof.Rows L2

/-! ### the built-ins by their names -/
theorem bo_len : bootBuiltins "len" = some (.builtin "len") := by decide +kernel
theorem bo_abs : bootBuiltins "abs" = some (.builtin "abs") := by decide +kernel
theorem bo_min : bootBuiltins "min" = some (.builtin "min") := by decide +kernel
theorem bo_max : bootBuiltins "max" = some (.builtin "max") := by decide +kernel
theorem bo_sum : bootBuiltins "sum" = some (.builtin "sum") := by decide +kernel
theorem bo_any : bootBuiltins "any" = some (.builtin "any") := by decide +kernel
theorem bo_all : bootBuiltins "all" = some (.builtin "all") := by decide +kernel
theorem bo_sorted : bootBuiltins "sorted" = some (.builtin "sorted") := by decide +kernel
theorem bo_isinstance : bootBuiltins "isinstance" = some (.builtin "isinstance") := by decide +kernel
theorem bo_int : bootBuiltins "int" = some (.type "int") := by decide +kernel
theorem bo_str : bootBuiltins "str" = some (.type "str") := by decide +kernel
theorem bo_tuple : bootBuiltins "tuple" = some (.type "tuple") := by decide +kernel
theorem bo_list : bootBuiltins "list" = some (.type "list") := by decide +kernel
theorem bo_bool : bootBuiltins "bool" = some (.type "bool") := by decide +kernel
section
variable {X : Cx} {p pos : Pos} {e a b : Expr} {es : List Expr} {t : TA} {te ta tb : TE} {f g : Ev} {n : Nat}
structure CaOk (X : Cx) (e : Expr) (es : List Expr) (pos : Pos) : Prop where
  he : starEach (e :: es) X.env = (false, eval e X.env) :: starEach es X.env
  hpl : (backTo pos (starEach es X.env)).any (·.1) = false
def one (f : Ev) : Es := cs f nl
def two (f g : Ev) : Es := cs f (cs g nl)
theorem ab1 (h : EB X e te f) (c : CaOk X e [] pos) : AB X [e] (tCons te tNil) (one f) := b_cons h b_nil c.he
theorem x_len (hm : X.mg "len" = none) (h : EB X e te f) (hg : Gl X "len" := by rfl) (c : CaOk X e [] pos := by exact ⟨rfl, rfl⟩) : EE X (.Call (.Name "len" p) [e] [] pos) (tCB (fun xs H Q => ∃ x n, xs = [x] ∧ LenV X.K x H n ∧ Q (.int n) H) (tCons te tNil)) (ap lenD (one f)) :=
  c_bi call_len does_len hg hm bo_len (ab1 h c) (he := c.he) (hpl := c.hpl)
theorem x_abs (hm : X.mg "abs" = none) (h : EB X e te f) (hg : Gl X "abs" := by rfl) (c : CaOk X e [] pos := by exact ⟨rfl, rfl⟩) : EE X (.Call (.Name "abs" p) [e] [] pos) (tCB (fun xs H Q => ∃ i, xs = [.int i] ∧ Q (.int (if i < 0 then -i else i)) H) (tCons te tNil)) (ap absD (one f)) :=
  c_bi call_abs does_abs hg hm bo_abs (ab1 h c) (he := c.he) (hpl := c.hpl)
theorem x_sum (hc : X.calm = true) (hm : X.mg "sum" = none) (h : EB X e te f) (hg : Gl X "sum" := by rfl) (c : CaOk X e [] pos := by exact ⟨rfl, rfl⟩) : EE X (.Call (.Name "sum" p) [e] [] pos) (tCB (rSum X.K) (tCons te tNil)) (ap sumD (one f)) :=
  c_bi (cr_sum hc) does_sum hg hm bo_sum (ab1 h c) (he := c.he) (hpl := c.hpl)
theorem x_any (hc : X.calm = true) (hm : X.mg "any" = none) (h : EB X e te f) (hg : Gl X "any" := by rfl) (c : CaOk X e [] pos := by exact ⟨rfl, rfl⟩) : EE X (.Call (.Name "any" p) [e] [] pos) (tCB (rAny X.K) (tCons te tNil)) (ap anyD (one f)) :=
  c_bi (cr_any hc) does_any hg hm bo_any (ab1 h c) (he := c.he) (hpl := c.hpl)
theorem x_all (hc : X.calm = true) (hm : X.mg "all" = none) (h : EB X e te f) (hg : Gl X "all" := by rfl) (c : CaOk X e [] pos := by exact ⟨rfl, rfl⟩) : EE X (.Call (.Name "all" p) [e] [] pos) (tCB (rAll X.K) (tCons te tNil)) (ap allD (one f)) :=
  c_bi (cr_all hc) does_all hg hm bo_all (ab1 h c) (he := c.he) (hpl := c.hpl)
theorem x_minI (hc : X.calm = true) (hm : X.mg "min" = none) (h : EB X e te f) (hg : Gl X "min" := by rfl) (c : CaOk X e [] pos := by exact ⟨rfl, rfl⟩) : EE X (.Call (.Name "min" p) [e] [] pos) (tCB (rMin X.K) (tCons te tNil)) (ap minI (one f)) :=
  c_bi (cr_min hc) does_minI hg hm bo_min (ab1 h c) (he := c.he) (hpl := c.hpl)
theorem x_maxI (hc : X.calm = true) (hm : X.mg "max" = none) (h : EB X e te f) (hg : Gl X "max" := by rfl) (c : CaOk X e [] pos := by exact ⟨rfl, rfl⟩) : EE X (.Call (.Name "max" p) [e] [] pos) (tCB (rMax X.K) (tCons te tNil)) (ap maxI (one f)) :=
  c_bi (cr_max hc) does_maxI hg hm bo_max (ab1 h c) (he := c.he) (hpl := c.hpl)
theorem x_min2 (hc : X.calm = true) (hm : X.mg "min" = none) (h : EB X a ta f) (h2 : EB X b tb g) (hg : Gl X "min" := by rfl) (c : CaOk X a [b] pos := by exact ⟨rfl, rfl⟩) (c2 : CaOk X b [] pos := by exact ⟨rfl, rfl⟩) : EE X (.Call (.Name "min" p) [a, b] [] pos) (tCB (fun xs H Q => ∃ i j, xs = [.int i, .int j] ∧ Q (.int (if j < i then j else i)) H) (tCons ta (tCons tb tNil))) (ap min2D (two f g)) :=
  c_bi (call_min2 hc) does_min2 hg hm bo_min (b_cons h (b_cons h2 b_nil c2.he) c.he) (he := c.he) (hpl := c.hpl)
theorem x_max2 (hc : X.calm = true) (hm : X.mg "max" = none) (h : EB X a ta f) (h2 : EB X b tb g) (hg : Gl X "max" := by rfl) (c : CaOk X a [b] pos := by exact ⟨rfl, rfl⟩) (c2 : CaOk X b [] pos := by exact ⟨rfl, rfl⟩) : EE X (.Call (.Name "max" p) [a, b] [] pos) (tCB (fun xs H Q => ∃ i j, xs = [.int i, .int j] ∧ Q (.int (if j > i then j else i)) H) (tCons ta (tCons tb tNil))) (ap max2D (two f g)) :=
  c_bi (call_max2 hc) does_max2 hg hm bo_max (b_cons h (b_cons h2 b_nil c2.he) c.he) (he := c.he) (hpl := c.hpl)
theorem n_sorted (hr : Room n X.A) (hm : X.mg "sorted" = none) (h : EB X e te f) (hg : Gl X "sorted" := by rfl) (c : CaOk X e [] pos := by exact ⟨rfl, rfl⟩) : EN X (.Call (.Name "sorted" p) [e] [] pos) (tCB (rSortD X.K) (tCons te tNil)) (ap sortedD (one f)) :=
  cn_bi (call_sortedD hr) does_sorted hg hm bo_sorted (ab1 h c) (he := c.he) (hpl := c.hpl)
theorem x_int (hm : X.mg "int" = none) (h : EB X e te f) (hg : Gl X "int" := by rfl) (c : CaOk X e [] pos := by exact ⟨rfl, rfl⟩) : EE X (.Call (.Name "int" p) [e] [] pos) (tCB (fun xs H Q => (∃ i, xs = [.int i] ∧ Q (.int i) H) ∨ ∃ k, xs = [.bl k] ∧ Q (.int (if k then 1 else 0)) H) (tCons te tNil)) (ap intD (one f)) :=
  c_ty call_int1 does_int hg hm bo_int (ab1 h c) (he := c.he) (hpl := c.hpl)
theorem x_str (hm : X.mg "str" = none) (h : EB X e te f) (hg : Gl X "str" := by rfl) (c : CaOk X e [] pos := by exact ⟨rfl, rfl⟩) : EE X (.Call (.Name "str" p) [e] [] pos) (tCB (fun xs H Q => ∃ i, xs = [.int i] ∧ i.natAbs.log2 < 1920 ∧ Q (.str (toString i)) H) (tCons te tNil)) (ap strD (one f)) :=
  c_ty call_str_int does_str hg hm bo_str (ab1 h c) (he := c.he) (hpl := c.hpl)
theorem x_tuple (hm : X.mg "tuple" = none) (h : EB X e te f) (hg : Gl X "tuple" := by rfl) (c : CaOk X e [] pos := by exact ⟨rfl, rfl⟩) : EE X (.Call (.Name "tuple" p) [e] [] pos) (tCB (rTupOf X.K) (tCons te tNil)) (ap tupD (one f)) :=
  c_ty call_tuple_of does_tup hg hm bo_tuple (ab1 h c) (he := c.he) (hpl := c.hpl)
theorem n_list (hm : X.mg "list" = none) (h : EB X e te f) (hg : Gl X "list" := by rfl) (c : CaOk X e [] pos := by exact ⟨rfl, rfl⟩) : EN X (.Call (.Name "list" p) [e] [] pos) (tCB (rLstOf X.K) (tCons te tNil)) (ap lstD (one f)) :=
  cn_ty call_list_of does_lst hg hm bo_list (ab1 h c) (he := c.he) (hpl := c.hpl)
/-! ### isinstance(e, T) -/
def tyD : D → String
  | .none => "NoneType"
  | .bool _ => "bool"
  | .int _ => "int"
  | .str _ => "str"
  | .list _ => "list"
  | .tuple _ => "tuple"
  | .dict _ => "dict"
def isiD (T : String) : List D → Option D
  | [d] => (kitB (tyD d) T).map .bool
  | _ => none
theorem RepB.tyx {K : PySem.W.Frag} {H : Hp} {M : Addr → Prop} {d : D} {v : V} (r : RepB K H M d v) : TyX K H v (.type (tyD d)) := by
  cases d with
  | none => rw [r.non]; exact .base .non
  | bool b => rw [r.bl]; exact .base (.bl b)
  | int i => rw [r.int]; exact .base (.int i)
  | str x => rw [r.str]; exact .base (.str x)
  | list ds =>
    obtain ⟨a, vs, rfl, h, _⟩ := r.lst
    rcases h with (h | ⟨o, h⟩) | ⟨o, its, n, h, hc, _⟩
    · exact .base (.lst h)
    · exact .base (.frz h)
    · exact .kList h hc
  | tuple ds =>
    obtain ⟨a, vs, rfl, h, _⟩ := r.tup
    rcases h with (h | ⟨o, h⟩) | ⟨o, its, n, h, hc, _⟩
    · exact .base (.tup h)
    · exact .fTuple h
    · exact .kTuple h hc
  | dict ps =>
    rcases r with r | ⟨a, rfl, o⟩
    · cases r with
      | dK h _ _ => exact .base (.dK h)
      | dT h _ _ => exact .base (.dT h)
    · rcases o with ⟨kvs, h, _⟩ | ⟨kvs, h, _⟩
      · exact .base (.dK h)
      · exact .base (.dT h)
theorem x_isi (T : Str) {T' : String} {k2 : Pos} (hm : X.mg "isinstance" = none) (h : EB X e te f) (hT : bootBuiltins T = some (.type T')) (hmT : X.mg T = none) (hgT : Gl X T := by rfl) (hnT : T ≠ "__name__" := by decide) (hdT : (T == ("__debug__" : Str)) = false := by decide) (hg : Gl X "isinstance" := by rfl)
    (c : CaOk X e [.Name T k2] pos := by exact ⟨rfl, rfl⟩) (c2 : CaOk X (.Name T k2) [] pos := by exact ⟨rfl, rfl⟩) :
    EE X (.Call (.Name "isinstance" p) [e, .Name T k2] [] pos) (tCB (rIsi X.K) (tCons te (tCons (tC (.ty T')) tNil))) (ap (isiD T') (one f)) :=
  ⟨pe_callB call_isi hg hm bo_isinstance (pa_cons h.pe (pa_cons (pe_bltn hgT hmT hT rfl hnT hdT) pa_nil c2.he) c.he) (by decide) (by decide) c.he c.hpl, fun H0 M0 H M ρ σ Q d E hf q => by
    obtain ⟨ds, e1, hf⟩ := bind_some hf
    obtain ⟨x, e2, e1⟩ := bind_some e1
    obtain ⟨xs, e3, e1⟩ := bind_some e1
    cases e3
    cases e1
    unfold isiD at hf
    obtain ⟨b, e4, e5⟩ := Option.map_eq_some_iff.mp hf
    subst e5
    exact h.g E e2 fun v H1 s1 r1 => ⟨v, .ty T', .type (tyD x), .type T', b, rfl, .ty T', r1.tyx, kit_ty e4, q _ H1 s1 (.bl b)⟩⟩
/-! ### list(range(..)), tuple(range(..)) -/
theorem reps_rgV {K : PySem.W.Frag} {H : Hp} {M : Addr → Prop} (a b : Int) : Reps K H M (rng a (b - a).toNat) (rgV a b) := by
  unfold rng rgV
  induction List.range (b - a).toNat with
  | nil => exact .nil
  | cons x xs ih => exact .cons (.int _) ih
def rgOk (a b : Int) : Bool := decide (-(2 ^ 62) ≤ a) && decide (a < 2 ^ 62) && decide (-(2 ^ 62) ≤ b) && decide (b < 2 ^ 62) && decide ((b - a).toNat ≤ 2 ^ 24)
theorem rgOk_of {a b : Int} (h : rgOk a b = true) : RgOk a b := by
  unfold rgOk at h
  simp only [Bool.and_eq_true, decide_eq_true_eq] at h
  exact ⟨h.1.1.1.1, h.1.1.1.2, h.1.1.2, h.1.2, h.2⟩
def rgD (mk : List D → D) : List D → Option D
  | [.int n] => if rgOk 0 n = true then some (mk (rng 0 n.toNat)) else none
  | [.int a, .int b] => if rgOk a b = true then some (mk (rng a (b - a).toNat)) else none
  | _ => none
theorem rg1_some {mk : List D → D} {x d : D} (h : rgD mk [x] = some d) : ∃ n, x = .int n ∧ RgOk 0 n ∧ d = mk (rng 0 (n - 0).toNat) := by
  unfold rgD at h
  split at h
  · rename_i n e
    cases e
    split at h
    · rename_i ok; cases h; exact ⟨_, rfl, rgOk_of ok, by rw [Int.sub_zero]⟩
    · cases h
  · rename_i e; cases e
  · cases h
theorem rg2_some {mk : List D → D} {x y d : D} (h : rgD mk [x, y] = some d) : ∃ a b, x = .int a ∧ y = .int b ∧ RgOk a b ∧ d = mk (rng a (b - a).toNat) := by
  unfold rgD at h
  split at h
  · rename_i e; cases e
  · rename_i a b e
    cases e
    split at h
    · rename_i ok; cases h; exact ⟨_, _, rfl, rfl, rgOk_of ok, rfl⟩
    · cases h
  · cases h
theorem x_tupRg1 {p2 pos2 : Pos} (hc : X.calm = true) (hm : X.mg "tuple" = none) (hm2 : X.mg "range" = none) (h : EE X a ta f) (hg : Gl X "tuple" := by rfl) (hg2 : Gl X "range" := by rfl) (na : starEach [a] X.env = (false, eval a X.env) :: starEach [] X.env := by rfl)
    (nb : starEach [Expr.Call (.Name "range" p2) [a] [] pos2] X.env = (false, eval (Expr.Call (.Name "range" p2) [a] [] pos2) X.env) :: starEach [] X.env := by rfl) : EE X (.Call (.Name "tuple" p) [.Call (.Name "range" p2) [a] [] pos2] [] pos) (tTupRg (tRg1 ta)) (ap (rgD .tuple) (one f)) :=
  ⟨pe_tupRg hc hg hm (prg_1 hg2 hm2 h.pe na) nb, fun H0 M0 H M ρ σ Q d E hf q => by
    obtain ⟨ds, e1, hf⟩ := bind_some hf
    obtain ⟨x, e2, e1⟩ := bind_some e1
    cases e1
    obtain ⟨n, rfl, ok, rfl⟩ := rg1_some hf
    refine h.g E e2 fun v H1 s1 r1 => ?_
    cases r1
    refine ⟨n, rfl, ok, fun p np => ?_⟩
    exact q _ _ (s1.trans (same_upd np)) (.tup (.of upd_same) (reps_rgV 0 n))⟩
theorem x_tupRg2 {p2 pos2 : Pos} (hc : X.calm = true) (hm : X.mg "tuple" = none) (hm2 : X.mg "range" = none) (h : EE X a ta f) (h2 : EE X b tb g) (hg : Gl X "tuple" := by rfl) (hg2 : Gl X "range" := by rfl) (c : CaOk X a [b] pos2 := by exact ⟨rfl, rfl⟩) (c2 : CaOk X b [] pos2 := by exact ⟨rfl, rfl⟩)
    (nb : starEach [Expr.Call (.Name "range" p2) [a, b] [] pos2] X.env = (false, eval (Expr.Call (.Name "range" p2) [a, b] [] pos2) X.env) :: starEach [] X.env := by rfl) : EE X (.Call (.Name "tuple" p) [.Call (.Name "range" p2) [a, b] [] pos2] [] pos) (tTupRg (tRg2 ta tb)) (ap (rgD .tuple) (two f g)) :=
  ⟨pe_tupRg hc hg hm (prg_2 hg2 hm2 h.pe h2.pe c.he c2.he c.hpl) nb, fun H0 M0 H M ρ σ Q d E hf q => by
    obtain ⟨ds, e1, hf⟩ := bind_some hf
    obtain ⟨x, e2, e1⟩ := bind_some e1
    obtain ⟨xs, e3, e1⟩ := bind_some e1
    obtain ⟨y, e4, e3⟩ := bind_some e3
    cases e3
    cases e1
    obtain ⟨i, j, rfl, rfl, ok, rfl⟩ := rg2_some hf
    refine h.g E e2 fun v H1 s1 r1 => h2.g (E.to s1) e4 fun w H2 s2 r2 => ?_
    cases r1
    cases r2
    refine ⟨i, j, rfl, rfl, ok, fun p np => ?_⟩
    exact q _ _ ((s1.trans s2).trans (same_upd np)) (.tup (.of upd_same) (reps_rgV i j))⟩
theorem n_lstRg1 {p2 pos2 : Pos} (hc : X.calm = true) (hm : X.mg "list" = none) (hm2 : X.mg "range" = none) (h : EE X a ta f) (hg : Gl X "list" := by rfl) (hg2 : Gl X "range" := by rfl) (na : starEach [a] X.env = (false, eval a X.env) :: starEach [] X.env := by rfl)
    (nb : starEach [Expr.Call (.Name "range" p2) [a] [] pos2] X.env = (false, eval (Expr.Call (.Name "range" p2) [a] [] pos2) X.env) :: starEach [] X.env := by rfl) : EN X (.Call (.Name "list" p) [.Call (.Name "range" p2) [a] [] pos2] [] pos) (tLstRg (tRg1 ta)) (ap (rgD .list) (one f)) :=
  ⟨pe_listRg hc hg hm (prg_1 hg2 hm2 h.pe na) nb, fun H0 M0 H M ρ σ Q d E hf q => by
    obtain ⟨ds, e1, hf⟩ := bind_some hf
    obtain ⟨x, e2, e1⟩ := bind_some e1
    cases e1
    obtain ⟨n, rfl, ok, rfl⟩ := rg1_some hf
    refine h.g E e2 fun v H1 s1 r1 => ?_
    cases r1
    refine ⟨n, rfl, ok, fun p np => ?_⟩
    exact q _ _ (s1.free np) (s1.trans (same_upd np)) ⟨_, upd_same, reps_rgV 0 n⟩⟩
theorem n_lstRg2 {p2 pos2 : Pos} (hc : X.calm = true) (hm : X.mg "list" = none) (hm2 : X.mg "range" = none) (h : EE X a ta f) (h2 : EE X b tb g) (hg : Gl X "list" := by rfl) (hg2 : Gl X "range" := by rfl) (c : CaOk X a [b] pos2 := by exact ⟨rfl, rfl⟩) (c2 : CaOk X b [] pos2 := by exact ⟨rfl, rfl⟩)
    (nb : starEach [Expr.Call (.Name "range" p2) [a, b] [] pos2] X.env = (false, eval (Expr.Call (.Name "range" p2) [a, b] [] pos2) X.env) :: starEach [] X.env := by rfl) : EN X (.Call (.Name "list" p) [.Call (.Name "range" p2) [a, b] [] pos2] [] pos) (tLstRg (tRg2 ta tb)) (ap (rgD .list) (two f g)) :=
  ⟨pe_listRg hc hg hm (prg_2 hg2 hm2 h.pe h2.pe c.he c2.he c.hpl) nb, fun H0 M0 H M ρ σ Q d E hf q => by
    obtain ⟨ds, e1, hf⟩ := bind_some hf
    obtain ⟨x, e2, e1⟩ := bind_some e1
    obtain ⟨xs, e3, e1⟩ := bind_some e1
    obtain ⟨y, e4, e3⟩ := bind_some e3
    cases e3
    cases e1
    obtain ⟨i, j, rfl, rfl, ok, rfl⟩ := rg2_some hf
    refine h.g E e2 fun v H1 s1 r1 => h2.g (E.to s1) e4 fun w H2 s2 r2 => ?_
    cases r1
    cases r2
    refine ⟨i, j, rfl, rfl, ok, fun p np => ?_⟩
    exact q _ _ (s1.free (s2.free np)) ((s1.trans s2).trans (same_upd np)) ⟨_, upd_same, reps_rgV i j⟩⟩
end
/-- a promise that asks what never is -/
theorem fn_never {P : Program} {w : World} {K : PySem.W.Frag} {mg : Str → Option Value} {base : Heap} {k n : Nat} {f : Addr} {fd : FuncData} {ps : List Str} : FnOk P w K mg base CX0 k f fd ps (spP K n fun _ => none) :=
  ⟨fun vs H Q E h => (by obtain ⟨M, ds, d, m, r, hl, e, q⟩ := h; cases e), fun A outer s H args us vs Q E _ _ _ _ h => (by obtain ⟨M, ds, d, m, r, hl, e, q⟩ := h; cases e)⟩
end Pu

set_option Elab.async false
set_option linter.all false
set_option maxRecDepth 100000
namespace Pu
open PySem PySem.Spec PyProof.Rows L2

/-! ### pairs walked: zip, enumerate -/
def zipD : List D → List D → List D := List.zipWith fun x y => .tuple [x, y]
theorem zipD_get {xs ys : List D} {i : Nat} {d : D} (h : (zipD xs ys)[i]? = some d) : ∃ x y, xs[i]? = some x ∧ ys[i]? = some y ∧ d = .tuple [x, y] := by
  unfold zipD at h
  rw [List.getElem?_zipWith] at h
  split at h
  · cases h; exact ⟨_, _, ‹_›, ‹_›, rfl⟩
  · cases h
theorem walk_zipT {K : PySem.W.Frag} {a b : Addr} {xs ys : List V} {n : Nat} (hn : n = min xs.length ys.length) : Walk (RZ.ItzT K a b) n (fun H => SqT K H a xs ∧ SqT K H b ys) (YPair (fun i => xs[i]?) (fun i => ys[i]?)) := by
  subst hn
  refine ⟨fun i _ hi q => ?_, fun _ q => ⟨xs, ys, q.1, q.2, by omega⟩, fun i H v H' _ q y => ?_⟩
  · have h1 : i < xs.length := by omega
    have h2 : i < ys.length := by omega
    exact ⟨xs, ys, xs[i], ys[i], q.1, q.2, by simp [h1], by simp [h2]⟩
  · obtain ⟨T, x, z, h1, h2, h3, h4, h5⟩ := y
    exact ⟨T, x, z, h1, h2, h3, h4 xs q.1, h5 ys q.2⟩
theorem rep_pair {K : PySem.W.Frag} {H : Hp} {M : Addr → Prop} (m : MK H M) {p : Addr} {x y : D} {u v : V} (np : H p = none) (r1 : Rep K H M x u) (r2 : Rep K H M y v) : Rep K (upd H p (.tup [u, v])) M (.tuple [x, y]) (.ref p) :=
  .tup (.of upd_same) (.cons (r1.same m (same_upd np)) (.cons (r2.same m (same_upd np)) .nil))
section
variable {X : Cx} {e e2 : Expr} {te te2 : TE} {f f2 : Ev} {ta : TA} {fs : Es} {p pos tpos : Pos} {elts : List Expr} {kk : Nat}
def zipOf : List D → Option (List D)
  | [.list xs, .list ys] => some (zipD xs ys)
  | [.tuple xs, .tuple ys] => some (zipD xs ys)
  | _ => none
def zipS (fs : Es) : Src := fun ρ => (fs ρ).bind zipOf
theorem i_zip (hm : X.mg "zip" = none) (ha : EE X e te f) (ha2 : EE X e2 te2 f2) (hg : Gl X "zip" := by rfl)
    (c : CaOk X e [e2] pos := by exact ⟨rfl, rfl⟩) (c2 : CaOk X e2 [] pos := by exact ⟨rfl, rfl⟩) :
    EI X (.Tuple elts kk tpos) (.Call (.Name "zip" p) [e, e2] [] pos) (RZ.iZipA X.K (tCons te (tCons te2 tNil))) (zipS (two f f2)) :=
  have A : AE X [e, e2] (tCons te (tCons te2 tNil)) (two f f2) := a_cons ha (a_cons ha2 a_nil c2.he) c.he
  ⟨RZ.pi_zipA hg hm A.pa c.he c.hpl, fun H0 M0 H M ρ σ R ds E hf q => by
    obtain ⟨as, e1, hf⟩ := bind_some hf
    refine A.g E e1 fun vs H1 s1 r1 => ?_
    have m1 := E.mkh.same s1
    unfold zipOf at hf
    split at hf
    · cases hf
      cases r1 with
      | cons r r' =>
        cases r' with
        | cons r' r'' =>
          cases r''
          cases r with
          | @lst a us xs hl rr =>
            cases r' with
            | @lst b us' ys hl' rr' =>
              refine ⟨a, b, us, us', rfl, .inl ⟨hl.sq, hl'.sq, q _ H1 s1 ⟨fun H => SqL X.K H a us ∧ SqL X.K H b us', YPair (fun i => us[i]?) (fun i => us'[i]?), walk_zip (by unfold zipD; rw [List.length_zipWith, rr.length, rr'.length]), fun H2 M2 p m => ⟨(p.st.lo m1 p.nw hl).sq, (p.st.lo m1 p.nw hl').sq⟩, ?_⟩⟩⟩
              rintro i H2 x H3 M2 hi p m ⟨T, u, v, rfl, np, rfl, hu, hv⟩
              refine ⟨same_upd np, fun d hd => ?_⟩
              obtain ⟨x, y, hx, hy, rfl⟩ := zipD_get hd
              obtain ⟨w, hw, ru⟩ := rr.get hx
              obtain ⟨w', hw', rv⟩ := rr'.get hy
              have hu : us[i]? = some u := hu
              have hv : us'[i]? = some v := hv
              rw [hu] at hw; rw [hv] at hw'; cases hw; cases hw'
              exact rep_pair m np (ru.stay m1 p.st p.nw) (rv.stay m1 p.st p.nw)
    · cases hf
      cases r1 with
      | cons r r' =>
        cases r' with
        | cons r' r'' =>
          cases r''
          cases r with
          | @tup a us xs hl rr =>
            cases r' with
            | @tup b us' ys hl' rr' =>
              refine ⟨a, b, us, us', rfl, .inr ⟨hl, hl', q _ H1 s1 ⟨fun H => SqT X.K H a us ∧ SqT X.K H b us', YPair (fun i => us[i]?) (fun i => us'[i]?), walk_zipT (by unfold zipD; rw [List.length_zipWith, rr.length, rr'.length]), fun H2 M2 p m => ⟨p.st.sqT m1 hl, p.st.sqT m1 hl'⟩, ?_⟩⟩⟩
              rintro i H2 x H3 M2 hi p m ⟨T, u, v, rfl, np, rfl, hu, hv⟩
              refine ⟨same_upd np, fun d hd => ?_⟩
              obtain ⟨x, y, hx, hy, rfl⟩ := zipD_get hd
              obtain ⟨w, hw, ru⟩ := rr.get hx
              obtain ⟨w', hw', rv⟩ := rr'.get hy
              have hu : us[i]? = some u := hu
              have hv : us'[i]? = some v := hv
              rw [hu] at hw; rw [hv] at hw'; cases hw; cases hw'
              exact rep_pair m np (ru.stay m1 p.st p.nw) (rv.stay m1 p.st p.nw)
    · cases hf⟩
/-! x.bit_length() -/
def bitsD : D → Option D
  | .int i => some (.int (Builtin.Int.intBits i : Nat))
  | _ => none
theorem x_bits {apos : Pos} (h : EE X e te f) (hbase : attributeBase e "bit_length" X.env (eval e X.env) = eval e X.env := by rfl) (hline : (apos.endLine == pos.line) = true := by rfl) : EE X (.Call (.Attribute e "bit_length" apos) [] [] pos) (tBits te) (un bitsD f) :=
  ⟨pe_bits h.pe hbase hline, fun H0 M0 H M ρ σ Q d E hf q => by
    obtain ⟨x, e1, hf⟩ := bind_some hf
    refine h.g E e1 fun v H1 s1 r1 => ?_
    unfold bitsD at hf
    split at hf
    · cases hf
      cases r1
      exact ⟨_, rfl, q _ H1 s1 (.int _)⟩
    · cases hf⟩
end
/-! ### (a, b, ..) = a list -/
def tU (ts : List Tg) : Tg := fun d ρ => match d with
  | .list ds => tEach ts ds ρ
  | _ => none
theorem t_unl {X : Cx} {es : List Expr} {gs : TGs} {ix : List Nat} {ts : List Tg} {pos : Pos} {k : Nat} (hc : X.calm = true) (h : EGs X es gs ix ts) (hn : (assignEach es X.env).length = ts.length := by rfl) (hst : (assignEach es X.env).findIdx? (·.1) = none := by rfl) : EG X (.Tuple es k pos) (gUnl X.K ts.length gs) ix (tU ts) := ⟨pg_unl hc h.pgs hn hst, fun H0 M0 H M ρ σ v d ρ' Q E r e q => by
  unfold tU at e
  split at e
  · cases r with
    | lst h1 r1 => exact ⟨_, _, rfl, h1.sq, r1.length.symm.trans (tEach_len e), h.g E r1 e q⟩
  · cases e⟩
section
variable {X : Cx}
abbrev BA (α : Type) := Shared → Hp → Addr → List (Str × Addr) → List Addr → α
abbrev BlkA (X : Cx) (scope : Scope) (P : Cx → BA Prop) : Prop := ∀ (s : Shared) (H : Hp) (C : Addr) (cl : List (Str × Addr)) (fp : List Addr), P (X.blk s H scope (compEnvC scope cl C X.env) fp) s H C cl fp
abbrev at0 {α : Type} (X : Cx) (f : BA α) : α := f X.s_0 X.H_0 0 [] []
abbrev Still {α : Type} (X : Cx) (f : BA α) : Prop := ∀ (s : Shared) (H : Hp) (C : Addr) (cl : List (Str × Addr)) (fp : List Addr), f s H C cl fp = at0 X f
theorem m_lc {elt tg iter : Expr} {ifs : List Expr} {scope : Scope} {own : List (Str × Nat)} {pos : Pos} {wi : TI} {g : BA TG} {tt : BA TT} {te : BA TE} {src : Src} {ix : List Nat} {t : Tg} {gt : Et} {f : Ev} (hc : X.calm = true) (hN : X.N.Nodup) (hi : EC X tg iter wi src) (ok : blkC X.N X.env.scope scope own = true)
    (hg : BlkA X scope fun Y s H C cl fp => EG Y tg (g s H C cl fp) ix t) (ht : BlkA X scope fun Y s H C cl fp => PTsE Y ifs (tt s H C cl fp) gt) (he : BlkA X scope fun Y s H C cl fp => EE Y elt (te s H C cl fp) f)
    (sg : Still X g := by exact fun _ _ _ _ _ => rfl) (st : Still X tt := by exact fun _ _ _ _ _ => rfl) (se : Still X te := by exact fun _ _ _ _ _ => rfl) (hix : ∀ i ∈ ix, i ∈ own.map (·.2) := by decide) (hs : ∀ x, foldedSetIterable iter X.env x = pure x := by intro _; rfl) :
    EN X (.ListComp elt [⟨tg, iter, ifs, 0⟩] scope pos) (tLc wi (at0 X g) (at0 X tt) (at0 X te) (own.map (·.2))) (lcS src t gt f (own.map (·.2))) :=
  n_lc hc hN hi ok (fun s H C cl fp => (sg s H C cl fp) ▸ hg s H C cl fp) (fun s H C cl fp => (st s H C cl fp) ▸ ht s H C cl fp) (fun s H C cl fp => (se s H C cl fp) ▸ he s H C cl fp) hix hs
/-- name = [..] -/
theorem sm_lc (i : Nat) {y : Str} {py : Pos} {elt tg iter : Expr} {ifs : List Expr} {scope : Scope} {own : List (Str × Nat)} {pos spos : Pos} {wi : TI} {g : BA TG} {tt : BA TT} {te : BA TE} {src : Src} {ix : List Nat} {t : Tg} {gt : Et} {f : Ev} (hc : X.calm = true) (hN : X.N.Nodup) (hi : EC X tg iter wi src) (ok : blkC X.N X.env.scope scope own = true)
    (hg : BlkA X scope fun Y s H C cl fp => EG Y tg (g s H C cl fp) ix t) (ht : BlkA X scope fun Y s H C cl fp => PTsE Y ifs (tt s H C cl fp) gt) (he : BlkA X scope fun Y s H C cl fp => EE Y elt (te s H C cl fp) f)
    (hy : X.N[i]? = some y := by rfl) (hyl : X.env.scope.names.lookup y = some .local := by rfl)
    (hsw : swapsWith (.ListComp elt [⟨tg, iter, ifs, 0⟩] scope pos) (some (.Name y py)) spos.line X.env = pure true := by exact sw_true rfl rfl rfl (by decide +kernel))
    (sg : Still X g := by exact fun _ _ _ _ _ => rfl) (st : Still X tt := by exact fun _ _ _ _ _ => rfl) (se : Still X te := by exact fun _ _ _ _ _ => rfl) (hix : ∀ i ∈ ix, i ∈ own.map (·.2) := by decide) (hs : ∀ x, foldedSetIterable iter X.env x = pure x := by intro _; rfl) :
    SS X (.Assign [.Name y py] (.ListComp elt [⟨tg, iter, ifs, 0⟩] scope pos) spos) (tAsg (tLc wi (at0 X g) (at0 X tt) (at0 X te) (own.map (·.2))) (gName i)) (ownS i (lcS src t gt f (own.map (·.2)))) :=
  s_lc i hc hN hi ok (fun s H C cl fp => (sg s H C cl fp) ▸ hg s H C cl fp) (fun s H C cl fp => (st s H C cl fp) ▸ ht s H C cl fp) (fun s H C cl fp => (se s H C cl fp) ▸ he s H C cl fp) hy hyl hsw hix hs
theorem GN.still {K : PySem.W.Frag} {te : TE} {f : Ev} (F : GN K te f) : GE K te f := fun H0 M0 H M ρ σ Q d E hf q => F E hf fun p H' n s o => q _ H' s ((o.anti fun a h => .inl h).rep fun m => E.mkh.some m n)
/-- .. the list then still -/
theorem sm_lcS (i : Nat) {y : Str} {py : Pos} {elt tg iter : Expr} {ifs : List Expr} {scope : Scope} {own : List (Str × Nat)} {pos spos : Pos} {wi : TI} {g : BA TG} {tt : BA TT} {te : BA TE} {src : Src} {ix : List Nat} {t : Tg} {gt : Et} {f : Ev} (hc : X.calm = true) (hN : X.N.Nodup) (hi : EC X tg iter wi src) (ok : blkC X.N X.env.scope scope own = true)
    (hg : BlkA X scope fun Y s H C cl fp => EG Y tg (g s H C cl fp) ix t) (ht : BlkA X scope fun Y s H C cl fp => PTsE Y ifs (tt s H C cl fp) gt) (he : BlkA X scope fun Y s H C cl fp => EE Y elt (te s H C cl fp) f)
    (hy : X.N[i]? = some y := by rfl) (hyl : X.env.scope.names.lookup y = some .local := by rfl)
    (hsw : swapsWith (.ListComp elt [⟨tg, iter, ifs, 0⟩] scope pos) (some (.Name y py)) spos.line X.env = pure true := by exact sw_true rfl rfl rfl (by decide +kernel))
    (sg : Still X g := by exact fun _ _ _ _ _ => rfl) (st : Still X tt := by exact fun _ _ _ _ _ => rfl) (se : Still X te := by exact fun _ _ _ _ _ => rfl) (hix : ∀ i ∈ ix, i ∈ own.map (·.2) := by decide) (hs : ∀ x, foldedSetIterable iter X.env x = pure x := by intro _; rfl) :
    SS X (.Assign [.Name y py] (.ListComp elt [⟨tg, iter, ifs, 0⟩] scope pos) spos) (tAsg (tLc wi (at0 X g) (at0 X tt) (at0 X te) (own.map (·.2))) (gName i)) (setS i (lcS src t gt f (own.map (·.2)))) :=
  have F := (m_lc (pos := pos) hc hN hi ok hg ht he sg st se hix hs).g
  ⟨(sm_lc i (spos := spos) (py := py) (pos := pos) hc hN hi ok hg ht he hy hyl hsw sg st se hix hs).ps, g_set F.still⟩
end
end Pu
namespace Pu
open PySem PySem.Spec PyProof.Rows L2
section
variable {X : Cx} {K' : PySem.W.Frag} {k n : Nat} {f : Addr} {fd : FuncData} {ps : List Str} {sem : List D → Option D} {x : Str} {p pos : Pos} {e : Expr} {es : List Expr} {t : TA} {fs : Es}
theorem d_def (F : FnOk X.prog X.w K' X.mg X.base CX0 k f fd ps (spP K' n sem)) (hr : Room k X.A) (hm : X.mg x = some (.ref f)) (hk : PySem.W.keepIn K' (.ref f) = true) (hb : Binds K' fd ps []) (ha : AE X (e :: es) t fs) (hK : X.K = K' := by rfl) (hg : Gl X x := by rfl) (hn : (e :: es).length = n := by rfl)
    (hdb : (x == ("__debug__" : Str)) = false := by decide) (he : starEach (e :: es) X.env = (false, eval e X.env) :: starEach es X.env := by rfl) (hpl : (backTo pos (starEach es X.env)).any (·.1) = false := by rfl) :
    EE X (.Call (.Name x p) (e :: es) [] pos) (tCall (spP K' n sem) [] E0 t) (ap sem fs) := by
  subst hK
  exact c_def F hr hg hm hk hb ha hn hdb he hpl
theorem d_defB (F : FnOk X.prog X.w K' X.mg X.base CX0 k f fd ps (spP K' n sem)) (hr : Room k X.A) (hm : X.mg x = some (.ref f)) (hk : PySem.W.keepIn K' (.ref f) = true) (hb : Binds K' fd ps []) (ha : AB X (e :: es) t fs) (hK : X.K = K' := by rfl) (hg : Gl X x := by rfl) (hn : (e :: es).length = n := by rfl)
    (hdb : (x == ("__debug__" : Str)) = false := by decide) (he : starEach (e :: es) X.env = (false, eval e X.env) :: starEach es X.env := by rfl) (hpl : (backTo pos (starEach es X.env)).any (·.1) = false := by rfl) :
    EE X (.Call (.Name x p) (e :: es) [] pos) (tCall (spP K' n sem) [] E0 t) (flat (ap sem fs)) := by
  subst hK
  exact c_defB F hr hg hm hk hb ha hn hdb he hpl
end
end Pu

set_option Elab.async false
set_option linter.all false
set_option maxRecDepth 100000
namespace Pu
open PySem PySem.Spec PyProof.Rows L2

/-! ### reckoning: each reading at an environment, step by step (for simp) -/
section
variable {ρ ρ' : Env} {d x y : D} {ds es : List D} {f g k : Ev} {a b : Eg} {c c' : Et} {fs : Es} {i j : Nat} {s : Sl} {op op' : D → D → Option D} {u : D → Option D} {o : Out} {t : Tg} {ts' : List Tg}
def ob {α β : Type} (k : α → Option β) : Option α → Option β
  | some a => k a
  | none => none
def mo {α β : Type} (k : α → β) : Option α → Option β
  | some a => some (k a)
  | none => none
@[simp] theorem ob_some {α β : Type} {k : α → Option β} {a : α} : ob k (some a) = k a := id rfl
@[simp] theorem mo_some {α β : Type} {k : α → β} {a : α} : mo k (some a) = some (k a) := id rfl
theorem ob_eq {α β : Type} {k : α → Option β} {o : Option α} : o.bind k = ob k o := by cases o <;> rfl
theorem mo_eq {α β : Type} {k : α → β} {o : Option α} : o.map k = mo k o := by cases o <;> rfl
@[simp] theorem vr_zero : vr 0 (.sh d :: ρ) = some d := id rfl
@[simp] theorem vr_succ : vr (i + 1) (s :: ρ) = vr i ρ := id rfl
@[simp] theorem vb_zero : vb 0 (.sh d :: ρ) = some d := id rfl
@[simp] theorem vb_zero' : vb 0 (.ow d :: ρ) = some d := id rfl
@[simp] theorem vb_succ : vb (i + 1) (s :: ρ) = vb i ρ := id rfl
@[simp] theorem cst_at : cst d ρ = some d := id rfl
def bnK (op : D → D → Option D) : Option D → Option D → Option D
  | some x, some y => op x y
  | _, _ => none
@[simp] theorem bn_at : bn op f g ρ = bnK op (f ρ) (g ρ) := by
  unfold bn bnK
  cases f ρ <;> cases g ρ <;> rfl
@[simp] theorem bnK_some : bnK op (some x) (some y) = op x y := id rfl
@[simp] theorem un_at : un u f ρ = ob u (f ρ) := ob_eq
@[simp] theorem ap_at {q : List D → Option D} : ap q fs ρ = ob q (fs ρ) := ob_eq
@[simp] theorem nl_at : nl ρ = some [] := id rfl
def csK : Option D → Option (List D) → Option (List D)
  | some x, some xs => some (x :: xs)
  | _, _ => none
@[simp] theorem cs_at : cs f fs ρ = csK (f ρ) (fs ρ) := by
  unfold cs csK
  cases f ρ <;> cases fs ρ <;> rfl
@[simp] theorem csK_some : csK (some x) (some ds) = some (x :: ds) := id rfl
@[simp] theorem one_at : one f ρ = csK (f ρ) (some []) := by unfold one; rw [cs_at, nl_at]
@[simp] theorem two_at : two f g ρ = csK (f ρ) (csK (g ρ) (some [])) := by unfold two; rw [cs_at, cs_at, nl_at]
def mkK (C : List D → D) : Option (List D) → Option D
  | some ds => if ds.length ≤ sizeLine then some (C ds) else none
  | none => none
@[simp] theorem mkT_at : mkT fs ρ = mkK .tuple (fs ρ) := by unfold mkT mkK; cases fs ρ <;> rfl
@[simp] theorem mkL_at : mkL fs ρ = mkK .list (fs ρ) := by unfold mkL mkK; cases fs ρ <;> rfl
theorem szl : sizeLine = 16777216 := rfl
@[simp] theorem mkK_some {C : List D → D} (h : ds.length ≤ 16777216) : mkK C (some ds) = some (C ds) := if_pos h
@[simp] theorem ts_at {q : D → Option Bool} : ts q f ρ = ob q (f ρ) := ob_eq
def ifK {α : Type} (o : Option Bool) (a b : Env → Option α) (ρ : Env) : Option α := match o with
  | some true => a ρ
  | some false => b ρ
  | none => none
@[simp] theorem ifS_at : ifS c a b ρ = ifK (c ρ) a b ρ := by
  unfold ifS ifK
  rcases c ρ with _ | _ | _ <;> rfl
@[simp] theorem ifV_at : ifV c f g ρ = ifK (c ρ) f g ρ := by
  unfold ifV ifK
  rcases c ρ with _ | _ | _ <;> rfl
@[simp] theorem ifK_t {α : Type} {a b : Env → Option α} : ifK (some true) a b ρ = a ρ := id rfl
@[simp] theorem ifK_f {α : Type} {a b : Env → Option α} : ifK (some false) a b ρ = b ρ := id rfl
def andK (o : Option Bool) (g : Et) (ρ : Env) : Option Bool := match o with
  | some true => g ρ
  | some false => some false
  | none => none
def orK (o : Option Bool) (g : Et) (ρ : Env) : Option Bool := match o with
  | some true => some true
  | some false => g ρ
  | none => none
@[simp] theorem andB_at : andB c c' ρ = andK (c ρ) c' ρ := by
  unfold andB andK
  rcases c ρ with _ | _ | _ <;> rfl
@[simp] theorem orB_at : orB c c' ρ = orK (c ρ) c' ρ := by
  unfold orB orK
  rcases c ρ with _ | _ | _ <;> rfl
@[simp] theorem andK_t : andK (some true) c ρ = c ρ := id rfl
@[simp] theorem andK_f : andK (some false) c ρ = some false := id rfl
@[simp] theorem orK_t : orK (some true) c ρ = some true := id rfl
@[simp] theorem orK_f : orK (some false) c ρ = c ρ := id rfl
@[simp] theorem notT_at : notT c ρ = mo (!·) (c ρ) := mo_eq
@[simp] theorem yes_at : yes ρ = some true := id rfl
def andVK (o : Option D) (g : Ev) (ρ : Env) : Option D := match o with
  | some (.bool true) => g ρ
  | some (.bool false) => some (.bool false)
  | _ => none
def orVK (o : Option D) (g : Ev) (ρ : Env) : Option D := match o with
  | some (.bool true) => some (.bool true)
  | some (.bool false) => g ρ
  | _ => none
@[simp] theorem andV_at : andV f g ρ = andVK (f ρ) g ρ := by
  unfold andV andVK
  rcases f ρ with _ | (_ | _ | _) <;> try rfl
  rename_i b; cases b <;> rfl
@[simp] theorem orV_at : orV f g ρ = orVK (f ρ) g ρ := by
  unfold orV orVK
  rcases f ρ with _ | (_ | _ | _) <;> try rfl
  rename_i b; cases b <;> rfl
@[simp] theorem andVK_t : andVK (some (.bool true)) g ρ = g ρ := id rfl
@[simp] theorem andVK_f : andVK (some (.bool false)) g ρ = some (.bool false) := id rfl
@[simp] theorem orVK_t : orVK (some (.bool true)) g ρ = some (.bool true) := id rfl
@[simp] theorem orVK_f : orVK (some (.bool false)) g ρ = g ρ := id rfl
def chnK (op op' : D → D → Option D) (x y z : Option D) : Option D := x.bind fun x => y.bind fun y => match op x y with
  | some (.bool true) => z.bind fun z => op' y z
  | some (.bool false) => some (.bool false)
  | _ => none
@[simp] theorem chn_at : chn op op' f g k ρ = chnK op op' (f ρ) (g ρ) (k ρ) := id rfl
def chnM (op' : D → D → Option D) (o : Option D) (y z : D) : Option D := match o with
  | some (.bool true) => op' y z
  | some (.bool false) => some (.bool false)
  | _ => none
@[simp] theorem chnK_some {z : D} : chnK op op' (some x) (some y) (some z) = chnM op' (op x y) y z := id rfl
@[simp] theorem chnM_b {p : Bool} {z : D} : chnM op' (some (.bool p)) y z = if p = true then op' y z else some (.bool false) := by cases p <;> rfl
/-! statements -/
def seqK (o : Option Out) (b : Eg) : Option Out := match o with
  | some (.nx ρ') => b ρ'
  | some o => some o
  | none => none
@[simp] theorem seq_at : seq a b ρ = seqK (a ρ) b := by
  unfold seq seqK
  rcases a ρ with _ | (_ | _ | _ | _) <;> rfl
@[simp] theorem seqK_nx : seqK (some (.nx ρ)) b = b ρ := id rfl
@[simp] theorem seqK_rt : seqK (some (.rt d)) b = some (.rt d) := id rfl
@[simp] theorem seqK_bk : seqK (some (.bk ρ)) b = some (.bk ρ) := id rfl
@[simp] theorem seqK_ct : seqK (some (.ct ρ)) b = some (.ct ρ) := id rfl
@[simp] theorem nxt_at : nxt ρ = some (.nx ρ) := id rfl
@[simp] theorem brk_at : brk ρ = some (.bk ρ) := id rfl
@[simp] theorem ret_at : ret f ρ = mo .rt (f ρ) := mo_eq
def setK (s : D → Sl) (i : Nat) (ρ : Env) : Option D → Option Out
  | some d => some (.nx (ρ.set i (s d)))
  | none => none
@[simp] theorem setS_at : setS i f ρ = setK .sh i ρ (f ρ) := by unfold setS setK; cases f ρ <;> rfl
@[simp] theorem ownS_at : ownS i f ρ = setK .ow i ρ (f ρ) := by unfold ownS setK; cases f ρ <;> rfl
@[simp] theorem setK_some {s : D → Sl} : setK s i ρ (some d) = some (.nx (ρ.set i (s d))) := id rfl
@[simp] theorem frzS_at : frzS i a ρ = a (frz i ρ) := id rfl
@[simp] theorem frz_zero : frz 0 (.ow d :: ρ) = .sh d :: ρ := id rfl
@[simp] theorem frz_zero' : frz 0 (.sh d :: ρ) = .sh d :: ρ := id rfl
@[simp] theorem frz_zeroN : frz 0 (.no :: ρ) = .no :: ρ := id rfl
@[simp] theorem frz_succ : frz (i + 1) (s :: ρ) = s :: frz i ρ := by
  unfold frz
  rw [List.getElem?_cons_succ]
  rcases ρ[i]? with _ | (_ | _ | _) <;> rfl
def appK (i : Nat) (ρ : Env) (d : D) : Option Sl → Option Out
  | some (.ow (.list ds)) => if ds.length < sizeLine then some (.nx (ρ.set i (.ow (.list (ds ++ [d]))))) else none
  | _ => none
def appF (i : Nat) (ρ : Env) : Option D → Option Out
  | some d => appK i ρ d ρ[i]?
  | none => none
@[simp] theorem appS_at : appS i f ρ = appF i ρ (f ρ) := by
  unfold appS appF appK
  cases f ρ <;> rfl
@[simp] theorem appF_some : appF i ρ (some d) = appK i ρ d ρ[i]? := id rfl
@[simp] theorem appK_some (h : ds.length < 16777216) : appK i ρ d (some (.ow (.list ds))) = some (.nx (ρ.set i (.ow (.list (ds ++ [d]))))) := if_pos h
def augK (i : Nat) (ρ : Env) : Option D → Option Out
  | some d => some (.nx (ρ.set i (.sh d)))
  | none => none
@[simp] theorem augS_at : augS i op f ρ = augK i ρ (bnK op (vr i ρ) (f ρ)) := by
  unfold augS augK bnK
  cases vr i ρ <;> cases f ρ <;> try rfl
  rename_i x y
  cases h : op x y <;> simp [h]
@[simp] theorem augK_some : augK i ρ (some d) = some (.nx (ρ.set i (.sh d))) := id rfl
def asgK (t : Tg) (ρ : Env) : Option D → Option Out
  | some d => (t d ρ).map .nx
  | none => none
@[simp] theorem asgS_at : asgS t f ρ = asgK t ρ (f ρ) := by unfold asgS asgK; cases f ρ <;> rfl
@[simp] theorem asgK_some : asgK t ρ (some d) = mo .nx (t d ρ) := mo_eq
@[simp] theorem tN_at : tN i d ρ = some (ρ.set i (.sh d)) := id rfl
@[simp] theorem tT_at : tT ts' (.tuple ds) ρ = tEach ts' ds ρ := id rfl
@[simp] theorem tU_at : tU ts' (.list ds) ρ = tEach ts' ds ρ := id rfl
@[simp] theorem tEach_nil : tEach [] [] ρ = some ρ := id rfl
@[simp] theorem tEach_cons : tEach (t :: ts') (d :: ds) ρ = ob (tEach ts' ds) (t d ρ) := ob_eq
@[simp] theorem parS_at : parS i j fs ρ = (match fs ρ with | some [d, d'] => some (.nx ((ρ.set i (.sh d)).set j (.sh d'))) | _ => none) := by
  unfold parS
  rcases fs ρ with _ | _ | ⟨_, _ | ⟨_, _ | _⟩⟩ <;> rfl
def forK (t : Tg) (gb : Eg) (ρ : Env) : Option (List D) → Option Out
  | some ds => forL t gb ds ρ
  | none => none
@[simp] theorem forS_at {q : Src} : forS q t a ρ = forK t a ρ (q ρ) := by unfold forS forK; cases q ρ <;> rfl
@[simp] theorem forK_some : forK t a ρ (some ds) = forL t a ds ρ := id rfl
def forC (t : Tg) (gb : Eg) (ds : List D) : Option Out → Option Out
  | some (.nx ρ) => forL t gb ds ρ
  | some (.ct ρ) => forL t gb ds ρ
  | some (.bk ρ) => some (.nx ρ)
  | some (.rt d) => some (.rt d)
  | none => none
@[simp] theorem forL_nil : forL t a [] ρ = some (.nx ρ) := id rfl
@[simp] theorem forL_cons : forL t a (d :: ds) ρ = forC t a ds (ob a (t d ρ)) := by
  rw [← ob_eq]
  show (t d ρ).bind (fun ρ1 => (a ρ1).bind _) = _
  cases t d ρ with
  | none => rfl
  | some ρ1 =>
    show (a ρ1).bind _ = forC t a ds (a ρ1)
    rcases a ρ1 with _ | (_ | _ | _ | _) <;> rfl
@[simp] theorem forC_nx : forC t a ds (some (.nx ρ)) = forL t a ds ρ := id rfl
@[simp] theorem forC_ct : forC t a ds (some (.ct ρ)) = forL t a ds ρ := id rfl
@[simp] theorem forC_bk : forC t a ds (some (.bk ρ)) = some (.nx ρ) := id rfl
@[simp] theorem forC_rt : forC t a ds (some (.rt d)) = some (.rt d) := id rfl
@[simp] theorem srcOf_at : srcOf f ρ = ob itemsOf (f ρ) := ob_eq
@[simp] theorem items_l : itemsOf (.list ds) = some ds := id rfl
@[simp] theorem items_t : itemsOf (.tuple ds) = some ds := id rfl
def rg1F : List D → Option (List D) := fun ds => match ds with
  | [.int j] => if -(2 ^ 62) ≤ j ∧ j < 2 ^ 62 then some (rng 0 j.toNat) else none
  | _ => none
def rg2F : List D → Option (List D) := fun ds => match ds with
  | [.int i, .int j] => if -(2 ^ 62) ≤ i ∧ i < 2 ^ 62 ∧ -(2 ^ 62) ≤ j ∧ j < 2 ^ 62 then some (rng i (j - i).toNat) else none
  | _ => none
@[simp] theorem rg1_at : rg1 fs ρ = ob rg1F (fs ρ) := ob_eq (k := rg1F)
@[simp] theorem rg2_at : rg2 fs ρ = ob rg2F (fs ρ) := ob_eq (k := rg2F)
@[simp] theorem rg1F_i {n : Int} (h1 : -4611686018427387904 ≤ n) (h2 : n < 4611686018427387904) : rg1F [.int n] = some (rng 0 n.toNat) := if_pos ⟨h1, h2⟩
@[simp] theorem rg2F_i {m n : Int} (h1 : -4611686018427387904 ≤ m) (h2 : m < 4611686018427387904) (h3 : -4611686018427387904 ≤ n) (h4 : n < 4611686018427387904) : rg2F [.int m, .int n] = some (rng m (n - m).toNat) := if_pos ⟨h1, h2, h3, h4⟩
@[simp] theorem zipS_at : zipS fs ρ = ob zipOf (fs ρ) := ob_eq
@[simp] theorem zipOf_t : zipOf [.tuple ds, .tuple es] = some (zipD ds es) := id rfl
@[simp] theorem zipOf_l : zipOf [.list ds, .list es] = some (zipD ds es) := id rfl
def lcK (t : Tg) (c : Et) (f : Ev) (ρ : Env) : Option (List D) → Option D
  | some ds => if ds.length ≤ sizeLine then (lcL t c f ρ ds).bind fun xs => some (.list xs) else none
  | none => none
@[simp] theorem lcS_at {q : Src} {own : List Nat} : lcS q t c f own ρ = lcK t c f (wipeE ρ own) (q ρ) := by
  unfold lcS lcK; cases q ρ <;> rfl
@[simp] theorem wipeE_nil : wipeE ρ [] = ρ := id rfl
@[simp] theorem wipeE_cons {v : Nat} {vs : List Nat} : wipeE ρ (v :: vs) = (wipeE ρ vs).set v .no := id rfl
/-- a comprehension with no test -/
theorem lcK_map {F : D → D} (hl : ds.length ≤ 16777216) (h : ∀ d ∈ ds, ob f (t d ρ) = some (F d)) : lcK t yes f ρ (some ds) = some (.list (ds.map F)) := by
  unfold lcK
  show (if ds.length ≤ sizeLine then _ else _) = _
  rw [if_pos (by rw [szl]; exact hl)]
  have e : ∀ ds : List D, (∀ d ∈ ds, ((t d ρ).bind f) = some (F d)) → lcL t yes f ρ ds = some (ds.map F) := fun ds => by
    induction ds with
    | nil => intro _; rfl
    | cons d ds ih =>
      intro h
      obtain ⟨ρ1, e1, e2⟩ := bind_some (h d (List.mem_cons_self ..))
      unfold lcL
      rw [e1]
      show (f ρ1).bind _ = _
      rw [e2, ih fun d hd => h d (List.mem_cons_of_mem _ hd)]
      rfl
  rw [e ds fun d hd => by rw [ob_eq]; exact h d hd]
  rfl
/-- a comprehension with a test -/
theorem lcK_filterMap {F : D → Option D} (hl : ds.length ≤ 16777216) (h : ∀ d ∈ ds, (∃ ρ1, t d ρ = some ρ1 ∧ ((c ρ1 = some true ∧ f ρ1 = F d ∧ F d ≠ none) ∨ (c ρ1 = some false ∧ F d = none)))) : lcK t c f ρ (some ds) = some (.list (ds.filterMap F)) := by
  unfold lcK
  show (if ds.length ≤ sizeLine then _ else _) = _
  rw [if_pos (by rw [szl]; exact hl)]
  have e : ∀ ds : List D, (∀ d ∈ ds, (∃ ρ1, t d ρ = some ρ1 ∧ ((c ρ1 = some true ∧ f ρ1 = F d ∧ F d ≠ none) ∨ (c ρ1 = some false ∧ F d = none)))) → lcL t c f ρ ds = some (ds.filterMap F) := fun ds => by
    induction ds with
    | nil => intro _; rfl
    | cons d ds ih =>
      intro h
      obtain ⟨ρ1, e1, e2⟩ := h d (List.mem_cons_self ..)
      have ih := ih fun d hd => h d (List.mem_cons_of_mem _ hd)
      unfold lcL
      rw [e1]
      show (c ρ1).bind _ = _
      rcases e2 with ⟨e2, e3, e4⟩ | ⟨e2, e3⟩
      · rw [e2]
        cases e : F d with
        | none => exact absurd e e4
        | some x =>
          rw [e] at e3
          rw [List.filterMap_cons_some e]
          show (f ρ1).bind _ = _
          rw [e3, ih]
          rfl
      · rw [e2, List.filterMap_cons_none e3]
        exact ih
  rw [e ds h]
  rfl
/-- a loop told by a fold: E tells the environment of a state -/
theorem forL_fold {S A : Type} {E : S → Env} {enc : A → D} {step : S → A → S} {I : S → Prop} (h : ∀ s x, I s → (ob a (t (enc x) (E s)) = some (.nx (E (step s x))) ∨ ob a (t (enc x) (E s)) = some (.ct (E (step s x)))) ∧ I (step s x)) :
    ∀ (xs : List A) (s : S), I s → forL t a (xs.map enc) (E s) = some (.nx (E (xs.foldl step s))) ∧ I (xs.foldl step s)
  | [], s, hs => ⟨rfl, hs⟩
  | x :: xs, s, hs => by
    obtain ⟨h1, h2⟩ := h s x hs
    have ih := forL_fold h xs (step s x) h2
    refine ⟨?_, ih.2⟩
    rw [List.map_cons, forL_cons]
    rcases h1 with h1 | h1
    · rw [h1]; exact ih.1
    · rw [h1]; exact ih.1
end
section
variable {i j : Int} {p q : Bool} {xs ys : List D} {x y : Str}
/-! operators -/
@[simp] theorem addD_i : addD (.int i) (.int j) = some (.int (i + j)) := id rfl
@[simp] theorem subD_i : subD (.int i) (.int j) = some (.int (i - j)) := id rfl
@[simp] theorem subD_b : subD (.bool p) (.bool q) = some (.int (b2i p - b2i q)) := id rfl
theorem mulD_i (h : mulOk i j = true) : mulD (.int i) (.int j) = some (.int (i * j)) := if_pos h
@[simp] theorem mulD_l (h : i.natAbs < 18446744073709551616) : mulD (.int i) (.int j) = some (.int (i * j)) := mulD_i (by unfold mulOk; simp; omega)
@[simp] theorem mulD_r (h : j.natAbs < 18446744073709551616) : mulD (.int i) (.int j) = some (.int (i * j)) := mulD_i (by unfold mulOk; simp; omega)
@[simp] theorem fdivD_i (h0 : j ≠ 0) (h : j.natAbs < 1073741824) : fdivD (.int i) (.int j) = some (.int (i.fdiv j)) := if_pos (by unfold divOk; simp; exact ⟨h0, h⟩)
@[simp] theorem modD_i (h0 : j ≠ 0) : modD (.int i) (.int j) = some (.int (i.fmod j)) := if_pos (by simpa using h0)
theorem powD_i (h : powOk i j = true) : powD (.int i) (.int j) = some (.int (i ^ j.toNat)) := if_pos h
theorem shlD_i (h : powOk i j = true) : shlD (.int i) (.int j) = some (.int (i * 2 ^ j.toNat)) := if_pos h
@[simp] theorem ltD_i : ltD (.int i) (.int j) = some (.bool (decide (i < j))) := id rfl
@[simp] theorem leD_i : leD (.int i) (.int j) = some (.bool (decide (i ≤ j))) := id rfl
@[simp] theorem gtD_i : gtD (.int i) (.int j) = some (.bool (decide (j < i))) := id rfl
@[simp] theorem geD_i : geD (.int i) (.int j) = some (.bool (decide (j ≤ i))) := id rfl
@[simp] theorem eqD_i : eqD (.int i) (.int j) = some (.bool (decide (i = j))) := by
  show some (PyData.bool (i == j)) = _
  congr
@[simp] theorem neD_i : neD (.int i) (.int j) = some (.bool (!decide (i = j))) := by
  show some (PyData.bool (!(i == j))) = _
  congr
@[simp] theorem eqD_b : eqD (.bool p) (.bool q) = some (.bool (p == q)) := id rfl
@[simp] theorem neD_b : neD (.bool p) (.bool q) = some (.bool (!(p == q))) := id rfl
theorem eqD_of {a b : D} (h : SeqAt.shaped a = true) (h' : SeqAt.shaped b = true) : eqD a b = some (.bool (PyData.eqv a b)) := if_pos (by rw [h, h']; rfl)
theorem neD_of {a b : D} (h : SeqAt.shaped a = true) (h' : SeqAt.shaped b = true) : neD a b = some (.bool (!PyData.eqv a b)) := if_pos (by rw [h, h']; rfl)
@[simp] theorem negD_i : negD (.int i) = some (.int (-i)) := id rfl
@[simp] theorem notB_b : notB (.bool p) = some (.bool (!p)) := id rfl
@[simp] theorem boolOf_b : boolOf (.bool p) = some p := id rfl
@[simp] theorem truD_b : truD (.bool p) = some p := id rfl
@[simp] theorem truD_i : truD (.int i) = some (i != 0) := id rfl
@[simp] theorem truD_l : truD (.list xs) = some (!xs.isEmpty) := id rfl
@[simp] theorem truD_t : truD (.tuple xs) = some (!xs.isEmpty) := id rfl
@[simp] theorem lenD_l : lenD [.list xs] = some (.int xs.length) := id rfl
@[simp] theorem lenD_t : lenD [.tuple xs] = some (.int xs.length) := id rfl
@[simp] theorem absD_i : absD [.int i] = some (.int (if i < 0 then -i else i)) := id rfl
@[simp] theorem min2D_i : min2D [.int i, .int j] = some (.int (if j < i then j else i)) := id rfl
@[simp] theorem max2D_i : max2D [.int i, .int j] = some (.int (if j > i then j else i)) := id rfl
@[simp] theorem intD_i : intD [.int i] = some (.int i) := id rfl
@[simp] theorem tupD_l : tupD [.list xs] = some (.tuple xs) := id rfl
@[simp] theorem tupD_t : tupD [.tuple xs] = some (.tuple xs) := id rfl
@[simp] theorem lstD_l : lstD [.list xs] = some (.list xs) := id rfl
@[simp] theorem lstD_t : lstD [.tuple xs] = some (.list xs) := id rfl
@[simp] theorem ixD_l : ixD (.list xs) (.int i) = atI xs i := id rfl
@[simp] theorem ixD_t : ixD (.tuple xs) (.int i) = atI xs i := id rfl
@[simp] theorem isD_n {d : D} : isD d .none = some (.bool (isNon d)) := by cases d <;> rfl
@[simp] theorem isNotD_n {d : D} : isNotD d .none = some (.bool (!isNon d)) := by cases d <;> rfl
@[simp] theorem isD_b : isD (.bool p) (.bool q) = some (.bool (decide (p = q))) := id rfl
@[simp] theorem isNotD_b : isNotD (.bool p) (.bool q) = some (.bool (!decide (p = q))) := id rfl
@[simp] theorem bitsD_i : bitsD (.int i) = some (.int (Builtin.Int.intBits i : Nat)) := id rfl
theorem atI_nat {α : Type} {xs : List α} {n : Nat} {x : α} (h : xs[n]? = some x) : atI xs (n : Int) = some x := by
  obtain ⟨hn, e⟩ := List.getElem?_eq_some_iff.mp h
  unfold atI ixN
  rw [if_pos (by omega), if_pos (by omega)]
  simpa using h
theorem atI_of {α : Type} {xs : List α} {i : Int} {x : α} (h0 : 0 ≤ i) (h : xs[i.toNat]? = some x) : atI xs i = some x := by
  have := atI_nat h
  rwa [Int.toNat_of_nonneg h0] at this
theorem atI_getD {α : Type} {xs : List α} {i : Int} (h0 : 0 ≤ i) (h : i < xs.length) (z : α) : atI xs i = some (xs.getD i.toNat z) := by
  refine atI_of h0 ?_
  rw [List.getD_eq_getElem?_getD, List.getElem?_eq_getElem (by omega)]
  rfl
theorem rng_eq (lo : Int) (n : Nat) : rng lo n = ((List.range n).map fun i => lo + (i : Nat)).map PyData.int := by
  unfold rng; rw [List.map_map]; rfl
theorem rng0_eq (n : Nat) : rng 0 n = (List.range n).map fun i => PyData.int (i : Nat) := by
  unfold rng; simp
/-- 0, 1, .. n - 1 -/
def ri (n : Nat) : List Int := (List.range n).map fun (i : Nat) => (i : Int)
@[simp] theorem ri_len (n : Nat) : (ri n).length = n := by unfold ri; simp
theorem rng0_ri (n : Nat) : rng 0 n = (ri n).map .int := by unfold rng ri; rw [List.map_map]; simp [Function.comp_def]
theorem mem_ri {n : Nat} {x : Int} : x ∈ ri n ↔ 0 ≤ x ∧ x < n := by
  unfold ri
  rw [List.mem_map]
  constructor
  · rintro ⟨i, hi, rfl⟩
    have := List.mem_range.mp hi
    omega
  · rintro ⟨h1, h2⟩
    exact ⟨x.toNat, List.mem_range.mpr (by omega), by omega⟩
@[simp] theorem rng_len (lo : Int) (n : Nat) : (rng lo n).length = n := by unfold rng; simp
theorem allD_map {bs : List Bool} : allD [.list (bs.map .bool)] = some (.bool (bs.all id)) := by
  show (bools? _).map _ = _
  rw [bools?_map]; rfl
theorem anyD_map {bs : List Bool} : anyD [.list (bs.map .bool)] = some (.bool (bs.any id)) := by
  show (bools? _).map _ = _
  rw [bools?_map]; rfl
theorem sumD_map {ns : List Int} : sumD [.list (ns.map .int)] = some (.int ns.sum) := by
  show (ints? _).map _ = _
  rw [ints?_map]; rfl
end

theorem run_rt {n : Nat} {g : Eg} {ds : List D} {d : D} (h : g (startE n ds) = some (.rt d)) : run n g ds = some d := by unfold run; rw [h]; rfl
theorem run_nx {n : Nat} {g : Eg} {ds : List D} {ρ : Env} (h : g (startE n ds) = some (.nx ρ)) : run n g ds = some .none := by unfold run; rw [h]; rfl
/-! ### plain data: None, ints, texts, tuples of such -/
mutual
def plainD : D → Bool
  | .none => true
  | .int _ => true
  | .str x => PyData.strOk x
  | .tuple ds => plainAll ds
  | _ => false
def plainAll : List D → Bool
  | [] => true
  | d :: ds => plainD d && plainAll ds
end
mutual
theorem plain_lay : ∀ d : D, plainD d = true → d.canLay0 = true
  | .none, _ => rfl
  | .int _, _ => rfl
  | .str x, h => by simpa [plainD, PyData.canLay0] using h
  | .tuple ds, h => by
    have := plainAll_lay ds (by simpa [plainD] using h)
    simpa [PyData.canLay0] using this
  | .bool _, h => by simp [plainD] at h
  | .list _, h => by simp [plainD] at h
  | .dict _, h => by simp [plainD] at h
theorem plainAll_lay : ∀ ds : List D, plainAll ds = true → PyData.canLayAll0 ds = true
  | [], _ => rfl
  | d :: ds, h => by
    simp only [plainAll, Bool.and_eq_true] at h
    simp only [PyData.canLayAll0, Bool.and_eq_true]
    exact ⟨plain_lay d h.1, plainAll_lay ds h.2⟩
end
mutual
theorem plain_eqv : ∀ a b : D, plainD a = true → plainD b = true → (PyData.eqv a b = true ↔ a = b)
  | .none, .none, _, _ => by simp [PyData.eqv]
  | .none, .int _, _, _ => by simp [PyData.eqv]
  | .none, .str _, _, _ => by simp [PyData.eqv]
  | .none, .tuple _, _, _ => by simp [PyData.eqv]
  | .int _, .none, _, _ => by simp [PyData.eqv]
  | .int _, .int _, _, _ => by simp [PyData.eqv]
  | .int _, .str _, _, _ => by simp [PyData.eqv]
  | .int _, .tuple _, _, _ => by simp [PyData.eqv]
  | .str _, .none, _, _ => by simp [PyData.eqv]
  | .str _, .int _, _, _ => by simp [PyData.eqv]
  | .str _, .str _, _, _ => by simp [PyData.eqv]
  | .str _, .tuple _, _, _ => by simp [PyData.eqv]
  | .tuple _, .none, _, _ => by simp [PyData.eqv]
  | .tuple _, .int _, _, _ => by simp [PyData.eqv]
  | .tuple _, .str _, _, _ => by simp [PyData.eqv]
  | .tuple xs, .tuple ys, h, h' => by
    have := plainAll_eqv xs ys (by simpa [plainD] using h) (by simpa [plainD] using h')
    simpa [PyData.eqv] using this
  | .bool _, _, h, _ => by simp [plainD] at h
  | .list _, _, h, _ => by simp [plainD] at h
  | .dict _, _, h, _ => by simp [plainD] at h
  | .none, .bool _, _, h => by simp [plainD] at h
  | .none, .list _, _, h => by simp [plainD] at h
  | .none, .dict _, _, h => by simp [plainD] at h
  | .int _, .bool _, _, h => by simp [plainD] at h
  | .int _, .list _, _, h => by simp [plainD] at h
  | .int _, .dict _, _, h => by simp [plainD] at h
  | .str _, .bool _, _, h => by simp [plainD] at h
  | .str _, .list _, _, h => by simp [plainD] at h
  | .str _, .dict _, _, h => by simp [plainD] at h
  | .tuple _, .bool _, _, h => by simp [plainD] at h
  | .tuple _, .list _, _, h => by simp [plainD] at h
  | .tuple _, .dict _, _, h => by simp [plainD] at h
theorem plainAll_eqv : ∀ xs ys : List D, plainAll xs = true → plainAll ys = true → (PyData.eqvAll xs ys = true ↔ xs = ys)
  | [], [], _, _ => by simp [PyData.eqvAll]
  | [], _ :: _, _, _ => by simp [PyData.eqvAll]
  | _ :: _, [], _, _ => by simp [PyData.eqvAll]
  | x :: xs, y :: ys, h, h' => by
    simp only [plainAll, Bool.and_eq_true] at h h'
    simp only [PyData.eqvAll, Bool.and_eq_true, List.cons.injEq]
    rw [plain_eqv x y h.1 h'.1, plainAll_eqv xs ys h.2 h'.2]
end
theorem plain_shaped {d : D} (h : plainD d = true) (hd : d.depth ≤ 64) : SeqAt.shaped d = true := by
  unfold SeqAt.shaped
  rw [plain_lay d h, decide_eq_true hd]; rfl
theorem eqD_p {a b : D} (ha : plainD a = true) (hb : plainD b = true) (da : a.depth ≤ 64) (db : b.depth ≤ 64) (c : Bool) (hc : c = true ↔ a = b) : eqD a b = some (.bool c) := by
  rw [eqD_of (plain_shaped ha da) (plain_shaped hb db)]
  have := (plain_eqv a b ha hb).trans hc.symm
  cases c <;> cases h : PyData.eqv a b <;> simp_all
theorem neD_p {a b : D} (ha : plainD a = true) (hb : plainD b = true) (da : a.depth ≤ 64) (db : b.depth ≤ 64) (c : Bool) (hc : c = true ↔ a = b) : neD a b = some (.bool (!c)) := by
  rw [neD_of (plain_shaped ha da) (plain_shaped hb db)]
  have := (plain_eqv a b ha hb).trans hc.symm
  cases c <;> cases h : PyData.eqv a b <;> simp_all
@[simp] theorem plain_int {i : Int} : plainD (.int i) = true := id rfl
@[simp] theorem plain_none : plainD .none = true := id rfl
@[simp] theorem plain_tup {ds : List D} : plainD (.tuple ds) = plainAll ds := by simp [plainD]
@[simp] theorem plainAll_nil : plainAll [] = true := id rfl
@[simp] theorem plainAll_cons {d : D} {ds : List D} : plainAll (d :: ds) = (plainD d && plainAll ds) := by simp [plainAll]
theorem plainAll_iff : ∀ {ds : List D}, plainAll ds = true ↔ ∀ d ∈ ds, plainD d = true
  | [] => by simp
  | d :: ds => by simp [plainAll_iff (ds := ds)]
@[simp] theorem plainAll_ints {ns : List Int} : plainAll (ns.map .int) = true := plainAll_iff.mpr fun d h => by
  obtain ⟨i, _, rfl⟩ := List.mem_map.mp h; rfl
theorem depthAll_le {n : Nat} : ∀ {ds : List D}, (∀ d ∈ ds, d.depth ≤ n) → PyData.depthAll ds ≤ n
  | [], _ => by simp [PyData.depthAll]
  | d :: ds, h => by
    have := depthAll_le (ds := ds) fun x hx => h x (List.mem_cons_of_mem _ hx)
    have := h d (List.mem_cons_self ..)
    simp only [PyData.depthAll]
    omega
theorem depth_tup {n : Nat} {ds : List D} (h : ∀ d ∈ ds, d.depth ≤ n) : (PyData.tuple ds).depth ≤ n + 1 := by
  have := depthAll_le h
  simp only [PyData.depth]
  omega
theorem depth_ints {ns : List Int} : (PyData.tuple (ns.map .int)).depth ≤ 1 := depth_tup fun d h => by
  obtain ⟨i, _, rfl⟩ := List.mem_map.mp h
  simp [PyData.depth]
theorem ints_inj {xs ys : List Int} : (PyData.tuple (xs.map .int)) = .tuple (ys.map .int) ↔ xs = ys := by
  constructor
  · intro h
    injection h with h
    have := congrArg ints? h
    rw [ints?_map, ints?_map] at this
    exact Option.some.inj this
  · intro h; rw [h]
@[simp] theorem eqD_ints {xs ys : List Int} : eqD (.tuple (xs.map .int)) (.tuple (ys.map .int)) = some (.bool (decide (xs = ys))) :=
  eqD_p (by simp) (by simp) (by have := depth_ints (ns := xs); omega) (by have := depth_ints (ns := ys); omega) _ (by rw [ints_inj]; simp)
@[simp] theorem neD_ints {xs ys : List Int} : neD (.tuple (xs.map .int)) (.tuple (ys.map .int)) = some (.bool (!decide (xs = ys))) :=
  neD_p (by simp) (by simp) (by have := depth_ints (ns := xs); omega) (by have := depth_ints (ns := ys); omega) _ (by rw [ints_inj]; simp)
end Pu

set_option Elab.async false
set_option linter.all false
set_option maxRecDepth 100000
/-! the laws' own first defs: the row of numbers, the comparison of data -/
namespace Lb
open PySem PySem.Spec PyProof.Rows L2 Pu
def g__law_mixed : Eg := (seq (setS 2 (cst (.int 0))) (seq (ifS (ts boolOf (bn gtD (ap lenD (one (vr 0))) (cst (.int 0)))) (setS 2 (bn ixD (vr 0) (bn modD (vr 1) (ap lenD (one (vr 0)))))) nxt) (seq (setS 3 (bn modD (ap intD (one (bn addD (bn addD (bn mulD (vr 2) (cst (.int 48271))) (bn mulD (vr 1) (cst (.int 69621)))) (cst (.int 8191))))) (cst (.int 2147483647)))) (seq (setS 4 (bn modD (ap intD (one (bn addD (bn addD (bn mulD (vr 3) (vr 3)) (bn fdivD (vr 3) (cst (.int 7)))) (bn mulD (vr 1) (cst (.int 16807)))))) (cst (.int 2147483629)))) (seq (setS 5 (bn modD (ap intD (one (bn addD (bn addD (bn mulD (vr 4) (vr 4)) (bn fdivD (vr 4) (cst (.int 11)))) (cst (.int 40692))))) (cst (.int 2147483563)))) (ret (bn modD (bn fdivD (vr 5) (cst (.int 5))) (cst (.int 1000003)))))))))
def sem__law_mixed : List D → Option D := Pu.run 6 g__law_mixed
def g__law_row : Eg := (seq (setS 2 (cst (.int 0))) (seq (ifS (andB (ts boolOf (bn gtD (ap lenD (one (vr 0))) (cst (.int 0)))) (ts boolOf (bn geD (bn ixD (vr 0) (cst (.int 0))) (bn powD (cst (.int 10)) (cst (.int 18)))))) (setS 2 (bn ixD (vr 0) (cst (.int 0)))) nxt) (seq (ownS 3 (mkL nl)) (seq (forS (rg1 (cs (vr 1) nl)) (tN 4) (ifS (ts boolOf (bn gtD (vr 2) (cst (.int 0)))) (seq (appS 3 (bn modD (ap intD (one (vr 2))) (cst (.int 1000)))) (setS 2 (bn fdivD (vr 2) (cst (.int 1000))))) (appS 3 (ap sem__law_mixed (cs (vr 0) (cs (vr 4) nl)))))) (ret (vb 3))))))
def sem__law_row : List D → Option D := Pu.run 5 g__law_row
def g__law_is_int : Eg := (ret (andV (ap (isiD "int") (one (vr 0))) (un notB (ap (isiD "bool") (one (vr 0))))))
def sem__law_is_int : List D → Option D := Pu.run 1 g__law_is_int
def g__law_like (rec : List D → Option D) : Eg := (seq (ifS (ts boolOf (bn isD (vr 1) (cst .none))) (ret (bn isD (vr 0) (cst .none))) nxt) (seq (ifS (ts truD (ap (isiD "bool") (one (vr 1)))) (ret (andV (ap (isiD "bool") (one (vr 0))) (bn eqD (vr 0) (vr 1)))) nxt) (seq (ifS (ts truD (ap (isiD "tuple") (one (vr 1)))) (seq (ifS (orB (notT (ts truD (ap (isiD "tuple") (one (vr 0))))) (ts boolOf (bn neD (ap lenD (one (vr 0))) (ap lenD (one (vr 1)))))) (ret (cst (.bool false))) nxt) (ret (ap allD (one (lcS (rg1 (cs (ap lenD (one (vr 1))) nl)) (tN 2) yes (ap rec (cs (bn ixD (vr 0) (vr 2)) (cs (bn ixD (vr 1) (vr 2)) nl))) [2]))))) nxt) (seq (ifS (ts truD (ap (isiD "str") (one (vr 1)))) (ret (andV (ap (isiD "str") (one (vr 0))) (bn eqD (vr 0) (vr 1)))) nxt) (ret (andV (ap sem__law_is_int (cs (vr 0) nl)) (bn eqD (vr 0) (vr 1))))))))
def sem__law_like : Nat → List D → Option D
  | 0 => fun _ => none
  | n + 1 => Pu.run 3 (g__law_like (sem__law_like n))
theorem fmod_lt {a b : Int} (h : 0 < b) : 0 ≤ a.fmod b ∧ a.fmod b < b := by
  rw [Int.fmod_eq_emod_of_nonneg a (by omega)]
  exact ⟨Int.emod_nonneg _ (by omega), Int.emod_lt_of_pos _ h⟩
def mix (cell k : Int) : Int :=
  let first := (cell * 48271 + k * 69621 + 8191).fmod 2147483647
  let second := (first * first + first.fdiv 7 + k * 16807).fmod 2147483629
  let third := (second * second + second.fdiv 11 + 40692).fmod 2147483563
  (third.fdiv 5).fmod 1000003
def mixT : Eg := (seq (setS 3 (bn modD (ap intD (one (bn addD (bn addD (bn mulD (vr 2) (cst (.int 48271))) (bn mulD (vr 1) (cst (.int 69621)))) (cst (.int 8191))))) (cst (.int 2147483647)))) (seq (setS 4 (bn modD (ap intD (one (bn addD (bn addD (bn mulD (vr 3) (vr 3)) (bn fdivD (vr 3) (cst (.int 7)))) (bn mulD (vr 1) (cst (.int 16807)))))) (cst (.int 2147483629)))) (seq (setS 5 (bn modD (ap intD (one (bn addD (bn addD (bn mulD (vr 4) (vr 4)) (bn fdivD (vr 4) (cst (.int 11)))) (cst (.int 40692))))) (cst (.int 2147483563)))) (ret (bn modD (bn fdivD (vr 5) (cst (.int 5))) (cst (.int 1000003)))))))
theorem mixT_at (d : D) (k cell : Int) : mixT [.sh d, .sh (.int k), .sh (.int cell), .no, .no, .no] = some (.rt (.int (mix cell k))) := by
  have h1 := fmod_lt (a := cell * 48271 + k * 69621 + 8191) (b := 2147483647) (by decide)
  have h2 := fmod_lt (a := ((cell * 48271 + k * 69621 + 8191).fmod 2147483647) * ((cell * 48271 + k * 69621 + 8191).fmod 2147483647) + ((cell * 48271 + k * 69621 + 8191).fmod 2147483647).fdiv 7 + k * 16807) (b := 2147483629) (by decide)
  unfold mix mixT
  generalize e1 : (cell * 48271 + k * 69621 + 8191).fmod 2147483647 = f at *
  generalize e2 : (f * f + f.fdiv 7 + k * 16807).fmod 2147483629 = g at *
  have m1 : mulD (.int f) (.int f) = some (.int (f * f)) := mulD_l (by omega)
  have m2 : mulD (.int g) (.int g) = some (.int (g * g)) := mulD_l (by omega)
  simp [e1, e2, m1, m2]
theorem mix_lt (cell k : Int) : 0 ≤ mix cell k ∧ mix cell k < 1000003 := fmod_lt (by decide)
theorem atI_ints {ns : List Int} {i : Int} (h0 : 0 ≤ i) (h : i < ns.length) : atI (ns.map PyData.int) i = some (.int (ns.getD i.toNat 0)) := by
  rw [atI_getD h0 (by rw [List.length_map]; exact h) (.int 0)]
  simp only [List.getD_eq_getElem?_getD, List.getElem?_map]
  cases ns[i.toNat]? <;> rfl
theorem mixed (ns : List Int) (k : Int) : ∃ x, sem__law_mixed [.list (ns.map .int), .int k] = some (.int x) ∧ 0 ≤ x ∧ x < 1000003 := by
  have e : g__law_mixed = seq (setS 2 (cst (.int 0))) (seq (ifS (ts boolOf (bn gtD (ap lenD (one (vr 0))) (cst (.int 0)))) (setS 2 (bn ixD (vr 0) (bn modD (vr 1) (ap lenD (one (vr 0)))))) nxt) mixT) := rfl
  have e0 : startE 6 [.list (ns.map .int), .int k] = [.sh (.list (ns.map .int)), .sh (.int k), .no, .no, .no, .no] := rfl
  unfold sem__law_mixed
  by_cases hn : ns = []
  · subst hn
    refine ⟨mix 0 k, run_rt ?_, mix_lt _ _⟩
    rw [e0, e]
    simp [mixT_at]
  · have hp : 0 < ns.length := List.length_pos_iff.mpr hn
    have hm := fmod_lt (a := k) (b := (ns.length : Int)) (by omega)
    have hg := atI_ints hm.1 hm.2
    refine ⟨mix (ns.getD (k.fmod (ns.length : Int)).toNat 0) k, run_rt ?_, mix_lt _ _⟩
    rw [e0, e]
    have h0 : ns.length ≠ 0 := by omega
    simp [hn, hp, hg, mixT_at]
/-! the row -/
def rowT (ds : D) : Eg := (seq (ownS 3 (mkL nl)) (seq (forS (rg1 (cs (vr 1) nl)) (tN 4) (ifS (ts boolOf (bn gtD (vr 2) (cst (.int 0)))) (seq (appS 3 (bn modD (ap intD (one (vr 2))) (cst (.int 1000)))) (setS 2 (bn fdivD (vr 2) (cst (.int 1000))))) (appS 3 (ap sem__law_mixed (cs (vr 0) (cs (vr 4) nl)))))) (ret (vb 3))))
def rowE (ns : List Int) (many : Int) (big : Int) (row : List Int) (s : Sl) : Pu.Env := [.sh (.list (ns.map .int)), .sh (.int many), .sh (.int big), .ow (.list (row.map .int)), s]
theorem row_loop (ns : List Int) (many : Int) : ∀ (xs : List Int) (big : Int) (row : List Int) (s : Sl), row.length + xs.length ≤ 1000 → (∀ x ∈ row, 0 ≤ x ∧ x < 1000003) → ∃ big' row' s', forL (tN 4) (ifS (ts boolOf (bn gtD (vr 2) (cst (.int 0)))) (seq (appS 3 (bn modD (ap intD (one (vr 2))) (cst (.int 1000)))) (setS 2 (bn fdivD (vr 2) (cst (.int 1000))))) (appS 3 (ap sem__law_mixed (cs (vr 0) (cs (vr 4) nl))))) (xs.map .int) (rowE ns many big row s) = some (.nx (rowE ns many big' row' s')) ∧ row'.length = row.length + xs.length ∧ ∀ x ∈ row', 0 ≤ x ∧ x < 1000003
  | [], big, row, s, _, hr => ⟨big, row, s, rfl, rfl, hr⟩
  | x :: xs, big, row, s, hl, hr => by
    have hl' : row.length < 16777216 := by simp only [List.length_cons] at hl; omega
    rw [List.map_cons, forL_cons]
    by_cases hb : 0 < big
    · have hm := fmod_lt (a := big) (b := 1000) (by decide)
      obtain ⟨b', r', s', e1, e2, e3⟩ := row_loop ns many xs (big.fdiv 1000) (row ++ [big.fmod 1000]) (.sh (.int x)) (by simp only [List.length_append, List.length_cons, List.length_nil] at *; omega) (fun y hy => by
        rcases List.mem_append.mp hy with h | h
        · exact hr y h
        · rw [List.mem_singleton.mp h]; omega)
      refine ⟨b', r', s', ?_, by rw [e2]; simp only [List.length_append, List.length_cons, List.length_nil]; omega, e3⟩
      rw [← e1]
      simp [rowE, hb, hl']
    · obtain ⟨v, hv, h1, h2⟩ := mixed ns x
      obtain ⟨b', r', s', e1, e2, e3⟩ := row_loop ns many xs big (row ++ [v]) (.sh (.int x)) (by simp only [List.length_append, List.length_cons, List.length_nil] at *; omega) (fun y hy => by
        rcases List.mem_append.mp hy with h | h
        · exact hr y h
        · rw [List.mem_singleton.mp h]; omega)
      refine ⟨b', r', s', ?_, by rw [e2]; simp only [List.length_append, List.length_cons, List.length_nil]; omega, e3⟩
      rw [← e1]
      simp [rowE, hb, hl', hv]
theorem row_tl (ns : List Int) (many : Nat) (hm : many ≤ 1000) : ∀ big : Int, ∃ row : List Int, rowT .none [.sh (.list (ns.map .int)), .sh (.int many), .sh (.int big), .no, .no] = some (.rt (.list (row.map .int))) ∧ row.length = many ∧ ∀ x ∈ row, 0 ≤ x ∧ x < 1000003 := fun big => by
    obtain ⟨b', r', s', e1, e2, e3⟩ := row_loop ns many (ri many) big [] .no (by simp; omega) (fun _ h => by cases h)
    refine ⟨r', ?_, by simpa using e2, e3⟩
    have e4 := rng0_ri many
    have h1 : (many : Int) < 4611686018427387904 := by omega
    have h2 : -4611686018427387904 ≤ (many : Int) := by omega
    unfold rowE at e1
    simp only [List.map_nil] at e1
    unfold rowT
    simp [h1, h2, e4, e1, rowE]
theorem row_is (ns : List Int) (many : Nat) (hm : many ≤ 1000) : ∃ row : List Int, sem__law_row [.list (ns.map .int), .int many] = some (.list (row.map .int)) ∧ row.length = many ∧ ∀ x ∈ row, 0 ≤ x ∧ x < 1000003 := by
  have tl := row_tl ns many hm
  have e : g__law_row = seq (setS 2 (cst (.int 0))) (seq (ifS (andB (ts boolOf (bn gtD (ap lenD (one (vr 0))) (cst (.int 0)))) (ts boolOf (bn geD (bn ixD (vr 0) (cst (.int 0))) (bn powD (cst (.int 10)) (cst (.int 18)))))) (setS 2 (bn ixD (vr 0) (cst (.int 0)))) nxt) (rowT .none)) := rfl
  have e0 : startE 5 [.list (ns.map .int), .int many] = [.sh (.list (ns.map .int)), .sh (.int many), .no, .no, .no] := rfl
  have e18 : ((10:Int) ^ (18:Int).toNat) = 1000000000000000000 := by decide
  have ep : powD (.int 10) (.int 18) = some (.int 1000000000000000000) := by rw [powD_i (by decide), e18]
  unfold sem__law_row
  by_cases hn : ns = []
  · obtain ⟨row, h1, h2, h3⟩ := tl 0
    refine ⟨row, run_rt ?_, h2, h3⟩
    rw [e0, e]
    subst hn
    simp only [List.map_nil] at h1
    simp [h1]
  · have hp : 0 < ns.length := List.length_pos_iff.mpr hn
    have hg : atI (ns.map PyData.int) 0 = some (.int (ns.getD 0 0)) := atI_ints (ns := ns) (i := 0) (by decide) (by omega)
    generalize ns.getD 0 0 = c at hg
    by_cases hb : 1000000000000000000 ≤ c
    · obtain ⟨row, h1, h2, h3⟩ := tl c
      refine ⟨row, run_rt ?_, h2, h3⟩
      rw [e0, e]
      simp [hn, hp, hg, ep, hb, h1]
    · obtain ⟨row, h1, h2, h3⟩ := tl 0
      refine ⟨row, run_rt ?_, h2, h3⟩
      rw [e0, e]
      simp [hn, hp, hg, ep, hb, h1]
@[simp] theorem isi_bool_none : isiD "bool" [.none] = some (.bool false) := congrArg (Option.map PyData.bool) (show kitB "NoneType" "bool" = some false by decide +kernel)
@[simp] theorem isi_bool_bool {b : Bool} : isiD "bool" [.bool b] = some (.bool true) := congrArg (Option.map PyData.bool) (show kitB "bool" "bool" = some true by decide +kernel)
@[simp] theorem isi_bool_int {i : Int} : isiD "bool" [.int i] = some (.bool false) := congrArg (Option.map PyData.bool) (show kitB "int" "bool" = some false by decide +kernel)
@[simp] theorem isi_bool_str {x : Str} : isiD "bool" [.str x] = some (.bool false) := congrArg (Option.map PyData.bool) (show kitB "str" "bool" = some false by decide +kernel)
@[simp] theorem isi_bool_list {ds : List D} : isiD "bool" [.list ds] = some (.bool false) := congrArg (Option.map PyData.bool) (show kitB "list" "bool" = some false by decide +kernel)
@[simp] theorem isi_bool_tuple {ds : List D} : isiD "bool" [.tuple ds] = some (.bool false) := congrArg (Option.map PyData.bool) (show kitB "tuple" "bool" = some false by decide +kernel)
@[simp] theorem isi_int_none : isiD "int" [.none] = some (.bool false) := congrArg (Option.map PyData.bool) (show kitB "NoneType" "int" = some false by decide +kernel)
@[simp] theorem isi_int_bool {b : Bool} : isiD "int" [.bool b] = some (.bool true) := congrArg (Option.map PyData.bool) (show kitB "bool" "int" = some true by decide +kernel)
@[simp] theorem isi_int_int {i : Int} : isiD "int" [.int i] = some (.bool true) := congrArg (Option.map PyData.bool) (show kitB "int" "int" = some true by decide +kernel)
@[simp] theorem isi_int_str {x : Str} : isiD "int" [.str x] = some (.bool false) := congrArg (Option.map PyData.bool) (show kitB "str" "int" = some false by decide +kernel)
@[simp] theorem isi_int_list {ds : List D} : isiD "int" [.list ds] = some (.bool false) := congrArg (Option.map PyData.bool) (show kitB "list" "int" = some false by decide +kernel)
@[simp] theorem isi_int_tuple {ds : List D} : isiD "int" [.tuple ds] = some (.bool false) := congrArg (Option.map PyData.bool) (show kitB "tuple" "int" = some false by decide +kernel)
@[simp] theorem isi_str_none : isiD "str" [.none] = some (.bool false) := congrArg (Option.map PyData.bool) (show kitB "NoneType" "str" = some false by decide +kernel)
@[simp] theorem isi_str_bool {b : Bool} : isiD "str" [.bool b] = some (.bool false) := congrArg (Option.map PyData.bool) (show kitB "bool" "str" = some false by decide +kernel)
@[simp] theorem isi_str_int {i : Int} : isiD "str" [.int i] = some (.bool false) := congrArg (Option.map PyData.bool) (show kitB "int" "str" = some false by decide +kernel)
@[simp] theorem isi_str_str {x : Str} : isiD "str" [.str x] = some (.bool true) := congrArg (Option.map PyData.bool) (show kitB "str" "str" = some true by decide +kernel)
@[simp] theorem isi_str_list {ds : List D} : isiD "str" [.list ds] = some (.bool false) := congrArg (Option.map PyData.bool) (show kitB "list" "str" = some false by decide +kernel)
@[simp] theorem isi_str_tuple {ds : List D} : isiD "str" [.tuple ds] = some (.bool false) := congrArg (Option.map PyData.bool) (show kitB "tuple" "str" = some false by decide +kernel)
@[simp] theorem isi_tuple_none : isiD "tuple" [.none] = some (.bool false) := congrArg (Option.map PyData.bool) (show kitB "NoneType" "tuple" = some false by decide +kernel)
@[simp] theorem isi_tuple_bool {b : Bool} : isiD "tuple" [.bool b] = some (.bool false) := congrArg (Option.map PyData.bool) (show kitB "bool" "tuple" = some false by decide +kernel)
@[simp] theorem isi_tuple_int {i : Int} : isiD "tuple" [.int i] = some (.bool false) := congrArg (Option.map PyData.bool) (show kitB "int" "tuple" = some false by decide +kernel)
@[simp] theorem isi_tuple_str {x : Str} : isiD "tuple" [.str x] = some (.bool false) := congrArg (Option.map PyData.bool) (show kitB "str" "tuple" = some false by decide +kernel)
@[simp] theorem isi_tuple_list {ds : List D} : isiD "tuple" [.list ds] = some (.bool false) := congrArg (Option.map PyData.bool) (show kitB "list" "tuple" = some false by decide +kernel)
@[simp] theorem isi_tuple_tuple {ds : List D} : isiD "tuple" [.tuple ds] = some (.bool true) := congrArg (Option.map PyData.bool) (show kitB "tuple" "tuple" = some true by decide +kernel)
/-! the comparison says yes of a thing and itself -/
def lk : Nat → D → Bool
  | 0, _ => false
  | _ + 1, .none => true
  | _ + 1, .bool _ => true
  | _ + 1, .int _ => true
  | _ + 1, .str x => PyData.strOk x
  | n + 1, .tuple ds => ds.all (lk n) && decide (ds.length ≤ 16777216)
  | _ + 1, _ => false
@[simp] theorem isD_none {d : D} (h : isNon d = false) : isD d .none = some (.bool false) := by rw [isD_n, h]
theorem all_ones {ds : List D} {F : D → D} (h : ∀ d ∈ ds, F d = .bool true) : allD [.list (ds.map F)] = some (.bool true) := by
  have e : ds.map F = (ds.map fun _ => true).map PyData.bool := by
    rw [List.map_map]
    exact List.map_congr_left h
  rw [e, allD_map]
  congr 2
  simp
theorem like_ok : ∀ (n : Nat) (d : D), lk n d = true → sem__law_like n [d, d] = some (.bool true)
  | 0, _, h => by simp [lk] at h
  | n + 1, .none, _ => run_rt (by
      show g__law_like _ [.sh .none, .sh .none, .no] = _
      simp [g__law_like, Pu.isNon])
  | n + 1, .bool b, _ => run_rt (by
      show g__law_like _ [.sh (.bool b), .sh (.bool b), .no] = _
      simp [g__law_like, Pu.isNon])
  | n + 1, .int i, _ => run_rt (by
      have e : sem__law_is_int [.int i] = some (.bool true) := run_rt (by
        show g__law_is_int [.sh (.int i)] = _
        simp [g__law_is_int])
      show g__law_like _ [.sh (.int i), .sh (.int i), .no] = _
      simp [g__law_like, Pu.isNon, e])
  | n + 1, .str x, h => run_rt (by
      have e : eqD (.str x) (.str x) = some (.bool true) := eqD_p (by simpa [plainD, lk] using h) (by simpa [plainD, lk] using h) (by simp [PyData.depth]) (by simp [PyData.depth]) true (by simp)
      show g__law_like _ [.sh (.str x), .sh (.str x), .no] = _
      simp [g__law_like, Pu.isNon, e])
  | n + 1, .tuple ds, h => run_rt (by
      simp only [lk, Bool.and_eq_true, List.all_eq_true, decide_eq_true_eq] at h
      have h1 : (ds.length : Int) < 4611686018427387904 := by omega
      have h2 : -4611686018427387904 ≤ (ds.length : Int) := by omega
      have e := lcK_map (t := tN 2) (f := ap (sem__law_like n) (cs (bn ixD (vr 0) (vr 2)) (cs (bn ixD (vr 1) (vr 2)) nl))) (ρ := [.sh (.tuple ds), .sh (.tuple ds), .no]) (ds := rng 0 ds.length) (F := fun _ => .bool true) (by simp; omega) (fun d hd => by
        rw [rng0_ri] at hd
        obtain ⟨i, hi, rfl⟩ := List.mem_map.mp hd
        have hi := mem_ri.mp hi
        have e := atI_getD hi.1 hi.2 PyData.none
        have e2 : sem__law_like n [ds.getD i.toNat .none, ds.getD i.toNat .none] = some (.bool true) := like_ok n _ (h.1 _ (by
          rw [List.getD_eq_getElem?_getD, List.getElem?_eq_getElem (by omega)]
          exact List.getElem_mem _))
        generalize ds.getD i.toNat PyData.none = z at e e2
        simp [e, e2])
      have e3 := all_ones (ds := rng 0 ds.length) (F := fun _ => PyData.bool true) fun _ _ => rfl
      generalize (rng 0 ds.length).map (fun _ => PyData.bool true) = w at e e3
      show g__law_like _ [.sh (.tuple ds), .sh (.tuple ds), .no] = _
      simp [g__law_like, Pu.isNon, h1, h2, e, e3])
end Lb

set_option Elab.async false
set_option linter.all false
set_option maxRecDepth 100000
namespace Pu
open PySem PySem.Spec PyProof.Rows L2
section
variable {A : Type} {t : Tg} {c : Et} {f : Ev} {a : Eg} {ρ : Env} {enc : A → D} {G : A → D}
theorem lc_map (xs : List A) (hl : xs.length ≤ 16777216) (h : ∀ x ∈ xs, ob f (t (enc x) ρ) = some (G x)) : lcK t yes f ρ (some (xs.map enc)) = some (.list (xs.map G)) := by
  unfold lcK
  show (if (xs.map enc).length ≤ sizeLine then _ else _) = _
  rw [if_pos (by rw [szl, List.length_map]; exact hl)]
  have e : ∀ xs : List A, (∀ x ∈ xs, ob f (t (enc x) ρ) = some (G x)) → lcL t yes f ρ (xs.map enc) = some (xs.map G) := fun xs => by
    induction xs with
    | nil => intro _; rfl
    | cons x xs ih =>
      intro h
      have h1 := h x (List.mem_cons_self ..)
      rw [← ob_eq] at h1
      obtain ⟨ρ1, e1, e2⟩ := bind_some h1
      rw [List.map_cons]
      unfold lcL
      rw [e1]
      show (f ρ1).bind _ = _
      rw [e2, ih fun d hd => h d (List.mem_cons_of_mem _ hd)]
      rfl
  rw [e xs h]
  rfl
theorem lc_filt (xs : List A) (q : A → Bool) (hl : xs.length ≤ 16777216) (h : ∀ x ∈ xs, ∃ ρ1, t (enc x) ρ = some ρ1 ∧ c ρ1 = some (q x) ∧ (q x = true → f ρ1 = some (G x))) : lcK t c f ρ (some (xs.map enc)) = some (.list ((xs.filter q).map G)) := by
  unfold lcK
  show (if (xs.map enc).length ≤ sizeLine then _ else _) = _
  rw [if_pos (by rw [szl, List.length_map]; exact hl)]
  have e : ∀ xs : List A, (∀ x ∈ xs, ∃ ρ1, t (enc x) ρ = some ρ1 ∧ c ρ1 = some (q x) ∧ (q x = true → f ρ1 = some (G x))) → lcL t c f ρ (xs.map enc) = some ((xs.filter q).map G) := fun xs => by
    induction xs with
    | nil => intro _; rfl
    | cons x xs ih =>
      intro h
      obtain ⟨ρ1, e1, e2, e3⟩ := h x (List.mem_cons_self ..)
      have ih := ih fun d hd => h d (List.mem_cons_of_mem _ hd)
      rw [List.map_cons]
      unfold lcL
      rw [e1]
      show (c ρ1).bind _ = _
      rw [e2]
      cases hq : q x with
      | true =>
        rw [List.filter_cons_of_pos hq, List.map_cons]
        show (f ρ1).bind _ = _
        rw [e3 hq, ih]
        rfl
      | false =>
        rw [List.filter_cons_of_neg (by rw [hq]; exact Bool.false_ne_true)]
        exact ih
  rw [e xs h]
  rfl
/-- a loop that keeps I, the environment told by a state -/
theorem for_st {S : Type} {E : S → Env} {I : S → Prop} : ∀ (xs : List A) (s : S), (∀ x ∈ xs, ∀ s, I s → ∃ s', I s' ∧ (ob a (t (enc x) (E s)) = some (.nx (E s')) ∨ ob a (t (enc x) (E s)) = some (.ct (E s')))) → I s → ∃ s', I s' ∧ forL t a (xs.map enc) (E s) = some (.nx (E s'))
  | [], s, _, hs => ⟨s, hs, by simp⟩
  | x :: xs, s, h, hs => by
    obtain ⟨s1, h1, h2⟩ := h x (List.mem_cons_self ..) s hs
    obtain ⟨s2, h3, h4⟩ := for_st xs s1 (fun y hy => h y (List.mem_cons_of_mem _ hy)) h1
    refine ⟨s2, h3, ?_⟩
    rw [List.map_cons, forL_cons]
    rcases h2 with h2 | h2
    · rw [h2, forC_nx, h4]
    · rw [h2, forC_ct, h4]
/-- a loop told by a fold, the loop's own slot beside it; I by the turns done -/
theorem for_fold {S : Type} {E : S → Sl → Env} {step : S → A → S} {v : A → Sl} {I : Nat → S → Prop} : ∀ (xs : List A) (m k : Nat) (s : S) (u : Sl), k + xs.length ≤ m → (∀ x ∈ xs, ∀ k s u, k < m → I k s → ob a (t (enc x) (E s u)) = some (.nx (E (step s x) (v x))) ∧ I (k + 1) (step s x)) → I k s → ∃ u', forL t a (xs.map enc) (E s u) = some (.nx (E (xs.foldl step s) u')) ∧ I (k + xs.length) (xs.foldl step s)
  | [], m, k, s, u, _, _, hs => ⟨u, by simp, hs⟩
  | x :: xs, m, k, s, u, hm, h, hs => by
    rw [List.length_cons] at hm
    obtain ⟨h1, h2⟩ := h x (List.mem_cons_self ..) k s u (by omega) hs
    obtain ⟨u', h3, h4⟩ := for_fold xs m (k + 1) (step s x) (v x) (by omega) (fun y hy => h y (List.mem_cons_of_mem _ hy)) h2
    refine ⟨u', ?_, ?_⟩
    · rw [List.map_cons, forL_cons, h1, forC_nx, h3]
      rfl
    · rw [List.length_cons, show k + (xs.length + 1) = k + 1 + xs.length by omega]
      exact h4
end
/-! ints from numbers -/
def nts (f : List Nat) : List D := f.map fun (n : Nat) => PyData.int n
@[simp] theorem nts_len (f : List Nat) : (nts f).length = f.length := by unfold nts; simp
theorem nts_ints (f : List Nat) : nts f = (f.map fun (n : Nat) => (n : Int)).map PyData.int := by unfold nts; rw [List.map_map]; rfl
theorem atI_nts {f : List Nat} {i : Nat} (h : i < f.length) : atI (nts f) (i : Int) = some (.int (f.getD i 0 : Nat)) := by
  refine atI_nat ?_
  unfold nts
  rw [List.getElem?_map, List.getElem?_eq_getElem h, List.getD_eq_getElem?_getD, List.getElem?_eq_getElem h]
  rfl
theorem atI_map {A : Type} {g : A → D} {f : List A} {i : Nat} (h : i < f.length) (z : A) : atI (f.map g) (i : Int) = some (g (f.getD i z)) := by
  refine atI_nat ?_
  rw [List.getElem?_map, List.getElem?_eq_getElem h, List.getD_eq_getElem?_getD, List.getElem?_eq_getElem h]
  rfl
theorem atI_last {α : Type} {xs : List α} {x : α} (h : xs[xs.length - 1]? = some x) : atI xs (-1) = some x := by
  obtain ⟨hn, e⟩ := List.getElem?_eq_some_iff.mp h
  unfold atI ixN
  rw [if_neg (by decide), if_pos (by omega)]
  show xs[((-1 : Int) + xs.length).toNat]? = _
  rw [show ((-1 : Int) + xs.length).toNat = xs.length - 1 by omega]
  exact h
theorem rngN (m n : Nat) : rng (m : Int) n = ((List.range n).map (m + ·)).map fun (i : Nat) => PyData.int i := by
  unfold rng
  rw [List.map_map]
  refine List.map_congr_left fun i _ => ?_
  show PyData.int _ = PyData.int _
  congr 1
theorem rng0N (n : Nat) : rng 0 n = (List.range n).map fun (i : Nat) => PyData.int i := by
  unfold rng
  refine List.map_congr_left fun i _ => ?_
  show PyData.int _ = PyData.int _
  congr 1
  omega

/-! slices -/
section
variable {ρ : Env} {f : Ev} {lo hi : Eo} {ds : List D}
def slK (k : D → Option Int → Option Int → Option D) : Option D → Option (Option Int) → Option (Option Int) → Option D
  | some x, some l, some h => k x l h
  | _, _, _ => none
@[simp] theorem sl_at {k : D → Option Int → Option Int → Option D} : sl k f lo hi ρ = slK k (f ρ) (lo ρ) (hi ρ) := by
  unfold sl slK
  cases f ρ <;> cases lo ρ <;> cases hi ρ <;> rfl
@[simp] theorem slK_some {k : D → Option Int → Option Int → Option D} {x : D} {l h : Option Int} : slK k (some x) (some l) (some h) = k x l h := id rfl
@[simp] theorem noPart_at : noPart ρ = some none := id rfl
@[simp] theorem part_at : part f ρ = ob intOf (f ρ) := ob_eq
@[simp] theorem intOf_i {i : Int} : intOf (.int i) = some (some i) := id rfl
@[simp] theorem slD_t {l h : Option Int} : slD (.tuple ds) l h = some (.tuple (cutD ds l h)) := id rfl
@[simp] theorem slL_l {l h : Option Int} : slL (.list ds) l h = some (.list (cutD ds l h)) := id rfl
theorem six_n {n d : Nat} : HT.sIx n d none = d := rfl
theorem six_p {n d : Nat} {k : Int} (h : 0 ≤ k) : HT.sIx n d (some k) = min k.toNat n := by
  show (if k < 0 then _ else _) = _
  rw [if_neg (by omega)]
theorem six_m {n d : Nat} {k : Int} (h : k < 0) : HT.sIx n d (some k) = (k + (n : Int)).toNat := by
  show (if k < 0 then _ else _) = _
  rw [if_pos h]
theorem take_min {k n : Nat} (h : n = ds.length) : ds.take (min k n) = ds.take k := by
  subst h
  by_cases c : k ≤ ds.length
  · rw [Nat.min_eq_left c]
  · rw [Nat.min_eq_right (by omega), List.take_of_length_le (by omega), List.take_of_length_le (by omega)]
theorem cut_to {k : Int} (h : 0 ≤ k) : cutD ds none (some k) = ds.take k.toNat := by
  unfold cutD
  rw [six_n, six_p h, List.drop_zero, Nat.sub_zero, take_min rfl]
theorem cut_from {k : Int} (h : 0 ≤ k) : cutD ds (some k) none = ds.drop k.toNat := by
  unfold cutD
  rw [six_n, six_p h]
  by_cases c : k.toNat ≤ ds.length
  · rw [Nat.min_eq_left c]
    exact List.take_of_length_le (by simp)
  · rw [Nat.min_eq_right (by omega), List.drop_eq_nil_of_le (by omega), List.drop_eq_nil_of_le (by omega)]
    simp
theorem cut_all : cutD ds none none = ds := by
  unfold cutD
  rw [six_n, six_n, List.drop_zero, Nat.sub_zero]
  exact List.take_length ..
theorem cut_back {k : Int} (h : 0 < k) : cutD ds none (some (-k)) = ds.take (ds.length - k.toNat) := by
  unfold cutD
  rw [six_n, six_m (by omega), List.drop_zero, Nat.sub_zero]
  congr 1
  omega
theorem cut_mid {j k : Int} (h : 0 ≤ j) (h2 : 0 ≤ k) : cutD ds (some j) (some k) = (ds.drop j.toNat).take (k.toNat - j.toNat) := by
  unfold cutD
  rw [six_p h, six_p h2]
  by_cases c : j.toNat ≤ ds.length
  · rw [Nat.min_eq_left c]
    by_cases c2 : k.toNat ≤ ds.length
    · rw [Nat.min_eq_left c2]
    · rw [Nat.min_eq_right (by omega), List.take_of_length_le (by simp), List.take_of_length_le (by rw [List.length_drop]; omega)]
  · rw [Nat.min_eq_right (show ds.length ≤ j.toNat by omega), List.drop_eq_nil_of_le (by omega), List.drop_eq_nil_of_le (by omega)]
    simp
end
end Pu

set_option Elab.async false
set_option linter.all false
set_option maxRecDepth 100000
set_option maxHeartbeats 0
namespace L22
open PySem PySem.Spec PyProof.Rows L2 Pu
def top (i : Nat) : Stmt := PySem.Challenge.pw_soundsjoined_k22_whole_best_rounds_as_co.main.body.getD i (.Pass ⟨0, 0, 0, 0⟩)
abbrev FnP (K : PySem.W.Frag) (x : Str) (st : Stmt) (f : Addr) (fd : FuncData) : Prop := FunD K x x (defArgs st) (defBody st) (defScope st) [] [] f fd
abbrev st__law_mixed : Stmt := top 11
abbrev N__law_mixed : List Str := ["script", "k", "cell", "first", "second", "third"]
abbrev ps__law_mixed : List Str := ["script", "k"]
theorem sc__law_mixed : FnScope N__law_mixed ps__law_mixed (defScope st__law_mixed) := ⟨rfl, rfl, rfl, by decide +kernel, rfl, by decide +kernel, by decide +kernel⟩
abbrev st__law_row : Stmt := top 12
abbrev N__law_row : List Str := ["script", "many", "big", "row", "k"]
abbrev ps__law_row : List Str := ["script", "many"]
theorem sc__law_row : FnScope N__law_row ps__law_row (defScope st__law_row) := ⟨rfl, rfl, rfl, by decide +kernel, rfl, by decide +kernel, by decide +kernel⟩
abbrev st_power_of : Stmt := top 1
abbrev N_power_of : List Str := ["base", "times", "product", "_"]
abbrev ps_power_of : List Str := ["base", "times"]
theorem sc_power_of : FnScope N_power_of ps_power_of (defScope st_power_of) := ⟨rfl, rfl, rfl, by decide +kernel, rfl, by decide +kernel, by decide +kernel⟩
abbrev st_sign_of : Stmt := top 7
abbrev N_sign_of : List Str := ["p", "times", "steps", "first", "second"]
abbrev ps_sign_of : List Str := ["p", "times", "steps"]
theorem sc_sign_of : FnScope N_sign_of ps_sign_of (defScope st_sign_of) := ⟨rfl, rfl, rfl, by decide +kernel, rfl, by decide +kernel, by decide +kernel⟩
abbrev st_nearest_steps : Stmt := top 4
abbrev N_nearest_steps : List Str := ["n", "p", "whole"]
abbrev ps_nearest_steps : List Str := ["n", "p"]
theorem sc_nearest_steps : FnScope N_nearest_steps ps_nearest_steps (defScope st_nearest_steps) := ⟨rfl, rfl, rfl, by decide +kernel, rfl, by decide +kernel, by decide +kernel⟩
abbrev st_error_of : Stmt := top 6
abbrev N_error_of : List Str := ["n", "p", "steps"]
abbrev ps_error_of : List Str := ["n", "p"]
theorem sc_error_of : FnScope N_error_of ps_error_of (defScope st_error_of) := ⟨rfl, rfl, rfl, by decide +kernel, rfl, by decide +kernel, by decide +kernel⟩
abbrev st_compare_errors : Stmt := top 8
abbrev N_compare_errors : List Str := ["p", "first", "second", "one", "other"]
abbrev ps_compare_errors : List Str := ["p", "first", "second"]
theorem sc_compare_errors : FnScope N_compare_errors ps_compare_errors (defScope st_compare_errors) := ⟨rfl, rfl, rfl, by decide +kernel, rfl, by decide +kernel, by decide +kernel⟩
abbrev st_best_rounds : Stmt := top 9
abbrev N_best_rounds : List Str := ["p", "most", "found", "n"]
abbrev ps_best_rounds : List Str := ["p", "most"]
theorem sc_best_rounds : FnScope N_best_rounds ps_best_rounds (defScope st_best_rounds) := ⟨rfl, rfl, rfl, by decide +kernel, rfl, by decide +kernel, by decide +kernel⟩
abbrev st_nearest_map : Stmt := top 5
abbrev N_nearest_map : List Str := ["n", "primes", "p"]
abbrev ps_nearest_map : List Str := ["n", "primes"]
theorem sc_nearest_map : FnScope N_nearest_map ps_nearest_map (defScope st_nearest_map) := ⟨rfl, rfl, rfl, by decide +kernel, rfl, by decide +kernel, by decide +kernel⟩
abbrev st__law_power : Stmt := top 15
abbrev N__law_power : List Str := ["p", "n", "total", "turn"]
abbrev ps__law_power : List Str := ["p", "n"]
theorem sc__law_power : FnScope N__law_power ps__law_power (defScope st__law_power) := ⟨rfl, rfl, rfl, by decide +kernel, rfl, by decide +kernel, by decide +kernel⟩
abbrev st__law_rows_right : Stmt := top 17
abbrev N__law_rows_right : List Str := ["p", "most", "found", "steps", "n", "above", "k", "last"]
abbrev ps__law_rows_right : List Str := ["p", "most", "found"]
theorem sc__law_rows_right : FnScope N__law_rows_right ps__law_rows_right (defScope st__law_rows_right) := ⟨rfl, rfl, rfl, by decide +kernel, rfl, by decide +kernel, by decide +kernel⟩
abbrev st__law_is_int : Stmt := top 13
abbrev N__law_is_int : List Str := ["value"]
abbrev ps__law_is_int : List Str := ["value"]
theorem sc__law_is_int : FnScope N__law_is_int ps__law_is_int (defScope st__law_is_int) := ⟨rfl, rfl, rfl, by decide +kernel, rfl, by decide +kernel, by decide +kernel⟩
abbrev st__law_like : Stmt := top 14
abbrev N__law_like : List Str := ["value", "due", "k"]
abbrev ps__law_like : List Str := ["value", "due"]
theorem sc__law_like : FnScope N__law_like ps__law_like (defScope st__law_like) := ⟨rfl, rfl, rfl, by decide +kernel, rfl, by decide +kernel, by decide +kernel⟩
abbrev st_sent : Stmt := top 3
abbrev N_sent : List Str := ["steps", "vector", "step", "power"]
abbrev ps_sent : List Str := ["steps", "vector"]
theorem sc_sent : FnScope N_sent ps_sent (defScope st_sent) := ⟨rfl, rfl, rfl, by decide +kernel, rfl, by decide +kernel, by decide +kernel⟩
abbrev st__law_map_right : Stmt := top 16
abbrev N__law_map_right : List Str := ["p", "n", "told", "square", "near"]
abbrev ps__law_map_right : List Str := ["p", "n"]
theorem sc__law_map_right : FnScope N__law_map_right ps__law_map_right (defScope st__law_map_right) := ⟨rfl, rfl, rfl, by decide +kernel, rfl, by decide +kernel, by decide +kernel⟩
abbrev st_law : Stmt := top 18
abbrev N_law : List Str := ["script", "row", "p", "most", "found", "less", "n", "one", "two", "three", "at", "signs", "m", "both", "gone"]
abbrev ps_law : List Str := ["script"]
theorem sc_law : FnScope N_law ps_law (defScope st_law) := ⟨rfl, rfl, rfl, by decide +kernel, rfl, by decide +kernel, by decide +kernel⟩
/-! what each def does -/
def g__law_mixed : Eg := (seq (setS 2 (cst (.int 0))) (seq (ifS (ts boolOf (bn gtD (ap lenD (one (vr 0))) (cst (.int 0)))) (setS 2 (bn ixD (vr 0) (bn modD (vr 1) (ap lenD (one (vr 0)))))) nxt) (seq (setS 3 (bn modD (ap intD (one (bn addD (bn addD (bn mulD (vr 2) (cst (.int 48271))) (bn mulD (vr 1) (cst (.int 69621)))) (cst (.int 8191))))) (cst (.int 2147483647)))) (seq (setS 4 (bn modD (ap intD (one (bn addD (bn addD (bn mulD (vr 3) (vr 3)) (bn fdivD (vr 3) (cst (.int 7)))) (bn mulD (vr 1) (cst (.int 16807)))))) (cst (.int 2147483629)))) (seq (setS 5 (bn modD (ap intD (one (bn addD (bn addD (bn mulD (vr 4) (vr 4)) (bn fdivD (vr 4) (cst (.int 11)))) (cst (.int 40692))))) (cst (.int 2147483563)))) (ret (bn modD (bn fdivD (vr 5) (cst (.int 5))) (cst (.int 1000003)))))))))
def sem__law_mixed : List D → Option D := Pu.run 6 g__law_mixed
def g__law_row : Eg := (seq (setS 2 (cst (.int 0))) (seq (ifS (andB (ts boolOf (bn gtD (ap lenD (one (vr 0))) (cst (.int 0)))) (ts boolOf (bn geD (bn ixD (vr 0) (cst (.int 0))) (bn powD (cst (.int 10)) (cst (.int 18)))))) (setS 2 (bn ixD (vr 0) (cst (.int 0)))) nxt) (seq (ownS 3 (mkL nl)) (seq (forS (rg1 (cs (vr 1) nl)) (tN 4) (ifS (ts boolOf (bn gtD (vr 2) (cst (.int 0)))) (seq (appS 3 (bn modD (ap intD (one (vr 2))) (cst (.int 1000)))) (setS 2 (bn fdivD (vr 2) (cst (.int 1000))))) (appS 3 (ap sem__law_mixed (cs (vr 0) (cs (vr 4) nl)))))) (ret (vb 3))))))
def sem__law_row : List D → Option D := Pu.run 5 g__law_row
def g_power_of : Eg := (seq (setS 2 (cst (.int 1))) (seq (forS (rg1 (cs (vr 1) nl)) (tN 3) (augS 2 mulI (vr 0))) (ret (vb 2))))
def sem_power_of : List D → Option D := Pu.run 4 g_power_of
def g_sign_of (rec : List D → Option D) : Eg := (seq (ifS (ts boolOf (bn ltD (vr 1) (cst (.int 0)))) (ret (un negD (ap rec (cs (vr 0) (cs (un negD (vr 1)) (cs (un negD (vr 2)) nl)))))) nxt) (seq (ifS (ts boolOf (bn ltD (vr 2) (cst (.int 0)))) (ret (cst (.int 1))) nxt) (seq (parS 3 4 (cs (ap sem_power_of (cs (vr 0) (cs (vr 1) nl))) (cs (bn shlD (cst (.int 1)) (vr 2)) nl))) (ret (bn subD (bn gtD (vr 3) (vr 4)) (bn ltD (vr 3) (vr 4)))))))
def sem_sign_of : Nat → List D → Option D
  | 0 => fun _ => none
  | n + 1 => Pu.run 5 (g_sign_of (sem_sign_of n))
def g_nearest_steps : Eg := (seq (setS 2 (ap sem_power_of (cs (vr 1) (cs (bn mulD (cst (.int 2)) (vr 0)) nl)))) (ret (bn fdivD (un bitsD (vr 2)) (cst (.int 2)))))
def sem_nearest_steps : List D → Option D := Pu.run 3 g_nearest_steps
def g_error_of : Eg := (seq (setS 2 (ap sem_nearest_steps (cs (vr 0) (cs (vr 1) nl)))) (ret (ifV (ts boolOf (bn gtD (ap sem_power_of (cs (vr 1) (cs (vr 0) nl))) (bn shlD (cst (.int 1)) (vr 2)))) (mkT (cs (vr 0) (cs (vr 2) nl))) (mkT (cs (un negD (vr 0)) (cs (un negD (vr 2)) nl))))))
def sem_error_of : List D → Option D := Pu.run 3 g_error_of
def g_compare_errors : Eg := (seq (parS 3 4 (cs (ap sem_error_of (cs (vr 1) (cs (vr 0) nl))) (cs (ap sem_error_of (cs (vr 2) (cs (vr 0) nl))) nl))) (ret (ap (sem_sign_of 2) (cs (vr 0) (cs (bn subD (bn ixD (vr 3) (cst (.int 0))) (bn ixD (vr 4) (cst (.int 0)))) (cs (bn subD (bn ixD (vr 3) (cst (.int 1))) (bn ixD (vr 4) (cst (.int 1)))) nl))))))
def sem_compare_errors : List D → Option D := Pu.run 5 g_compare_errors
def g_best_rounds : Eg := (seq (ownS 2 (mkL (cs (cst (.int 1)) nl))) (seq (forS (rg2 (cs (cst (.int 2)) (cs (bn addD (vr 1) (cst (.int 1))) nl))) (tN 3) (ifS (ts boolOf (bn ltD (ap sem_compare_errors (cs (vr 0) (cs (vr 3) (cs (bn ixD (vb 2) (un negD (cst (.int 1)))) nl)))) (cst (.int 0)))) (appS 2 (vr 3)) nxt)) (ret (ap tupD (one (vb 2))))))
def sem_best_rounds : List D → Option D := Pu.run 4 g_best_rounds
def g_nearest_map : Eg := (ret (ap tupD (one (lcS (srcOf (vr 1)) (tN 2) yes (ifV (ts boolOf (bn eqD (vr 2) (cst (.int 2)))) (vr 0) (ap sem_nearest_steps (cs (vr 0) (cs (vr 2) nl)))) [2]))))
def sem_nearest_map : List D → Option D := Pu.run 3 g_nearest_map
def g__law_power : Eg := (seq (setS 2 (cst (.int 1))) (seq (forS (rg1 (cs (vr 1) nl)) (tN 3) (setS 2 (bn mulD (vr 2) (vr 0)))) (ret (vb 2))))
def sem__law_power : List D → Option D := Pu.run 4 g__law_power
def g__law_rows_right : Eg := (seq (setS 3 (lcS (srcOf (vr 2)) (tN 4) yes (bn ixD (ap sem_nearest_map (cs (vr 4) (cs (mkT (cs (cst (.int 2)) (cs (vr 0) nl))) nl))) (cst (.int 1))) [4])) (seq (setS 5 (lcS (rg1 (cs (ap lenD (one (vr 2))) nl)) (tN 6) yes (bn gtD (ap sem__law_power (cs (vr 0) (cs (bn ixD (vr 2) (vr 6)) nl))) (ap sem__law_power (cs (cst (.int 2)) (cs (bn ixD (vr 3) (vr 6)) nl)))) [6])) (seq (forS (rg2 (cs (cst (.int 1)) (cs (ap lenD (one (vr 2))) nl))) (tN 6) (seq (ifS (orB (ts boolOf (bn neD (ap sem_compare_errors (cs (vr 0) (cs (bn ixD (vr 2) (vr 6)) (cs (bn ixD (vr 2) (bn subD (vr 6) (cst (.int 1)))) nl)))) (un negD (cst (.int 1))))) (ts boolOf (bn eqD (bn ixD (vr 5) (vr 6)) (bn ixD (vr 5) (bn subD (vr 6) (cst (.int 1))))))) (ret (cst (.bool false))) nxt) (seq (ifS (ts boolOf (bn neD (ap absD (one (bn subD (bn mulD (bn ixD (vr 3) (vr 6)) (bn ixD (vr 2) (bn subD (vr 6) (cst (.int 1))))) (bn mulD (bn ixD (vr 3) (bn subD (vr 6) (cst (.int 1)))) (bn ixD (vr 2) (vr 6)))))) (cst (.int 1)))) (ret (cst (.bool false))) nxt) (ifS (andB (ts boolOf (bn gtD (vr 6) (cst (.int 1)))) (ts boolOf (bn gtD (bn modD (ap intD (one (bn subD (bn ixD (vr 2) (vr 6)) (bn ixD (vr 2) (bn subD (vr 6) (cst (.int 2))))))) (bn ixD (vr 2) (bn subD (vr 6) (cst (.int 1))))) (cst (.int 0))))) (ret (cst (.bool false))) nxt)))) (seq (setS 7 (bn ixD (vr 2) (bn subD (ap lenD (one (vr 2))) (cst (.int 1))))) (ret (ap allD (one (lcS (rg2 (cs (cst (.int 1)) (cs (bn addD (vr 1) (cst (.int 1))) nl))) (tN 4) (ts boolOf (bn neD (vr 4) (vr 7))) (bn eqD (ap sem_compare_errors (cs (vr 0) (cs (vr 7) (cs (vr 4) nl)))) (un negD (cst (.int 1)))) [4]))))))))
def sem__law_rows_right : List D → Option D := Pu.run 8 g__law_rows_right
def g__law_is_int : Eg := (ret (andV (ap (isiD "int") (one (vr 0))) (un notB (ap (isiD "bool") (one (vr 0))))))
def sem__law_is_int : List D → Option D := Pu.run 1 g__law_is_int
def g__law_like (rec : List D → Option D) : Eg := (seq (ifS (ts boolOf (bn isD (vr 1) (cst .none))) (ret (bn isD (vr 0) (cst .none))) nxt) (seq (ifS (ts truD (ap (isiD "bool") (one (vr 1)))) (ret (andV (ap (isiD "bool") (one (vr 0))) (bn eqD (vr 0) (vr 1)))) nxt) (seq (ifS (ts truD (ap (isiD "tuple") (one (vr 1)))) (seq (ifS (orB (notT (ts truD (ap (isiD "tuple") (one (vr 0))))) (ts boolOf (bn neD (ap lenD (one (vr 0))) (ap lenD (one (vr 1)))))) (ret (cst (.bool false))) nxt) (ret (ap allD (one (lcS (rg1 (cs (ap lenD (one (vr 1))) nl)) (tN 2) yes (ap rec (cs (bn ixD (vr 0) (vr 2)) (cs (bn ixD (vr 1) (vr 2)) nl))) [2]))))) nxt) (seq (ifS (ts truD (ap (isiD "str") (one (vr 1)))) (ret (andV (ap (isiD "str") (one (vr 0))) (bn eqD (vr 0) (vr 1)))) nxt) (ret (andV (ap sem__law_is_int (cs (vr 0) nl)) (bn eqD (vr 0) (vr 1))))))))
def sem__law_like : Nat → List D → Option D
  | 0 => fun _ => none
  | n + 1 => Pu.run 3 (g__law_like (sem__law_like n))
def g_sent : Eg := (ret (ap sumD (one (lcS (zipS (two (vr 0) (vr 1))) (tT [(tN 2), (tN 3)]) yes (bn mulD (vr 2) (vr 3)) [2, 3]))))
def sem_sent : List D → Option D := Pu.run 4 g_sent
def g__law_map_right : Eg := (seq (setS 2 (ap sem_nearest_map (cs (vr 1) (cs (mkT (cs (cst (.int 2)) (cs (vr 0) nl))) nl)))) (seq (ifS (orB (notT (ts truD (ap (isiD "tuple") (one (vr 2))))) (orB (ts boolOf (bn neD (ap lenD (one (vr 2))) (cst (.int 2)))) (orB (notT (ts truD (ap sem__law_is_int (cs (bn ixD (vr 2) (cst (.int 1))) nl)))) (notT (ts truD (ap (sem__law_like 3) (cs (bn ixD (vr 2) (cst (.int 0))) (cs (vr 1) nl)))))))) (ret (cst (.bool false))) nxt) (seq (setS 3 (ap sem__law_power (cs (vr 0) (cs (bn mulD (cst (.int 2)) (vr 1)) nl)))) (seq (setS 4 (ap sem__law_power (cs (cst (.int 2)) (cs (bn mulD (cst (.int 2)) (ap max2D (two (bn ixD (vr 2) (cst (.int 1))) (cst (.int 0))))) nl)))) (ret (andV (bn gtD (bn ixD (vr 2) (cst (.int 1))) (cst (.int 0))) (andV (bn ltD (vr 4) (bn mulD (cst (.int 2)) (vr 3))) (bn ltD (vr 3) (bn mulD (cst (.int 2)) (vr 4))))))))))
def sem__law_map_right : List D → Option D := Pu.run 5 g__law_map_right
def g_law : Eg := (seq (setS 1 (ap sem__law_row (cs (vr 0) (cs (cst (.int 9)) nl)))) (seq (setS 2 (bn ixD (mkT (cs (cst (.int 3)) (cs (cst (.int 5)) (cs (cst (.int 7)) (cs (cst (.int 11)) (cs (cst (.int 13)) (cs (cst (.int 17)) (cs (cst (.int 19)) (cs (cst (.int 23)) (cs (cst (.int 29)) (cs (cst (.int 31)) nl))))))))))) (bn modD (ap intD (one (bn ixD (vr 1) (cst (.int 0))))) (cst (.int 10))))) (seq (setS 3 (bn addD (cst (.int 1)) (bn modD (ap intD (one (bn ixD (vr 1) (cst (.int 1))))) (cst (.int 100))))) (seq (ifS (ts boolOf (bn gtD (bn modD (ap intD (one (bn ixD (vr 1) (cst (.int 8))))) (cst (.int 4))) (cst (.int 0)))) (setS 3 (bn addD (cst (.int 1)) (bn modD (ap intD (one (bn ixD (vr 1) (cst (.int 1))))) (cst (.int 30))))) nxt) (seq (setS 4 (ap sem_best_rounds (cs (vr 2) (cs (vr 3) nl)))) (seq (ifS (orB (notT (ts truD (ap (isiD "tuple") (one (vr 4))))) (orB (ts boolOf (bn neD (sl slD (vr 4) noPart (part (cst (.int 1)))) (mkT (cs (cst (.int 1)) nl)))) (ts boolOf (bn gtD (bn ixD (vr 4) (bn subD (ap lenD (one (vr 4))) (cst (.int 1)))) (vr 3))))) (ret (cst (.bool false))) nxt) (seq (ifS (notT (ts truD (ap sem__law_rows_right (cs (vr 2) (cs (vr 3) (cs (vr 4) nl)))))) (ret (cst (.bool false))) nxt) (seq (setS 5 (bn addD (cst (.int 1)) (bn modD (ap intD (one (bn ixD (vr 1) (cst (.int 2))))) (vr 3)))) (seq (ifS (notT (ts truD (ap (sem__law_like 3) (cs (ap sem_best_rounds (cs (vr 2) (cs (vr 5) nl))) (cs (ap tupD (one (lcS (srcOf (vr 4)) (tN 6) (ts boolOf (bn leD (vr 6) (vr 5))) (vr 6) [6]))) nl))))) (ret (cst (.bool false))) nxt) (seq (asgS (tU [(tN 7), (tN 8), (tN 9)]) (lcS (srcOf (mkT (cs (cst (.int 3)) (cs (cst (.int 4)) (cs (cst (.int 5)) nl))))) (tN 10) yes (bn addD (cst (.int 1)) (bn modD (ap intD (one (bn ixD (vr 1) (vr 10)))) (cst (.int 60)))) [10])) (seq (setS 11 (mkT (cs (ap sem_compare_errors (cs (vr 2) (cs (vr 7) (cs (vr 8) nl)))) (cs (ap sem_compare_errors (cs (vr 2) (cs (vr 8) (cs (vr 9) nl)))) (cs (ap sem_compare_errors (cs (vr 2) (cs (vr 7) (cs (vr 9) nl)))) nl))))) (seq (ifS (notT (ts truD (ap (sem__law_like 3) (cs (mkT (cs (ap sem_compare_errors (cs (vr 2) (cs (vr 8) (cs (vr 7) nl)))) (cs (ap sem_compare_errors (cs (vr 2) (cs (vr 7) (cs (vr 7) nl)))) nl))) (cs (mkT (cs (bn subD (cst (.int 0)) (bn ixD (vr 11) (cst (.int 0)))) (cs (cst (.int 0)) nl))) nl))))) (ret (cst (.bool false))) nxt) (seq (ifS (orB (ts boolOf (bn notInD (bn ixD (vr 11) (cst (.int 0))) (mkT (cs (un negD (cst (.int 1))) (cs (cst (.int 0)) (cs (cst (.int 1)) nl)))))) (ts boolOf (bn neD (bn eqD (bn ixD (vr 11) (cst (.int 0))) (cst (.int 0))) (bn eqD (vr 7) (vr 8))))) (ret (cst (.bool false))) nxt) (seq (ifS (andB (ts boolOf (chn eqD neD (bn ixD (vr 11) (cst (.int 0))) (bn ixD (vr 11) (cst (.int 1))) (cst (.int 0)))) (ts boolOf (bn neD (bn ixD (vr 11) (cst (.int 2))) (bn ixD (vr 11) (cst (.int 0)))))) (ret (cst (.bool false))) nxt) (seq (setS 12 (bn addD (cst (.int 1)) (bn modD (ap intD (one (bn ixD (vr 1) (cst (.int 6))))) (cst (.int 40))))) (seq (ifS (orB (notT (ts truD (ap sem__law_map_right (cs (vr 2) (cs (vr 7) nl))))) (notT (ts truD (ap sem__law_map_right (cs (vr 2) (cs (vr 12) nl)))))) (ret (cst (.bool false))) nxt) (seq (setS 13 (bn ixD (ap sem_nearest_map (cs (bn addD (vr 7) (vr 12)) (cs (mkT (cs (cst (.int 2)) (cs (vr 2) nl))) nl))) (cst (.int 1)))) (seq (setS 14 (bn addD (ap sem_sent (cs (ap sem_nearest_map (cs (vr 7) (cs (mkT (cs (cst (.int 2)) (cs (vr 2) nl))) nl))) (cs (mkT (cs (cst (.int 0)) (cs (cst (.int 1)) nl))) nl))) (ap sem_sent (cs (ap sem_nearest_map (cs (vr 12) (cs (mkT (cs (cst (.int 2)) (cs (vr 2) nl))) nl))) (cs (mkT (cs (cst (.int 0)) (cs (cst (.int 1)) nl))) nl))))) (ret (bn ltD (ap absD (one (bn subD (vr 13) (vr 14)))) (cst (.int 2))))))))))))))))))))))
def sem_law : List D → Option D := Pu.run 15 g_law
/-! the text as it stands at boot -/
structure Txt (K : PySem.W.Frag) (mg : Str → Option Value) where
  a__law_mixed : Addr
  d__law_mixed : FuncData
  F__law_mixed : FnP K "_law_mixed" st__law_mixed a__law_mixed d__law_mixed
  m__law_mixed : mg "_law_mixed" = some (.ref a__law_mixed)
  a__law_row : Addr
  d__law_row : FuncData
  F__law_row : FnP K "_law_row" st__law_row a__law_row d__law_row
  m__law_row : mg "_law_row" = some (.ref a__law_row)
  a_power_of : Addr
  d_power_of : FuncData
  F_power_of : FnP K "power_of" st_power_of a_power_of d_power_of
  m_power_of : mg "power_of" = some (.ref a_power_of)
  a_sign_of : Addr
  d_sign_of : FuncData
  F_sign_of : FnP K "sign_of" st_sign_of a_sign_of d_sign_of
  m_sign_of : mg "sign_of" = some (.ref a_sign_of)
  a_nearest_steps : Addr
  d_nearest_steps : FuncData
  F_nearest_steps : FnP K "nearest_steps" st_nearest_steps a_nearest_steps d_nearest_steps
  m_nearest_steps : mg "nearest_steps" = some (.ref a_nearest_steps)
  a_error_of : Addr
  d_error_of : FuncData
  F_error_of : FnP K "error_of" st_error_of a_error_of d_error_of
  m_error_of : mg "error_of" = some (.ref a_error_of)
  a_compare_errors : Addr
  d_compare_errors : FuncData
  F_compare_errors : FnP K "compare_errors" st_compare_errors a_compare_errors d_compare_errors
  m_compare_errors : mg "compare_errors" = some (.ref a_compare_errors)
  a_best_rounds : Addr
  d_best_rounds : FuncData
  F_best_rounds : FnP K "best_rounds" st_best_rounds a_best_rounds d_best_rounds
  m_best_rounds : mg "best_rounds" = some (.ref a_best_rounds)
  a_nearest_map : Addr
  d_nearest_map : FuncData
  F_nearest_map : FnP K "nearest_map" st_nearest_map a_nearest_map d_nearest_map
  m_nearest_map : mg "nearest_map" = some (.ref a_nearest_map)
  a__law_power : Addr
  d__law_power : FuncData
  F__law_power : FnP K "_law_power" st__law_power a__law_power d__law_power
  m__law_power : mg "_law_power" = some (.ref a__law_power)
  a__law_rows_right : Addr
  d__law_rows_right : FuncData
  F__law_rows_right : FnP K "_law_rows_right" st__law_rows_right a__law_rows_right d__law_rows_right
  m__law_rows_right : mg "_law_rows_right" = some (.ref a__law_rows_right)
  a__law_is_int : Addr
  d__law_is_int : FuncData
  F__law_is_int : FnP K "_law_is_int" st__law_is_int a__law_is_int d__law_is_int
  m__law_is_int : mg "_law_is_int" = some (.ref a__law_is_int)
  a__law_like : Addr
  d__law_like : FuncData
  F__law_like : FnP K "_law_like" st__law_like a__law_like d__law_like
  m__law_like : mg "_law_like" = some (.ref a__law_like)
  a_sent : Addr
  d_sent : FuncData
  F_sent : FnP K "sent" st_sent a_sent d_sent
  m_sent : mg "sent" = some (.ref a_sent)
  a__law_map_right : Addr
  d__law_map_right : FuncData
  F__law_map_right : FnP K "_law_map_right" st__law_map_right a__law_map_right d__law_map_right
  m__law_map_right : mg "_law_map_right" = some (.ref a__law_map_right)
  a_law : Addr
  d_law : FuncData
  F_law : FnP K "law" st_law a_law d_law
  m_law : mg "law" = some (.ref a_law)
  n_abs : mg "abs" = none
  n_all : mg "all" = none
  n_bool : mg "bool" = none
  n_int : mg "int" = none
  n_isinstance : mg "isinstance" = none
  n_len : mg "len" = none
  n_max : mg "max" = none
  n_range : mg "range" = none
  n_str : mg "str" = none
  n_sum : mg "sum" = none
  n_tuple : mg "tuple" = none
  n_zip : mg "zip" = none
section
variable {P : Program} {w : World} {K : PySem.W.Frag} {mg : Str → Option Value} {base : Heap}
theorem bi__law_mixed (T : Txt K mg) : Binds K T.d__law_mixed ps__law_mixed [] := T.F__law_mixed.bindsN fun _ _ _ _ _ _ us hl => match us, hl with | [_, _], _ => rfl
theorem bi__law_row (T : Txt K mg) : Binds K T.d__law_row ps__law_row [] := T.F__law_row.bindsN fun _ _ _ _ _ _ us hl => match us, hl with | [_, _], _ => rfl
theorem bi_power_of (T : Txt K mg) : Binds K T.d_power_of ps_power_of [] := T.F_power_of.bindsN fun _ _ _ _ _ _ us hl => match us, hl with | [_, _], _ => rfl
theorem bi_sign_of (T : Txt K mg) : Binds K T.d_sign_of ps_sign_of [] := T.F_sign_of.bindsN fun _ _ _ _ _ _ us hl => match us, hl with | [_, _, _], _ => rfl
theorem bi_nearest_steps (T : Txt K mg) : Binds K T.d_nearest_steps ps_nearest_steps [] := T.F_nearest_steps.bindsN fun _ _ _ _ _ _ us hl => match us, hl with | [_, _], _ => rfl
theorem bi_error_of (T : Txt K mg) : Binds K T.d_error_of ps_error_of [] := T.F_error_of.bindsN fun _ _ _ _ _ _ us hl => match us, hl with | [_, _], _ => rfl
theorem bi_compare_errors (T : Txt K mg) : Binds K T.d_compare_errors ps_compare_errors [] := T.F_compare_errors.bindsN fun _ _ _ _ _ _ us hl => match us, hl with | [_, _, _], _ => rfl
theorem bi_best_rounds (T : Txt K mg) : Binds K T.d_best_rounds ps_best_rounds [] := T.F_best_rounds.bindsN fun _ _ _ _ _ _ us hl => match us, hl with | [_, _], _ => rfl
theorem bi_nearest_map (T : Txt K mg) : Binds K T.d_nearest_map ps_nearest_map [] := T.F_nearest_map.bindsN fun _ _ _ _ _ _ us hl => match us, hl with | [_, _], _ => rfl
theorem bi__law_power (T : Txt K mg) : Binds K T.d__law_power ps__law_power [] := T.F__law_power.bindsN fun _ _ _ _ _ _ us hl => match us, hl with | [_, _], _ => rfl
theorem bi__law_rows_right (T : Txt K mg) : Binds K T.d__law_rows_right ps__law_rows_right [] := T.F__law_rows_right.bindsN fun _ _ _ _ _ _ us hl => match us, hl with | [_, _, _], _ => rfl
theorem bi__law_is_int (T : Txt K mg) : Binds K T.d__law_is_int ps__law_is_int [] := T.F__law_is_int.bindsN fun _ _ _ _ _ _ us hl => match us, hl with | [_], _ => rfl
theorem bi__law_like (T : Txt K mg) : Binds K T.d__law_like ps__law_like [] := T.F__law_like.bindsN fun _ _ _ _ _ _ us hl => match us, hl with | [_, _], _ => rfl
theorem bi_sent (T : Txt K mg) : Binds K T.d_sent ps_sent [] := T.F_sent.bindsN fun _ _ _ _ _ _ us hl => match us, hl with | [_, _], _ => rfl
theorem bi__law_map_right (T : Txt K mg) : Binds K T.d__law_map_right ps__law_map_right [] := T.F__law_map_right.bindsN fun _ _ _ _ _ _ us hl => match us, hl with | [_, _], _ => rfl
theorem bi_law (T : Txt K mg) : Binds K T.d_law ps_law [] := T.F_law.bindsN fun _ _ _ _ _ _ us hl => match us, hl with | [_], _ => rfl
theorem ok__law_mixed (T : Txt K mg) : FnOk P w K mg base CX0 1 T.a__law_mixed T.d__law_mixed ps__law_mixed (spP K 2 sem__law_mixed) := def_ok T.F__law_mixed sc__law_mixed fun cdv A outer s H E hr => ⟨_, by
    have S := sc__law_mixed
    exact (s_cons (s_set 2 e_int S.nd) (s_cons (s_if (t_cmp op_gt does_gt (EE.b (x_len T.n_len (EE.b (ev 0)))) (EE.b e_int)) (s_one (s_set 2 (x_ix (EE.b (ev 0)) (EE.b (x_mod (EE.b (ev 1)) (EE.b (x_len T.n_len (EE.b (ev 0))))))) S.nd)) s_nil) (s_cons (s_set 3 (x_mod (EE.b (x_int T.n_int (EE.b (x_add (EE.b (x_add (EE.b (x_mul (EE.b (ev 2)) (EE.b e_int))) (EE.b (x_mul (EE.b (ev 1)) (EE.b e_int))))) (EE.b e_int))))) (EE.b e_int)) S.nd) (s_cons (s_set 4 (x_mod (EE.b (x_int T.n_int (EE.b (x_add (EE.b (x_add (EE.b (x_mul (EE.b (ev 3)) (EE.b (ev 3)))) (EE.b (x_fdiv (EE.b (ev 3)) (EE.b e_int))))) (EE.b (x_mul (EE.b (ev 1)) (EE.b e_int))))))) (EE.b e_int)) S.nd) (s_cons (s_set 5 (x_mod (EE.b (x_int T.n_int (EE.b (x_add (EE.b (x_add (EE.b (x_mul (EE.b (ev 4)) (EE.b (ev 4)))) (EE.b (x_fdiv (EE.b (ev 4)) (EE.b e_int))))) (EE.b e_int))))) (EE.b e_int)) S.nd) (s_one (s_ret (x_mod (EE.b (x_fdiv (EE.b (ev 5)) (EE.b e_int))) (EE.b e_int)))))))))⟩
theorem ok__law_row (T : Txt K mg) : FnOk P w K mg base CX0 2 T.a__law_row T.d__law_row ps__law_row (spP K 2 sem__law_row) := def_ok T.F__law_row sc__law_row fun cdv A outer s H E hr => ⟨_, by
    have S := sc__law_row
    exact (s_cons (s_set 2 e_int S.nd) (s_cons (s_if (EW.toT (w_and (t_cmp op_gt does_gt (EE.b (x_len T.n_len (EE.b (ev 0)))) (EE.b e_int)) (w_and1 (t_cmp op_ge does_ge (EE.b (x_ix (EE.b (ev 0)) (EE.b e_int))) (EE.b (x_pow (EE.b e_int) (EE.b e_int))))))) (s_one (s_set 2 (x_ix (EE.b (ev 0)) (EE.b e_int)) S.nd)) s_nil) (s_cons (s_own 3 (d_lst a_nil) S.nd) (s_cons (s_for PassesOwn.never rfl (i_rng1 rfl T.n_range (a_cons (ev 1) a_nil)) (t_name 4 S.nd) (s_one (s_if (t_cmp op_gt does_gt (EE.b (ev 2)) (EE.b e_int)) (s_cons (s_app 3 (x_mod (EE.b (x_int T.n_int (EE.b (ev 2)))) (EE.b e_int))) (s_one (s_set 2 (x_fdiv (EE.b (ev 2)) (EE.b e_int)) S.nd))) (s_one (s_app 3 (d_def (ok__law_mixed T) (hr.mono (by decide)) T.m__law_mixed T.F__law_mixed.kp (bi__law_mixed T) (a_cons (ev 0) (a_cons (ev 4) a_nil)))))))) (s_one (s_retV 3))))))⟩
theorem ok_power_of (T : Txt K mg) : FnOk P w K mg base CX0 1 T.a_power_of T.d_power_of ps_power_of (spP K 2 sem_power_of) := def_ok T.F_power_of sc_power_of fun cdv A outer s H E hr => ⟨_, by
    have S := sc_power_of
    exact (s_cons (s_set 2 e_int S.nd) (s_cons (s_for PassesOwn.never rfl (i_rng1 rfl T.n_range (a_cons (ev 1) a_nil)) (t_name 3 S.nd) (s_one (s_augMul 2 (ev 0) S.nd))) (s_one (s_retV 2))))⟩
theorem ok_sign_of (T : Txt K mg) : ∀ n : Nat, FnOk P w K mg base CX0 (1 + n) T.a_sign_of T.d_sign_of ps_sign_of (spP K 3 (sem_sign_of n))
  | 0 => fn_never
  | n + 1 => def_ok T.F_sign_of sc_sign_of fun cdv A outer s H E hr => ⟨_, by
    have IH : FnOk P w K mg base CX0 (1 + n) T.a_sign_of T.d_sign_of ps_sign_of (spP K 3 (sem_sign_of n)) := ok_sign_of T n
    have S := sc_sign_of
    exact (s_cons (s_if (t_cmp (op_lt.or (op_ltA hr.units)) does_lt (EE.b (ev 1)) (EE.b e_int)) (s_one (s_ret (v_neg (d_def IH hr T.m_sign_of T.F_sign_of.kp (bi_sign_of T) (a_cons (ev 0) (a_cons (v_neg (ev 1)) (a_cons (v_neg (ev 2)) a_nil))))))) s_nil) (s_cons (s_if (t_cmp (op_lt.or (op_ltA hr.units)) does_lt (EE.b (ev 2)) (EE.b e_int)) (s_one (s_ret e_int)) s_nil) (s_cons (s_par 3 4 rfl S.nd (a_cons (d_def (ok_power_of T) (hr.mono (Nat.le_trans (by decide : 1 ≤ 1) (Nat.le_add_right _ _))) T.m_power_of T.F_power_of.kp (bi_power_of T) (a_cons (ev 0) (a_cons (ev 1) a_nil))) (a_cons (x_shl (EE.b e_int) (EE.b (ev 2))) a_nil))) (s_one (s_ret (x_sub (EE.b (e_cmp op_gt does_gt (EE.b (ev 3)) (EE.b (ev 4)))) (EE.b (e_cmp (op_lt.or (op_ltA hr.units)) does_lt (EE.b (ev 3)) (EE.b (ev 4))))))))))⟩
theorem ok_nearest_steps (T : Txt K mg) : FnOk P w K mg base CX0 2 T.a_nearest_steps T.d_nearest_steps ps_nearest_steps (spP K 2 sem_nearest_steps) := def_ok T.F_nearest_steps sc_nearest_steps fun cdv A outer s H E hr => ⟨_, by
    have S := sc_nearest_steps
    exact (s_cons (s_set 2 (d_def (ok_power_of T) (hr.mono (by decide)) T.m_power_of T.F_power_of.kp (bi_power_of T) (a_cons (ev 1) (a_cons (x_mul (EE.b e_int) (EE.b (ev 0))) a_nil))) S.nd) (s_one (s_ret (x_fdiv (EE.b (x_bits (ev 2))) (EE.b e_int)))))⟩
theorem ok_error_of (T : Txt K mg) : FnOk P w K mg base CX0 3 T.a_error_of T.d_error_of ps_error_of (spP K 2 sem_error_of) := def_ok T.F_error_of sc_error_of fun cdv A outer s H E hr => ⟨_, by
    have S := sc_error_of
    exact (s_cons (s_set 2 (d_def (ok_nearest_steps T) (hr.mono (by decide)) T.m_nearest_steps T.F_nearest_steps.kp (bi_nearest_steps T) (a_cons (ev 0) (a_cons (ev 1) a_nil))) S.nd) (s_one (s_ret (v_if (t_cmp op_gt does_gt (EE.b (d_def (ok_power_of T) (hr.mono (by decide)) T.m_power_of T.F_power_of.kp (bi_power_of T) (a_cons (ev 1) (a_cons (ev 0) a_nil)))) (EE.b (x_shl (EE.b e_int) (EE.b (ev 2))))) (d_tup (a_cons (ev 0) (a_cons (ev 2) a_nil))) (d_tup (a_cons (v_neg (ev 0)) (a_cons (v_neg (ev 2)) a_nil)))))))⟩
theorem ok_compare_errors (T : Txt K mg) : FnOk P w K mg base CX0 4 T.a_compare_errors T.d_compare_errors ps_compare_errors (spP K 3 sem_compare_errors) := def_ok T.F_compare_errors sc_compare_errors fun cdv A outer s H E hr => ⟨_, by
    have S := sc_compare_errors
    exact (s_cons (s_par 3 4 rfl S.nd (a_cons (d_def (ok_error_of T) (hr.mono (by decide)) T.m_error_of T.F_error_of.kp (bi_error_of T) (a_cons (ev 1) (a_cons (ev 0) a_nil))) (a_cons (d_def (ok_error_of T) (hr.mono (by decide)) T.m_error_of T.F_error_of.kp (bi_error_of T) (a_cons (ev 2) (a_cons (ev 0) a_nil))) a_nil))) (s_one (s_ret (d_def (ok_sign_of T 2) (hr.mono (by decide)) T.m_sign_of T.F_sign_of.kp (bi_sign_of T) (a_cons (ev 0) (a_cons (x_sub (EE.b (x_ix (EE.b (ev 3)) (EE.b e_int))) (EE.b (x_ix (EE.b (ev 4)) (EE.b e_int)))) (a_cons (x_sub (EE.b (x_ix (EE.b (ev 3)) (EE.b e_int))) (EE.b (x_ix (EE.b (ev 4)) (EE.b e_int)))) a_nil)))))))⟩
theorem ok_best_rounds (T : Txt K mg) : FnOk P w K mg base CX0 5 T.a_best_rounds T.d_best_rounds ps_best_rounds (spP K 2 sem_best_rounds) := def_ok T.F_best_rounds sc_best_rounds fun cdv A outer s H E hr => ⟨_, by
    have S := sc_best_rounds
    exact (s_cons (s_own 2 (d_lst (a_cons e_int a_nil)) S.nd) (s_cons (s_for PassesOwn.never rfl (i_rng2 rfl T.n_range (a_cons e_int (a_cons (x_add (EE.b (ev 1)) (EE.b e_int)) a_nil))) (t_name 3 S.nd) (s_one (s_if (t_cmp (op_lt.or (op_ltA hr.units)) does_lt (EE.b (d_def (ok_compare_errors T) (hr.mono (by decide)) T.m_compare_errors T.F_compare_errors.kp (bi_compare_errors T) (a_cons (ev 0) (a_cons (ev 3) (a_cons (x_ix (bv 2) (EE.b (v_neg e_int))) a_nil))))) (EE.b e_int)) (s_one (s_app 2 (ev 3))) s_nil))) (s_one (s_ret (x_tuple T.n_tuple (bv 2))))))⟩
theorem ok_nearest_map (T : Txt K mg) : FnOk P w K mg base CX0 3 T.a_nearest_map T.d_nearest_map ps_nearest_map (spP K 2 sem_nearest_map) := def_ok T.F_nearest_map sc_nearest_map fun cdv A outer s H E hr => ⟨_, by
    have S := sc_nearest_map
    exact (s_one (s_ret (x_tuple T.n_tuple (EN.b (m_lc (own := [("p", 2)]) rfl S.nd (ic_any (EE.b (ev 1))) (by kernel_rfl) (fun s_ H_ C_ cl_ fp_ => (t_name 2 S.nd)) (fun s_ H_ C_ cl_ fp_ => k_nil) (fun s_ H_ C_ cl_ fp_ => (v_if (t_cmp (op_eqD hr.units) does_eq (EE.b (ev 2)) (EE.b e_int)) (ev 0) (d_def (ok_nearest_steps T) (hr.mono (by decide)) T.m_nearest_steps T.F_nearest_steps.kp (bi_nearest_steps T) (a_cons (ev 0) (a_cons (ev 2) a_nil))))))))))⟩
theorem ok__law_power (T : Txt K mg) : FnOk P w K mg base CX0 1 T.a__law_power T.d__law_power ps__law_power (spP K 2 sem__law_power) := def_ok T.F__law_power sc__law_power fun cdv A outer s H E hr => ⟨_, by
    have S := sc__law_power
    exact (s_cons (s_set 2 e_int S.nd) (s_cons (s_for PassesOwn.never rfl (i_rng1 rfl T.n_range (a_cons (ev 1) a_nil)) (t_name 3 S.nd) (s_one (s_set 2 (x_mul (EE.b (ev 2)) (EE.b (ev 0))) S.nd))) (s_one (s_retV 2))))⟩
theorem ok__law_rows_right (T : Txt K mg) : FnOk P w K mg base CX0 5 T.a__law_rows_right T.d__law_rows_right ps__law_rows_right (spP K 3 sem__law_rows_right) := def_ok T.F__law_rows_right sc__law_rows_right fun cdv A outer s H E hr => ⟨_, by
    have S := sc__law_rows_right
    exact (s_cons (s_set 3 (EN.toE (m_lc (own := [("n", 4)]) rfl S.nd (ic_any (EE.b (ev 2))) (by kernel_rfl) (fun s_ H_ C_ cl_ fp_ => (t_name 4 S.nd)) (fun s_ H_ C_ cl_ fp_ => k_nil) (fun s_ H_ C_ cl_ fp_ => (x_ix (EE.b (d_def (ok_nearest_map T) (hr.mono (by decide)) T.m_nearest_map T.F_nearest_map.kp (bi_nearest_map T) (a_cons (ev 4) (a_cons (d_tup (a_cons e_int (a_cons (ev 0) a_nil))) a_nil)))) (EE.b e_int))))) S.nd) (s_cons (sm_lcS 5 (own := [("k", 6)]) rfl S.nd (EI.c (i_rng1 rfl T.n_range (a_cons (x_len T.n_len (EE.b (ev 2))) a_nil))) (by kernel_rfl) (fun s_ H_ C_ cl_ fp_ => (t_name 6 S.nd)) (fun s_ H_ C_ cl_ fp_ => k_nil) (fun s_ H_ C_ cl_ fp_ => (e_cmp op_gt does_gt (EE.b (d_def (ok__law_power T) (hr.mono (by decide)) T.m__law_power T.F__law_power.kp (bi__law_power T) (a_cons (ev 0) (a_cons (x_ix (EE.b (ev 2)) (EE.b (ev 6))) a_nil)))) (EE.b (d_def (ok__law_power T) (hr.mono (by decide)) T.m__law_power T.F__law_power.kp (bi__law_power T) (a_cons e_int (a_cons (x_ix (EE.b (ev 3)) (EE.b (ev 6))) a_nil))))))) (s_cons (s_for PassesOwn.never rfl (i_rng2 rfl T.n_range (a_cons e_int (a_cons (x_len T.n_len (EE.b (ev 2))) a_nil))) (t_name 6 S.nd) (s_cons (s_if (EW.toT (w_or (t_cmp (op_neD hr.units) does_ne (EE.b (d_def (ok_compare_errors T) (hr.mono (by decide)) T.m_compare_errors T.F_compare_errors.kp (bi_compare_errors T) (a_cons (ev 0) (a_cons (x_ix (EE.b (ev 2)) (EE.b (ev 6))) (a_cons (x_ix (EE.b (ev 2)) (EE.b (x_sub (EE.b (ev 6)) (EE.b e_int)))) a_nil))))) (EE.b (v_neg e_int))) (w_or1 (t_cmp (op_eqD hr.units) does_eq (EE.b (x_ix (EE.b (ev 5)) (EE.b (ev 6)))) (EE.b (x_ix (EE.b (ev 5)) (EE.b (x_sub (EE.b (ev 6)) (EE.b e_int))))))))) (s_one (s_ret e_bl)) s_nil) (s_cons (s_if (t_cmp (op_neD hr.units) does_ne (EE.b (x_abs T.n_abs (EE.b (x_sub (EE.b (x_mul (EE.b (x_ix (EE.b (ev 3)) (EE.b (ev 6)))) (EE.b (x_ix (EE.b (ev 2)) (EE.b (x_sub (EE.b (ev 6)) (EE.b e_int))))))) (EE.b (x_mul (EE.b (x_ix (EE.b (ev 3)) (EE.b (x_sub (EE.b (ev 6)) (EE.b e_int))))) (EE.b (x_ix (EE.b (ev 2)) (EE.b (ev 6)))))))))) (EE.b e_int)) (s_one (s_ret e_bl)) s_nil) (s_one (s_if (EW.toT (w_and (t_cmp op_gt does_gt (EE.b (ev 6)) (EE.b e_int)) (w_and1 (t_cmp op_gt does_gt (EE.b (x_mod (EE.b (x_int T.n_int (EE.b (x_sub (EE.b (x_ix (EE.b (ev 2)) (EE.b (ev 6)))) (EE.b (x_ix (EE.b (ev 2)) (EE.b (x_sub (EE.b (ev 6)) (EE.b e_int))))))))) (EE.b (x_ix (EE.b (ev 2)) (EE.b (x_sub (EE.b (ev 6)) (EE.b e_int))))))) (EE.b e_int))))) (s_one (s_ret e_bl)) s_nil))))) (s_cons (s_set 7 (x_ix (EE.b (ev 2)) (EE.b (x_sub (EE.b (x_len T.n_len (EE.b (ev 2)))) (EE.b e_int)))) S.nd) (s_one (s_ret (x_all rfl T.n_all (EN.b (m_lc (own := [("n", 4)]) rfl S.nd (EI.c (i_rng2 rfl T.n_range (a_cons e_int (a_cons (x_add (EE.b (ev 1)) (EE.b e_int)) a_nil)))) (by kernel_rfl) (fun s_ H_ C_ cl_ fp_ => (t_name 4 S.nd)) (fun s_ H_ C_ cl_ fp_ => (k_one (t_cmp (op_neD hr.units) does_ne (EE.b (ev 4)) (EE.b (ev 7))))) (fun s_ H_ C_ cl_ fp_ => (e_cmp (op_eqD hr.units) does_eq (EE.b (d_def (ok_compare_errors T) (hr.mono (by decide)) T.m_compare_errors T.F_compare_errors.kp (bi_compare_errors T) (a_cons (ev 0) (a_cons (ev 7) (a_cons (ev 4) a_nil))))) (EE.b (v_neg e_int)))))))))))))⟩
theorem ok__law_is_int (T : Txt K mg) : FnOk P w K mg base CX0 1 T.a__law_is_int T.d__law_is_int ps__law_is_int (spP K 1 sem__law_is_int) := def_ok T.F__law_is_int sc__law_is_int fun cdv A outer s H E hr => ⟨_, by
    have S := sc__law_is_int
    exact (s_one (s_ret (v_and (x_isi "int" T.n_isinstance (EE.b (ev 0)) bo_int T.n_int) (v_one (v_not (x_isi "bool" T.n_isinstance (EE.b (ev 0)) bo_bool T.n_bool))))))⟩
theorem ok__law_like (T : Txt K mg) : ∀ n : Nat, FnOk P w K mg base CX0 (1 + n) T.a__law_like T.d__law_like ps__law_like (spP K 2 (sem__law_like n))
  | 0 => fn_never
  | n + 1 => def_ok T.F__law_like sc__law_like fun cdv A outer s H E hr => ⟨_, by
    have IH : FnOk P w K mg base CX0 (1 + n) T.a__law_like T.d__law_like ps__law_like (spP K 2 (sem__law_like n)) := ok__law_like T n
    have S := sc__law_like
    exact (s_cons (s_if (t_cmp (op_isN.or op_is_bl) does_is (EE.b (ev 1)) (EE.b e_non)) (s_one (s_ret (e_cmp (op_isN.or op_is_bl) does_is (EE.b (ev 0)) (EE.b e_non)))) s_nil) (s_cons (s_if (t_tru (EE.b (x_isi "bool" T.n_isinstance (EE.b (ev 1)) bo_bool T.n_bool))) (s_one (s_ret (v_and (x_isi "bool" T.n_isinstance (EE.b (ev 0)) bo_bool T.n_bool) (v_one (e_cmp (op_eqD hr.units) does_eq (EE.b (ev 0)) (EE.b (ev 1))))))) s_nil) (s_cons (s_if (t_tru (EE.b (x_isi "tuple" T.n_isinstance (EE.b (ev 1)) bo_tuple T.n_tuple))) (s_cons (s_if (EW.toT (w_or (t_not (t_tru (EE.b (x_isi "tuple" T.n_isinstance (EE.b (ev 0)) bo_tuple T.n_tuple)))) (w_or1 (t_cmp (op_neD hr.units) does_ne (EE.b (x_len T.n_len (EE.b (ev 0)))) (EE.b (x_len T.n_len (EE.b (ev 1)))))))) (s_one (s_ret e_bl)) s_nil) (s_one (s_ret (x_all rfl T.n_all (EN.b (m_lc (own := [("k", 2)]) rfl S.nd (EI.c (i_rng1 rfl T.n_range (a_cons (x_len T.n_len (EE.b (ev 1))) a_nil))) (by kernel_rfl) (fun s_ H_ C_ cl_ fp_ => (t_name 2 S.nd)) (fun s_ H_ C_ cl_ fp_ => k_nil) (fun s_ H_ C_ cl_ fp_ => (d_def IH hr T.m__law_like T.F__law_like.kp (bi__law_like T) (a_cons (x_ix (EE.b (ev 0)) (EE.b (ev 2))) (a_cons (x_ix (EE.b (ev 1)) (EE.b (ev 2))) a_nil)))))))))) s_nil) (s_cons (s_if (t_tru (EE.b (x_isi "str" T.n_isinstance (EE.b (ev 1)) bo_str T.n_str))) (s_one (s_ret (v_and (x_isi "str" T.n_isinstance (EE.b (ev 0)) bo_str T.n_str) (v_one (e_cmp (op_eqD hr.units) does_eq (EE.b (ev 0)) (EE.b (ev 1))))))) s_nil) (s_one (s_ret (v_and (d_def (ok__law_is_int T) (hr.mono (Nat.le_trans (by decide : 1 ≤ 1) (Nat.le_add_right _ _))) T.m__law_is_int T.F__law_is_int.kp (bi__law_is_int T) (a_cons (ev 0) a_nil)) (v_one (e_cmp (op_eqD hr.units) does_eq (EE.b (ev 0)) (EE.b (ev 1)))))))))))⟩
theorem ok_sent (T : Txt K mg) : FnOk P w K mg base CX0 1 T.a_sent T.d_sent ps_sent (spP K 2 sem_sent) := def_ok T.F_sent sc_sent fun cdv A outer s H E hr => ⟨_, by
    have S := sc_sent
    exact (s_one (s_ret (x_sum rfl T.n_sum (EN.b (m_lc (own := [("step", 2), ("power", 3)]) rfl S.nd (EI.c (i_zip T.n_zip (ev 0) (ev 1))) (by kernel_rfl) (fun s_ H_ C_ cl_ fp_ => (t_tup rfl (ts_cons (t_name 2 S.nd) (ts_cons (t_name 3 S.nd) ts_nil)))) (fun s_ H_ C_ cl_ fp_ => k_nil) (fun s_ H_ C_ cl_ fp_ => (x_mul (EE.b (ev 2)) (EE.b (ev 3)))))))))⟩
theorem ok__law_map_right (T : Txt K mg) : FnOk P w K mg base CX0 5 T.a__law_map_right T.d__law_map_right ps__law_map_right (spP K 2 sem__law_map_right) := def_ok T.F__law_map_right sc__law_map_right fun cdv A outer s H E hr => ⟨_, by
    have S := sc__law_map_right
    exact (s_cons (s_set 2 (d_def (ok_nearest_map T) (hr.mono (by decide)) T.m_nearest_map T.F_nearest_map.kp (bi_nearest_map T) (a_cons (ev 1) (a_cons (d_tup (a_cons e_int (a_cons (ev 0) a_nil))) a_nil))) S.nd) (s_cons (s_if (EW.toT (w_or (t_not (t_tru (EE.b (x_isi "tuple" T.n_isinstance (EE.b (ev 2)) bo_tuple T.n_tuple)))) (w_or (t_cmp (op_neD hr.units) does_ne (EE.b (x_len T.n_len (EE.b (ev 2)))) (EE.b e_int)) (w_or (t_not (t_tru (EE.b (d_def (ok__law_is_int T) (hr.mono (by decide)) T.m__law_is_int T.F__law_is_int.kp (bi__law_is_int T) (a_cons (x_ix (EE.b (ev 2)) (EE.b e_int)) a_nil))))) (w_or1 (t_not (t_tru (EE.b (d_def (ok__law_like T 3) (hr.mono (by decide)) T.m__law_like T.F__law_like.kp (bi__law_like T) (a_cons (x_ix (EE.b (ev 2)) (EE.b e_int)) (a_cons (ev 1) a_nil))))))))))) (s_one (s_ret e_bl)) s_nil) (s_cons (s_set 3 (d_def (ok__law_power T) (hr.mono (by decide)) T.m__law_power T.F__law_power.kp (bi__law_power T) (a_cons (ev 0) (a_cons (x_mul (EE.b e_int) (EE.b (ev 1))) a_nil))) S.nd) (s_cons (s_set 4 (d_def (ok__law_power T) (hr.mono (by decide)) T.m__law_power T.F__law_power.kp (bi__law_power T) (a_cons e_int (a_cons (x_mul (EE.b e_int) (EE.b (x_max2 rfl T.n_max (EE.b (x_ix (EE.b (ev 2)) (EE.b e_int))) (EE.b e_int)))) a_nil))) S.nd) (s_one (s_ret (v_and (e_cmp op_gt does_gt (EE.b (x_ix (EE.b (ev 2)) (EE.b e_int))) (EE.b e_int)) (v_and (e_cmp (op_lt.or (op_ltA hr.units)) does_lt (EE.b (ev 4)) (EE.b (x_mul (EE.b e_int) (EE.b (ev 3))))) (v_one (e_cmp (op_lt.or (op_ltA hr.units)) does_lt (EE.b (ev 3)) (EE.b (x_mul (EE.b e_int) (EE.b (ev 4))))))))))))))⟩
theorem ok_law (T : Txt K mg) : FnOk P w K mg base CX0 6 T.a_law T.d_law ps_law (spP K 1 sem_law) := def_ok T.F_law sc_law fun cdv A outer s H E hr => ⟨_, by
    have S := sc_law
    exact (s_cons (s_set 1 (d_def (ok__law_row T) (hr.mono (by decide)) T.m__law_row T.F__law_row.kp (bi__law_row T) (a_cons (ev 0) (a_cons e_int a_nil))) S.nd) (s_cons (s_set 2 (x_ix (EE.b (d_tup (a_cons e_int (a_cons e_int (a_cons e_int (a_cons e_int (a_cons e_int (a_cons e_int (a_cons e_int (a_cons e_int (a_cons e_int (a_cons e_int a_nil)))))))))))) (EE.b (x_mod (EE.b (x_int T.n_int (EE.b (x_ix (EE.b (ev 1)) (EE.b e_int))))) (EE.b e_int)))) S.nd) (s_cons (s_set 3 (x_add (EE.b e_int) (EE.b (x_mod (EE.b (x_int T.n_int (EE.b (x_ix (EE.b (ev 1)) (EE.b e_int))))) (EE.b e_int)))) S.nd) (s_cons (s_if (t_cmp op_gt does_gt (EE.b (x_mod (EE.b (x_int T.n_int (EE.b (x_ix (EE.b (ev 1)) (EE.b e_int))))) (EE.b e_int))) (EE.b e_int)) (s_one (s_set 3 (x_add (EE.b e_int) (EE.b (x_mod (EE.b (x_int T.n_int (EE.b (x_ix (EE.b (ev 1)) (EE.b e_int))))) (EE.b e_int)))) S.nd)) s_nil) (s_cons (s_set 4 (d_def (ok_best_rounds T) (hr.mono (by decide)) T.m_best_rounds T.F_best_rounds.kp (bi_best_rounds T) (a_cons (ev 2) (a_cons (ev 3) a_nil))) S.nd) (s_cons (s_if (EW.toT (w_or (t_not (t_tru (EE.b (x_isi "tuple" T.n_isinstance (EE.b (ev 4)) bo_tuple T.n_tuple)))) (w_or (t_cmp (op_neD hr.units) does_ne (EE.b (x_sl (EE.b (ev 4)) s_no (s_at e_int))) (EE.b (d_tup (a_cons e_int a_nil)))) (w_or1 (t_cmp op_gt does_gt (EE.b (x_ix (EE.b (ev 4)) (EE.b (x_sub (EE.b (x_len T.n_len (EE.b (ev 4)))) (EE.b e_int))))) (EE.b (ev 3))))))) (s_one (s_ret e_bl)) s_nil) (s_cons (s_if (t_not (t_tru (EE.b (d_def (ok__law_rows_right T) (hr.mono (by decide)) T.m__law_rows_right T.F__law_rows_right.kp (bi__law_rows_right T) (a_cons (ev 2) (a_cons (ev 3) (a_cons (ev 4) a_nil))))))) (s_one (s_ret e_bl)) s_nil) (s_cons (s_set 5 (x_add (EE.b e_int) (EE.b (x_mod (EE.b (x_int T.n_int (EE.b (x_ix (EE.b (ev 1)) (EE.b e_int))))) (EE.b (ev 3))))) S.nd) (s_cons (s_if (t_not (t_tru (EE.b (d_def (ok__law_like T 3) (hr.mono (by decide)) T.m__law_like T.F__law_like.kp (bi__law_like T) (a_cons (d_def (ok_best_rounds T) (hr.mono (by decide)) T.m_best_rounds T.F_best_rounds.kp (bi_best_rounds T) (a_cons (ev 2) (a_cons (ev 5) a_nil))) (a_cons (x_tuple T.n_tuple (EN.b (m_lc (own := [("n", 6)]) rfl S.nd (ic_any (EE.b (ev 4))) (by kernel_rfl) (fun s_ H_ C_ cl_ fp_ => (t_name 6 S.nd)) (fun s_ H_ C_ cl_ fp_ => (k_one (t_cmp op_le does_le (EE.b (ev 6)) (EE.b (ev 5))))) (fun s_ H_ C_ cl_ fp_ => (ev 6))))) a_nil)))))) (s_one (s_ret e_bl)) s_nil) (s_cons (s_asg (EN.toE (m_lc (own := [("at", 10)]) rfl S.nd (ic_any (EE.b (d_tup (a_cons e_int (a_cons e_int (a_cons e_int a_nil)))))) (by kernel_rfl) (fun s_ H_ C_ cl_ fp_ => (t_name 10 S.nd)) (fun s_ H_ C_ cl_ fp_ => k_nil) (fun s_ H_ C_ cl_ fp_ => (x_add (EE.b e_int) (EE.b (x_mod (EE.b (x_int T.n_int (EE.b (x_ix (EE.b (ev 1)) (EE.b (ev 10)))))) (EE.b e_int))))))) (t_unl rfl (ts_cons (t_name 7 S.nd) (ts_cons (t_name 8 S.nd) (ts_cons (t_name 9 S.nd) ts_nil))))) (s_cons (s_set 11 (d_tup (a_cons (d_def (ok_compare_errors T) (hr.mono (by decide)) T.m_compare_errors T.F_compare_errors.kp (bi_compare_errors T) (a_cons (ev 2) (a_cons (ev 7) (a_cons (ev 8) a_nil)))) (a_cons (d_def (ok_compare_errors T) (hr.mono (by decide)) T.m_compare_errors T.F_compare_errors.kp (bi_compare_errors T) (a_cons (ev 2) (a_cons (ev 8) (a_cons (ev 9) a_nil)))) (a_cons (d_def (ok_compare_errors T) (hr.mono (by decide)) T.m_compare_errors T.F_compare_errors.kp (bi_compare_errors T) (a_cons (ev 2) (a_cons (ev 7) (a_cons (ev 9) a_nil)))) a_nil)))) S.nd) (s_cons (s_if (t_not (t_tru (EE.b (d_def (ok__law_like T 3) (hr.mono (by decide)) T.m__law_like T.F__law_like.kp (bi__law_like T) (a_cons (d_tup (a_cons (d_def (ok_compare_errors T) (hr.mono (by decide)) T.m_compare_errors T.F_compare_errors.kp (bi_compare_errors T) (a_cons (ev 2) (a_cons (ev 8) (a_cons (ev 7) a_nil)))) (a_cons (d_def (ok_compare_errors T) (hr.mono (by decide)) T.m_compare_errors T.F_compare_errors.kp (bi_compare_errors T) (a_cons (ev 2) (a_cons (ev 7) (a_cons (ev 7) a_nil)))) a_nil))) (a_cons (d_tup (a_cons (x_sub (EE.b e_int) (EE.b (x_ix (EE.b (ev 11)) (EE.b e_int)))) (a_cons e_int a_nil))) a_nil)))))) (s_one (s_ret e_bl)) s_nil) (s_cons (s_if (EW.toT (w_or (t_cmp (op_notin_str.or ((op_notInD (hu65 hr)).or (op_notInT (hu65 hr)))) does_notIn (EE.b (x_ix (EE.b (ev 11)) (EE.b e_int))) (EE.b (d_tup (a_cons (v_neg e_int) (a_cons e_int (a_cons e_int a_nil)))))) (w_or1 (t_cmp (op_neD hr.units) does_ne (EE.b (e_cmp (op_eqD hr.units) does_eq (EE.b (x_ix (EE.b (ev 11)) (EE.b e_int))) (EE.b e_int))) (EE.b (e_cmp (op_eqD hr.units) does_eq (EE.b (ev 7)) (EE.b (ev 8)))))))) (s_one (s_ret e_bl)) s_nil) (s_cons (s_if (EW.toT (w_and (t_chain (op_eqD hr.units) (op_neD hr.units) does_eq does_ne (EE.b (x_ix (EE.b (ev 11)) (EE.b e_int))) (EE.b (x_ix (EE.b (ev 11)) (EE.b e_int))) (EE.b e_int)) (w_and1 (t_cmp (op_neD hr.units) does_ne (EE.b (x_ix (EE.b (ev 11)) (EE.b e_int))) (EE.b (x_ix (EE.b (ev 11)) (EE.b e_int))))))) (s_one (s_ret e_bl)) s_nil) (s_cons (s_set 12 (x_add (EE.b e_int) (EE.b (x_mod (EE.b (x_int T.n_int (EE.b (x_ix (EE.b (ev 1)) (EE.b e_int))))) (EE.b e_int)))) S.nd) (s_cons (s_if (EW.toT (w_or (t_not (t_tru (EE.b (d_def (ok__law_map_right T) (hr.mono (by decide)) T.m__law_map_right T.F__law_map_right.kp (bi__law_map_right T) (a_cons (ev 2) (a_cons (ev 7) a_nil)))))) (w_or1 (t_not (t_tru (EE.b (d_def (ok__law_map_right T) (hr.mono (by decide)) T.m__law_map_right T.F__law_map_right.kp (bi__law_map_right T) (a_cons (ev 2) (a_cons (ev 12) a_nil))))))))) (s_one (s_ret e_bl)) s_nil) (s_cons (s_set 13 (x_ix (EE.b (d_def (ok_nearest_map T) (hr.mono (by decide)) T.m_nearest_map T.F_nearest_map.kp (bi_nearest_map T) (a_cons (x_add (EE.b (ev 7)) (EE.b (ev 12))) (a_cons (d_tup (a_cons e_int (a_cons (ev 2) a_nil))) a_nil)))) (EE.b e_int)) S.nd) (s_cons (s_set 14 (x_add (EE.b (d_def (ok_sent T) (hr.mono (by decide)) T.m_sent T.F_sent.kp (bi_sent T) (a_cons (d_def (ok_nearest_map T) (hr.mono (by decide)) T.m_nearest_map T.F_nearest_map.kp (bi_nearest_map T) (a_cons (ev 7) (a_cons (d_tup (a_cons e_int (a_cons (ev 2) a_nil))) a_nil))) (a_cons (d_tup (a_cons e_int (a_cons e_int a_nil))) a_nil)))) (EE.b (d_def (ok_sent T) (hr.mono (by decide)) T.m_sent T.F_sent.kp (bi_sent T) (a_cons (d_def (ok_nearest_map T) (hr.mono (by decide)) T.m_nearest_map T.F_nearest_map.kp (bi_nearest_map T) (a_cons (ev 12) (a_cons (d_tup (a_cons e_int (a_cons (ev 2) a_nil))) a_nil))) (a_cons (d_tup (a_cons e_int (a_cons e_int a_nil))) a_nil))))) S.nd) (s_one (s_ret (e_cmp (op_lt.or (op_ltA hr.units)) does_lt (EE.b (x_abs T.n_abs (EE.b (x_sub (EE.b (ev 13)) (EE.b (ev 14)))))) (EE.b e_int))))))))))))))))))))))⟩
end
end L22

set_option maxRecDepth 100000
set_option maxHeartbeats 0
set_option linter.all false
/-! law 22, plain: what is reckoned, and the finite facts -/
namespace F22
def stp (p n : Nat) : Nat := (Nat.log2 (p ^ (2 * n)) + 1) / 2
def abv (p n : Nat) : Bool := Nat.blt (2 ^ stp p n) (p ^ n)
/-- the sign of t log p - s log 2, t not negative -/
def sg (p t : Nat) (s : Int) : Int := match s with
  | .negSucc _ => 1
  | .ofNat s => if Nat.blt (2 ^ s) (p ^ t) then 1 else if Nat.blt (p ^ t) (2 ^ s) then -1 else 0
def sgn (p : Nat) (t s : Int) : Int := match t with
  | .negSucc m => - sg p (m + 1) (-s)
  | .ofNat t => sg p t s
def eT (p n : Nat) : Int := if abv p n then n else -(n : Int)
def eS (p n : Nat) : Int := if abv p n then stp p n else -(stp p n : Int)
def cmp (p a b : Nat) : Int := sgn p (eT p a - eT p b) (eS p a - eS p b)
def ps : List Nat := [3, 5, 7, 11, 13, 17, 19, 23, 29, 31]
def lst (f : List Nat) : Nat := f.getD (f.length - 1) 0
def grow (p : Nat) (f : List Nat) (n : Nat) : List Nat := if cmp p n (lst f) < 0 then f ++ [n] else f
def best (p most : Nat) : List Nat := ((List.range (most - 1)).map (· + 2)).foldl (grow p) [1]
def stepOk (p : Nat) (f : List Nat) (k : Nat) : Bool :=
  let a := f.getD (k + 1) 0
  let b := f.getD k 0
  (cmp p a b == -1) && (abv p a != abv p b) && (((stp p a : Int) * b - (stp p b : Int) * a).natAbs == 1) && Nat.blt 0 b && (k == 0 || (Nat.ble (f.getD (k - 1) 0) a && (a - f.getD (k - 1) 0) % b == 0))
/-- the whole lists -/
def whole (p : Nat) : List Nat := if p = 3 then [1, 2, 5, 12, 41, 53] else if p = 5 then [1, 3, 28, 59] else if p = 7 then [1, 5, 26] else if p = 11 then [1, 2, 11, 13, 24, 37] else if p = 13 then [1, 3, 7, 10]
  else if p = 17 then [1, 11, 23, 80] else if p = 19 then [1, 4] else if p = 23 then [1, 2, 21] else if p = 29 then [1, 7] else [1, 21, 22]
def upto (p m : Nat) : List Nat := (whole p).filter (Nat.ble · m)
theorem c0 : (ps.all fun p => (upto p 1 == [1]) && (List.range 100).all fun m => grow p (upto p (m + 1)) (m + 2) == upto p (m + 2)) = true := by decide +kernel
theorem c1 : (ps.all fun p => (List.range ((whole p).length - 1)).all (stepOk p (whole p))) = true := by decide +kernel
/-- each record beats all below the next one -/
theorem c2 : (ps.all fun p => (List.range (whole p).length).all fun k => (List.range ((whole p ++ [101]).getD (k + 1) 0 - 1)).all fun i => i + 1 == (whole p).getD k 0 || cmp p ((whole p).getD k 0) (i + 1) == -1) = true := by decide +kernel
theorem c2b : (ps.all fun p => (List.range 100).all fun m => (List.range (whole p).length).any fun k => (upto p (m + 1) == (whole p).take (k + 1)) && Nat.ble ((whole p).getD k 0) (m + 1) && Nat.blt (m + 1) ((whole p ++ [101]).getD (k + 1) 0)) = true := by decide +kernel
theorem c4 : (ps.all fun p => (List.range 100).all fun n => Nat.blt 0 (stp p (n + 1)) && Nat.blt (2 ^ (2 * stp p (n + 1))) (2 * p ^ (2 * (n + 1))) && Nat.blt (p ^ (2 * (n + 1))) (2 * 2 ^ (2 * stp p (n + 1)))) = true := by decide +kernel
theorem c6 : (ps.all fun p => (List.range 101).all fun n => Nat.ble (stp p n) 1000) = true := by decide +kernel
/-- the places of 1 .. 60 by nearness -/
def rk (p : Nat) : List Nat := if p = 3 then [49, 20, 29, 40, 8, 58, 11, 37, 32, 17, 52, 2, 46, 23, 26, 43, 5, 55, 14, 35, 34, 15, 54, 4, 44, 25, 24, 45, 3, 53, 16, 33, 36, 13, 56, 6, 42, 27, 22, 47, 1, 51, 18, 31, 38, 10, 59, 9, 39, 30, 19, 50, 0, 48, 21, 28, 41, 7, 57, 12] else if p = 5 then [38, 43, 4, 33, 47, 8, 29, 51, 12, 25, 55, 16, 21, 59, 20, 17, 56, 24, 13, 52, 28, 9, 48, 32, 5, 44, 36, 1, 40, 41, 2, 35, 45, 6, 31, 49, 10, 27, 53, 14, 23, 57, 18, 19, 58, 22, 15, 54, 26, 11, 50, 30, 7, 46, 34, 3, 42, 39, 0, 37] else if p = 7 then [22, 45, 50, 27, 4, 17, 40, 55, 31, 8, 13, 36, 59, 35, 12, 9, 32, 56, 39, 16, 5, 28, 51, 44, 21, 0, 23, 46, 49, 26, 3, 18, 41, 54, 30, 7, 14, 37, 58, 34, 11, 10, 33, 57, 38, 15, 6, 29, 52, 43, 20, 1, 24, 47, 48, 25, 2, 19, 42, 53] else if p = 11 then [55, 8, 45, 18, 35, 28, 25, 38, 15, 48, 5, 58, 2, 51, 12, 41, 22, 31, 32, 21, 42, 11, 52, 1, 57, 6, 47, 16, 37, 26, 27, 36, 17, 46, 7, 56, 0, 54, 9, 44, 19, 34, 29, 24, 39, 14, 49, 4, 59, 3, 50, 13, 40, 23, 30, 33, 20, 43, 10, 53] else if p = 13 then [35, 48, 12, 23, 59, 24, 11, 47, 36, 0, 34, 49, 13, 22, 58, 25, 10, 46, 37, 1, 33, 50, 14, 21, 57, 26, 9, 45, 38, 2, 32, 51, 15, 20, 56, 27, 8, 44, 39, 3, 31, 52, 16, 19, 55, 28, 7, 43, 40, 4, 30, 53, 17, 18, 54, 29, 6, 42, 41, 5] else if p = 17 then [10, 21, 32, 42, 52, 57, 47, 37, 26, 15, 4, 5, 16, 27, 38, 48, 58, 51, 41, 31, 20, 9, 0, 11, 22, 33, 43, 53, 56, 46, 36, 25, 14, 3, 6, 17, 28, 39, 49, 59, 50, 40, 29, 18, 7, 2, 13, 24, 35, 45, 55, 54, 44, 34, 23, 12, 1, 8, 19, 30] else if p = 19 then [29, 59, 30, 0, 28, 58, 31, 1, 27, 57, 32, 2, 26, 56, 33, 3, 25, 55, 34, 4, 24, 54, 35, 5, 23, 53, 36, 6, 22, 52, 37, 7, 21, 51, 38, 8, 20, 50, 39, 9, 19, 49, 40, 10, 18, 48, 41, 11, 17, 47, 42, 12, 16, 46, 43, 13, 15, 45, 44, 14] else if p = 23 then [57, 4, 52, 9, 46, 15, 40, 21, 34, 27, 28, 33, 22, 39, 16, 45, 10, 51, 5, 56, 0, 58, 3, 53, 8, 47, 14, 41, 20, 35, 26, 29, 32, 23, 38, 17, 44, 11, 50, 6, 55, 1, 59, 2, 54, 7, 48, 13, 42, 19, 36, 25, 30, 31, 24, 37, 18, 43, 12, 49] else if p = 29 then [16, 33, 50, 51, 34, 17, 0, 15, 32, 49, 52, 35, 18, 1, 14, 31, 48, 53, 36, 19, 2, 13, 30, 47, 54, 37, 20, 3, 12, 29, 46, 55, 38, 21, 4, 11, 28, 45, 56, 39, 22, 5, 10, 27, 44, 57, 40, 23, 6, 9, 26, 43, 58, 41, 24, 7, 8, 25, 42, 59] else if p = 31 then [4, 9, 14, 19, 24, 30, 36, 42, 48, 54, 59, 53, 47, 41, 35, 29, 23, 18, 13, 8, 3, 0, 5, 10, 15, 20, 25, 31, 37, 43, 49, 55, 58, 52, 46, 40, 34, 28, 22, 17, 12, 7, 2, 1, 6, 11, 16, 21, 26, 32, 38, 44, 50, 56, 57, 51, 45, 39, 33, 27] else []
def sign (a b : Nat) : Int := if Nat.blt a b then -1 else if Nat.blt b a then 1 else 0
def rkOk (p : Nat) : Bool := (List.range 60).all fun a => (List.range 60).all fun b => cmp p (a + 1) (b + 1) == sign ((rk p).getD a 0) ((rk p).getD b 0)
def rkNo (p : Nat) : Bool := (List.range 60).all fun a => (List.range 60).all fun b => a == b || (rk p).getD a 0 != (rk p).getD b 0
theorem c7 : (ps.all rkNo) = true := by decide +kernel
theorem c3_3 : rkOk 3 = true := by decide +kernel
theorem c3_5 : rkOk 5 = true := by decide +kernel
theorem c3_7 : rkOk 7 = true := by decide +kernel
theorem c3_11 : rkOk 11 = true := by decide +kernel
theorem c3_13 : rkOk 13 = true := by decide +kernel
theorem c3_17 : rkOk 17 = true := by decide +kernel
theorem c3_19 : rkOk 19 = true := by decide +kernel
theorem c3_23 : rkOk 23 = true := by decide +kernel
theorem c3_29 : rkOk 29 = true := by decide +kernel
theorem c3_31 : rkOk 31 = true := by decide +kernel
theorem c3 : ∀ p ∈ ps, rkOk p = true := by
  intro p h
  simp only [ps, List.mem_cons, List.not_mem_nil, or_false] at h
  rcases h with rfl | rfl | rfl | rfl | rfl | rfl | rfl | rfl | rfl | rfl
  · exact c3_3
  · exact c3_5
  · exact c3_7
  · exact c3_11
  · exact c3_13
  · exact c3_17
  · exact c3_19
  · exact c3_23
  · exact c3_29
  · exact c3_31
end F22

set_option Elab.async false
set_option linter.all false
set_option maxRecDepth 100000
set_option maxHeartbeats 1000000
namespace L22
open PySem PySem.Spec PyProof.Rows L2 Pu F22
theorem pow_loop (a : Eg) (ha : ∀ (b t x y : Int) (s : Sl), b.natAbs < 18446744073709551616 → a [.sh (.int b), .sh (.int t), .sh (.int x), .sh (.int y)] = some (.nx [.sh (.int b), .sh (.int t), .sh (.int (x * b)), .sh (.int y)])) (b t : Int) (hb : b.natAbs < 18446744073709551616) :
    ∀ (xs : List Int) (x : Int) (s : Sl), ∃ s', forL (tN 3) a (xs.map .int) [.sh (.int b), .sh (.int t), .sh (.int x), s] = some (.nx [.sh (.int b), .sh (.int t), .sh (.int (x * b ^ xs.length)), s'])
  | [], x, s => ⟨s, by simp⟩
  | y :: xs, x, s => by
    obtain ⟨s', e⟩ := pow_loop a ha b t hb xs (x * b) (.sh (.int y))
    refine ⟨s', ?_⟩
    rw [List.map_cons, forL_cons]
    simp only [tN_at, ob_some, List.set_cons_succ, List.set_cons_zero]
    rw [ha b t x y s hb, forC_nx, e]
    rw [List.length_cons, Int.pow_succ', Int.mul_assoc]
theorem pw (b t : Int) (hb : b.natAbs < 18446744073709551616) (h1 : -4611686018427387904 ≤ t) (h2 : t < 4611686018427387904) : sem_power_of [.int b, .int t] = some (.int (b ^ t.toNat)) := by
  obtain ⟨s', e⟩ := pow_loop (augS 2 mulI (vr 0)) (fun b t x y s hb => by
    have e : mulI (.int x) (.int b) = some (.int (x * b)) := if_pos (by unfold mulOk; simp; omega)
    simp [e]) b t hb (ri t.toNat) 1 .no
  refine run_rt ?_
  show g_power_of [.sh (.int b), .sh (.int t), .no, .no] = _
  simp [g_power_of, h1, h2, rng0_ri]
  rw [e]
  simp
theorem lpw (b t : Int) (hb : b.natAbs < 18446744073709551616) (h1 : -4611686018427387904 ≤ t) (h2 : t < 4611686018427387904) : sem__law_power [.int b, .int t] = some (.int (b ^ t.toNat)) := by
  obtain ⟨s', e⟩ := pow_loop (setS 2 (bn mulD (vr 2) (vr 0))) (fun b t x y s hb => by
    simp [hb]) b t hb (ri t.toNat) 1 .no
  refine run_rt ?_
  show g__law_power [.sh (.int b), .sh (.int t), .no, .no] = _
  simp [g__law_power, h1, h2, rng0_ri]
  rw [e]
  simp
theorem pwN (p n : Nat) (hp : p ≤ 31) (hn : n ≤ 1000) : sem_power_of [.int p, .int n] = some (.int ((p ^ n : Nat))) := by
  rw [pw p n (by omega) (by omega) (by omega)]
  simp
theorem lpwN (p n : Nat) (hp : p ≤ 31) (hn : n ≤ 10000) : sem__law_power [.int p, .int n] = some (.int ((p ^ n : Nat))) := by
  rw [lpw p n (by omega) (by omega) (by omega)]
  simp
theorem bits_nat (z : Nat) (h : z ≠ 0) : Builtin.Int.intBits (z : Int) = Nat.log2 z + 1 := by
  unfold Builtin.Int.intBits
  have h2 : ¬ ((z : Int) == 0) = true := by simpa using h
  rw [if_neg h2]
  simp
theorem near (p n : Nat) (hp : 1 ≤ p ∧ p ≤ 31) (hn : n ≤ 200) : sem_nearest_steps [.int n, .int p] = some (.int (stp p n)) := by
  have e := pwN p (2 * n) hp.2 (by omega)
  have h0 : p ^ (2 * n) ≠ 0 := by
    have := Nat.pow_pos (n := 2 * n) (show 0 < p by omega)
    omega
  have e2 := bits_nat _ h0
  refine run_rt ?_
  show g_nearest_steps [.sh (.int n), .sh (.int p), .no] = _
  rw [show ((2 * n : Nat) : Int) = 2 * (n : Int) by omega] at e
  have e3 : stp p n = (Nat.log2 (p ^ (2 * n)) + 1) / 2 := rfl
  rw [e3]
  generalize p ^ (2 * n) = z at *
  have e4 : ((z.log2 + 1 : Nat) : Int).fdiv 2 = (((z.log2 + 1) / 2 : Nat) : Int) := by
    rw [Int.fdiv_eq_ediv_of_nonneg _ (by omega)]; omega
  simp [g_nearest_steps, e, e2]
  simpa using e4
theorem stp_le {p n : Nat} (hp : p ∈ ps) (hn : n ≤ 100) : stp p n ≤ 1000 := by
  have := c6
  simp only [List.all_eq_true, List.mem_range] at this
  exact Nat.le_of_ble_eq_true (this p hp n (by omega))
theorem ps_le {p : Nat} (hp : p ∈ ps) : 3 ≤ p ∧ p ≤ 31 := by
  simp only [ps, List.mem_cons, List.not_mem_nil, or_false] at hp
  omega
theorem shl1 (s : Nat) (h : s ≤ 1000000) : shlD (.int 1) (.int s) = some (.int ((2 ^ s : Nat))) := by
  rw [shlD_i (by unfold powOk; simp; omega)]
  simp
theorem err {p n : Nat} (hp : p ∈ ps) (hn : n ≤ 100) : sem_error_of [.int n, .int p] = some (.tuple [.int (eT p n), .int (eS p n)]) := by
  have h1 := ps_le hp
  have h2 := stp_le hp hn
  have e1 := near p n (by omega) (by omega)
  have e2 := pwN p n h1.2 (by omega)
  have e3 := shl1 (stp p n) (by omega)
  refine run_rt ?_
  show g_error_of [.sh (.int n), .sh (.int p), .no] = _
  have hb : abv p n = decide (((2 ^ stp p n : Nat) : Int) < ((p ^ n : Nat) : Int)) := by
    unfold abv
    rw [Bool.eq_iff_iff]
    simp only [decide_eq_true_eq, Nat.blt_eq]
    omega
  unfold eT eS
  rw [hb]
  generalize stp p n = s at *
  generalize ((2 ^ s : Nat) : Int) = u at *
  generalize ((p ^ n : Nat) : Int) = v at *
  by_cases c : u < v <;> simp [g_error_of, e1, e2, e3, c]
theorem sg_pos {p t : Nat} {s : Int} (hp : p ∈ ps) (ht : t ≤ 1000) (hs : s ≤ 10000) (n : Nat) : sem_sign_of (n + 1) [.int p, .int t, .int s] = some (.int (sg p t s)) := by
  have h1 := ps_le hp
  refine run_rt ?_
  show g_sign_of _ [.sh (.int p), .sh (.int t), .sh (.int s), .no, .no] = _
  have ht0 : ¬ ((t : Int) < 0) := by omega
  cases s with
  | negSucc m => simp [g_sign_of, ht0, Int.negSucc_lt_zero, sg]
  | ofNat s =>
    have hs0 : ¬ ((s : Int) < 0) := by omega
    have e2 := pwN p t h1.2 ht
    have e3 := shl1 s (by have : (s : Int) ≤ 10000 := hs; omega)
    have hb : sg p t (Int.ofNat s) = b2i (decide (((2 ^ s : Nat) : Int) < ((p ^ t : Nat) : Int))) - b2i (decide (((p ^ t : Nat) : Int) < ((2 ^ s : Nat) : Int))) := by
      show (if Nat.blt (2 ^ s) (p ^ t) then (1 : Int) else if Nat.blt (p ^ t) (2 ^ s) then -1 else 0) = _
      simp only [Nat.blt_eq]
      generalize (2 ^ s) = u
      generalize (p ^ t) = v
      by_cases c1 : u < v
      · rw [if_pos c1, decide_eq_true (show (u : Int) < v by omega), decide_eq_false (show ¬ (v : Int) < u by omega)]; rfl
      · rw [if_neg c1, decide_eq_false (show ¬ (u : Int) < v by omega)]
        by_cases c2 : v < u
        · rw [if_pos c2, decide_eq_true (show (v : Int) < u by omega)]; rfl
        · rw [if_neg c2, decide_eq_false (show ¬ (v : Int) < u by omega)]; rfl
    rw [hb]
    generalize ((2 ^ s : Nat) : Int) = u at *
    generalize ((p ^ t : Nat) : Int) = v at *
    simp [g_sign_of, ht0, hs0, e2, e3]
theorem sgn_ok {p : Nat} {t s : Int} (hp : p ∈ ps) (ht : t.natAbs ≤ 1000) (hs : s.natAbs ≤ 10000) : sem_sign_of 2 [.int p, .int t, .int s] = some (.int (sgn p t s)) := by
  cases t with
  | ofNat t => exact sg_pos hp (by simpa using ht) (by omega) 1
  | negSucc m =>
    have e := sg_pos (t := m + 1) (s := -s) hp (by simpa using ht) (by omega) 0
    have e0 : ((m + 1 : Nat) : Int) = (m : Int) + 1 := by omega
    rw [e0, Nat.zero_add] at e
    refine run_rt ?_
    show g_sign_of _ [.sh (.int p), .sh (.int (Int.negSucc m)), .sh (.int s), .no, .no] = _
    have h0 : Int.negSucc m < 0 := Int.negSucc_lt_zero m
    simp [g_sign_of, h0, e, sgn]
theorem cmp_ok {p a b : Nat} (hp : p ∈ ps) (ha : a ≤ 100) (hb : b ≤ 100) : sem_compare_errors [.int p, .int a, .int b] = some (.int (cmp p a b)) := by
  have e1 := err hp ha
  have e2 := err hp hb
  have h1 := stp_le hp ha
  have h2 := stp_le hp hb
  have e3 : sem_sign_of 2 [.int p, .int (eT p a - eT p b), .int (eS p a - eS p b)] = some (.int (cmp p a b)) := sgn_ok hp (by unfold eT; split <;> split <;> omega) (by unfold eS; split <;> split <;> omega)
  refine run_rt ?_
  show g_compare_errors [.sh (.int p), .sh (.int a), .sh (.int b), .no, .no] = _
  generalize eT p a = ta at *
  generalize eT p b = tb at *
  generalize eS p a = sa at *
  generalize eS p b = sb at *
  have i0 : ∀ x y : Int, atI [PyData.int x, .int y] 0 = some (.int x) := fun x y => rfl
  have i1 : ∀ x y : Int, atI [PyData.int x, .int y] 1 = some (.int y) := fun x y => rfl
  simp [g_compare_errors, e1, e2, e3, i0, i1]

/-! the records -/
theorem lst_at {f : List Nat} (h : f ≠ []) : atI (nts f) (-1) = some (.int (lst f)) := by
  have hp : 0 < f.length := List.length_pos_iff.mpr h
  refine atI_last ?_
  rw [nts_len]
  unfold nts lst
  rw [List.getElem?_map, List.getElem?_eq_getElem (by omega), List.getD_eq_getElem?_getD, List.getElem?_eq_getElem (by omega)]
  rfl
theorem lst_mem {f : List Nat} (h : f ≠ []) : lst f ∈ f := by
  have hp : 0 < f.length := List.length_pos_iff.mpr h
  unfold lst
  rw [List.getD_eq_getElem?_getD, List.getElem?_eq_getElem (by omega)]
  exact List.getElem_mem _
theorem best_ok {p most : Nat} (hp : p ∈ ps) (h1 : 1 ≤ most) (hm : most ≤ 100) : sem_best_rounds [.int p, .int most] = some (.tuple (nts (best p most))) := by
  have loop := for_fold (t := tN 3) (a := ifS (ts boolOf (bn ltD (ap sem_compare_errors (cs (vr 0) (cs (vr 3) (cs (bn ixD (vb 2) (un negD (cst (.int 1)))) nl)))) (cst (.int 0)))) (appS 2 (vr 3)) nxt)
    (enc := fun (n : Nat) => PyData.int n) (E := fun (f : List Nat) u => [.sh (.int p), .sh (.int most), .ow (.list (nts f)), u]) (step := grow p) (v := fun n => .sh (.int n)) (I := fun k f => f ≠ [] ∧ (∀ n ∈ f, n ≤ 100) ∧ f.length ≤ k + 1)
    ((List.range (most - 1)).map (2 + ·)) 100 0 [1] .no (by simp; omega) (by
      intro n hn k f u hk ⟨hf, hle, hl⟩
      have hn : n ≤ 100 := by
        obtain ⟨i, hi, rfl⟩ := List.mem_map.mp hn
        have := List.mem_range.mp hi
        omega
      have e1 := lst_at hf
      have e2 := cmp_ok (b := lst f) hp hn (hle _ (lst_mem hf))
      unfold grow
      constructor
      · by_cases c : cmp p n (lst f) < 0
        · have hl' : f.length < 16777216 := by omega
          rw [if_pos c]
          have e3 : nts (f ++ [n]) = nts f ++ [.int n] := by unfold nts; simp
          simp [e1, e2, c, e3, hl']
        · rw [if_neg c]
          simp [e1, e2, c]
      · by_cases c : cmp p n (lst f) < 0
        · rw [if_pos c]
          refine ⟨by simp, fun m hm => ?_, by simp; omega⟩
          rcases List.mem_append.mp hm with h | h
          · exact hle m h
          · rw [List.mem_singleton.mp h]; exact hn
        · rw [if_neg c]; exact ⟨hf, hle, by omega⟩) ⟨by simp, by simp, by simp⟩
  obtain ⟨u', e, _⟩ := loop
  refine run_rt ?_
  show g_best_rounds [.sh (.int p), .sh (.int most), .no, .no] = _
  have h2 : -4611686018427387904 ≤ (most : Int) + 1 := by omega
  have h3 : (most : Int) + 1 < 4611686018427387904 := by omega
  have e4 : rng 2 ((most : Int) + 1 - 2).toNat = ((List.range (most - 1)).map (2 + ·)).map fun (i : Nat) => PyData.int i := by
    rw [show ((most : Int) + 1 - 2).toNat = most - 1 by omega]
    exact rngN 2 (most - 1)
  have e5 : ((List.range (most - 1)).map (2 + ·)).foldl (grow p) [1] = best p most := by
    unfold best
    congr 1
    exact List.map_congr_left fun i _ => Nat.add_comm ..
  rw [e5] at e
  have e6 : nts [1] = [.int 1] := rfl
  simp only [e6] at e
  simp [g_best_rounds, h2, h3, e4]
  simp only [List.map_map] at e
  rw [e]
  simp

theorem best_upto {p : Nat} (hp : p ∈ ps) : ∀ m, 1 ≤ m → m ≤ 101 → best p m = upto p m := by
  have h := c0
  simp only [List.all_eq_true, Bool.and_eq_true, List.mem_range, beq_iff_eq] at h
  obtain ⟨h0, h1⟩ := h p hp
  intro m
  induction m with
  | zero => intro h; omega
  | succ m ih =>
    intro _ hm
    by_cases c : m = 0
    · subst c; exact h0.symm
    · have ih := ih (by omega) (by omega)
      have e : best p (m + 1) = grow p (best p m) (m + 1) := by
        unfold best
        rw [show m + 1 - 1 = (m - 1) + 1 by omega, List.range_succ, List.map_append, List.foldl_append, List.map_cons, List.map_nil, List.foldl_cons, List.foldl_nil]
        congr 1
        omega
      rw [e, ih]
      have := h1 (m - 1) (by omega)
      rwa [show m - 1 + 1 = m by omega, show m - 1 + 2 = m + 1 by omega] at this
structure RowsF (p most : Nat) (f : List Nat) : Prop where
  ne : f ≠ []
  hd : f.getD 0 0 = 1
  le : ∀ n ∈ f, n ≤ most
  st : ∀ k, k + 1 < f.length → cmp p (f.getD (k + 1) 0) (f.getD k 0) = -1 ∧ abv p (f.getD (k + 1) 0) ≠ abv p (f.getD k 0) ∧ ((stp p (f.getD (k + 1) 0) : Int) * (f.getD k 0 : Nat) - (stp p (f.getD k 0) : Int) * (f.getD (k + 1) 0 : Nat)).natAbs = 1 ∧ 0 < f.getD k 0 ∧ (k = 0 ∨ (f.getD (k - 1) 0 ≤ f.getD (k + 1) 0 ∧ (f.getD (k + 1) 0 - f.getD (k - 1) 0) % f.getD k 0 = 0))
  la : ∀ n, 1 ≤ n → n ≤ most → n ≠ lst f → cmp p (lst f) n = -1
theorem getD_take {f : List Nat} {k i : Nat} (h : i < k) : (f.take k).getD i 0 = f.getD i 0 := by
  rw [List.getD_eq_getElem?_getD, List.getD_eq_getElem?_getD, List.getElem?_take_of_lt h]
theorem rowsF {p m : Nat} (hp : p ∈ ps) (h1 : 1 ≤ m) (hm : m ≤ 100) : RowsF p m (upto p m) := by
  have a1 := c1
  have a2 := c2
  have a3 := c2b
  simp only [List.all_eq_true, List.any_eq_true, Bool.and_eq_true, Bool.or_eq_true, List.mem_range, beq_iff_eq, Nat.blt_eq, Nat.ble_eq] at a1 a2 a3
  have b1 := a1 p hp
  have b2 := a2 p hp
  obtain ⟨k0, hk0, ⟨hf, hle⟩, hlt⟩ := a3 p hp (m - 1) (by omega)
  rw [show m - 1 + 1 = m by omega] at hf hle hlt
  have hlen : (upto p m).length = k0 + 1 := by rw [hf, List.length_take]; omega
  have hl : lst (upto p m) = (whole p).getD k0 0 := by
    unfold lst
    rw [hlen, hf, getD_take (by omega)]
    rfl
  refine ⟨fun e => by rw [e] at hlen; simp at hlen, ?_, fun n hn => ?_, fun k hk => ?_, fun n n1 n2 n3 => ?_⟩
  · rw [hf, getD_take (by omega)]
    have : ∀ p ∈ ps, (whole p).getD 0 0 = 1 := by decide
    exact this p hp
  · unfold upto at hn
    exact Nat.le_of_ble_eq_true (List.mem_filter.mp hn).2
  · rw [hlen] at hk
    have z := b1 k (by omega)
    unfold stepOk at z
    simp only [Bool.and_eq_true, Bool.or_eq_true, beq_iff_eq, bne_iff_ne, Nat.blt_eq, Nat.ble_eq] at z
    rw [hf, getD_take (by omega), getD_take (by omega), getD_take (by omega)]
    obtain ⟨⟨⟨⟨z1, z2⟩, z3⟩, z4⟩, z5⟩ := z
    exact ⟨z1, z2, z3, z4, z5⟩
  · rw [hl]
    rcases b2 k0 hk0 (n - 1) (by omega) with e | e
    · exact absurd (by rw [hl]; omega) n3
    · rwa [show n - 1 + 1 = n by omega] at e
theorem map_ok {p n : Nat} (hp : p ∈ ps) (hn : n ≤ 200) : sem_nearest_map [.int n, .tuple [.int 2, .int p]] = some (.tuple [.int n, .int (stp p n)]) := by
  have h1 := ps_le hp
  have e1 := near p n (by omega) hn
  have h2 : ¬ ((p : Int) = 2) := by omega
  refine run_rt ?_
  show g_nearest_map [.sh (.int n), .sh (.tuple [.int 2, .int p]), .no] = _
  have e := lc_map (t := tN 2) (f := ifV (ts boolOf (bn eqD (vr 2) (cst (.int 2)))) (vr 0) (ap sem_nearest_steps (cs (vr 0) (cs (vr 2) nl)))) (ρ := [.sh (.int n), .sh (.tuple [.int 2, .int p]), .no]) (enc := PyData.int) (G := fun q => if q = 2 then .int n else .int (stp p n)) [2, (p : Int)] (by simp) (fun q hq => by
    simp only [List.mem_cons, List.not_mem_nil, or_false] at hq
    rcases hq with rfl | rfl
    · simp
    · simp [h2, e1])
  simp only [List.map_cons, List.map_nil, h2, if_false, if_true] at e
  simp [g_nearest_map, e]

def abD (p n : Nat) : Bool := decide (((2 ^ stp p n : Nat) : Int) < ((p ^ n : Nat) : Int))
theorem abD_eq (p n : Nat) : abD p n = abv p n := by
  unfold abv abD
  rw [Bool.eq_iff_iff]
  simp only [decide_eq_true_eq, Nat.blt_eq]
  omega
theorem getD_map' {A : Type} {g : A → D} {f : List A} {i : Nat} (h : i < f.length) (z : A) (y : D) : (f.map g).getD i y = g (f.getD i z) := by
  rw [List.getD_eq_getElem?_getD, List.getElem?_map, List.getElem?_eq_getElem h, List.getD_eq_getElem?_getD, List.getElem?_eq_getElem h]
  rfl
def lpT (g : Eg) : Prop := True
theorem rows_ok {p most : Nat} {f : List Nat} (hp : p ∈ ps) (h1 : 1 ≤ most) (hm : most ≤ 100) (F : RowsF p most f) (hfl : f.length ≤ 100) : sem__law_rows_right [.int p, .int most, .tuple (nts f)] = some (.bool true) := by
  have hq := ps_le hp
  have hlen : 0 < f.length := List.length_pos_iff.mpr F.ne
  have le100 : ∀ k, k < f.length → f.getD k 0 ≤ 100 := fun k hk => by
    have : f.getD k 0 ∈ f := by
      rw [List.getD_eq_getElem?_getD, List.getElem?_eq_getElem hk]
      exact List.getElem_mem _
    have := F.le _ this
    omega
  -- the steps
  have e1 := lc_map (t := tN 4) (f := bn ixD (ap sem_nearest_map (cs (vr 4) (cs (mkT (cs (cst (.int 2)) (cs (vr 0) nl))) nl))) (cst (.int 1))) (ρ := [.sh (.int p), .sh (.int most), .sh (.tuple (nts f)), .no, .no, .no, .no, .no]) (enc := fun (n : Nat) => PyData.int n) (G := fun n => .int (stp p n)) f (by omega) (fun n hn => by
    have := map_ok hp (n := n) (by have := F.le n hn; omega)
    have i1 : ∀ x y : Int, atI [PyData.int x, .int y] 1 = some (.int y) := fun x y => rfl
    simp [this, i1])
  have e1' : (f.map fun n => PyData.int (stp p n)) = nts (f.map (stp p)) := by unfold nts; rw [List.map_map]; rfl
  rw [e1'] at e1
  -- above
  have e2 := lc_map (t := tN 6) (f := bn gtD (ap sem__law_power (cs (vr 0) (cs (bn ixD (vr 2) (vr 6)) nl))) (ap sem__law_power (cs (cst (.int 2)) (cs (bn ixD (vr 3) (vr 6)) nl)))) (ρ := [.sh (.int p), .sh (.int most), .sh (.tuple (nts f)), .sh (.list (nts (f.map (stp p)))), .no, .no, .no, .no]) (enc := fun (n : Nat) => PyData.int n) (G := fun k => .bool (abD p (f.getD k 0))) (List.range f.length) (by simp; omega) (fun k hk => by
    have hk := List.mem_range.mp hk
    have a1 := atI_nts hk
    have a2 := atI_nts (f := f.map (stp p)) (i := k) (by simpa using hk)
    have a3 : (f.map (stp p)).getD k 0 = stp p (f.getD k 0) := by
      rw [List.getD_eq_getElem?_getD, List.getElem?_map, List.getElem?_eq_getElem hk, List.getD_eq_getElem?_getD, List.getElem?_eq_getElem hk]; rfl
    rw [a3] at a2
    have hle := le100 k hk
    have b1 := lpwN p (f.getD k 0) hq.2 (by omega)
    have b2 := lpwN 2 (stp p (f.getD k 0)) (by omega) (by have := stp_le hp hle; omega)
    have b2 : sem__law_power [.int 2, .int (stp p (f.getD k 0))] = _ := b2
    generalize f.getD k 0 = n at *
    unfold abD
    generalize stp p n = s at *
    generalize ((2 ^ s : Nat) : Int) = u at *
    generalize ((p ^ n : Nat) : Int) = v at *
    simp [a1, a2, b1, b2])
  generalize hA : ((List.range f.length).map fun k => PyData.bool (abD p (f.getD k 0))) = A at e2
  have hAt : ∀ k, k < f.length → atI A (k : Int) = some (.bool (abD p (f.getD k 0))) := fun k hk => by
    rw [← hA]
    have := atI_map (g := fun k => PyData.bool (abD p (f.getD k 0))) (f := List.range f.length) (i := k) (by simpa using hk) 0
    rw [this]
    have : (List.range f.length).getD k 0 = k := by rw [List.getD_eq_getElem?_getD, List.getElem?_range hk]; rfl
    rw [this]
  have hSt : ∀ k, k < f.length → atI (nts (f.map (stp p))) (k : Int) = some (.int (stp p (f.getD k 0))) := fun k hk => by
    have a2 := atI_nts (f := f.map (stp p)) (i := k) (by simpa using hk)
    have a3 : (f.map (stp p)).getD k 0 = stp p (f.getD k 0) := by
      rw [List.getD_eq_getElem?_getD, List.getElem?_map, List.getElem?_eq_getElem hk, List.getD_eq_getElem?_getD, List.getElem?_eq_getElem hk]; rfl
    rw [a3] at a2; exact a2
  generalize hS : nts (f.map (stp p)) = S at *
  -- the loop
  let body : Eg := (seq (ifS (orB (ts boolOf (bn neD (ap sem_compare_errors (cs (vr 0) (cs (bn ixD (vr 2) (vr 6)) (cs (bn ixD (vr 2) (bn subD (vr 6) (cst (.int 1)))) nl)))) (un negD (cst (.int 1))))) (ts boolOf (bn eqD (bn ixD (vr 5) (vr 6)) (bn ixD (vr 5) (bn subD (vr 6) (cst (.int 1))))))) (ret (cst (.bool false))) nxt) (seq (ifS (ts boolOf (bn neD (ap absD (one (bn subD (bn mulD (bn ixD (vr 3) (vr 6)) (bn ixD (vr 2) (bn subD (vr 6) (cst (.int 1))))) (bn mulD (bn ixD (vr 3) (bn subD (vr 6) (cst (.int 1)))) (bn ixD (vr 2) (vr 6)))))) (cst (.int 1)))) (ret (cst (.bool false))) nxt) (ifS (andB (ts boolOf (bn gtD (vr 6) (cst (.int 1)))) (ts boolOf (bn gtD (bn modD (ap intD (one (bn subD (bn ixD (vr 2) (vr 6)) (bn ixD (vr 2) (bn subD (vr 6) (cst (.int 2))))))) (bn ixD (vr 2) (bn subD (vr 6) (cst (.int 1))))) (cst (.int 0))))) (ret (cst (.bool false))) nxt)))
  have lp : ∃ s', True ∧ forL (tN 6) body (((List.range (f.length - 1)).map (1 + ·)).map fun (i : Nat) => PyData.int i) [.sh (.int p), .sh (.int most), .sh (.tuple (nts f)), .sh (.list S), .no, .sh (.list A), .no, .no] = some (.nx [.sh (.int p), .sh (.int most), .sh (.tuple (nts f)), .sh (.list S), .no, .sh (.list A), s', .no]) := by
    refine for_st (I := fun _ => True) (E := fun s => [.sh (.int p), .sh (.int most), .sh (.tuple (nts f)), .sh (.list S), .no, .sh (.list A), s, .no]) _ Sl.no (fun i hi s _ => ⟨.sh (.int i), trivial, .inl ?_⟩) trivial
    obtain ⟨k, hk, rfl⟩ := List.mem_map.mp hi
    have hk := List.mem_range.mp hk
    have hk1 : k + 1 < f.length := by omega
    obtain ⟨z1, z2, z3, z4, z5⟩ := F.st k hk1
    have i1 := atI_nts hk1
    have i0 := atI_nts (show k < f.length by omega)
    have t1 := hSt _ hk1
    have t0 := hSt k (by omega)
    have a1 := hAt _ hk1
    have a0 := hAt k (by omega)
    rw [abD_eq] at a1 a0
    have c := cmp_ok hp (le100 _ hk1) (le100 k (by omega))
    rw [z1] at c
    have l1 := le100 _ hk1
    have l0 := le100 k (by omega)
    have s1 := stp_le hp l1
    have s0 := stp_le hp l0
    have eK : ((k + 1 : Nat) : Int) = (k : Int) + 1 := by omega
    have eI : ((1 + k : Nat) : Int) = (k : Int) + 1 := by omega
    have eM : ∀ x : Int, x + 1 - 1 = x := fun x => by omega
    rw [eK] at i1 t1 a1
    show ob body (tN 6 (.int ((1 + k : Nat) : Int)) _) = _
    rw [eI]
    have z6 : k ≠ 0 → ∃ d : Nat, atI (nts f) ((k : Int) + 1 - 2) = some (.int (d : Nat)) ∧ d ≤ f.getD (k + 1) 0 ∧ (f.getD (k + 1) 0 - d) % f.getD k 0 = 0 := fun hk0 => by
      rcases z5 with z | ⟨z, z'⟩
      · exact absurd z hk0
      · refine ⟨f.getD (k - 1) 0, ?_, z, z'⟩
        rw [show (k : Int) + 1 - 2 = ((k - 1 : Nat) : Int) by omega]
        exact atI_nts (by omega)
    generalize f.getD (k + 1) 0 = x at *
    generalize f.getD k 0 = y at *
    generalize stp p x = sx at *
    generalize stp p y = sy at *
    generalize abv p x = ax at *
    generalize abv p y = ay at *
    have m1 : mulD (.int sx) (.int y) = some (.int ((sx : Int) * y)) := mulD_l (by omega)
    have m2 : mulD (.int sy) (.int x) = some (.int ((sy : Int) * x)) := mulD_l (by omega)
    have z3' : (if (sx : Int) * y - (sy : Int) * x < 0 then -((sx : Int) * y - (sy : Int) * x) else (sx : Int) * y - (sy : Int) * x) = 1 := by split <;> omega
    have zb : (ax == ay) = false := by cases ax <;> cases ay <;> first | rfl | exact absurd rfl z2
    have hK : 0 ≤ (k : Int) := by omega
    have hk00 : k ≠ 0 ↔ (k : Int) ≠ 0 := by omega
    rw [hk00] at z6
    clear z5 hk00 hk hk1 eK eI hi
    generalize (k : Int) = q at *
    by_cases hk0 : q = 0
    · have hp0 : ¬ (1 : Int) < q + 1 := by omega
      have hp0' : ¬ (0 : Int) < q := by omega
      simp [body, i1, i0, t1, t0, a1, a0, c, m1, m2, z3', zb, eM, hp0, hp0']
    · obtain ⟨d, d1, d2, d3⟩ := z6 hk0
      have hp1 : (1 : Int) < q + 1 := by omega
      have hp1' : (0 : Int) < q := by omega
      have hy : (y : Int) ≠ 0 := by omega
      have hy' : y ≠ 0 := by omega
      have md : ((x : Int) - d).fmod y = 0 := by
        rw [Int.fmod_eq_emod_of_nonneg _ (by omega)]
        have : ((x - d : Nat) : Int) % y = 0 := by omega
        rwa [Int.ofNat_sub d2] at this
      simp [body, i1, i0, t1, t0, a1, a0, c, m1, m2, z3', zb, eM, hp1, hp1', d1, hy, hy', md]
  obtain ⟨s', _, e3⟩ := lp
  have e4 := lc_filt (t := tN 4) (c := ts boolOf (bn neD (vr 4) (vr 7))) (f := bn eqD (ap sem_compare_errors (cs (vr 0) (cs (vr 7) (cs (vr 4) nl)))) (un negD (cst (.int 1)))) (ρ := [.sh (.int p), .sh (.int most), .sh (.tuple (nts f)), .sh (.list S), .no, .sh (.list A), s', .sh (.int (lst f))]) (enc := fun (n : Nat) => PyData.int n) (G := fun _ => .bool true) ((List.range most).map (1 + ·)) (fun n => n != lst f) (by simp; omega) (fun n hn => by
    obtain ⟨k, hk, rfl⟩ := List.mem_map.mp hn
    have hk := List.mem_range.mp hk
    refine ⟨_, rfl, ?_, fun hq => ?_⟩
    · generalize 1 + k = n
      generalize lst f = l
      by_cases c : n = l
      · subst c; simp
      · have c' : ¬ ((n : Int) = l) := by omega
        simp [c, c']
    · have c := cmp_ok hp (a := lst f) (b := 1 + k) (le100 _ (by omega)) (by omega)
      rw [F.la (1 + k) (by omega) (by omega) (by simpa using hq)] at c
      generalize 1 + k = n at *
      simp [c])
  have e5 : rng 1 ((most : Int) + 1 - 1).toNat = ((List.range most).map (1 + ·)).map fun (i : Nat) => PyData.int i := by
    rw [show ((most : Int) + 1 - 1).toNat = most by omega]
    exact rngN 1 most
  have e6 : rng 1 ((f.length : Int) - 1).toNat = ((List.range (f.length - 1)).map (1 + ·)).map fun (i : Nat) => PyData.int i := by
    rw [show ((f.length : Int) - 1).toNat = f.length - 1 by omega]
    exact rngN 1 (f.length - 1)
  have e5' : rng 1 most = ((List.range most).map (1 + ·)).map fun (i : Nat) => PyData.int i := rngN 1 most
  have e6' : rng 1 (f.length - 1) = ((List.range (f.length - 1)).map (1 + ·)).map fun (i : Nat) => PyData.int i := rngN 1 (f.length - 1)
  have e7 : rng 0 f.length = (List.range f.length).map fun (i : Nat) => PyData.int i := rng0N _
  have e8 := Lb.all_ones (ds := ((((List.range most).map (1 + ·)).filter fun n => n != lst f).map fun (n : Nat) => PyData.int n)) (F := fun _ => PyData.bool true) fun _ _ => rfl
  rw [List.map_map] at e8
  have e8 : allD [.list (((((List.range most).map (1 + ·)).filter fun n => n != lst f).map fun _ => PyData.bool true))] = some (.bool true) := e8
  have e9 : atI (nts f) ((f.length : Int) - 1) = some (.int (lst f)) := by
    rw [show (f.length : Int) - 1 = ((f.length - 1 : Nat) : Int) by omega]
    exact atI_nts (by omega)
  have b1 : (f.length : Int) < 4611686018427387904 := by omega
  have b2 : -4611686018427387904 ≤ (f.length : Int) := by omega
  have b3 : (most : Int) + 1 < 4611686018427387904 := by omega
  have b4 : -4611686018427387904 ≤ (most : Int) + 1 := by omega
  refine run_rt ?_
  show g__law_rows_right [.sh (.int p), .sh (.int most), .sh (.tuple (nts f)), .no, .no, .no, .no, .no] = _
  have eg : g__law_rows_right = seq (setS 3 (lcS (srcOf (vr 2)) (tN 4) yes (bn ixD (ap sem_nearest_map (cs (vr 4) (cs (mkT (cs (cst (.int 2)) (cs (vr 0) nl))) nl))) (cst (.int 1))) [4])) (seq (setS 5 (lcS (rg1 (cs (ap lenD (one (vr 2))) nl)) (tN 6) yes (bn gtD (ap sem__law_power (cs (vr 0) (cs (bn ixD (vr 2) (vr 6)) nl))) (ap sem__law_power (cs (cst (.int 2)) (cs (bn ixD (vr 3) (vr 6)) nl)))) [6])) (seq (forS (rg2 (cs (cst (.int 1)) (cs (ap lenD (one (vr 2))) nl))) (tN 6) body) (seq (setS 7 (bn ixD (vr 2) (bn subD (ap lenD (one (vr 2))) (cst (.int 1))))) (ret (ap allD (one (lcS (rg2 (cs (cst (.int 1)) (cs (bn addD (vr 1) (cst (.int 1))) nl))) (tN 4) (ts boolOf (bn neD (vr 4) (vr 7))) (bn eqD (ap sem_compare_errors (cs (vr 0) (cs (vr 7) (cs (vr 4) nl)))) (un negD (cst (.int 1)))) [4]))))))) := rfl
  rw [eg]
  clear_value body
  generalize ((List.range most).map (1 + ·)) = xm at *
  generalize ((List.range (f.length - 1)).map (1 + ·)) = xf at *
  have e1 : lcK (tN 4) yes
      (bn ixD (ap sem_nearest_map (cs (vr 4) (cs (mkT (cs (cst (PyData.int 2)) (cs (vr 0) nl))) nl)))
        (cst (PyData.int 1)))
      [Sl.sh (PyData.int p), Sl.sh (PyData.int most), Sl.sh (PyData.tuple (nts f)), Sl.no, Sl.no, Sl.no, Sl.no, Sl.no]
      (some (nts f)) = some (PyData.list S) := e1
  simp [e1, e2, e3, e4, e5, e6, e5', e6', e7, e8, e9, b1, b2, b3, b4]

/-! the rest -/
theorem isInt (i : Int) : sem__law_is_int [.int i] = some (.bool true) := run_rt (by
  show g__law_is_int [.sh (.int i)] = _
  simp [g__law_is_int])
theorem likeE : sem__law_like = Lb.sem__law_like := by
  funext n
  induction n with
  | zero => rfl
  | succ n ih =>
    show Pu.run 3 (g__law_like (sem__law_like n)) = Pu.run 3 (Lb.g__law_like (Lb.sem__law_like n))
    rw [ih]; rfl
theorem like {d : D} (h : Lb.lk 3 d = true) : sem__law_like 3 [d, d] = some (.bool true) := by rw [likeE]; exact Lb.like_ok 3 d h
theorem right_ok {p n : Nat} (hp : p ∈ ps) (h1 : 1 ≤ n) (hn : n ≤ 60) : sem__law_map_right [.int p, .int n] = some (.bool true) := by
  have hq := ps_le hp
  have a := c4
  simp only [List.all_eq_true, Bool.and_eq_true, List.mem_range, Nat.blt_eq] at a
  obtain ⟨⟨a1, a2⟩, a3⟩ := a p hp (n - 1) (by omega)
  rw [show n - 1 + 1 = n by omega] at a1 a2 a3
  have e1 := map_ok hp (n := n) (by omega)
  have hs := stp_le hp (n := n) (by omega)
  have e2 := lpwN p (2 * n) hq.2 (by omega)
  have e3 := lpwN 2 (2 * stp p n) (by omega) (by omega)
  rw [show ((2 * n : Nat) : Int) = 2 * (n : Int) by omega] at e2
  rw [show ((2 * stp p n : Nat) : Int) = 2 * (stp p n : Int) by omega] at e3
  have e3 : sem__law_power [.int 2, .int (2 * (stp p n : Int))] = _ := e3
  have i0 : ∀ x y : Int, atI [PyData.int x, .int y] 0 = some (.int x) := fun x y => rfl
  have i1 : ∀ x y : Int, atI [PyData.int x, .int y] 1 = some (.int y) := fun x y => rfl
  have el := like (d := .int n) rfl
  have ei := isInt (stp p n)
  refine run_rt ?_
  show g__law_map_right [.sh (.int p), .sh (.int n), .no, .no, .no] = _
  generalize stp p n = s at *
  have em : (if (s : Int) > 0 then (s : Int) else 0) = s := if_pos (by omega)
  have em : (if (0 : Int) > s then (0 : Int) else s) = s := if_neg (by omega)
  have b1 : (0 : Int) < s := by omega
  have b2 : ((2 ^ (2 * s) : Nat) : Int) < 2 * ((p ^ (2 * n) : Nat) : Int) := by omega
  have b3 : ((p ^ (2 * n) : Nat) : Int) < 2 * ((2 ^ (2 * s) : Nat) : Int) := by omega
  generalize ((2 ^ (2 * s) : Nat) : Int) = u at *
  generalize ((p ^ (2 * n) : Nat) : Int) = v at *
  simp [g__law_map_right, e1, e2, e3, i0, i1, el, ei, em, a1, b1, b2, b3]
theorem sent_ok (a b : Int) (ha : a.natAbs < 18446744073709551616) : sem_sent [.tuple [.int a, .int b], .tuple [.int 0, .int 1]] = some (.int b) := by
  have e := lc_map (t := tT [(tN 2), (tN 3)]) (f := bn mulD (vr 2) (vr 3)) (ρ := [.sh (.tuple [.int a, .int b]), .sh (.tuple [.int 0, .int 1]), .no, .no]) (enc := fun (z : Int × Int) => PyData.tuple [.int z.1, .int z.2]) (G := fun z => .int (z.1 * z.2)) [(a, 0), (b, 1)] (by simp) (fun z hz => by
    simp only [List.mem_cons, List.not_mem_nil, or_false] at hz
    rcases hz with rfl | rfl
    · simp
    · simp)
  refine run_rt ?_
  show g_sent [.sh (.tuple [.int a, .int b]), .sh (.tuple [.int 0, .int 1]), .no, .no] = _
  have e2 : zipD [.int a, .int b] [.int 0, .int 1] = [(a, (0 : Int)), (b, 1)].map fun (z : Int × Int) => PyData.tuple [.int z.1, .int z.2] := rfl
  have e3 : sumD [.list ([(a, (0 : Int)), (b, 1)].map fun (z : Int × Int) => PyData.int (z.1 * z.2))] = some (.int b) := by
    have := sumD_map (ns := [a * 0, b * 1])
    simpa using this
  generalize ([(a, (0 : Int)), (b, 1)].map fun (z : Int × Int) => PyData.tuple [.int z.1, .int z.2]) = w at *
  generalize ([(a, (0 : Int)), (b, 1)].map fun (z : Int × Int) => PyData.int (z.1 * z.2)) = w' at *
  simp [g_sent, e, e2, e3]
/-- signs of three -/
theorem signs {p : Nat} (hp : p ∈ ps) {a b : Nat} (a1 : 1 ≤ a) (ha : a ≤ 60) (b1 : 1 ≤ b) (hb : b ≤ 60) : cmp p a b = sign ((rk p).getD (a - 1) 0) ((rk p).getD (b - 1) 0) ∧ (a ≠ b → (rk p).getD (a - 1) 0 ≠ (rk p).getD (b - 1) 0) := by
  have z := c3 p hp
  have y := c7
  simp only [rkOk, rkNo, List.all_eq_true, List.mem_range, beq_iff_eq, Bool.or_eq_true, bne_iff_ne] at z y
  have z := z (a - 1) (by omega) (b - 1) (by omega)
  have y := y p hp (a - 1) (by omega) (b - 1) (by omega)
  rw [show a - 1 + 1 = a by omega, show b - 1 + 1 = b by omega] at z
  refine ⟨z, fun n => ?_⟩
  rcases y with y | y
  · omega
  · exact y
theorem sign_of (x y : Nat) : (sign x y = -1 ∧ x < y) ∨ (sign x y = 0 ∧ x = y) ∨ (sign x y = 1 ∧ y < x) := by
  unfold sign
  simp only [Nat.blt_eq]
  split
  · omega
  · split <;> omega
/-- the near steps of a sum -/
theorem near_sum {p a b : Nat} (hp : p ∈ ps) (a1 : 1 ≤ a) (ha : a ≤ 60) (b1 : 1 ≤ b) (hb : b ≤ 40) : stp p (a + b) ≤ stp p a + stp p b + 1 ∧ stp p a + stp p b ≤ stp p (a + b) + 1 := by
  have z := c4
  simp only [List.all_eq_true, Bool.and_eq_true, List.mem_range, Nat.blt_eq] at z
  obtain ⟨⟨_, x2⟩, x3⟩ := z p hp (a - 1) (by omega)
  obtain ⟨⟨_, y2⟩, y3⟩ := z p hp (b - 1) (by omega)
  obtain ⟨⟨_, w2⟩, w3⟩ := z p hp (a + b - 1) (by omega)
  rw [show a - 1 + 1 = a by omega] at x2 x3
  rw [show b - 1 + 1 = b by omega] at y2 y3
  rw [show a + b - 1 + 1 = a + b by omega] at w2 w3
  have e : p ^ (2 * (a + b)) = p ^ (2 * a) * p ^ (2 * b) := by rw [← Nat.pow_add]; congr 1; omega
  rw [e] at w2 w3
  have f : 2 ^ (2 * stp p a) * 2 ^ (2 * stp p b) = 2 ^ (2 * (stp p a + stp p b)) := by rw [← Nat.pow_add]; congr 1; omega
  generalize p ^ (2 * a) = x at *
  generalize p ^ (2 * b) = y at *
  generalize stp p (a + b) = c at *
  generalize stp p a = sa at *
  generalize stp p b = sb at *
  have m1 : 2 ^ (2 * sa) * 2 ^ (2 * sb) < (2 * x) * (2 * y) := Nat.mul_lt_mul'' x2 y2
  have m2 : x * y < (2 * 2 ^ (2 * sa)) * (2 * 2 ^ (2 * sb)) := Nat.mul_lt_mul'' x3 y3
  have g1 : (2 * x) * (2 * y) = 4 * (x * y) := by rw [Nat.mul_mul_mul_comm]
  have g2 : (2 * 2 ^ (2 * sa)) * (2 * 2 ^ (2 * sb)) = 4 * (2 ^ (2 * sa) * 2 ^ (2 * sb)) := by rw [Nat.mul_mul_mul_comm]
  rw [f] at m1 g2
  rw [g1] at m1
  rw [g2] at m2
  have k1 : 2 ^ (2 * (sa + sb)) < 2 ^ (2 * c + 3) := by
    have : 2 ^ (2 * c + 3) = 8 * 2 ^ (2 * c) := by rw [Nat.pow_add]; omega
    omega
  have k2 : 2 ^ (2 * c) < 2 ^ (2 * (sa + sb) + 3) := by
    have : 2 ^ (2 * (sa + sb) + 3) = 8 * 2 ^ (2 * (sa + sb)) := by rw [Nat.pow_add]; omega
    omega
  have q1 := (Nat.pow_lt_pow_iff_right (by decide : 1 < 2)).mp k1
  have q2 := (Nat.pow_lt_pow_iff_right (by decide : 1 < 2)).mp k2
  omega
def lawT : Eg := (seq (setS 4 (ap sem_best_rounds (cs (vr 2) (cs (vr 3) nl)))) (seq (ifS (orB (notT (ts truD (ap (isiD "tuple") (one (vr 4))))) (orB (ts boolOf (bn neD (sl slD (vr 4) noPart (part (cst (.int 1)))) (mkT (cs (cst (.int 1)) nl)))) (ts boolOf (bn gtD (bn ixD (vr 4) (bn subD (ap lenD (one (vr 4))) (cst (.int 1)))) (vr 3))))) (ret (cst (.bool false))) nxt) (seq (ifS (notT (ts truD (ap sem__law_rows_right (cs (vr 2) (cs (vr 3) (cs (vr 4) nl)))))) (ret (cst (.bool false))) nxt) (seq (setS 5 (bn addD (cst (.int 1)) (bn modD (ap intD (one (bn ixD (vr 1) (cst (.int 2))))) (vr 3)))) (seq (ifS (notT (ts truD (ap (sem__law_like 3) (cs (ap sem_best_rounds (cs (vr 2) (cs (vr 5) nl))) (cs (ap tupD (one (lcS (srcOf (vr 4)) (tN 6) (ts boolOf (bn leD (vr 6) (vr 5))) (vr 6) [6]))) nl))))) (ret (cst (.bool false))) nxt) (seq (asgS (tU [(tN 7), (tN 8), (tN 9)]) (lcS (srcOf (mkT (cs (cst (.int 3)) (cs (cst (.int 4)) (cs (cst (.int 5)) nl))))) (tN 10) yes (bn addD (cst (.int 1)) (bn modD (ap intD (one (bn ixD (vr 1) (vr 10)))) (cst (.int 60)))) [10])) (seq (setS 11 (mkT (cs (ap sem_compare_errors (cs (vr 2) (cs (vr 7) (cs (vr 8) nl)))) (cs (ap sem_compare_errors (cs (vr 2) (cs (vr 8) (cs (vr 9) nl)))) (cs (ap sem_compare_errors (cs (vr 2) (cs (vr 7) (cs (vr 9) nl)))) nl))))) (seq (ifS (notT (ts truD (ap (sem__law_like 3) (cs (mkT (cs (ap sem_compare_errors (cs (vr 2) (cs (vr 8) (cs (vr 7) nl)))) (cs (ap sem_compare_errors (cs (vr 2) (cs (vr 7) (cs (vr 7) nl)))) nl))) (cs (mkT (cs (bn subD (cst (.int 0)) (bn ixD (vr 11) (cst (.int 0)))) (cs (cst (.int 0)) nl))) nl))))) (ret (cst (.bool false))) nxt) (seq (ifS (orB (ts boolOf (bn notInD (bn ixD (vr 11) (cst (.int 0))) (mkT (cs (un negD (cst (.int 1))) (cs (cst (.int 0)) (cs (cst (.int 1)) nl)))))) (ts boolOf (bn neD (bn eqD (bn ixD (vr 11) (cst (.int 0))) (cst (.int 0))) (bn eqD (vr 7) (vr 8))))) (ret (cst (.bool false))) nxt) (seq (ifS (andB (ts boolOf (chn eqD neD (bn ixD (vr 11) (cst (.int 0))) (bn ixD (vr 11) (cst (.int 1))) (cst (.int 0)))) (ts boolOf (bn neD (bn ixD (vr 11) (cst (.int 2))) (bn ixD (vr 11) (cst (.int 0)))))) (ret (cst (.bool false))) nxt) (seq (setS 12 (bn addD (cst (.int 1)) (bn modD (ap intD (one (bn ixD (vr 1) (cst (.int 6))))) (cst (.int 40))))) (seq (ifS (orB (notT (ts truD (ap sem__law_map_right (cs (vr 2) (cs (vr 7) nl))))) (notT (ts truD (ap sem__law_map_right (cs (vr 2) (cs (vr 12) nl)))))) (ret (cst (.bool false))) nxt) (seq (setS 13 (bn ixD (ap sem_nearest_map (cs (bn addD (vr 7) (vr 12)) (cs (mkT (cs (cst (.int 2)) (cs (vr 2) nl))) nl))) (cst (.int 1)))) (seq (setS 14 (bn addD (ap sem_sent (cs (ap sem_nearest_map (cs (vr 7) (cs (mkT (cs (cst (.int 2)) (cs (vr 2) nl))) nl))) (cs (mkT (cs (cst (.int 0)) (cs (cst (.int 1)) nl))) nl))) (ap sem_sent (cs (ap sem_nearest_map (cs (vr 12) (cs (mkT (cs (cst (.int 2)) (cs (vr 2) nl))) nl))) (cs (mkT (cs (cst (.int 0)) (cs (cst (.int 1)) nl))) nl))))) (ret (bn ltD (ap absD (one (bn subD (vr 13) (vr 14)))) (cst (.int 2))))))))))))))))))

theorem lk_nts {f : List Nat} (h : f.length ≤ 16777216) : Lb.lk 3 (.tuple (nts f)) = true := by
  unfold Lb.lk
  simp only [Bool.and_eq_true, List.all_eq_true, decide_eq_true_eq, nts_len]
  refine ⟨fun d hd => ?_, h⟩
  unfold nts at hd
  obtain ⟨n, _, rfl⟩ := List.mem_map.mp hd
  rfl
theorem notIn3 {s : Int} (h : s = -1 ∨ s = 0 ∨ s = 1) : notInD (.int s) (.tuple [.int (-1), .int 0, .int 1]) = some (.bool false) := by
  rcases h with rfl | rfl | rfl <;> rfl
theorem tail_ok (d : D) (p most : Nat) (row : List Int) (hr : row.length = 9) (hp : p ∈ ps) (h1 : 1 ≤ most) (hm : most ≤ 100) :
    lawT [.sh d, .sh (.list (row.map .int)), .sh (.int p), .sh (.int most), .no, .no, .no, .no, .no, .no, .no, .no, .no, .no, .no] = some (.rt (.bool true)) := by
  have hq := ps_le hp
  have F := rowsF hp h1 hm
  have hfl : (upto p most).length ≤ 100 := by
    have : (upto p most).length ≤ (whole p).length := List.length_filter_le ..
    have : ∀ p ∈ ps, (whole p).length ≤ 100 := by decide
    have := this p hp
    omega
  have e1 := best_ok hp h1 hm
  rw [best_upto hp most h1 (by omega)] at e1
  have e2 := rows_ok hp h1 hm F hfl
  have hlen : 0 < (upto p most).length := List.length_pos_iff.mpr F.ne
  have e3 : (nts (upto p most)).take 1 = [.int 1] := by
    have := F.hd
    revert this hlen
    cases upto p most with
    | nil => intro h; simp at h
    | cons x xs => intro _ h; simp at h; subst h; simp [nts]
  have e4 : atI (nts (upto p most)) (((upto p most).length : Int) - 1) = some (.int (lst (upto p most))) := by
    rw [show ((upto p most).length : Int) - 1 = (((upto p most).length - 1 : Nat) : Int) by omega]
    exact atI_nts (by omega)
  have e5 : ¬ ((most : Int) < (lst (upto p most) : Int)) := by
    have := F.le _ (lst_mem F.ne)
    omega
  have hrow : ∀ k : Nat, k < 9 → atI (row.map PyData.int) (k : Int) = some (.int (row.getD k 0)) := fun k hk => Lb.atI_ints (i := k) (by omega) (by omega)
  have a2 : atI (row.map PyData.int) 2 = some (.int (row.getD 2 0)) := hrow 2 (by decide)
  have a3 : atI (row.map PyData.int) 3 = some (.int (row.getD 3 0)) := hrow 3 (by decide)
  have a4 : atI (row.map PyData.int) 4 = some (.int (row.getD 4 0)) := hrow 4 (by decide)
  have a5 : atI (row.map PyData.int) 5 = some (.int (row.getD 5 0)) := hrow 5 (by decide)
  have a6 : atI (row.map PyData.int) 6 = some (.int (row.getD 6 0)) := hrow 6 (by decide)
  -- less
  have m2 := Lb.fmod_lt (a := row.getD 2 0) (b := most) (by omega)
  obtain ⟨less, hless⟩ : ∃ n : Nat, (n : Int) = 1 + (row.getD 2 0).fmod most := ⟨(1 + (row.getD 2 0).fmod most).toNat, by omega⟩
  have e6 := best_ok hp (most := less) (by omega) (by omega)
  rw [best_upto hp less (by omega) (by omega)] at e6
  have e7 := lc_filt (t := tN 6) (c := ts boolOf (bn leD (vr 6) (vr 5))) (f := vr 6) (ρ := [.sh d, .sh (.list (row.map .int)), .sh (.int p), .sh (.int most), .sh (.tuple (nts (upto p most))), .sh (.int less), .no, .no, .no, .no, .no, .no, .no, .no, .no]) (enc := fun (n : Nat) => PyData.int n) (G := fun (n : Nat) => PyData.int n) (upto p most) (fun n => Nat.ble n less) (by omega) (fun n _ => by
    refine ⟨_, rfl, ?_, fun _ => ?_⟩
    · simp
      rw [Bool.eq_iff_iff]
      simp
    · simp)
  have e8 : (upto p most).filter (fun n => Nat.ble n less) = upto p less := by
    unfold upto
    rw [List.filter_filter]
    refine List.filter_congr fun n _ => ?_
    rw [Bool.eq_iff_iff]
    simp
    omega
  rw [e8] at e7
  have e9 := like (lk_nts (f := upto p less) (by
    have : (upto p less).length ≤ (whole p).length := List.length_filter_le ..
    have : ∀ p ∈ ps, (whole p).length ≤ 100 := by decide
    have := this p hp
    omega))
  have e7' : lcK (tN 6) (ts boolOf (bn leD (vr 6) (vr 5))) (vr 6) [.sh d, .sh (.list (row.map .int)), .sh (.int p), .sh (.int most), .sh (.tuple (nts (upto p most))), .sh (.int less), .no, .no, .no, .no, .no, .no, .no, .no, .no] (some (nts (upto p most))) = some (.list (nts (upto p less))) := e7
  -- na, nb, nc
  have n3 := Lb.fmod_lt (a := row.getD 3 0) (b := 60) (by omega)
  have n4 := Lb.fmod_lt (a := row.getD 4 0) (b := 60) (by omega)
  have n5 := Lb.fmod_lt (a := row.getD 5 0) (b := 60) (by omega)
  have n6 := Lb.fmod_lt (a := row.getD 6 0) (b := 40) (by omega)
  obtain ⟨na, hone⟩ : ∃ n : Nat, (n : Int) = 1 + (row.getD 3 0).fmod 60 := ⟨(1 + (row.getD 3 0).fmod 60).toNat, by omega⟩
  obtain ⟨nb, htwo⟩ : ∃ n : Nat, (n : Int) = 1 + (row.getD 4 0).fmod 60 := ⟨(1 + (row.getD 4 0).fmod 60).toNat, by omega⟩
  obtain ⟨nc, hthree⟩ : ∃ n : Nat, (n : Int) = 1 + (row.getD 5 0).fmod 60 := ⟨(1 + (row.getD 5 0).fmod 60).toNat, by omega⟩
  obtain ⟨m, hmm⟩ : ∃ n : Nat, (n : Int) = 1 + (row.getD 6 0).fmod 40 := ⟨(1 + (row.getD 6 0).fmod 40).toNat, by omega⟩
  have f1 := lc_map (t := tN 10) (f := bn addD (cst (.int 1)) (bn modD (ap intD (one (bn ixD (vr 1) (vr 10)))) (cst (.int 60)))) (ρ := [.sh d, .sh (.list (row.map .int)), .sh (.int p), .sh (.int most), .sh (.tuple (nts (upto p most))), .sh (.int less), .no, .no, .no, .no, .no, .no, .no, .no, .no]) (enc := PyData.int) (G := fun k => .int (1 + (row.getD k.toNat 0).fmod 60)) [3, 4, 5] (by simp) (fun k hk => by
    simp only [List.mem_cons, List.not_mem_nil, or_false] at hk
    rcases hk with rfl | rfl | rfl
    · simp [a3]
    · simp [a4]
    · simp [a5])
  have f2 : ([3, 4, 5].map fun k : Int => PyData.int (1 + (row.getD k.toNat 0).fmod 60)) = [.int na, .int nb, .int nc] := by
    simp only [List.map_cons, List.map_nil]
    rw [hone, htwo, hthree]
    rfl
  rw [f2] at f1
  simp only [List.map_cons, List.map_nil] at f1
  have q1 : 1 ≤ na ∧ na ≤ 60 := by omega
  have q2 : 1 ≤ nb ∧ nb ≤ 60 := by omega
  have q3 : 1 ≤ nc ∧ nc ≤ 60 := by omega
  have q4 : 1 ≤ m ∧ m ≤ 40 := by omega
  have s12 := signs hp q1.1 q1.2 q2.1 q2.2
  have s23 := signs hp q2.1 q2.2 q3.1 q3.2
  have s13 := signs hp q1.1 q1.2 q3.1 q3.2
  have s21 := signs hp q2.1 q2.2 q1.1 q1.2
  have s11 := signs hp q1.1 q1.2 q1.1 q1.2
  have c12 := cmp_ok hp (show na ≤ 100 by omega) (show nb ≤ 100 by omega)
  have c23 := cmp_ok hp (show nb ≤ 100 by omega) (show nc ≤ 100 by omega)
  have c13 := cmp_ok hp (show na ≤ 100 by omega) (show nc ≤ 100 by omega)
  have c21 := cmp_ok hp (show nb ≤ 100 by omega) (show na ≤ 100 by omega)
  have c11 := cmp_ok hp (show na ≤ 100 by omega) (show na ≤ 100 by omega)
  have facts : cmp p nb na = - cmp p na nb ∧ cmp p na na = 0 ∧ (cmp p na nb = -1 ∨ cmp p na nb = 0 ∨ cmp p na nb = 1) ∧ (cmp p na nb = 0 ↔ na = nb) ∧ (cmp p na nb = cmp p nb nc → cmp p nb nc ≠ 0 → cmp p na nc = cmp p na nb) := by
    rw [s12.1, s23.1, s13.1, s21.1, s11.1]
    have y := s12.2
    have y2 : na = nb → (rk p).getD (na - 1) 0 = (rk p).getD (nb - 1) 0 := fun h => by rw [h]
    generalize (rk p).getD (na - 1) 0 = x1 at *
    generalize (rk p).getD (nb - 1) 0 = x2 at *
    generalize (rk p).getD (nc - 1) 0 = x3 at *
    have t1 := sign_of x1 x2
    have t2 := sign_of x2 x3
    have t3 := sign_of x1 x3
    have t4 := sign_of x2 x1
    have t5 := sign_of x1 x1
    refine ⟨by omega, by omega, by omega, ⟨fun h => ?_, fun h => ?_⟩, by omega⟩
    · by_cases c : na = nb
      · exact c
      · have := y c; omega
    · have := y2 h; omega
  obtain ⟨g1, g2, g3, g4, g5⟩ := facts
  rw [g1] at c21
  rw [g2] at c11
  generalize cmp p na nb = s0 at *
  generalize cmp p nb nc = s1 at *
  generalize cmp p na nc = s2 at *
  have l1 := like (d := .tuple [.int (-s0), .int 0]) rfl
  have r1 := right_ok hp q1.1 q1.2
  have r2 := right_ok hp q4.1 (by omega)
  have w1 := map_ok hp (n := na) (by omega)
  have w2 := map_ok hp (n := m) (by omega)
  have w3 := map_ok hp (n := na + m) (by omega)
  have w4 := sent_ok na (stp p na) (by omega)
  have w5 := sent_ok m (stp p m) (by omega)
  have w6 := near_sum hp q1.1 q1.2 q4.1 q4.2
  rw [show ((na + m : Nat) : Int) = (na : Int) + m by omega] at w3
  generalize stp p (na + m) = t3 at *
  generalize stp p na = t1 at *
  generalize stp p m = t2 at *
  have w7 : (if (t3 : Int) - (t1 + t2) < 0 then -((t3 : Int) - (t1 + t2)) else (t3 : Int) - (t1 + t2)) < 2 := by split <;> omega
  have i0 : ∀ x y : D, atI [x, y] 0 = some x := fun x y => rfl
  have i1 : ∀ x y : D, atI [x, y] 1 = some y := fun x y => rfl
  have j0 : ∀ x y z : D, atI [x, y, z] 0 = some x := fun x y z => rfl
  have j1 : ∀ x y z : D, atI [x, y, z] 1 = some y := fun x y z => rfl
  have j2 : ∀ x y z : D, atI [x, y, z] 2 = some z := fun x y z => rfl
  have k1 := notIn3 g3
  have k2 : decide (s0 = 0) = decide ((na : Int) = nb) := by
    rw [Bool.eq_iff_iff]; simp only [decide_eq_true_eq]; omega
  have k3 : neD (.tuple [.int 1]) (.tuple [.int 1]) = some (.bool false) := rfl
  have z1 : (most : Int) ≠ 0 := by omega
  rw [← nts_len (upto p most)] at e4
  generalize nts (upto p most) = fm at *
  have cut1 : cutD fm none (some 1) = fm.take 1 := cut_to (by decide)
  have z2 : most ≠ 0 := by omega
  generalize row.getD 2 0 = v2 at *
  generalize row.getD 3 0 = v3 at *
  generalize row.getD 4 0 = v4 at *
  generalize row.getD 5 0 = v5 at *
  generalize row.getD 6 0 = v6 at *
  have z3 := hless.symm
  have z4 := hmm.symm
  clear hless hmm hone htwo hthree
  by_cases c1 : s0 = s1
  · by_cases c2 : s1 = 0
    · subst c1
      subst c2
      have l0 := like (d := .tuple [.int 0, .int 0]) rfl
      have k4 := g4.mp rfl
      subst k4
      simp [lawT, l0, e1, e2, e3, e4, e5, e6, e7', e9, a2, f1, c12, c23, c13, c21, c11, l1, r1, r2, w1, w2, w3, w4, w5, w7, i0, i1, j0, j1, j2, k1, k2, k3, z1, cut1, z2, z3, z4, a6]
    · have g6 := g5 c1 c2
      subst c1
      have k4 : ¬ na = nb := fun h => c2 (g4.mpr h)
      have k5 : ¬ ((na : Int) = nb) := by omega
      simp [lawT, e1, e2, e3, e4, e5, e6, e7', e9, a2, f1, c12, c23, c13, c21, c11, l1, r1, r2, w1, w2, w3, w4, w5, w7, i0, i1, j0, j1, j2, k1, k2, k3, z1, cut1, z2, z3, z4, a6, c2, g6, k5]
  · simp [lawT, e1, e2, e3, e4, e5, e6, e7', e9, a2, f1, c12, c23, c13, c21, c11, l1, r1, r2, w1, w2, w3, w4, w5, w7, i0, i1, j0, j1, j2, k1, k2, k3, z1, cut1, z2, z3, z4, a6, c1]

theorem plain (ns : List Int) (hl : ns.length ≤ 63) : sem_law [.list (ns.map .int)] = some (.bool true) := by
  obtain ⟨row, e, hr, _⟩ := Lb.row_is ns 9 (by decide)
  have e : sem__law_row [.list (ns.map .int), .int 9] = some (.list (row.map .int)) := e
  have hrow : ∀ k : Nat, k < 9 → atI (row.map PyData.int) (k : Int) = some (.int (row.getD k 0)) := fun k hk => Lb.atI_ints (i := k) (by omega) (by omega)
  have a0 : atI (row.map PyData.int) 0 = some (.int (row.getD 0 0)) := hrow 0 (by decide)
  have a1 : atI (row.map PyData.int) 1 = some (.int (row.getD 1 0)) := hrow 1 (by decide)
  have a8 : atI (row.map PyData.int) 8 = some (.int (row.getD 8 0)) := hrow 8 (by decide)
  have n0 := Lb.fmod_lt (a := row.getD 0 0) (b := 10) (by omega)
  have n1 := Lb.fmod_lt (a := row.getD 1 0) (b := 100) (by omega)
  have n2 := Lb.fmod_lt (a := row.getD 1 0) (b := 30) (by omega)
  obtain ⟨i, hi⟩ : ∃ n : Nat, (n : Int) = (row.getD 0 0).fmod 10 := ⟨((row.getD 0 0).fmod 10).toNat, by omega⟩
  obtain ⟨ma, hma⟩ : ∃ n : Nat, (n : Int) = 1 + (row.getD 1 0).fmod 100 := ⟨(1 + (row.getD 1 0).fmod 100).toNat, by omega⟩
  obtain ⟨mb, hmb⟩ : ∃ n : Nat, (n : Int) = 1 + (row.getD 1 0).fmod 30 := ⟨(1 + (row.getD 1 0).fmod 30).toNat, by omega⟩
  have ep := atI_nts (f := ps) (i := i) (by show i < 10; omega)
  have hp : ps.getD i 0 ∈ ps := by
    rw [List.getD_eq_getElem?_getD, List.getElem?_eq_getElem (by show i < 10; omega)]
    exact List.getElem_mem _
  have ep : atI [PyData.int 3, .int 5, .int 7, .int 11, .int 13, .int 17, .int 19, .int 23, .int 29, .int 31] (i : Int) = some (.int ((ps.getD i 0 : Nat) : Int)) := ep
  generalize ps.getD i 0 = p at *
  have t1 := tail_ok (.list (ns.map .int)) p ma row hr hp (by omega) (by omega)
  have t2 := tail_ok (.list (ns.map .int)) p mb row hr hp (by omega) (by omega)
  have z0 := hi.symm
  have z1 := hma.symm
  have z2 := hmb.symm
  generalize row.getD 0 0 = v0 at *
  generalize row.getD 1 0 = v1 at *
  generalize row.getD 8 0 = v8 at *
  have eg : g_law = (seq (setS 1 (ap sem__law_row (cs (vr 0) (cs (cst (.int 9)) nl)))) (seq (setS 2 (bn ixD (mkT (cs (cst (.int 3)) (cs (cst (.int 5)) (cs (cst (.int 7)) (cs (cst (.int 11)) (cs (cst (.int 13)) (cs (cst (.int 17)) (cs (cst (.int 19)) (cs (cst (.int 23)) (cs (cst (.int 29)) (cs (cst (.int 31)) nl))))))))))) (bn modD (ap intD (one (bn ixD (vr 1) (cst (.int 0))))) (cst (.int 10))))) (seq (setS 3 (bn addD (cst (.int 1)) (bn modD (ap intD (one (bn ixD (vr 1) (cst (.int 1))))) (cst (.int 100))))) (seq (ifS (ts boolOf (bn gtD (bn modD (ap intD (one (bn ixD (vr 1) (cst (.int 8))))) (cst (.int 4))) (cst (.int 0)))) (setS 3 (bn addD (cst (.int 1)) (bn modD (ap intD (one (bn ixD (vr 1) (cst (.int 1))))) (cst (.int 30))))) nxt) lawT)))) := rfl
  refine run_rt ?_
  show g_law [.sh (.list (ns.map .int)), .no, .no, .no, .no, .no, .no, .no, .no, .no, .no, .no, .no, .no, .no] = _
  rw [eg]
  by_cases c : 0 < v8.fmod 4
  · simp [e, a0, a1, a8, ep, z0, z1, z2, c, t1, t2]
  · simp [e, a0, a1, a8, ep, z0, z1, z2, c, t1, t2]
end L22

namespace L22
open PySem PySem.Spec PyProof.Rows L2 Pu
/-! ### the head -/
def dd__law_mixed : He.DefD := ⟨("_law_mixed", none), "_law_mixed", "_law_mixed", defArgs st__law_mixed, defBody st__law_mixed, defScope st__law_mixed, [], []⟩
def dd__law_row : He.DefD := ⟨("_law_row", none), "_law_row", "_law_row", defArgs st__law_row, defBody st__law_row, defScope st__law_row, [], []⟩
def dd_power_of : He.DefD := ⟨("power_of", none), "power_of", "power_of", defArgs st_power_of, defBody st_power_of, defScope st_power_of, [], []⟩
def dd_sign_of : He.DefD := ⟨("sign_of", none), "sign_of", "sign_of", defArgs st_sign_of, defBody st_sign_of, defScope st_sign_of, [], []⟩
def dd_nearest_steps : He.DefD := ⟨("nearest_steps", none), "nearest_steps", "nearest_steps", defArgs st_nearest_steps, defBody st_nearest_steps, defScope st_nearest_steps, [], []⟩
def dd_error_of : He.DefD := ⟨("error_of", none), "error_of", "error_of", defArgs st_error_of, defBody st_error_of, defScope st_error_of, [], []⟩
def dd_compare_errors : He.DefD := ⟨("compare_errors", none), "compare_errors", "compare_errors", defArgs st_compare_errors, defBody st_compare_errors, defScope st_compare_errors, [], []⟩
def dd_best_rounds : He.DefD := ⟨("best_rounds", none), "best_rounds", "best_rounds", defArgs st_best_rounds, defBody st_best_rounds, defScope st_best_rounds, [], []⟩
def dd_nearest_map : He.DefD := ⟨("nearest_map", none), "nearest_map", "nearest_map", defArgs st_nearest_map, defBody st_nearest_map, defScope st_nearest_map, [], []⟩
def dd__law_power : He.DefD := ⟨("_law_power", none), "_law_power", "_law_power", defArgs st__law_power, defBody st__law_power, defScope st__law_power, [], []⟩
def dd__law_rows_right : He.DefD := ⟨("_law_rows_right", none), "_law_rows_right", "_law_rows_right", defArgs st__law_rows_right, defBody st__law_rows_right, defScope st__law_rows_right, [], []⟩
def dd__law_is_int : He.DefD := ⟨("_law_is_int", none), "_law_is_int", "_law_is_int", defArgs st__law_is_int, defBody st__law_is_int, defScope st__law_is_int, [], []⟩
def dd__law_like : He.DefD := ⟨("_law_like", none), "_law_like", "_law_like", defArgs st__law_like, defBody st__law_like, defScope st__law_like, [], []⟩
def dd_sent : He.DefD := ⟨("sent", none), "sent", "sent", defArgs st_sent, defBody st_sent, defScope st_sent, [], []⟩
def dd__law_map_right : He.DefD := ⟨("_law_map_right", none), "_law_map_right", "_law_map_right", defArgs st__law_map_right, defBody st__law_map_right, defScope st__law_map_right, [], []⟩
def dd_law : He.DefD := ⟨("law", none), "law", "law", defArgs st_law, defBody st_law, defScope st_law, [], []⟩
def fnl : List He.DefD := [dd__law_mixed, dd__law_row, dd_power_of, dd_sign_of, dd_nearest_steps, dd_error_of, dd_compare_errors, dd_best_rounds, dd_nearest_map, dd__law_power, dd__law_rows_right, dd__law_is_int, dd__law_like, dd_sent, dd__law_map_right, dd_law]
def fal : List He.Fa := [.glo "_law_mixed", .glo "_law_row", .glo "power_of", .glo "sign_of", .glo "nearest_steps", .glo "error_of", .glo "compare_errors", .glo "best_rounds", .glo "nearest_map", .glo "_law_power", .glo "_law_rows_right", .glo "_law_is_int", .glo "_law_like", .glo "sent", .glo "_law_map_right", .glo "law", .free "abs", .free "all", .free "bool", .free "int", .free "isinstance", .free "len", .free "max", .free "range", .free "str", .free "sum", .free "tuple", .free "zip"]
abbrev R : PySem.W.OpenRow := PySem.W.OpenLaw.row PySem.Challenge.rw_soundsjoined_k22_whole_best_rounds_as_co
abbrev hk : PySem.W.Hook := He.hookD 4 fal fnl
def obs (s : PySem.W.SharedT) : He.AlD := He.obsDG 4 fal fnl (HandSHeadRun.getT s)
theorem obs_eq (s : PySem.W.SharedT) : obs s = hk.obs s.abs := He.obsDG_eq (HandSHeadRun.getT_eq s)
def loose : List PySem.Str := (["power_of", "sent", "nearest_steps", "nearest_map", "error_of", "sign_of", "compare_errors", "best_rounds", "_law_mixed", "_law_row", "_law_is_int", "_law_like", "_law_power", "_law_map_right", "_law_rows_right"] : List PySem.Str)
theorem runs (w : World) : HandSHeadRun.RunEq R (PySem.W.view R.prog [18]) hk obs 3000 loose w := by
  intro os
  kernel_rfl
theorem txt {K : PySem.W.Frag} {h : Heap} {mg : Str → Option Value} (X : K.In h) (G : h.Ns mainGlobals mg) (c : He.SaysD fal fnl K) : Nonempty (Txt K mg) := by
  obtain ⟨d__law_mixed, F__law_mixed⟩ := c.def_ 0 (d := dd__law_mixed) rfl
  obtain ⟨d__law_row, F__law_row⟩ := c.def_ 1 (d := dd__law_row) rfl
  obtain ⟨d_power_of, F_power_of⟩ := c.def_ 2 (d := dd_power_of) rfl
  obtain ⟨d_sign_of, F_sign_of⟩ := c.def_ 3 (d := dd_sign_of) rfl
  obtain ⟨d_nearest_steps, F_nearest_steps⟩ := c.def_ 4 (d := dd_nearest_steps) rfl
  obtain ⟨d_error_of, F_error_of⟩ := c.def_ 5 (d := dd_error_of) rfl
  obtain ⟨d_compare_errors, F_compare_errors⟩ := c.def_ 6 (d := dd_compare_errors) rfl
  obtain ⟨d_best_rounds, F_best_rounds⟩ := c.def_ 7 (d := dd_best_rounds) rfl
  obtain ⟨d_nearest_map, F_nearest_map⟩ := c.def_ 8 (d := dd_nearest_map) rfl
  obtain ⟨d__law_power, F__law_power⟩ := c.def_ 9 (d := dd__law_power) rfl
  obtain ⟨d__law_rows_right, F__law_rows_right⟩ := c.def_ 10 (d := dd__law_rows_right) rfl
  obtain ⟨d__law_is_int, F__law_is_int⟩ := c.def_ 11 (d := dd__law_is_int) rfl
  obtain ⟨d__law_like, F__law_like⟩ := c.def_ 12 (d := dd__law_like) rfl
  obtain ⟨d_sent, F_sent⟩ := c.def_ 13 (d := dd_sent) rfl
  obtain ⟨d__law_map_right, F__law_map_right⟩ := c.def_ 14 (d := dd__law_map_right) rfl
  obtain ⟨d_law, F_law⟩ := c.def_ 15 (d := dd_law) rfl
  exact ⟨{ a__law_mixed := _, d__law_mixed := d__law_mixed, F__law_mixed := F__law_mixed, m__law_mixed := He.glo_ok X G (c.fact 0 (f := .glo "_law_mixed") rfl), a__law_row := _, d__law_row := d__law_row, F__law_row := F__law_row, m__law_row := He.glo_ok X G (c.fact 1 (f := .glo "_law_row") rfl), a_power_of := _, d_power_of := d_power_of, F_power_of := F_power_of, m_power_of := He.glo_ok X G (c.fact 2 (f := .glo "power_of") rfl), a_sign_of := _, d_sign_of := d_sign_of, F_sign_of := F_sign_of, m_sign_of := He.glo_ok X G (c.fact 3 (f := .glo "sign_of") rfl), a_nearest_steps := _, d_nearest_steps := d_nearest_steps, F_nearest_steps := F_nearest_steps, m_nearest_steps := He.glo_ok X G (c.fact 4 (f := .glo "nearest_steps") rfl), a_error_of := _, d_error_of := d_error_of, F_error_of := F_error_of, m_error_of := He.glo_ok X G (c.fact 5 (f := .glo "error_of") rfl), a_compare_errors := _, d_compare_errors := d_compare_errors, F_compare_errors := F_compare_errors, m_compare_errors := He.glo_ok X G (c.fact 6 (f := .glo "compare_errors") rfl), a_best_rounds := _, d_best_rounds := d_best_rounds, F_best_rounds := F_best_rounds, m_best_rounds := He.glo_ok X G (c.fact 7 (f := .glo "best_rounds") rfl), a_nearest_map := _, d_nearest_map := d_nearest_map, F_nearest_map := F_nearest_map, m_nearest_map := He.glo_ok X G (c.fact 8 (f := .glo "nearest_map") rfl), a__law_power := _, d__law_power := d__law_power, F__law_power := F__law_power, m__law_power := He.glo_ok X G (c.fact 9 (f := .glo "_law_power") rfl), a__law_rows_right := _, d__law_rows_right := d__law_rows_right, F__law_rows_right := F__law_rows_right, m__law_rows_right := He.glo_ok X G (c.fact 10 (f := .glo "_law_rows_right") rfl), a__law_is_int := _, d__law_is_int := d__law_is_int, F__law_is_int := F__law_is_int, m__law_is_int := He.glo_ok X G (c.fact 11 (f := .glo "_law_is_int") rfl), a__law_like := _, d__law_like := d__law_like, F__law_like := F__law_like, m__law_like := He.glo_ok X G (c.fact 12 (f := .glo "_law_like") rfl), a_sent := _, d_sent := d_sent, F_sent := F_sent, m_sent := He.glo_ok X G (c.fact 13 (f := .glo "sent") rfl), a__law_map_right := _, d__law_map_right := d__law_map_right, F__law_map_right := F__law_map_right, m__law_map_right := He.glo_ok X G (c.fact 14 (f := .glo "_law_map_right") rfl), a_law := _, d_law := d_law, F_law := F_law, m_law := He.glo_ok X G (c.fact 15 (f := .glo "law") rfl), n_abs := He.free_ok X G (c.fact 16 (f := .free "abs") rfl), n_all := He.free_ok X G (c.fact 17 (f := .free "all") rfl), n_bool := He.free_ok X G (c.fact 18 (f := .free "bool") rfl), n_int := He.free_ok X G (c.fact 19 (f := .free "int") rfl), n_isinstance := He.free_ok X G (c.fact 20 (f := .free "isinstance") rfl), n_len := He.free_ok X G (c.fact 21 (f := .free "len") rfl), n_max := He.free_ok X G (c.fact 22 (f := .free "max") rfl), n_range := He.free_ok X G (c.fact 23 (f := .free "range") rfl), n_str := He.free_ok X G (c.fact 24 (f := .free "str") rfl), n_sum := He.free_ok X G (c.fact 25 (f := .free "sum") rfl), n_tuple := He.free_ok X G (c.fact 26 (f := .free "tuple") rfl), n_zip := He.free_ok X G (c.fact 27 (f := .free "zip") rfl) }⟩
theorem facts {P : Program} {w : World} {K : PySem.W.Frag} {h : Heap} {mg : Str → Option Value} {f : Addr} (X : K.In h) (G : h.Ns mainGlobals mg) (hfa : mg ("law" : Str) = some (.ref f)) (c : He.SaysD fal fnl K) :
    ∃ fd : FuncData, (∀ (s : Shared) (v : Value), BindsTo s fd ⟨[v], []⟩ [("script", v)]) ∧ ∀ base : Heap, K.In base → base.Ns mainGlobals mg → FnOk P w K mg base CX0 6 f fd ["script"] (spP K 1 sem_law) := by
  obtain ⟨T⟩ := txt X G c
  have e := hfa.symm.trans T.m_law
  cases e
  have b := FunD.bindsA (ps := ["script"]) T.F_law fun _ _ _ _ _ _ us hl => match us, hl with | [_], _ => rfl
  exact ⟨T.d_law, fun s v => b s [v] rfl, fun base _ _ => ok_law T⟩
end L22
open PySem PySem.W PySem.Calls PyProof.Rows
theorem PySem.Challenge.cw_soundsjoined_k22_whole_best_rounds_as_co_holds : PySem.Challenge.rw_soundsjoined_k22_whole_best_rounds_as_co.Holds := by
  w_on; o_law
  refine HandSHeadRun.head_any (r := OpenLaw.row PySem.Challenge.rw_soundsjoined_k22_whole_best_rounds_as_co) (q := view (OpenLaw.row PySem.Challenge.rw_soundsjoined_k22_whole_best_rounds_as_co).prog [18]) (H := L22.hk) (ob := L22.obs) (M := 3000) (loose := L22.loose)
    (d := HandSHeadRun.topDef (OpenLaw.row PySem.Challenge.rw_soundsjoined_k22_whole_best_rounds_as_co).prog 18) (kwd := []) L22.obs_eq (by kernel_rfl) (fun s => by kernel_rfl) L22.runs
    (by kernel_rfl) (by kernel_rfl) (by kernel_rfl) (by rfl)
    (by first | assumption | decide +kernel) (by decide +kernel) ⟨rfl, rfl, rfl, rfl, rfl, by decide +kernel⟩ ?hw ?hc
  case hw => w_witness2
  case hc =>
    refine L2.walk_ofE (l := PySem.Challenge.rw_soundsjoined_k22_whole_best_rounds_as_co) (n := 63) (k := 6) (x := "script") (CX := L2.CX0)
      rfl (by decide) (by kernel_rfl) ⟨rfl, by decide, by decide⟩ ?F (fun _ _ _ _ z => z)
    intro w mg fa h Y G hmg0
    obtain ⟨K, KX, c⟩ := Y
    have hmg : mg ("law" : PySem.Str) = some (.ref fa) := by
      have e : (HandSHeadRun.topDef (OpenLaw.row PySem.Challenge.rw_soundsjoined_k22_whole_best_rounds_as_co).prog 18).name = ("law" : PySem.Str) := by kernel_rfl
      rw [← e]
      exact hmg0
    obtain ⟨fd, hb, hF⟩ := L22.facts (P := (PySem.Challenge.rw_soundsjoined_k22_whole_best_rounds_as_co).prog) (w := w) KX G hmg c
    exact ⟨K, fd, Pu.spP K 1 L22.sem_law, KX, hb, fun H a ns hl _ hS => Pu.law_sp rfl L22.plain hl hS, hF⟩

