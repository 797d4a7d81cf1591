import PyProof.Rows.All
import Wide.All
import OpenK.AllK
import Wide.FinOn
import HandS.ForMost
import HandS.TupAny
import HandS.IsInst
import HandS.Wide
import HandS.Dict
import HandS.More
import HandS.TupLen
import HandS.Flow
import HandS.WordsExc
import HandS.Exc
import HandS.SortInts
import KE.DatumOrd
import HandS.CallSlots
import HandS.ExcOwn
import HandS.Comp
import HandS.Rev
import HandS.GenList
import HandS.Iter
import PyProof.LongRange
import PyProof.RulesMatch
import HandS.EndBits
import Flt.Len
import PySem.Challenge.RW_easelwork_k07_rects_and_blocks
set_option Elab.async false
set_option linter.all false
set_option maxRecDepth 100000
namespace DL
open PySem PySem.Spec PyProof.Rows L2

/-! ### data -/
inductive D where
  | non | bl (b : Bool) | int (i : Int) | str (x : Str) | ty (n : String) | ref (a : Addr)
  | tup (xs : List D) | rol (xs : List D) | obj (C : Addr) (ns : List Str) (xs : List D) | dct

inductive MO where
  | lst (xs : List D) | ins (C : Addr) (ns : List Str) (xs : List D) | dk (kvs : List (Key × D)) | dt (kvs : List (List Key × D))
abbrev MH := Addr → Option MO
abbrev DK := D → MH → Prop
abbrev En := List (Option D)
def updM (H : MH) (a : Addr) (o : MO) : MH := fun b => if b = a then some o else H b
theorem updM_same {H : MH} {a : Addr} {o : MO} : updM H a o a = some o := by unfold updM; rw [if_pos rfl]
theorem updM_ne {H : MH} {a b : Addr} {o : MO} (h : b ≠ a) : updM H a o b = H b := by unfold updM; rw [if_neg h]

/-- a list of the written part -/
structure Kz where
  K : PySem.W.Frag
  Z : Addr → Prop
def WL (K : PySem.W.Frag) (a : Addr) (xs : List V) : Prop :=
  ∃ (o : Obj) (its : Array Value) (n : Nat), K.lookup a = some o ∧ o.cls = .type "list" ∧ o.dict = none ∧ o.data = .seq its n ∧ its.size ≤ sizeLine ∧ Vals xs its.toList
def FrzL (K : Kz) (H : Hp) (Hm : MH) (a : Addr) (xs : List V) : Prop := (Rd H a (.lst xs) ∧ Hm a = none ∧ ¬ K.Z a) ∨ WL K.K a xs
theorem FrzL.sq {K : Kz} {H : Hp} {Hm : MH} {a : Addr} {xs : List V} (h : FrzL K H Hm a xs) : SqL K.K H a xs := by
  rcases h with h | h
  · exact .inl h.1
  · exact .inr h

mutual
def Is (K : Kz) (H : Hp) (Hm : MH) : D → V → Prop
  | .non, v => v = .non
  | .bl b, v => v = .bl b
  | .int i, v => v = .int i
  | .str x, v => v = .str x
  | .ty n, v => v = .ty n
  | .ref a, v => v = .ref a
  | .tup ds, v => ∃ a vs, v = .ref a ∧ SqT K.K H a vs ∧ Iss K H Hm ds vs
  | .rol ds, v => ∃ a vs, v = .ref a ∧ FrzL K H Hm a vs ∧ Iss K H Hm ds vs
  | .obj C ns ds, v => ∃ a dx fs, v = .ref a ∧ H a = some (.ins C dx fs) ∧ (Hm a = none ∧ ¬ K.Z a) ∧ fs.map (·.1) = ns ∧ Iss K H Hm ds (fs.map (·.2))
  | .dct, v => ∃ a kvs, v = .ref a ∧ H a = some (.dK kvs) ∧ (Hm a = none ∧ ¬ K.Z a)
def Iss (K : Kz) (H : Hp) (Hm : MH) : List D → List V → Prop
  | [], vs => vs = []
  | d :: ds, vs => ∃ v r, vs = v :: r ∧ Is K H Hm d v ∧ Iss K H Hm ds r
end

section
variable {K : Kz} {H H' H'' : Hp} {Hm Hm' Hm'' : MH} {d : D} {v : V} {ds : List D} {vs : List V}
theorem Iss.nil : Iss K H Hm [] [] := by unfold Iss; rfl
theorem Iss.cons (h : Is K H Hm d v) (t : Iss K H Hm ds vs) : Iss K H Hm (d :: ds) (v :: vs) := by unfold Iss; exact ⟨v, vs, rfl, h, t⟩
theorem Iss.nil_of (h : Iss K H Hm [] vs) : vs = [] := by unfold Iss at h; exact h
theorem Iss.cons_of (h : Iss K H Hm (d :: ds) vs) : ∃ v r, vs = v :: r ∧ Is K H Hm d v ∧ Iss K H Hm ds r := by unfold Iss at h; exact h
theorem Iss.length : ∀ {ds : List D} {vs : List V}, Iss K H Hm ds vs → vs.length = ds.length
  | [], vs, h => by rw [h.nil_of]; rfl
  | d :: ds, vs, h => by
    obtain ⟨v, r, rfl, _, t⟩ := h.cons_of
    rw [List.length_cons, List.length_cons, t.length]
theorem Iss.get : ∀ {ds : List D} {vs : List V} {i : Nat} {d : D}, Iss K H Hm ds vs → ds[i]? = some d → ∃ v, vs[i]? = some v ∧ Is K H Hm d v
  | [], _, _, _, _, e => by simp at e
  | d :: ds, vs, 0, d', h, e => by
    obtain ⟨v, r, rfl, q, _⟩ := h.cons_of
    have e : d = d' := by simpa using e
    exact ⟨v, rfl, e ▸ q⟩
  | d :: ds, vs, i + 1, d', h, e => by
    obtain ⟨v, r, rfl, _, t⟩ := h.cons_of
    exact t.get (by simpa using e)
theorem Iss.get' : ∀ {ds : List D} {vs : List V} {i : Nat} {v : V}, Iss K H Hm ds vs → vs[i]? = some v → ∃ d, ds[i]? = some d ∧ Is K H Hm d v
  | [], vs, _, _, h, e => by rw [h.nil_of] at e; simp at e
  | d :: ds, vs, 0, v', h, e => by
    obtain ⟨v, r, rfl, q, _⟩ := h.cons_of
    have e : v = v' := by simpa using e
    exact ⟨d, rfl, e ▸ q⟩
  | d :: ds, vs, i + 1, v', h, e => by
    obtain ⟨v, r, rfl, _, t⟩ := h.cons_of
    exact t.get' (by simpa using e)
theorem Iss.append : ∀ {ds : List D} {vs : List V} {es : List D} {ws : List V}, Iss K H Hm ds vs → Iss K H Hm es ws → Iss K H Hm (ds ++ es) (vs ++ ws)
  | [], vs, _, _, h, g => by rw [h.nil_of]; exact g
  | d :: ds, vs, _, _, h, g => by
    obtain ⟨v, r, rfl, q, t⟩ := h.cons_of
    exact .cons q (t.append g)
theorem Iss.take : ∀ {ds : List D} {vs : List V} (n : Nat), Iss K H Hm ds vs → Iss K H Hm (ds.take n) (vs.take n)
  | _, _, 0, _ => .nil
  | [], vs, n + 1, h => by rw [h.nil_of]; exact .nil
  | d :: ds, vs, n + 1, h => by
    obtain ⟨v, r, rfl, q, t⟩ := h.cons_of
    exact .cons q (t.take n)
theorem Iss.drop : ∀ {ds : List D} {vs : List V} (n : Nat), Iss K H Hm ds vs → Iss K H Hm (ds.drop n) (vs.drop n)
  | _, _, 0, h => h
  | [], vs, n + 1, h => by rw [h.nil_of]; exact .nil
  | d :: ds, vs, n + 1, h => by
    obtain ⟨v, r, rfl, q, t⟩ := h.cons_of
    exact t.drop n
theorem Iss.set : ∀ {ds : List D} {vs : List V} (i : Nat) {d : D} {v : V}, Iss K H Hm ds vs → Is K H Hm d v → Iss K H Hm (ds.set i d) (vs.set i v)
  | [], vs, _, _, _, h, _ => by rw [h.nil_of]; exact .nil
  | e :: ds, vs, 0, d, v, h, g => by
    obtain ⟨u, r, rfl, q, t⟩ := h.cons_of
    exact .cons g t
  | e :: ds, vs, i + 1, d, v, h, g => by
    obtain ⟨u, r, rfl, q, t⟩ := h.cons_of
    exact .cons q (t.set i g)
theorem Iss.reverse : ∀ {ds : List D} {vs : List V}, Iss K H Hm ds vs → Iss K H Hm ds.reverse vs.reverse
  | [], vs, h => by rw [h.nil_of]; exact .nil
  | d :: ds, vs, h => by
    obtain ⟨v, r, rfl, q, t⟩ := h.cons_of
    rw [List.reverse_cons, List.reverse_cons]
    exact t.reverse.append (.cons q .nil)
theorem Iss.ints : ∀ {ns : List Int} {vs : List V}, Iss K H Hm (ns.map D.int) vs → vs = ns.map V.int
  | [], vs, h => h.nil_of
  | n :: ns, vs, h => by
    obtain ⟨v, r, rfl, q, t⟩ := h.cons_of
    unfold Is at q
    rw [q, t.ints]; rfl
theorem Iss.of_ints : ∀ (ns : List Int), Iss K H Hm (ns.map D.int) (ns.map V.int)
  | [] => .nil
  | n :: ns => .cons (by unfold Is; rfl) (Iss.of_ints ns)

/-! ### the mutable part, what is left alone -/
def RepO (K : Kz) (H : Hp) (Hm : MH) (a : Addr) : MO → Prop
  | .lst ds => ∃ vs, H a = some (.lst vs) ∧ Iss K H Hm ds vs
  | .ins C ns ds => ∃ dx fs, H a = some (.ins C dx fs) ∧ fs.map (·.1) = ns ∧ Iss K H Hm ds (fs.map (·.2))
  | .dk kvs => ∃ us, H a = some (.dK us) ∧ us.map (·.1) = kvs.map (·.1) ∧ Iss K H Hm (kvs.map (·.2)) (us.map (·.2))
  | .dt kvs => ∃ us, H a = some (.dT us) ∧ us.map (·.1) = kvs.map (·.1) ∧ Iss K H Hm (kvs.map (·.2)) (us.map (·.2))
structure Rep (K : Kz) (H : Hp) (Hm : MH) : Prop where
  obj : ∀ a o, Hm a = some o → RepO K H Hm a o
  hid : ∀ a, K.Z a → ∃ o, H a = some o ∧ Hm a = none
def NT (Hm : MH) (H : Hp) (Hm' : MH) (H' : Hp) : Prop := ∀ a o, H a = some o → Hm a = none → H' a = some o ∧ Hm' a = none
theorem NT.refl : NT Hm H Hm H := fun _ _ e n => ⟨e, n⟩
theorem NT.trans (a : NT Hm H Hm' H') (b : NT Hm' H' Hm'' H'') : NT Hm H Hm'' H'' := fun x o e n => by
  obtain ⟨e1, n1⟩ := a x o e n
  exact b x o e1 n1
theorem Rep.hit (r : Rep K H Hm) {a : Addr} {o : MO} (h : Hm a = some o) : ∃ u, H a = some u ∧ ((∃ vs, u = .lst vs) ∨ (∃ C dx fs, u = .ins C dx fs) ∨ (∃ kvs, u = .dK kvs) ∨ ∃ kvs, u = .dT kvs) := by
  have := r.obj a o h
  cases o with
  | lst ds => obtain ⟨vs, e, _⟩ := this; exact ⟨_, e, .inl ⟨_, rfl⟩⟩
  | ins C ns ds => obtain ⟨dx, vs, e, _⟩ := this; exact ⟨_, e, .inr (.inl ⟨_, _, _, rfl⟩)⟩
  | dk kvs => obtain ⟨us, e, _⟩ := this; exact ⟨_, e, .inr (.inr (.inl ⟨_, rfl⟩))⟩
  | dt kvs => obtain ⟨us, e, _⟩ := this; exact ⟨_, e, .inr (.inr (.inr ⟨_, rfl⟩))⟩
theorem Rep.free (r : Rep K H Hm) {a : Addr} (h : H a = none) : Hm a = none := by
  cases q : Hm a with
  | none => rfl
  | some o =>
    obtain ⟨u, e, _⟩ := r.hit q
    rw [h] at e; cases e
theorem Rep.tup (r : Rep K H Hm) {a : Addr} {xs : List V} (h : H a = some (.tup xs)) : Hm a = none := by
  cases q : Hm a with
  | none => rfl
  | some o =>
    obtain ⟨u, e, z⟩ := r.hit q
    rw [h] at e; cases e
    rcases z with ⟨_, z⟩ | ⟨_, _, _, z⟩ | ⟨_, z⟩ | ⟨_, z⟩ <;> cases z
theorem Rep.frz (r : Rep K H Hm) {a : Addr} {o : Obj} {u : HO} (h : H a = some (.frz o u)) : Hm a = none := by
  cases q : Hm a with
  | none => rfl
  | some o =>
    obtain ⟨u, e, z⟩ := r.hit q
    rw [h] at e; cases e
    rcases z with ⟨_, z⟩ | ⟨_, _, _, z⟩ | ⟨_, z⟩ | ⟨_, z⟩ <;> cases z
theorem sqT_nt (r : Rep K H Hm) (n : NT Hm H Hm' H') {a : Addr} {xs : List V} (h : SqT K.K H a xs) : SqT K.K H' a xs := by
  rcases h with (h | ⟨o, h⟩) | h
  · exact .inl (.inl (n _ _ h (r.tup h)).1)
  · exact .inl (.inr ⟨o, (n _ _ h (r.frz h)).1⟩)
  · exact .inr h
theorem frzL_nt (n : NT Hm H Hm' H') {a : Addr} {xs : List V} (h : FrzL K H Hm a xs) : FrzL K H' Hm' a xs := by
  rcases h with ⟨h | ⟨o, h⟩, m, z⟩ | h
  · obtain ⟨e, q⟩ := n _ _ h m
    exact .inl ⟨.inl e, q, z⟩
  · obtain ⟨e, q⟩ := n _ _ h m
    exact .inl ⟨.inr ⟨o, e⟩, q, z⟩
  · exact .inr h
mutual
theorem Is.nt (r : Rep K H Hm) (n : NT Hm H Hm' H') : ∀ (d : D) (v : V), Is K H Hm d v → Is K H' Hm' d v
  | .non, v, h => h
  | .bl b, v, h => h
  | .int i, v, h => h
  | .str x, v, h => h
  | .ty n, v, h => h
  | .ref a, v, h => h
  | .tup ds, v, h => by
    unfold Is at h ⊢
    obtain ⟨a, vs, e, s, t⟩ := h
    exact ⟨a, vs, e, sqT_nt r n s, Iss.nt r n ds vs t⟩
  | .rol ds, v, h => by
    unfold Is at h ⊢
    obtain ⟨a, vs, e, s, t⟩ := h
    exact ⟨a, vs, e, frzL_nt n s, Iss.nt r n ds vs t⟩
  | .obj C ns ds, v, h => by
    unfold Is at h ⊢
    obtain ⟨a, dx, fs, e, s, ⟨m, z⟩, l, t⟩ := h
    obtain ⟨s', m'⟩ := n _ _ s m
    exact ⟨a, dx, fs, e, s', ⟨m', z⟩, l, Iss.nt r n ds _ t⟩
  | .dct, v, h => by
    unfold Is at h ⊢
    obtain ⟨a, kvs, e, s, m, z⟩ := h
    obtain ⟨s', m'⟩ := n _ _ s m
    exact ⟨a, kvs, e, s', m', z⟩
theorem Iss.nt (r : Rep K H Hm) (n : NT Hm H Hm' H') : ∀ (ds : List D) (vs : List V), Iss K H Hm ds vs → Iss K H' Hm' ds vs
  | [], vs, h => by unfold Iss at h ⊢; exact h
  | d :: ds, vs, h => by
    obtain ⟨v, t, e, q, z⟩ := h.cons_of
    rw [e]
    exact .cons (Is.nt r n d v q) (Iss.nt r n ds t z)
end
/-- forgetting what is tracked -/
def Sub (Hm' Hm : MH) : Prop := ∀ a, Hm a = none → Hm' a = none
mutual
theorem Is.sub (s : Sub Hm' Hm) : ∀ (d : D) (v : V), Is K H Hm d v → Is K H Hm' d v
  | .non, v, h => h
  | .bl b, v, h => h
  | .int i, v, h => h
  | .str x, v, h => h
  | .ty n, v, h => h
  | .ref a, v, h => h
  | .tup ds, v, h => by
    unfold Is at h ⊢
    obtain ⟨a, vs, e, q, t⟩ := h
    exact ⟨a, vs, e, q, Iss.sub s ds vs t⟩
  | .rol ds, v, h => by
    unfold Is at h ⊢
    obtain ⟨a, vs, e, q, t⟩ := h
    refine ⟨a, vs, e, ?_, Iss.sub s ds vs t⟩
    rcases q with ⟨q, m, z⟩ | q
    · exact .inl ⟨q, s _ m, z⟩
    · exact .inr q
  | .obj C ns ds, v, h => by
    unfold Is at h ⊢
    obtain ⟨a, dx, fs, e, q, ⟨m, z⟩, l, t⟩ := h
    exact ⟨a, dx, fs, e, q, ⟨s _ m, z⟩, l, Iss.sub s ds _ t⟩
  | .dct, v, h => by
    unfold Is at h ⊢
    obtain ⟨a, kvs, e, q, m, z⟩ := h
    exact ⟨a, kvs, e, q, s _ m, z⟩
theorem Iss.sub (s : Sub Hm' Hm) : ∀ (ds : List D) (vs : List V), Iss K H Hm ds vs → Iss K H Hm' ds vs
  | [], vs, h => by unfold Iss at h ⊢; exact h
  | d :: ds, vs, h => by
    obtain ⟨v, t, e, q, z⟩ := h.cons_of
    rw [e]
    exact .cons (Is.sub s d v q) (Iss.sub s ds t z)
end
/-! from one state and hidden set to another -/
mutual
theorem Is.tr {K K' : Kz} (t : ∀ a xs, SqT K.K H a xs → SqT K'.K H' a xs) (f : ∀ a xs, FrzL K H Hm a xs → FrzL K' H' Hm' a xs)
    (o : ∀ a C dx fs, H a = some (.ins C dx fs) → (Hm a = none ∧ ¬ K.Z a) → H' a = some (.ins C dx fs) ∧ (Hm' a = none ∧ ¬ K'.Z a))
    (w : ∀ a kvs, H a = some (.dK kvs) → (Hm a = none ∧ ¬ K.Z a) → ∃ kvs', H' a = some (.dK kvs') ∧ (Hm' a = none ∧ ¬ K'.Z a)) : ∀ (d : D) (v : V), Is K H Hm d v → Is K' H' Hm' d v
  | .non, v, h => h
  | .bl b, v, h => h
  | .int i, v, h => h
  | .str x, v, h => h
  | .ty n, v, h => h
  | .ref a, v, h => h
  | .tup ds, v, h => by
    unfold Is at h ⊢
    obtain ⟨a, vs, e, q, z⟩ := h
    exact ⟨a, vs, e, t _ _ q, Iss.tr t f o w ds vs z⟩
  | .rol ds, v, h => by
    unfold Is at h ⊢
    obtain ⟨a, vs, e, q, z⟩ := h
    exact ⟨a, vs, e, f _ _ q, Iss.tr t f o w ds vs z⟩
  | .obj C ns ds, v, h => by
    unfold Is at h ⊢
    obtain ⟨a, dx, fs, e, q, m, l, z⟩ := h
    obtain ⟨q', m'⟩ := o _ _ _ _ q m
    exact ⟨a, dx, fs, e, q', m', l, Iss.tr t f o w ds _ z⟩
  | .dct, v, h => by
    unfold Is at h ⊢
    obtain ⟨a, kvs, e, q, m⟩ := h
    obtain ⟨kvs', q', m'⟩ := w _ _ q m
    exact ⟨a, kvs', e, q', m'⟩
theorem Iss.tr {K K' : Kz} (t : ∀ a xs, SqT K.K H a xs → SqT K'.K H' a xs) (f : ∀ a xs, FrzL K H Hm a xs → FrzL K' H' Hm' a xs)
    (o : ∀ a C dx fs, H a = some (.ins C dx fs) → (Hm a = none ∧ ¬ K.Z a) → H' a = some (.ins C dx fs) ∧ (Hm' a = none ∧ ¬ K'.Z a))
    (w : ∀ a kvs, H a = some (.dK kvs) → (Hm a = none ∧ ¬ K.Z a) → ∃ kvs', H' a = some (.dK kvs') ∧ (Hm' a = none ∧ ¬ K'.Z a)) : ∀ (ds : List D) (vs : List V), Iss K H Hm ds vs → Iss K' H' Hm' ds vs
  | [], vs, h => by unfold Iss at h ⊢; exact h
  | d :: ds, vs, h => by
    obtain ⟨v, r, e, q, z⟩ := h.cons_of
    rw [e]
    exact .cons (Is.tr t f o w d v q) (Iss.tr t f o w ds r z)
end
end
end DL

namespace DL
open PySem PySem.Spec PyProof.Rows L2

inductive Bi where
  | len | min | max | abs | int | bool | str | sorted | list | tuple | sum | isi
inductive Mt where
  | append | pop | upper
mutual
inductive E where
  | k (d : D) | v (i : Nat) | g (x : Str) | ty (n : String)
  | bin (m : Bool) (o : Operator) (a b : E) | neg (a : E) | not (a : E) | and (a b : E) | or (a b : E)
  | cmp (o : CmpOp) (a b : E) | ch (a : E) (o : CmpOp) (b : E) (o' : CmpOp) (c : E)
  | ite (t a b : E) | tup (es : Es) | lst (m : Bool) (es : Es)
  | ix (a b : E) | sl (m : Bool) (a : E) (lo hi : Oe)
  | rvl (m : Bool) (a : E) | dct (ks : List Int) (es : Es) | dnew (t : Bool) | dixT (a : E) (es : Es)
  | call (x : Str) (es : Es) | bi (m : Bool) (f : Bi) (es : Es) | mth (m : Bool) (a : E) (f : Mt) (es : Es)
  | lc (m : Bool) (e : E) (t : T) (i : It) (c : Es) (own : List Nat)
inductive Oe where
  | no | so (e : E)
inductive Es where
  | nil | cons (e : E) (es : Es)
inductive T where
  | nm (i : Nat) | tup (ts : Ts) | sub (a b : E) | dsub (a b : E) | dsubT (a : E) (es : Es)
inductive Ts where
  | nil | cons (t : T) (ts : Ts)
inductive It where
  | seq (e : E) | rng1 (a : E) | rng2 (a b : E)
end
mutual
inductive S where
  | fail | mtch (e : E) (cs : Ms)
  | asg (t : T) (e : E) | aug (i : Nat) (o : Operator) (e : E) | ex (e : E) | ret (e : E) | retN
  | cond (c : E) (a b : Ss) | loop (t : T) (i : It) (b : Ss) | whl (c : E) (b : Ss) | brk | ct | pass
inductive Ss where
  | nil | cons (s : S) (ss : Ss)
inductive Ms where
  | nil | dflt (b : Ss) | cons (ks : List Str) (b : Ss) (r : Ms)
end

/-! ### values -/
@[simp] def lstAt (H : MH) : D → Option (List D)
  | .rol xs => some xs
  | .ref a => match H a with
    | some (.lst xs) => some xs
    | _ => none
  | _ => none
@[simp] def seqAt (H : MH) : D → Option (List D)
  | .tup xs => some xs
  | d => lstAt H d
mutual
@[simp] def pyD : D → Option PyData
  | .non => some .none
  | .bl b => some (.bool b)
  | .int i => some (.int i)
  | .str x => some (.str x)
  | .tup xs => (pyDs xs).map .tuple
  | .rol xs => (pyDs xs).map .list
  | _ => none
@[simp] def pyDs : List D → Option (List PyData)
  | [] => some []
  | x :: xs => (pyD x).bind fun d => (pyDs xs).map (d :: ·)
end
@[simp] def eqD : D → D → Option Bool
  | .int a, .int b => some (decide (a = b))
  | .bl a, .bl b => some (decide (a = b))
  | .str a, .str b => some (decide (a = b))
  | .non, .non => some true
  | x, y => (pyD x).bind fun d => (pyD y).bind fun e => if SeqAt.shaped d && SeqAt.shaped e then some (PyData.eqv d e) else none
@[simp] def rdL (H : MH) (d : D) : D := match lstAt H d with
  | some xs => .rol xs
  | none => d
def flatD : D → Bool
  | .non => true | .bl _ => true | .int _ => true | .str _ => true | _ => false
/-- x in xs, flat things -/
def eqF : D → D → Bool
  | .non, .non => true
  | .bl a, .bl b => a == b
  | .int a, .int b => a == b
  | .str a, .str b => a == b
  | .bl a, .int b => (if a then 1 else 0) == b
  | .int a, .bl b => a == (if b then 1 else 0)
  | _, _ => false
def inD (x : D) (xs : List D) : Option Bool := if flatD x && xs.all flatD then some (xs.any fun y => eqF y x) else none
@[simp] def isNonD : D → Bool
  | .non => true | _ => false
@[simp] def cmpD (o : CmpOp) (x y : D) (H : MH) : Option Bool :=
  match o, x, y with
  | .Lt, .int i, .int j => some (decide (i < j))
  | .LtE, .int i, .int j => some (decide (i ≤ j))
  | .Gt, .int i, .int j => some (decide (j < i))
  | .GtE, .int i, .int j => some (decide (j ≤ i))
  | .Eq, x, y => eqD (rdL H x) (rdL H y)
  | .NotEq, x, y => (eqD (rdL H x) (rdL H y)).map (!·)
  | .Is, x, .non => some (isNonD x)
  | .IsNot, x, .non => some (!isNonD x)
  | .In, x, y => (seqAt H y).bind fun xs => inD x xs
  | .NotIn, x, y => (seqAt H y).bind fun xs => (inD x xs).map (!·)
  | _, _, _ => none
@[simp] def truD (H : MH) : D → Option Bool
  | .non => some false
  | .bl b => some b
  | .int i => some (i != 0)
  | d => (seqAt H d).map (!·.isEmpty)
@[simp] def freshL (m : Bool) (ys : List D) (H : MH) (Q : DK) : Prop := ys.length ≤ sizeLine ∧
  match m with
  | true => ∀ p, H p = none → Q (.ref p) (updM H p (.lst ys))
  | false => Q (.rol ys) H
def mulOk (i j : Int) : Prop := (-(2 ^ 64) < i ∧ i < 2 ^ 64) ∨ (-(2 ^ 64) < j ∧ j < 2 ^ 64) ∨ i.natAbs.log2 + j.natAbs.log2 < 100000000
@[simp] def binD (m : Bool) (o : Operator) (x y : D) (H : MH) (Q : DK) : Prop :=
  match o, x, y with
  | .Add, .int i, .int j => Q (.int (i + j)) H
  | .Sub, .int i, .int j => Q (.int (i - j)) H
  | .Mult, .int i, .int j => mulOk i j ∧ Q (.int (i * j)) H
  | .FloorDiv, .int i, .int j => 0 < j ∧ Q (.int (i / j)) H
  | .Mod, .int i, .int j => 0 < j ∧ Q (.int (i % j)) H
  | .Pow, .int i, .int j => CPow i j ∧ Q (.int (i ^ j.toNat)) H
  | .Add, .str a, .str b => a.length + b.length ≤ sizeLine ∧ Q (.str (a ++ b)) H
  | .Add, .tup xs, .tup ys => xs ≠ [] ∧ xs.length + ys.length ≤ sizeLine ∧ Q (.tup (xs ++ ys)) H
  | .Add, x, y => ∃ xs ys, lstAt H x = some xs ∧ lstAt H y = some ys ∧ freshL m (xs ++ ys) H Q
  | _, _, _ => False
@[simp] def augD (o : Operator) (x y : D) (H : MH) (Q : DK) : Prop :=
  match o, x, y with
  | .Add, .int i, .int j => Q (.int (i + j)) H
  | .Sub, .int i, .int j => Q (.int (i - j)) H
  | .Add, .str a, .str b => a.length + b.length ≤ sizeLine ∧ Q (.str (a ++ b)) H
  | _, _, _ => False
/-! dicts -/
@[simp] def keyD : D → Option Key
  | .int i => some (.inl i)
  | .str x => some (.inr x)
  | _ => none
@[simp] def keysD : List D → Option (List Key)
  | [] => some []
  | x :: xs => (keyD x).bind fun k => (keysD xs).map (k :: ·)
section
variable {κ : Type} [DecidableEq κ]
def valD (kvs : List (κ × D)) (k : κ) : Option D := (kvs.find? fun kv => decide (kv.1 = k)).map (·.2)
def putD (kvs : List (κ × D)) (k : κ) (v : D) : List (κ × D) :=
  if (kvs.any fun kv => decide (kv.1 = k)) = true then kvs.map (fun kv => if kv.1 = k then (kv.1, v) else kv) else kvs ++ [(k, v)]
end
@[simp] def dkAt (H : MH) : D → Option (List (Key × D))
  | .ref a => match H a with
    | some (.dk kvs) => some kvs
    | _ => none
  | _ => none
@[simp] def dlenAt (H : MH) : D → Option Nat
  | .ref a => match H a with
    | some (.dk kvs) => some kvs.length
    | some (.dt kvs) => some kvs.length
    | _ => none
  | _ => none
@[simp] def memS (a : Str) : List Str → Bool
  | [] => false
  | [k] => decide (a = k)
  | k :: r => decide (a = k) || memS a r
/-- a match's case: which texts -/
@[simp] def eqStr (d : D) (ks : List Str) : Option Bool := match d with
  | .str a => some (memS a ks)
  | _ => none
@[simp] def ixD (x y : D) (H : MH) : Option D :=
  match y with
  | .int i => match x with
    | .str z => if z.length ≤ sizeLine then (atI z.cps.toList i).map fun c => .str ⟨#[c]⟩ else none
    | d => (seqAt H d).bind fun xs => atI xs i
  | .str z => (dkAt H x).bind fun kvs => valD kvs (.inr z)
  | _ => none
def cutD (xs : List D) (lo hi : Option Int) : List D := (xs.drop (HT.sIx xs.length 0 lo)).take (HT.sIx xs.length xs.length hi - HT.sIx xs.length 0 lo)
@[simp] def slD (m : Bool) (x : D) (lo hi : Option Int) (H : MH) (Q : DK) : Prop :=
  match x with
  | .tup xs => Q (.tup (cutD xs lo hi)) H
  | .str z => z.length ≤ sizeLine ∧ Q (.str (cutS z lo hi)) H
  | d => ∃ xs, lstAt H d = some xs ∧ freshL m (cutD xs lo hi) H Q
def tyNames : List String := ["int", "bool", "str", "tuple", "list", "dict"]
@[simp] def isTy0 : D → String → MH → Option Bool
  | .non, n, _ => some false
  | .bl _, n, _ => some (n == "bool" || n == "int")
  | .int _, n, _ => some (n == "int")
  | .str _, n, _ => some (n == "str")
  | .tup _, n, _ => some (n == "tuple")
  | .rol _, n, _ => some (n == "list")
  | .dct, n, _ => some (n == "dict")
  | .ref a, n, H => match H a with
    | some (.lst _) => some (n == "list")
    | _ => none
  | _, _, _ => none
def isTy (d : D) (n : String) (H : MH) : Option Bool := if tyNames.contains n then isTy0 d n H else none
@[simp] def intsD : List D → Option (List Int)
  | [] => some []
  | .int i :: r => (intsD r).map (i :: ·)
  | _ => none
def leastI (n : Int) : List Int → Int
  | [] => n
  | m :: r => leastI (if m < n then m else n) r
def mostI (n : Int) : List Int → Int
  | [] => n
  | m :: r => mostI (if m > n then m else n) r
@[simp] def biD (m : Bool) (f : Bi) (ds : List D) (H : MH) (Q : DK) : Prop :=
  match f, ds with
  | .len, [.str z] => z.length ≤ sizeLine ∧ Q (.int z.length) H
  | .len, [d] => match m with
    | true => ∃ n, dlenAt H d = some n ∧ Q (.int n) H
    | false => ∃ xs, seqAt H d = some xs ∧ Q (.int xs.length) H
  | .min, [.int i, .int j] => Q (.int (if j < i then j else i)) H
  | .max, [.int i, .int j] => Q (.int (if j > i then j else i)) H
  | .min, [d] => ∃ n ns, (seqAt H d).bind intsD = some (n :: ns) ∧ Q (.int (leastI n ns)) H
  | .max, [d] => ∃ n ns, (seqAt H d).bind intsD = some (n :: ns) ∧ Q (.int (mostI n ns)) H
  | .abs, [.int i] => Q (.int (if i < 0 then -i else i)) H
  | .int, [.int i] => Q (.int i) H
  | .int, [.bl b] => Q (.int (if b then 1 else 0)) H
  | .bool, [.bl b] => Q (.bl b) H
  | .str, [.int i] => i.natAbs.log2 < 1920 ∧ Q (.str (toString i)) H
  | .sum, [d] => ∃ ns, (lstAt H d).bind intsD = some ns ∧ Q (.int ns.sum) H
  | .sorted, [d] => ∃ ns, (lstAt H d).bind intsD = some ns ∧ ∀ ms : List Int, ms.Perm ns → ms.Pairwise (· ≤ ·) → freshL m (ms.map .int) H Q
  | .list, [d] => ∃ xs, seqAt H d = some xs ∧ freshL m xs H Q
  | .tuple, [d] => ∃ xs, seqAt H d = some xs ∧ Q (.tup xs) H
  | .isi, [d, .ty n] => ∃ b, isTy d n H = some b ∧ Q (.bl b) H
  | _, _ => False
@[simp] def mtTy (f : Mt) (x : D) (H : MH) : Prop :=
  match f with
  | .append => ∃ a xs, x = .ref a ∧ H a = some (.lst xs)
  | .pop => ∃ a xs, x = .ref a ∧ H a = some (.lst xs)
  | .upper => ∃ z, x = .str z
@[simp] def mtD (m : Bool) (f : Mt) (x : D) (ds : List D) (H : MH) (Q : DK) : Prop :=
  match f, x, ds with
  | .append, .ref a, [d] => ∃ xs, H a = some (.lst xs) ∧ xs.length < sizeLine ∧ Q .non (updM H a (.lst (xs ++ [d])))
  | .pop, .ref a, [] => ∃ xs d, H a = some (.lst (xs ++ [d])) ∧ Q d (updM H a (.lst xs))
  | .upper, .str a, [] => a.length ≤ 5592405 ∧ Q (.str (Txt.upper a)) H
  | _, _, _ => False

mutual
@[simp] def T.slots : T → List Nat
  | .nm i => [i]
  | .tup ts => ts.slots
  | .sub _ _ => []
  | .dsub _ _ => []
  | .dsubT _ _ => []
@[simp] def Ts.slots : Ts → List Nat
  | .nil => []
  | .cons t ts => t.slots ++ ts.slots
end
@[simp] def Ts.len : Ts → Nat
  | .nil => 0
  | .cons _ ts => ts.len + 1
/-! ### the reading of a term -/
abbrev XDK := Value → Option (List Str × List D) → MH → Prop
abbrev Ctr := List D → MH → DK → XDK → Prop
structure Gm where
  fn : Str → Option (Nat × Ctr)
  gv : Str → Option D
structure Ends' where
  nx : En → MH → Prop
  rt : DK
  bk : En → MH → Prop := fun _ _ => False
  ct : En → MH → Prop := fun _ _ => False
def br : Bool → Prop → Prop → Prop
  | true, a, _ => a
  | false, _, b => b
@[simp] theorem br_t {a b : Prop} : br true a b = a := rfl
@[simp] theorem br_f {a b : Prop} : br false a b = b := rfl
@[simp] def wipeD (σ : En) : List Nat → En
  | [] => σ
  | v :: vs => (wipeD σ vs).set v none
/-- what is walked: the items, and what must stay -/
@[simp] def forL (step : D → MH → (MH → Prop) → Prop) (keep : MH → Prop) : List D → MH → (MH → Prop) → Prop
  | [], H, Q => keep H ∧ Q H
  | x :: r, H, Q => keep H ∧ step x H fun H1 => forL step keep r H1 Q
@[simp] def lcL (step : D → MH → (Option D → MH → Prop) → Prop) (keep : MH → Prop) : List D → MH → (List D → MH → Prop) → Prop
  | [], H, Q => keep H ∧ Q [] H
  | x :: r, H, Q => keep H ∧ step x H fun o H1 => lcL step keep r H1 fun ys H2 => Q (match o with | some y => y :: ys | none => ys) H2
@[simp] def keepOf (H : MH) : D → MH → Prop
  | .ref a => fun H' => H' a = H a
  | _ => fun _ => True
abbrev TDv := En → MH → DK → Prop
abbrev TCv := En → MH → (Bool → MH → Prop) → Prop
structure VC where
  v : TDv
  c : TCv
@[simp] def VC.of (v : TDv) : VC := ⟨v, fun σ H Q => v σ H fun x H1 => ∃ c, truD H1 x = some c ∧ Q c H1⟩
abbrev X0 : En → XDK := fun _ _ _ _ => False
mutual
@[simp] def wpB (G : Gm) (X : En → XDK) : E → VC
  | .k d => .of fun _ H Q => Q d H
  | .v i => .of fun σ H Q => ∃ d, σ[i]? = some (some d) ∧ Q d H
  | .g x => .of fun _ H Q => ∃ d, G.gv x = some d ∧ Q d H
  | .ty n => .of fun _ H Q => Q (.ty n) H
  | .bin m o a b => .of fun σ H Q => (wpB G X a).v σ H fun x H1 => (wpB G X b).v σ H1 fun y H2 => binD m o x y H2 Q
  | .neg a => .of fun σ H Q => (wpB G X a).v σ H fun x H1 => ∃ i, x = .int i ∧ Q (.int (-i)) H1
  | .not a => ⟨fun σ H Q => (wpB G X a).v σ H fun x H1 => ∃ c, truD H1 x = some c ∧ Q (.bl (!c)) H1, fun σ H Q => (wpB G X a).c σ H fun b H1 => Q (!b) H1⟩
  | .and a b => ⟨fun σ H Q => (wpB G X a).v σ H fun x H1 => ∃ c, truD H1 x = some c ∧ br c ((wpB G X b).v σ H1 Q) (Q x H1),
      fun σ H Q => (wpB G X a).c σ H fun c H1 => br c ((wpB G X b).c σ H1 Q) (Q false H1)⟩
  | .or a b => ⟨fun σ H Q => (wpB G X a).v σ H fun x H1 => ∃ c, truD H1 x = some c ∧ br c (Q x H1) ((wpB G X b).v σ H1 Q),
      fun σ H Q => (wpB G X a).c σ H fun c H1 => br c (Q true H1) ((wpB G X b).c σ H1 Q)⟩
  | .cmp o a b => ⟨fun σ H Q => (wpB G X a).v σ H fun x H1 => (wpB G X b).v σ H1 fun y H2 => ∃ c, cmpD o x y H2 = some c ∧ Q (.bl c) H2,
      fun σ H Q => (wpB G X a).v σ H fun x H1 => (wpB G X b).v σ H1 fun y H2 => ∃ c, cmpD o x y H2 = some c ∧ Q c H2⟩
  | .ch a o b o' c => ⟨fun σ H Q => (wpB G X a).v σ H fun x H1 => (wpB G X b).v σ H1 fun y H2 => ∃ c1, cmpD o x y H2 = some c1 ∧
        br c1 ((wpB G X c).v σ H2 fun z H3 => ∃ c2, cmpD o' y z H3 = some c2 ∧ Q (.bl c2) H3) (Q (.bl false) H2),
      fun σ H Q => (wpB G X a).v σ H fun x H1 => (wpB G X b).v σ H1 fun y H2 => ∃ c1, cmpD o x y H2 = some c1 ∧
        br c1 ((wpB G X c).v σ H2 fun z H3 => ∃ c2, cmpD o' y z H3 = some c2 ∧ Q c2 H3) (Q false H2)⟩
  | .ite t a b => ⟨fun σ H Q => (wpB G X t).c σ H fun c H1 => br c ((wpB G X a).v σ H1 Q) ((wpB G X b).v σ H1 Q),
      fun σ H Q => (wpB G X t).c σ H fun c H1 => br c ((wpB G X a).c σ H1 Q) ((wpB G X b).c σ H1 Q)⟩
  | .tup es => .of fun σ H Q => wpEs G X es σ H fun ds H1 => ds.length ≤ sizeLine ∧ Q (.tup ds) H1
  | .lst m es => .of fun σ H Q => wpEs G X es σ H fun ds H1 => freshL m ds H1 Q
  | .ix a b => .of fun σ H Q => (wpB G X a).v σ H fun x H1 => (wpB G X b).v σ H1 fun y H2 => ∃ d, ixD x y H2 = some d ∧ Q d H2
  | .sl m a lo hi => .of fun σ H Q => (wpB G X a).v σ H fun x H1 => wpO G X lo σ H1 fun l H2 => wpO G X hi σ H2 fun h H3 => slD m x l h H3 Q
  | .rvl m a => .of fun σ H Q => (wpB G X a).v σ H fun x H1 => ∃ xs, lstAt H1 x = some xs ∧ freshL m xs.reverse H1 Q
  | .dct _ es => .of fun σ H Q => wpEs G X es σ H fun _ H1 => Q .dct H1
  | .dnew t => .of fun _ H Q => ∀ p, H p = none → Q (.ref p) (updM H p (match t with | true => .dt [] | false => .dk []))
  | .dixT a es => .of fun σ H Q => (wpB G X a).v σ H fun x H1 => wpEs G X es σ H1 fun ds H2 => ds.length ≤ sizeLine ∧ ∃ p kvs ks d, x = .ref p ∧ H2 p = some (.dt kvs) ∧ keysD ds = some ks ∧ valD kvs ks = some d ∧ Q d H2
  | .call x es => .of fun σ H Q => wpEs G X es σ H fun ds H1 => ∃ n c, G.fn x = some (n, c) ∧ ds.length = n ∧ c ds H1 Q (X σ)
  | .bi m f es => .of fun σ H Q => wpEs G X es σ H fun ds H1 => biD m f ds H1 Q
  | .mth m a f es => .of fun σ H Q => (wpB G X a).v σ H fun x H1 => mtTy f x H1 ∧ wpEs G X es σ H1 fun ds H2 => mtD m f x ds H2 Q
  | .lc m e t i c own => .of fun σ H Q => wpI G X i σ H fun xs keep H1 => xs.length ≤ sizeLine ∧
      lcL (fun x H Q => wpT G X0 t x (wipeD σ own) H fun σ1 H1 => wpCs G X0 c σ1 H1 fun b H2 =>
        br b ((wpB G X0 e).v σ1 H2 fun y H3 => Q (some y) H3) (Q none H2)) keep xs H1 fun ys H2 => freshL m ys H2 Q
termination_by structural x => x
@[simp] def wpO (G : Gm) (X : En → XDK) : Oe → En → MH → (Option Int → MH → Prop) → Prop
  | .no, _, H, Q => Q none H
  | .so e, σ, H, Q => (wpB G X e).v σ H fun x H1 => ∃ i, x = .int i ∧ Q (some i) H1
termination_by structural x => x
@[simp] def wpCs (G : Gm) (X : En → XDK) : Es → En → MH → (Bool → MH → Prop) → Prop
  | .nil, _, H, Q => Q true H
  | .cons e es, σ, H, Q => (wpB G X e).c σ H fun b H1 => br b (wpCs G X es σ H1 Q) (Q false H1)
termination_by structural x => x
@[simp] def wpEs (G : Gm) (X : En → XDK) : Es → En → MH → (List D → MH → Prop) → Prop
  | .nil, _, H, Q => Q [] H
  | .cons e es, σ, H, Q => (wpB G X e).v σ H fun x H1 => wpEs G X es σ H1 fun xs H2 => Q (x :: xs) H2
termination_by structural x => x
@[simp] def wpT (G : Gm) (X : En → XDK) : T → D → En → MH → (En → MH → Prop) → Prop
  | .nm i, d, σ, H, Q => Q (σ.set i (some d)) H
  | .tup ts, d, σ, H, Q => ∃ ds, d = .tup ds ∧ ds.length = ts.len ∧ wpTs G X ts ds σ H Q
  | .sub a b, d, σ, H, Q => (wpB G X a).v σ H fun x H1 => (wpB G X b).v σ H1 fun y H2 => ∃ p xs i j, x = .ref p ∧ y = .int i ∧ H2 p = some (.lst xs) ∧ ixN xs.length i = some j ∧ Q σ (updM H2 p (.lst (xs.set j d)))
  | .dsub a b, d, σ, H, Q => (wpB G X a).v σ H fun x H1 => (wpB G X b).v σ H1 fun y H2 => ∃ p kvs k, x = .ref p ∧ keyD y = some k ∧ H2 p = some (.dk kvs) ∧ kvs.length < sizeLine ∧ Q σ (updM H2 p (.dk (putD kvs k d)))
  | .dsubT a es, d, σ, H, Q => (wpB G X a).v σ H fun x H1 => wpEs G X es σ H1 fun ds H2 => ds.length ≤ sizeLine ∧ ∃ p kvs ks, x = .ref p ∧ keysD ds = some ks ∧ H2 p = some (.dt kvs) ∧ kvs.length < sizeLine ∧ Q σ (updM H2 p (.dt (putD kvs ks d)))
termination_by structural x => x
@[simp] def wpTs (G : Gm) (X : En → XDK) : Ts → List D → En → MH → (En → MH → Prop) → Prop
  | .nil, ds, σ, H, Q => ds = [] ∧ Q σ H
  | .cons t ts, ds, σ, H, Q => ∃ d r, ds = d :: r ∧ wpT G X t d σ H fun σ1 H1 => wpTs G X ts r σ1 H1 Q
termination_by structural x => x
@[simp] def wpI (G : Gm) (X : En → XDK) : It → En → MH → (List D → (MH → Prop) → MH → Prop) → Prop
  | .seq e, σ, H, Q => (wpB G X e).v σ H fun x H1 => ∃ xs, seqAt H1 x = some xs ∧ Q xs (keepOf H1 x) H1
  | .rng1 e, σ, H, Q => (wpB G X e).v σ H fun x H1 => ∃ j : Int, x = .int j ∧ Q ((List.range j.toNat).map fun (n : Nat) => D.int (0 + (n : Int))) (fun _ => True) H1
  | .rng2 a b, σ, H, Q => (wpB G X a).v σ H fun x H1 => (wpB G X b).v σ H1 fun y H2 => ∃ i j : Int, x = .int i ∧ y = .int j ∧
      Q ((List.range (j - i).toNat).map fun (n : Nat) => D.int (i + (n : Int))) (fun _ => True) H2
termination_by structural x => x
end
@[simp] abbrev wpE (G : Gm) (X : En → XDK) (e : E) : TDv := (wpB G X e).v
@[simp] abbrev wpC (G : Gm) (X : En → XDK) (e : E) : TCv := (wpB G X e).c
/-- a for: the body from item to item -/
@[simp] def loopL (turn : D → En → MH → (En → MH → Prop) → Prop) (keep : MH → Prop) : List D → En → MH → (En → MH → Prop) → Prop
  | [], σ, H, Q => keep H ∧ Q σ H
  | x :: r, σ, H, Q => keep H ∧ turn x σ H fun σ1 H1 => loopL turn keep r σ1 H1 Q
def whileN (cond : En → MH → (Bool → MH → Prop) → Prop) (body : En → MH → (En → MH → Prop) → Prop) : Nat → En → MH → (En → MH → Prop) → Prop
  | 0, _, _, _ => False
  | n + 1, σ, H, Q => cond σ H fun b H1 => br b (body σ H1 fun σ2 H2 => whileN cond body n σ2 H2 Q) (Q σ H1)
mutual
@[simp] def wpS (G : Gm) (X : En → XDK) : S → Ends' → En → MH → Prop
  | .asg t e, D, σ, H => wpE G X e σ H fun x H1 => wpT G X t x σ H1 D.nx
  | .aug i o e, D, σ, H => ∃ x, σ[i]? = some (some x) ∧ wpE G X e σ H fun y H1 => augD o x y H1 fun z H2 => D.nx (σ.set i (some z)) H2
  | .ex e, D, σ, H => wpE G X e σ H fun _ H1 => D.nx σ H1
  | .ret e, D, σ, H => wpE G X e σ H D.rt
  | .retN, D, _, H => D.rt .non H
  | .cond c a b, D, σ, H => wpC G X c σ H fun b' H1 => br b' (wpSs G X a D σ H1) (wpSs G X b D σ H1)
  | .loop t i b, D, σ, H => wpI G X i σ H fun xs keep H1 => loopL (fun x σ H Q => wpT G X t x σ H fun σ1 H1 => wpSs G X b { D with nx := Q, ct := Q, bk := D.nx } σ1 H1) keep xs σ H1 D.nx
  | .whl c b, D, σ, H => ∃ n, whileN (wpC G X c) (fun σ H Q => wpSs G X b { D with nx := Q, ct := Q, bk := D.nx } σ H) n σ H D.nx
  | .fail, _, _, _ => False
  | .mtch e cs, D, σ, H => wpE G X e σ H fun x H1 => wpMs G X cs x D σ H1
  | .brk, D, σ, H => D.bk σ H
  | .ct, D, σ, H => D.ct σ H
  | .pass, D, σ, H => D.nx σ H
termination_by structural x => x
@[simp] def wpSs (G : Gm) (X : En → XDK) : Ss → Ends' → En → MH → Prop
  | .nil, D, σ, H => D.nx σ H
  | .cons s ss, D, σ, H => wpS G X s { D with nx := fun σ1 H1 => wpSs G X ss D σ1 H1 } σ H
termination_by structural x => x
@[simp] def wpMs (G : Gm) (X : En → XDK) : Ms → D → Ends' → En → MH → Prop
  | .nil, _, D, σ, H => D.nx σ H
  | .dflt b, _, D, σ, H => wpSs G X b D σ H
  | .cons ks b r, d, D, σ, H => ∃ c, eqStr d ks = some c ∧ br c (wpSs G X b D σ H) (wpMs G X r d D σ H)
termination_by structural x => x
end
end DL

set_option maxHeartbeats 4000000
namespace DL
open PySem PySem.Spec PyProof.Rows L2

section
variable {K : Kz} {H H' H'' : Hp} {Hm Hm' Hm'' : MH} {d : D} {v : V} {ds : List D} {vs : List V} {p : Addr} {o : HO}
theorem ext_nt (hp : H p = none) : NT Hm H Hm (upd H p o) := fun a u e n => ⟨by rw [upd_ne (ne_of_none e hp)]; exact e, n⟩
theorem RepO.nt (r : Rep K H Hm) (n : NT Hm H Hm' H') {a : Addr} {u : MO} (h : RepO K H Hm a u) (e : H' a = H a) : RepO K H' Hm' a u := by
  cases u with
  | lst ds => obtain ⟨vs, q, t⟩ := h; exact ⟨vs, by rw [e]; exact q, Iss.nt r n _ _ t⟩
  | ins C ns ds => obtain ⟨dx, fs, q, l, t⟩ := h; exact ⟨dx, fs, by rw [e]; exact q, l, Iss.nt r n _ _ t⟩
  | dk kvs => obtain ⟨us, q, l, t⟩ := h; exact ⟨us, by rw [e]; exact q, l, Iss.nt r n _ _ t⟩
  | dt kvs => obtain ⟨us, q, l, t⟩ := h; exact ⟨us, by rw [e]; exact q, l, Iss.nt r n _ _ t⟩
theorem Rep.step (r : Rep K H Hm) (n : NT Hm H Hm' H') (h : ∀ a u, Hm' a = some u → (Hm a = some u ∧ H' a = H a) ∨ RepO K H' Hm' a u) : Rep K H' Hm' := by
  refine ⟨fun a u e => ?_, fun a z => ?_⟩
  · rcases h a u e with ⟨q, z⟩ | q
    · exact (r.obj a u q).nt r n z
    · exact q
  · obtain ⟨o, q, m⟩ := r.hid a z
    exact ⟨o, n a o q m⟩
theorem Rep.ext (r : Rep K H Hm) (hp : H p = none) : Rep K (upd H p o) Hm := r.step (ext_nt hp) fun a u e => .inl ⟨e, by
  obtain ⟨w, q, _⟩ := r.hit e
  rw [upd_ne (ne_of_none q hp)]⟩
theorem new_nt (r : Rep K H Hm) (hp : H p = none) {u : MO} : NT Hm H (updM Hm p u) (upd H p o) := fun a w e n => by
  have hne := ne_of_none e hp
  exact ⟨by rw [upd_ne hne]; exact e, by rw [updM_ne hne]; exact n⟩
theorem new_rep (r : Rep K H Hm) (hp : H p = none) (t : Iss K H Hm ds vs) : Rep K (upd H p (.lst vs)) (updM Hm p (.lst ds)) := by
  refine r.step (new_nt r hp) fun a u e => ?_
  by_cases h : a = p
  · subst h
    rw [updM_same] at e; cases e
    exact .inr ⟨vs, upd_same, Iss.nt r (new_nt r hp) _ _ t⟩
  · rw [updM_ne h] at e
    exact .inl ⟨e, upd_ne h⟩
theorem wr_nt (hm : Hm p ≠ none) {u : MO} : NT Hm H (updM Hm p u) (upd H p o) := fun a w e n => by
  have hne : a ≠ p := fun z => hm (z ▸ n)
  exact ⟨by rw [upd_ne hne]; exact e, by rw [updM_ne hne]; exact n⟩
theorem wr_rep (r : Rep K H Hm) (hm : Hm p ≠ none) (t : Iss K H Hm ds vs) : Rep K (upd H p (.lst vs)) (updM Hm p (.lst ds)) := by
  refine r.step (wr_nt hm) fun a u e => ?_
  by_cases h : a = p
  · subst h
    rw [updM_same] at e; cases e
    exact .inr ⟨vs, upd_same, Iss.nt r (wr_nt hm) _ _ t⟩
  · rw [updM_ne h] at e
    exact .inl ⟨e, upd_ne h⟩
/-- what is wanted behind a step -/
def Bh (K : Kz) (Hm : MH) (H : Hp) (Qd : DK) (Q : VK) : Prop := ∀ v H' d Hm', NT Hm H Hm' H' → Rep K H' Hm' → Is K H' Hm' d v → Qd d Hm' → Q v H'
theorem Bh.here {Qd : DK} {Q : VK} (k : Bh K Hm H Qd Q) (r : Rep K H Hm) (i : Is K H Hm d v) (q : Qd d Hm) : Q v H := k v H d Hm .refl r i q
theorem Bh.tup {Qd : DK} {Q : VK} (k : Bh K Hm H Qd Q) (r : Rep K H Hm) (t : Iss K H Hm ds vs) (q : Qd (.tup ds) Hm) : ∀ p, H p = none → Q (.ref p) (upd H p (.tup vs)) := fun p hp =>
  k _ _ (.tup ds) Hm (ext_nt hp) (r.ext hp) (by unfold Is; exact ⟨p, vs, rfl, .inl (.inl upd_same), Iss.nt r (ext_nt hp) _ _ t⟩) q
theorem Bh.lst {m : Bool} {Qd : DK} {Q : VK} (k : Bh K Hm H Qd Q) (r : Rep K H Hm) (t : Iss K H Hm ds vs) (q : freshL m ds Hm Qd) : ∀ p, H p = none → Q (.ref p) (upd H p (.lst vs)) := fun p hp => by
  obtain ⟨_, q⟩ := q
  cases m with
  | true => exact k _ _ (.ref p) _ (new_nt r hp) (new_rep r hp t) (by unfold Is; rfl) (q p (r.free hp))
  | false => exact k _ _ (.rol ds) Hm (ext_nt hp) (r.ext hp) (by unfold Is; exact ⟨p, vs, rfl, .inl ⟨.inl upd_same, r.free hp, fun z => by
    obtain ⟨o, q, _⟩ := r.hid _ z
    rw [hp] at q; cases q⟩, Iss.nt r (ext_nt hp) _ _ t⟩) q
theorem Is.int (h : Is K H Hm (.int i) v) : v = .int i := by unfold Is at h; exact h
theorem Is.bl (h : Is K H Hm (.bl i) v) : v = .bl i := by unfold Is at h; exact h
theorem Is.str (h : Is K H Hm (.str i) v) : v = .str i := by unfold Is at h; exact h
theorem Is.non (h : Is K H Hm .non v) : v = .non := by unfold Is at h; exact h
theorem Is.ref (h : Is K H Hm (.ref a) v) : v = .ref a := by unfold Is at h; exact h
theorem Is.ty (h : Is K H Hm (.ty a) v) : v = .ty a := by unfold Is at h; exact h
theorem is_int {i : Int} : Is K H Hm (.int i) (.int i) := by unfold Is; rfl
theorem is_bl {i : Bool} : Is K H Hm (.bl i) (.bl i) := by unfold Is; rfl
theorem is_str {i : Str} : Is K H Hm (.str i) (.str i) := by unfold Is; rfl
theorem is_non : Is K H Hm .non .non := by unfold Is; rfl
theorem is_ref {a : Addr} : Is K H Hm (.ref a) (.ref a) := by unfold Is; rfl
theorem is_ty {n : String} : Is K H Hm (.ty n) (.ty n) := by unfold Is; rfl
theorem Is.tup (h : Is K H Hm (.tup ds) v) : ∃ a vs, v = .ref a ∧ SqT K.K H a vs ∧ Iss K H Hm ds vs := by unfold Is at h; exact h
theorem lst_of (r : Rep K H Hm) (h : Is K H Hm d v) (e : lstAt Hm d = some ds) : ∃ a vs, v = .ref a ∧ SqL K.K H a vs ∧ Iss K H Hm ds vs := by
  cases d with
  | rol xs =>
    unfold lstAt at e; cases e
    unfold Is at h
    obtain ⟨a, vs, e, f, t⟩ := h
    exact ⟨a, vs, e, f.sq, t⟩
  | ref a =>
    have e1 := h.ref
    unfold lstAt at e
    simp only at e
    cases q : Hm a with
    | none => rw [q] at e; cases e
    | some u =>
      rw [q] at e
      cases u with
      | lst xs =>
        cases e
        obtain ⟨vs, z, t⟩ := r.obj _ _ q
        exact ⟨a, vs, e1, .inl (.inl z), t⟩
      | ins C ns xs => cases e
      | dk kvs => cases e
      | dt kvs => cases e
  | _ => unfold lstAt at e; cases e
theorem seq_of (r : Rep K H Hm) (h : Is K H Hm d v) (e : seqAt Hm d = some ds) : ∃ a vs, v = .ref a ∧ (SqL K.K H a vs ∨ SqT K.K H a vs) ∧ Iss K H Hm ds vs := by
  cases d with
  | tup xs =>
    unfold seqAt at e; cases e
    obtain ⟨a, vs, e, f, t⟩ := h.tup
    exact ⟨a, vs, e, .inr f, t⟩
  | _ =>
    obtain ⟨a, vs, e, f, t⟩ := lst_of (ds := ds) r h (by unfold seqAt at e; exact e)
    exact ⟨a, vs, e, .inl f, t⟩
end

/-! ### operations by values -/
abbrev RD := D → D → MH → DK → Prop
def OpD (X : Cx) (f : Value → Value → Sem Value) (r : RD) : Prop :=
  OpR X f fun x y H Q => ∃ Z dx dy Hm Qd, Rep ⟨X.K, Z⟩ H Hm ∧ Is ⟨X.K, Z⟩ H Hm dx x ∧ Is ⟨X.K, Z⟩ H Hm dy y ∧ r dx dy Hm Qd ∧ Bh ⟨X.K, Z⟩ Hm H Qd Q
section
variable {X : Cx}
theorem mulOk.ok {i j : Int} (h : mulOk i j) : IntMulOk i j := by
  rcases h with h | h | h
  · exact CMul.ok (.inl h)
  · exact CMul.ok (.inr h)
  · have b : ∀ x : Int, Builtin.Int.intBits x ≤ x.natAbs.log2 + 1 := fun x => by
      unfold Builtin.Int.intBits
      split <;> omega
    have h1 := b i
    have h2 := b j
    have e : bitsLine = 134217728 := by decide
    unfold IntMulOk
    intro z
    rw [Bool.and_eq_true] at z
    have z2 := z.2
    unfold Builtin.Int.intTooBig at z2
    have z3 := of_decide_eq_true z2
    rw [e] at z3
    omega
theorem op_mulD : OpR X (binaryOp .Mult) (rI mulOk fun i j => .int (i * j)) := opI fun _ _ _ _ _ _ _ hc q => mul_int q hc.ok
theorem op_modD : OpR X (binaryOp .Mod) (rI (fun _ j => 0 < j) fun i j => .int (i % j)) := op_mod
/-- list + list, any two -/
theorem op_catL : OpR X (binaryOp .Add) (fun x y H Q => ∃ l b xs zs, x = .ref l ∧ y = .ref b ∧ SqL X.K H l xs ∧ SqL X.K H b zs ∧ xs.length + zs.length ≤ sizeLine ∧ ∀ p, H p = none → Q (.ref p) (upd H p (.lst (xs ++ zs)))) := by
  intro pins s σ H x y v u Q I rx ry h
  obtain ⟨l, b, xs, zs, rfl, rfl, hH, hB, hz, q⟩ := h
  cases rx
  cases ry
  obtain ⟨its, r, pl, _⟩ := I.list hH
  obtain ⟨its2, r2, pl2, _⟩ := I.list hB
  obtain ⟨⟨cls, dd, data, sl⟩, n, ho, hc, _, hd⟩ := pl
  obtain ⟨⟨cls2, dd2, data2, sl2⟩, n2, ho2, hc2, _, hd2⟩ := pl2
  simp only at hc hd hc2 hd2
  subst hc hd hc2 hd2
  have hl := r.length
  have hl2 := r2.length
  have e : its.toArray ++ its2.toArray = (its ++ its2).toArray := by simp
  refine concat_meets ⟨_, ho, rfl⟩ ⟨_, ho2, rfl⟩ noFill_list_add seq_list_add PySem.F.slot_list_add PySem.F.entry_list_add (PySem.F.args_list_add_2 _ _) (list_addW l b its.toArray its2.toArray n n2 dd dd2 sl sl2 (by simp only [List.size_toArray]; omega)) ⟨ho, ho2, ?_⟩
  rw [e]
  exact ⟨.ref _, _, I.lnew (t' := s.toks) (r.append r2) (by rw [List.length_append]; omega), rfl, q _ I.fresh⟩
end
end DL

set_option maxHeartbeats 400000
namespace DL
open PySem PySem.Spec PyProof.Rows L2

/-- room for a division of any size -/
structure Big (X : Cx) : Prop where
  seer : X.base.NoSeer
  tree : X.prog.given.tree = none
  dp : X.A.depth + 100 < recursionLimit
  fr : ∃ env l, X.stack = env :: l ∧ env.scope.isGenerator = false ∧ env.scope.isCoroutine = false ∧ env.builtins = builtinsNs ∧ env.globals = mainGlobals
structure Cok (X : Cx) : Prop where
  calm : X.calm = true
  nd : X.N.Nodup
  room : Room 40 X.A
  big : Big X
section
variable {X : Cx}
theorem Big.room (b : Big X) {pins : List (Addr × Obj)} {σ : L2.St} {H : Hp} {s : Shared} (I : Inv X pins σ H s) : PylongRoom (model X.prog X.w) X.A s := by
  obtain ⟨env, l, h1, h2, h3, h4, h5⟩ := b.fr
  exact PylongRoom.of I.nolimit b.dp (SeerAt.of (b.seer.keeps I.bk) b.tree (I.ok.frames.trans (by rw [h1])) h2 h3 h4 h5)
theorem op_fdivD (b : Big X) : OpR X (binaryOp .FloorDiv) (rI (fun _ j => 0 < j) fun i j => .int (i / j)) := by
  intro pins s σ H x y v u Q I rx ry h
  obtain ⟨i, j, rfl, rfl, hc, q⟩ := h
  obtain ⟨t, rfl⟩ := rx
  obtain ⟨t', rfl⟩ := ry
  have hr := b.room I
  exact floordiv_int (by omega) (by rw [Int.fdiv_eq_ediv_of_nonneg i (by omega)]; exact ⟨.int (i / j), H, I.tok _, ⟨_, rfl⟩, q⟩) (.inr hr)
theorem op_binD (C : Cok X) (m : Bool) (o : Operator) : OpD X (binaryOp o) (binD m o) := by
  intro pins s σ H x y v u Q I rx ry h
  obtain ⟨Z, dx, dy, Hm, Qd, rep, ix, iy, hr, k⟩ := h
  unfold binD at hr
  split at hr
  · exact op_add pins s σ H x y v u Q I rx ry ⟨_, _, ix.int, iy.int, k.here rep is_int hr⟩
  · exact op_sub pins s σ H x y v u Q I rx ry ⟨_, _, ix.int, iy.int, k.here rep is_int hr⟩
  · exact op_mulD pins s σ H x y v u Q I rx ry ⟨_, _, ix.int, iy.int, hr.1, k.here rep is_int hr.2⟩
  · exact op_fdivD C.big pins s σ H x y v u Q I rx ry ⟨_, _, ix.int, iy.int, hr.1, k.here rep is_int hr.2⟩
  · exact op_modD pins s σ H x y v u Q I rx ry ⟨_, _, ix.int, iy.int, hr.1, k.here rep is_int hr.2⟩
  · exact op_pow pins s σ H x y v u Q I rx ry ⟨_, _, ix.int, iy.int, hr.1, k.here rep is_int hr.2⟩
  · exact op_add_str pins s σ H x y v u Q I rx ry ⟨_, _, ix.str, iy.str, hr.1, k.here rep is_str hr.2⟩
  · obtain ⟨a, vs, e1, s1, t1⟩ := ix.tup
    obtain ⟨b, ws, e2, s2, t2⟩ := iy.tup
    obtain ⟨_, hz, q⟩ := hr
    have is2 : ∀ {es : List D} {zs : List V} {c : Addr}, SqT X.K H c zs → Iss ⟨X.K, Z⟩ H Hm es zs → Is ⟨X.K, Z⟩ H Hm (.tup es) (.ref c) := fun q t => by unfold Is; exact ⟨_, _, rfl, q, t⟩
    refine op_catA pins s σ H x y v u Q I rx ry ⟨a, b, vs, ws, e1, e2, s1, s2, by rw [t1.length, t2.length]; exact hz, fun z => ?_, fun _ z => ?_, fun _ _ => k.tup rep (t1.append t2) q⟩
    · exact k.here rep (is2 s2 (by have := t1.append t2; rw [z, List.nil_append] at this; exact this)) q
    · exact k.here rep (is2 s1 (by have := t1.append t2; rw [z, List.append_nil] at this; exact this)) q
  · obtain ⟨xs, ys, e1, e2, q⟩ := hr
    obtain ⟨a, vs, z1, s1, t1⟩ := lst_of rep ix e1
    obtain ⟨b, ws, z2, s2, t2⟩ := lst_of rep iy e2
    exact op_catL pins s σ H x y v u Q I rx ry ⟨a, b, vs, ws, z1, z2, s1, s2, by rw [t1.length, t2.length, ← List.length_append]; exact q.1, k.lst rep (t1.append t2) q⟩
  · exact hr.elim
theorem op_augD (C : Cok X) (o : Operator) : PIp X o fun x y H Q => ∃ Z dx dy Hm Qd, Rep ⟨X.K, Z⟩ H Hm ∧ Is ⟨X.K, Z⟩ H Hm dx x ∧ Is ⟨X.K, Z⟩ H Hm dy y ∧ augD o dx dy Hm Qd ∧ Bh ⟨X.K, Z⟩ Hm H Qd Q := by
  intro pins s σ H x y v u Q I rx ry h
  obtain ⟨Z, dx, dy, Hm, Qd, rep, ix, iy, hr, k⟩ := h
  unfold augD at hr
  split at hr
  · exact iop_add pins s σ H x y v u Q I rx ry ⟨_, _, ix.int, iy.int, k.here rep is_int hr⟩
  · exact iop_sub pins s σ H x y v u Q I rx ry ⟨_, _, ix.int, iy.int, k.here rep is_int hr⟩
  · exact iop_add_str pins s σ H x y v u Q I rx ry ⟨_, _, ix.str, iy.str, hr.1, k.here rep is_str hr.2⟩
  · exact hr.elim

/-! ### comparisons -/
section
variable {K : Kz} {H : Hp} {Hm : MH} {d : D} {v : V} {ds : List D} {vs : List V}
mutual
theorem dp_of : ∀ (d : D) (v : V) (p : PyData), Is K H Hm d v → pyD d = some p → Dp K.K H v p
  | .non, v, p, h, e => by rw [h.non]; unfold pyD at e; cases e; exact .non
  | .bl b, v, p, h, e => by rw [h.bl]; unfold pyD at e; cases e; exact .bl b
  | .int b, v, p, h, e => by rw [h.int]; unfold pyD at e; cases e; exact .int b
  | .str b, v, p, h, e => by rw [h.str]; unfold pyD at e; cases e; exact .str b
  | .tup ds, v, p, h, e => by
    obtain ⟨a, vs, rfl, s, t⟩ := h.tup
    unfold pyD at e
    cases q : pyDs ds with
    | none => rw [q] at e; cases e
    | some ps =>
      rw [q] at e; cases e
      exact .tup s (dp_all ds vs ps t q)
  | .rol ds, v, p, h, e => by
    unfold Is at h
    obtain ⟨a, vs, rfl, s, t⟩ := h
    unfold pyD at e
    cases q : pyDs ds with
    | none => rw [q] at e; cases e
    | some ps =>
      rw [q] at e; cases e
      exact .lst s.sq (dp_all ds vs ps t q)
  | .ty n, v, p, h, e => by unfold pyD at e; cases e
  | .ref n, v, p, h, e => by unfold pyD at e; cases e
  | .obj _ _ _, v, p, h, e => by unfold pyD at e; cases e
  | .dct, v, p, h, e => by unfold pyD at e; cases e
theorem dp_all : ∀ (ds : List D) (vs : List V) (ps : List PyData), Iss K H Hm ds vs → pyDs ds = some ps → DpAll K.K H vs ps
  | [], vs, ps, h, e => by rw [h.nil_of]; unfold pyDs at e; cases e; exact .nil
  | d :: ds, vs, ps, h, e => by
    obtain ⟨v, r, rfl, q, t⟩ := h.cons_of
    unfold pyDs at e
    cases q1 : pyD d with
    | none => rw [q1] at e; cases e
    | some p =>
      cases q2 : pyDs ds with
      | none => rw [q1, q2] at e; cases e
      | some ps' =>
        rw [q1, q2] at e; cases e
        exact .cons (dp_of d v p q q1) (dp_all ds r ps' t q2)
end
theorem dp_rd {p : PyData} (r : Rep K H Hm) (h : Is K H Hm d v) (e : pyD (rdL Hm d) = some p) : Dp K.K H v p := by
  unfold rdL at e
  cases q : lstAt Hm d with
  | none => rw [q] at e; exact dp_of d v p h e
  | some ds =>
    rw [q] at e
    obtain ⟨a, vs, rfl, s, t⟩ := lst_of r h q
    unfold pyD at e
    cases q2 : pyDs ds with
    | none => simp only [q2] at e; cases e
    | some ps =>
      simp only [q2] at e; cases e
      exact .lst s (dp_all ds vs ps t q2)
/-- what eqD says: scalars, or data of one shape -/
theorem eqD_of {dx dy : D} {x y : V} {c : Bool} (r : Rep K H Hm) (ix : Is K H Hm dx x) (iy : Is K H Hm dy y) (e : eqD (rdL Hm dx) (rdL Hm dy) = some c) :
    (scal x y = true ∧ decide (x = y) = c) ∨ ∃ p q, Dp K.K H x p ∧ Dp K.K H y q ∧ SeqAt.shaped p = true ∧ SeqAt.shaped q = true ∧ PyData.eqv p q = c := by
  have sc : ∀ {d : D} {w : V}, Is K H Hm d w → (∀ i, rdL Hm d = .int i → w = .int i) ∧ (∀ i, rdL Hm d = .bl i → w = .bl i) ∧ (∀ i, rdL Hm d = .str i → w = .str i) ∧ (rdL Hm d = .non → w = .non) := fun {d w} h => by
    have nl : ∀ z, rdL Hm d = z → (∀ l, z ≠ .rol l) → d = z := fun z e n => by
      unfold rdL at e
      cases q : lstAt Hm d with
      | none => rw [q] at e; exact e
      | some l => rw [q] at e; exact absurd e.symm (n l)
    refine ⟨fun i e => ?_, fun i e => ?_, fun i e => ?_, fun e => ?_⟩
    · exact (nl _ e (by intro l z; cases z) ▸ h : Is K H Hm (.int i) w).int
    · exact (nl _ e (by intro l z; cases z) ▸ h : Is K H Hm (.bl i) w).bl
    · exact (nl _ e (by intro l z; cases z) ▸ h : Is K H Hm (.str i) w).str
    · exact (nl _ e (by intro l z; cases z) ▸ h : Is K H Hm .non w).non
  have sx := sc ix
  have sy := sc iy
  unfold eqD at e
  split at e
  · rename_i a b ea eb
    rw [sx.1 _ ea, sy.1 _ eb]
    refine .inl ⟨rfl, ?_⟩
    cases e
    rw [dec_int, Bool.beq_eq_decide_eq]
  · rename_i a b ea eb
    rw [sx.2.1 _ ea, sy.2.1 _ eb]
    refine .inl ⟨rfl, ?_⟩
    cases e
    rw [dec_bl, Bool.beq_eq_decide_eq]
  · rename_i a b ea eb
    rw [sx.2.2.1 _ ea, sy.2.2.1 _ eb]
    refine .inl ⟨rfl, ?_⟩
    cases e
    rw [dec_str, Bool.eq_iff_iff]
    simp
  · rename_i ea eb
    rw [sx.2.2.2 ea, sy.2.2.2 eb]
    exact .inl ⟨rfl, by cases e; simp⟩
  · cases q1 : pyD (rdL Hm dx) with
    | none => rw [q1] at e; cases e
    | some p =>
      cases q2 : pyD (rdL Hm dy) with
      | none => rw [q1, q2] at e; cases e
      | some p' =>
        rw [q1, q2] at e
        simp only [Option.bind_some] at e
        split at e
        · rename_i hs
          rw [Bool.and_eq_true] at hs
          cases e
          exact .inr ⟨p, p', dp_rd r ix q1, dp_rd r iy q2, hs.1, hs.2, rfl⟩
        · cases e
theorem flat_of (h : Is K H Hm d v) (f : flatD d = true) : flatV v = true := by
  cases d <;> first | cases f | skip
  · rw [h.non]; rfl
  · rw [h.bl]; rfl
  · rw [h.int]; rfl
  · rw [h.str]; rfl
theorem flats_of : ∀ {ds : List D} {vs : List V}, Iss K H Hm ds vs → ds.all flatD = true → vs.all flatV = true
  | [], vs, h, _ => by rw [h.nil_of]; rfl
  | d :: ds, vs, h, f => by
    obtain ⟨v, r, rfl, q, t⟩ := h.cons_of
    rw [List.all_cons, Bool.and_eq_true] at f ⊢
    exact ⟨flat_of q f.1, flats_of t f.2⟩
theorem eqF_of {d e : D} {v w : V} (h : Is K H Hm d v) (g : Is K H Hm e w) (f : flatD d = true) (f' : flatD e = true) : eqV v w = eqF d e := by
  cases d <;> first | cases f | skip
  all_goals (cases e <;> first | cases f' | skip)
  all_goals (unfold Is at h g; subst h g; rfl)
theorem inV_of {x : D} {y : V} (h : Is K H Hm x y) (f : flatD x = true) : ∀ {ds : List D} {vs : List V}, Iss K H Hm ds vs → ds.all flatD = true → inV y vs = ds.any fun z => eqF z x
  | [], vs, t, _ => by rw [t.nil_of]; rfl
  | d :: ds, vs, t, g => by
    obtain ⟨v, r, rfl, q, t⟩ := t.cons_of
    rw [List.all_cons, Bool.and_eq_true] at g
    have ih := inV_of h f t g.2
    unfold inV at ih ⊢
    rw [List.any_cons, List.any_cons, ih, eqF_of q h g.1 f]
theorem isnon_of (h : Is K H Hm d v) : isNonD d = decide (v = .non) := by
  cases d with
  | non => rw [h.non]; rfl
  | bl b => rw [h.bl]; rfl
  | int b => rw [h.int]; rfl
  | str b => rw [h.str]; rfl
  | ty b => rw [h.ty]; rfl
  | ref b => rw [h.ref]; rfl
  | tup ds => obtain ⟨a, vs, rfl, _⟩ := h.tup; rfl
  | rol ds => unfold Is at h; obtain ⟨a, vs, rfl, _⟩ := h; rfl
  | obj C ns ds => unfold Is at h; obtain ⟨a, dx, vs, rfl, _⟩ := h; rfl
  | dct => unfold Is at h; obtain ⟨a, dx, rfl, _⟩ := h; rfl
end
theorem op_cmpD (C : Cok X) (o : CmpOp) : OpD X (compareOp o) (fun x y H Q => ∃ c, cmpD o x y H = some c ∧ Q (.bl c) H) := by
  intro pins s σ H x y v u Q I rx ry h
  obtain ⟨Z, dx, dy, Hm, Qd, rep, ix, iy, ⟨c, hc, q⟩, k⟩ := h
  have fin : Q (.bl c) H := k.here rep is_bl q
  have hu := C.room.units
  unfold cmpD at hc
  split at hc
  · cases hc
    exact op_lt pins s σ H x y v u Q I rx ry ⟨_, _, ix.int, iy.int, fin⟩
  · cases hc
    exact op_le pins s σ H x y v u Q I rx ry ⟨_, _, ix.int, iy.int, fin⟩
  · cases hc
    exact op_gt pins s σ H x y v u Q I rx ry ⟨_, _, ix.int, iy.int, fin⟩
  · cases hc
    exact op_ge pins s σ H x y v u Q I rx ry ⟨_, _, ix.int, iy.int, fin⟩
  · rcases eqD_of rep ix iy hc with ⟨h1, h2⟩ | ⟨p, p', h1, h2, h3, h4, h5⟩
    · exact op_eq pins s σ H x y v u Q I rx ry ⟨h1, by rw [h2]; exact fin⟩
    · exact op_eqD hu pins s σ H x y v u Q I rx ry ⟨p, p', h1, h2, h3, h4, by rw [h5]; exact fin⟩
  · cases e : eqD (rdL Hm dx) (rdL Hm dy) with
    | none => rw [e] at hc; cases hc
    | some b =>
      rw [e] at hc
      have hc : (!b) = c := Option.some.inj hc
      rcases eqD_of rep ix iy e with ⟨h1, h2⟩ | ⟨p, p', h1, h2, h3, h4, h5⟩
      · exact op_ne pins s σ H x y v u Q I rx ry ⟨h1, by rw [h2, hc]; exact fin⟩
      · exact op_neD hu pins s σ H x y v u Q I rx ry ⟨p, p', h1, h2, h3, h4, by rw [h5, hc]; exact fin⟩
  · have hc := Option.some.inj hc
    exact op_isN pins s σ H x y v u Q I rx ry ⟨iy.non, by rw [← isnon_of ix, hc]; exact fin⟩
  · have hc := Option.some.inj hc
    refine op_notN pins s σ H x y v u Q I rx ry ⟨iy.non, ?_⟩
    rw [← isnon_of ix, hc]; exact fin
  · cases e : seqAt Hm dy with
    | none => rw [e] at hc; cases hc
    | some xs =>
      rw [e] at hc
      obtain ⟨a, vs, rfl, sq, t⟩ := seq_of rep iy e
      have hc : inD dx xs = some c := hc
      unfold inD at hc
      split at hc
      · rename_i hf
        rw [Bool.and_eq_true] at hf
        cases hc
        exact op_in_seq pins s σ H x _ v u Q I rx ry ⟨a, vs, rfl, sq, flat_of ix hf.1, flats_of t hf.2, by rw [inV_of ix hf.1 t hf.2]; exact fin⟩
      · cases hc
  · cases e : seqAt Hm dy with
    | none => rw [e] at hc; cases hc
    | some xs =>
      rw [e] at hc
      obtain ⟨a, vs, rfl, sq, t⟩ := seq_of rep iy e
      have hc : (inD dx xs).map (!·) = some c := hc
      unfold inD at hc
      split at hc
      · rename_i hf
        rw [Bool.and_eq_true] at hf
        cases hc
        exact op_notIn_seq pins s σ H x _ v u Q I rx ry ⟨a, vs, rfl, sq, flat_of ix hf.1, flats_of t hf.2, by rw [inV_of ix hf.1 t hf.2]; exact fin⟩
      · cases hc
  · cases hc
theorem tru_of {K : Kz} {H : Hp} {Hm : MH} {d : D} {x : V} {c : Bool} (rep : Rep K H Hm) (ix : Is K H Hm d x) (hc : truD Hm d = some c) : TruV K.K x H c := by
  unfold truD at hc
  split at hc
  · cases hc; rw [ix.non]; rfl
  · cases hc; rw [ix.bl]; rfl
  · cases hc; rw [ix.int]; rfl
  · cases e : seqAt Hm d with
    | none => rw [e] at hc; cases hc
    | some xs =>
      rw [e] at hc
      obtain ⟨a, vs, rfl, sq, t⟩ := seq_of rep ix e
      have hc : (!xs.isEmpty) = c := Option.some.inj hc
      have e2 : (!vs.isEmpty) = c := by
        rw [← hc]
        cases xs with
        | nil => rw [t.nil_of]; rfl
        | cons z r => obtain ⟨v, w, rfl, _⟩ := t.cons_of; rfl
      rcases sq with sq | sq
      · exact .inl ⟨vs, sq, e2.symm⟩
      · exact .inr (.inl ⟨vs, sq, e2.symm⟩)
end
end DL

set_option maxHeartbeats 400000
namespace DL
open PySem PySem.Spec PyProof.Rows L2
/-! ### dicts -/
section
variable {κ : Type} [DecidableEq κ]
theorem valD_nil {k : κ} : valD ([] : List (κ × D)) k = none := rfl
theorem valD_pos {p : κ × D} {r : List (κ × D)} {k : κ} (e : p.1 = k) : valD (p :: r) k = some p.2 := by simp [valD, List.find?_cons, e]
theorem valD_neg {p : κ × D} {r : List (κ × D)} {k : κ} (e : ¬ p.1 = k) : valD (p :: r) k = valD r k := by simp [valD, List.find?_cons, e]
theorem valD_any (k : κ) : ∀ kvs : List (κ × D), (kvs.any fun kv => decide (kv.1 = k)) = (valD kvs k).isSome
  | [] => rfl
  | p :: r => by
    by_cases e : p.1 = k
    · rw [valD_pos e, List.any_cons, decide_eq_true e]; rfl
    · rw [valD_neg e, List.any_cons, decide_eq_false e, valD_any k r]; rfl
theorem valD_map (k j : κ) (y : D) : ∀ kvs : List (κ × D), valD (kvs.map fun kv => if kv.1 = k then (kv.1, y) else kv) j = (valD kvs j).map fun x => if j = k then y else x
  | [] => rfl
  | p :: r => by
    rw [List.map_cons]
    by_cases e : p.1 = j
    · by_cases e2 : p.1 = k
      · rw [if_pos e2, valD_pos (p := (p.1, y)) e, valD_pos e, Option.map_some, if_pos (e.symm.trans e2)]
      · rw [if_neg e2, valD_pos e, valD_pos e, Option.map_some, if_neg (fun z => e2 (e.trans z))]
    · by_cases e2 : p.1 = k
      · rw [if_pos e2, valD_neg (p := (p.1, y)) e, valD_neg e, valD_map k j y r]
      · rw [if_neg e2, valD_neg e, valD_neg e, valD_map k j y r]
theorem valD_snoc (k j : κ) (y : D) : ∀ kvs : List (κ × D), valD kvs k = none → valD (kvs ++ [(k, y)]) j = if j = k then some y else valD kvs j
  | [], _ => by
    by_cases e : j = k
    · rw [if_pos e, List.nil_append, valD_pos e.symm]
    · rw [if_neg e, List.nil_append, valD_neg (fun z => e z.symm)]
  | p :: r, h => by
    by_cases e0 : p.1 = k
    · rw [valD_pos e0] at h; cases h
    · rw [valD_neg e0] at h
      rw [List.cons_append]
      by_cases e : p.1 = j
      · rw [valD_pos e, valD_pos e, if_neg (fun z => e0 (e.trans z))]
      · rw [valD_neg e, valD_neg e, valD_snoc k j y r h]
theorem valD_put (kvs : List (κ × D)) (k j : κ) (y : D) : valD (putD kvs k y) j = if j = k then some y else valD kvs j := by
  unfold putD
  rw [valD_any]
  cases h : valD kvs k with
  | none => exact valD_snoc k j y kvs h
  | some x =>
    rw [show (some x).isSome = true from rfl, if_pos rfl, valD_map]
    by_cases e : j = k
    · subst e
      rw [h]
      simp
    · rw [if_neg e]
      simp [e]
theorem putD_new {kvs : List (κ × D)} {k : κ} (v : D) (h : valD kvs k = none) : putD kvs k v = kvs ++ [(k, v)] := by
  unfold putD
  rw [valD_any, h]; rfl
theorem putD_len (kvs : List (κ × D)) (k : κ) (v : D) : (putD kvs k v).length ≤ kvs.length + 1 := by
  unfold putD
  split
  · rw [List.length_map]; omega
  · rw [List.length_append]; exact Nat.le_refl _
variable {K : Kz} {H : Hp} {Hm : MH}
/-- a table and its values -/
def KVs (K : Kz) (H : Hp) (Hm : MH) (kvs : List (κ × D)) (us : List (κ × V)) : Prop := us.map (·.1) = kvs.map (·.1) ∧ Iss K H Hm (kvs.map (·.2)) (us.map (·.2))
theorem KVs.nil : KVs K H Hm ([] : List (κ × D)) [] := ⟨rfl, .nil⟩
theorem KVs.cons_of {p : κ × D} {kvs : List (κ × D)} {us : List (κ × V)} (h : KVs K H Hm (p :: kvs) us) : ∃ v r, us = (p.1, v) :: r ∧ Is K H Hm p.2 v ∧ KVs K H Hm kvs r := by
  obtain ⟨h1, h2⟩ := h
  cases us with
  | nil => cases h1
  | cons u r =>
    rw [List.map_cons, List.map_cons, List.cons.injEq] at h1
    obtain ⟨v, t, e, i, j⟩ := h2.cons_of
    rw [List.map_cons, List.cons.injEq] at e
    obtain ⟨e1, e2⟩ := e
    refine ⟨v, r, by rw [← h1.1, ← e1], i, h1.2, by rw [e2]; exact j⟩
theorem KVs.cons {k : κ} {d : D} {v : V} {kvs : List (κ × D)} {us : List (κ × V)} (i : Is K H Hm d v) (h : KVs K H Hm kvs us) : KVs K H Hm ((k, d) :: kvs) ((k, v) :: us) :=
  ⟨by rw [List.map_cons, List.map_cons, h.1], .cons i h.2⟩
theorem KVs.get : ∀ {kvs : List (κ × D)} {us : List (κ × V)} {k : κ} {d : D}, KVs K H Hm kvs us → valD kvs k = some d → ∃ v, valV us k = some v ∧ Is K H Hm d v
  | [], _, _, _, _, e => by cases e
  | p :: kvs, us, k, d, h, e => by
    obtain ⟨v, r, rfl, i, h⟩ := h.cons_of
    by_cases q : p.1 = k
    · rw [valD_pos q] at e; cases e
      exact ⟨v, valV_pos q, i⟩
    · rw [valD_neg q] at e
      rw [valV_neg q]
      exact h.get e
theorem KVs.any : ∀ {kvs : List (κ × D)} {us : List (κ × V)} (k : κ), KVs K H Hm kvs us → (us.any fun kv => decide (kv.1 = k)) = kvs.any fun kv => decide (kv.1 = k)
  | [], us, k, h => by
    have : us = [] := by have := h.1; simpa using this
    rw [this]; rfl
  | p :: kvs, us, k, h => by
    obtain ⟨v, r, rfl, i, h⟩ := h.cons_of
    rw [List.any_cons, List.any_cons, h.any k]
theorem KVs.none : ∀ {kvs : List (κ × D)} {us : List (κ × V)} {k : κ}, KVs K H Hm kvs us → valD kvs k = .none → valV us k = .none := fun {kvs us k} h e => by
  have := h.any k
  rw [valV_any, valD_any, e] at this
  cases q : valV us k with
  | none => rfl
  | some v => rw [q] at this; cases this
theorem KVs.repl (k : κ) {d : D} {v : V} (i : Is K H Hm d v) : ∀ {kvs : List (κ × D)} {us : List (κ × V)}, KVs K H Hm kvs us → KVs K H Hm (kvs.map fun kv => if kv.1 = k then (kv.1, d) else kv) (us.map fun kv => if kv.1 = k then (kv.1, v) else kv)
  | [], us, h => by
    have : us = [] := by have := h.1; simpa using this
    rw [this]; exact .nil
  | p :: kvs, us, h => by
    obtain ⟨w, r, rfl, j, h⟩ := h.cons_of
    rw [List.map_cons, List.map_cons]
    by_cases q : p.1 = k
    · rw [if_pos q, if_pos q]
      exact .cons i (h.repl k i)
    · rw [if_neg q, if_neg q]
      exact .cons j (h.repl k i)
theorem KVs.snoc {k : κ} {d : D} {v : V} (i : Is K H Hm d v) {kvs : List (κ × D)} {us : List (κ × V)} (h : KVs K H Hm kvs us) : KVs K H Hm (kvs ++ [(k, d)]) (us ++ [(k, v)]) :=
  ⟨by rw [List.map_append, List.map_append, h.1]; rfl, by rw [List.map_append, List.map_append]; exact h.2.append (.cons i .nil)⟩
theorem KVs.put (k : κ) {d : D} {v : V} (i : Is K H Hm d v) {kvs : List (κ × D)} {us : List (κ × V)} (h : KVs K H Hm kvs us) : KVs K H Hm (putD kvs k d) (putK us k v) := by
  unfold putD putK
  rw [h.any k]
  split
  · exact h.repl k i
  · exact h.snoc i
theorem KVs.len {kvs : List (κ × D)} {us : List (κ × V)} (h : KVs K H Hm kvs us) : us.length = kvs.length := by
  have := congrArg List.length h.1
  simpa using this
theorem KVs.nt {H' : Hp} {Hm' : MH} (r : Rep K H Hm) (n : NT Hm H Hm' H') {kvs : List (κ × D)} {us : List (κ × V)} (h : KVs K H Hm kvs us) : KVs K H' Hm' kvs us := ⟨h.1, Iss.nt r n _ _ h.2⟩
end
section
variable {K : Kz} {H : Hp} {Hm : MH} {d : D} {v : V} {ds : List D} {vs : List V} {p : Addr} {o : HO}
theorem key_of' {k : Key} (h : Is K H Hm d v) (e : keyD d = some k) : v = kV k := by
  unfold keyD at e
  split at e
  · cases e; rw [h.int]; rfl
  · cases e; rw [h.str]; rfl
  · cases e
theorem keys_of : ∀ {ds : List D} {vs : List V} {ks : List Key}, Iss K H Hm ds vs → keysD ds = some ks → vs = ks.map kV
  | [], vs, ks, h, e => by unfold keysD at e; cases e; exact h.nil_of
  | d :: ds, vs, ks, h, e => by
    obtain ⟨v, r, rfl, i, h⟩ := h.cons_of
    unfold keysD at e
    simp only [Option.bind_eq_some_iff, Option.map_eq_some_iff] at e
    obtain ⟨k, h1, ks', h2, rfl⟩ := e
    rw [key_of' i h1, keys_of h h2]; rfl
theorem new_repO {u : MO} (r : Rep K H Hm) (hp : H p = none) (h : RepO K (upd H p o) (updM Hm p u) p u) : Rep K (upd H p o) (updM Hm p u) := by
  refine r.step (new_nt r hp) fun a w e => ?_
  by_cases q : a = p
  · subst q
    rw [updM_same] at e; cases e
    exact .inr h
  · rw [updM_ne q] at e
    exact .inl ⟨e, upd_ne q⟩
theorem wr_repO {u : MO} (r : Rep K H Hm) (hm : Hm p ≠ none) (h : RepO K (upd H p o) (updM Hm p u) p u) : Rep K (upd H p o) (updM Hm p u) := by
  refine r.step (wr_nt hm) fun a w e => ?_
  by_cases q : a = p
  · subst q
    rw [updM_same] at e; cases e
    exact .inr h
  · rw [updM_ne q] at e
    exact .inl ⟨e, upd_ne q⟩
theorem Bh.dnew {Qd : DK} {Q : VK} {u : MO} (k : Bh K Hm H Qd Q) (r : Rep K H Hm) (hu : (u = .dk [] ∧ o = .dK []) ∨ (u = .dt [] ∧ o = .dT [])) (q : ∀ p, Hm p = none → Qd (.ref p) (updM Hm p u)) : ∀ p, H p = none → Q (.ref p) (upd H p o) := fun p hp => by
  refine k _ _ (.ref p) _ (new_nt r hp) (new_repO r hp ?_) (by unfold Is; rfl) (q p (r.free hp))
  rcases hu with ⟨rfl, rfl⟩ | ⟨rfl, rfl⟩
  · exact ⟨[], upd_same, rfl, .nil⟩
  · exact ⟨[], upd_same, rfl, .nil⟩
theorem dk_rep {kvs : List (Key × D)} (r : Rep K H Hm) (e : Hm p = some (.dk kvs)) : ∃ us, H p = some (.dK us) ∧ KVs K H Hm kvs us := by
  obtain ⟨us, h, a, b⟩ := r.obj _ _ e
  exact ⟨us, h, a, b⟩
theorem dt_rep {kvs : List (List Key × D)} (r : Rep K H Hm) (e : Hm p = some (.dt kvs)) : ∃ us, H p = some (.dT us) ∧ KVs K H Hm kvs us := by
  obtain ⟨us, h, a, b⟩ := r.obj _ _ e
  exact ⟨us, h, a, b⟩
end
section
variable {X : Cx}
theorem ix_dict (hu : X.A.units + 1 < cLine) : IxR X (fun x y H Q => ∃ a v, x = .ref a ∧ DGet H a y (some v) ∧ Q v H) := by
  intro value slice pins s σ H x y v u Q I rx ry h hs
  obtain ⟨a, z, rfl, g, q⟩ := h
  obtain rfl : v = Value.ref a := rx
  exact tail_any (dict_typeIs I g) PySem.F.slot_dict_getitem.lookup (d_getItem hu I g ry fun w' s3 I3 rw' => ⟨z, H, I3, rw', q⟩) hs
/-- d[k] = v, a plain key -/
theorem set_dkD (hu : X.A.units + 1 < cLine) : PSet X fun o i v H Q => ∃ (Z : Addr → Prop) (dx dy dv : D) (Hm : MH) (Qd : MH → Prop), Rep ⟨X.K, Z⟩ H Hm ∧ Is ⟨X.K, Z⟩ H Hm dx o ∧ Is ⟨X.K, Z⟩ H Hm dy i ∧ Is ⟨X.K, Z⟩ H Hm dv v ∧
    (∃ p kvs k, dx = .ref p ∧ keyD dy = some k ∧ Hm p = some (.dk kvs) ∧ kvs.length < sizeLine ∧ Qd (updM Hm p (.dk (putD kvs k dv)))) ∧ ∀ H' Hm', NT Hm H Hm' H' → Rep ⟨X.K, Z⟩ H' Hm' → Qd Hm' → Q H' := by
  intro pins s σ H o i v ov iv u Q I ro ri rv h
  obtain ⟨Z, dx, dy, dv, Hm, Qd, rep, ix, iy, id, ⟨p, kvs, k, rfl, hk, hp, hl, q⟩, kk⟩ := h
  obtain ⟨us, e, t⟩ := dk_rep rep hp
  have nn : Hm p ≠ none := by rw [hp]; simp
  have eo := ix.ref
  subst eo
  have ei := key_of' iy hk
  subst ei
  obtain rfl : ov = Value.ref p := ro
  have n0 := wr_nt (H := H) (p := p) (o := .dK (putK us k v)) nn (u := .dk (putD kvs k dv))
  refine d_setItem hu I (DPut.k e (by rw [t.len]; exact hl)) ri rv fun s4 I4 => ⟨_, I4, ?_⟩
  refine kk _ _ n0 (wr_repO rep nn ?_) q
  obtain ⟨h1, h2⟩ := (t.put k id).nt rep n0
  exact ⟨_, upd_same, h1, h2⟩
/-- d[(k, ..)] = v -/
theorem set_dtD (hu : X.A.units + 1 < cLine) : PSet X fun o i v H Q => ∃ (Z : Addr → Prop) (dx dv : D) (ds : List D) (vs : List V) (b : Addr) (Hm : MH) (Qd : MH → Prop), Rep ⟨X.K, Z⟩ H Hm ∧ Is ⟨X.K, Z⟩ H Hm dx o ∧ i = .ref b ∧ H b = some (.tup vs) ∧ Iss ⟨X.K, Z⟩ H Hm ds vs ∧ Is ⟨X.K, Z⟩ H Hm dv v ∧
    (∃ p kvs ks, dx = .ref p ∧ keysD ds = some ks ∧ Hm p = some (.dt kvs) ∧ kvs.length < sizeLine ∧ Qd (updM Hm p (.dt (putD kvs ks dv)))) ∧ ∀ H' Hm', NT Hm H Hm' H' → Rep ⟨X.K, Z⟩ H' Hm' → Qd Hm' → Q H' := by
  intro pins s σ H o i v ov iv u Q I ro ri rv h
  obtain ⟨Z, dx, dv, ds, vs, b, Hm, Qd, rep, ix, ei, eb, iy, id, ⟨p, kvs, ks, rfl, hk, hp, hl, q⟩, kk⟩ := h
  obtain ⟨us, e, t⟩ := dt_rep rep hp
  have nn : Hm p ≠ none := by rw [hp]; simp
  have eo := ix.ref
  subst eo
  have ev := keys_of iy hk
  subst ev
  subst ei
  obtain rfl : ov = Value.ref p := ro
  have n0 := wr_nt (H := H) (p := p) (o := .dT (putK us ks v)) nn (u := .dt (putD kvs ks dv))
  refine d_setItem hu I (DPut.t e eb (by rw [t.len]; exact hl)) ri rv fun s4 I4 => ⟨_, I4, ?_⟩
  refine kk _ _ n0 (wr_repO rep nn ?_) q
  obtain ⟨h1, h2⟩ := (t.put ks id).nt rep n0
  exact ⟨_, upd_same, h1, h2⟩
theorem call_dlenD : CallR X (.builtin "len") fun xs H Q => ∃ Z d Hm Qd n, Rep ⟨X.K, Z⟩ H Hm ∧ Iss ⟨X.K, Z⟩ H Hm [d] xs ∧ dlenAt Hm d = some n ∧ Qd (.int n) Hm ∧ Bh ⟨X.K, Z⟩ Hm H Qd Q := by
  intro pins s σ H xs us Q I r h
  obtain ⟨Z, d, Hm, Qd, n, rep, is, hr, q, k⟩ := h
  obtain ⟨v, xs', rfl, i, hn⟩ := is.cons_of
  have := hn.nil_of
  subst this
  have fin := k.here rep is_int q
  unfold dlenAt at hr
  split at hr
  · rename_i a
    have e1 := i.ref
    subst e1
    split at hr
    · rename_i kvs e
      cases hr
      obtain ⟨u, e, t⟩ := dk_rep rep e
      obtain ⟨w, rfl, rx⟩ := vals1 r
      obtain rfl : w = Value.ref a := rx
      refine d_len I (.inl e) fun t' s' I' => ⟨.int ((u.length : Nat) : Int), H, I', ⟨_, rfl⟩, ?_⟩
      rw [t.len]; exact fin
    · rename_i kvs e
      cases hr
      obtain ⟨u, e, t⟩ := dt_rep rep e
      exact call_len_dT pins s σ H _ us Q I r ⟨a, u, rfl, e, by rw [t.len]; exact fin⟩
    · cases hr
  · cases hr
end
end DL

set_option maxHeartbeats 400000
namespace DL
open PySem PySem.Spec PyProof.Rows L2

/-! ### the judgements over data -/
structure EnvIs (K : Kz) (H : Hp) (Hm : MH) (σd : En) (σ : L2.St) : Prop where
  len : σd.length = σ.length
  get : ∀ (i : Nat) (d : D), σd[i]? = some (some d) → ∃ v : V, σ[i]? = some (some v) ∧ Is K H Hm d v
/-- an exception's own fields -/
def XIs (K : Kz) (H : Hp) (Hm : MH) : Option Addr → Option (List Str × List D) → Prop
  | none, none => True
  | some a, some (ns, ds) => ∃ fs : List (Str × V), H a = some (.xd fs) ∧ (Hm a = none ∧ ¬ K.Z a) ∧ fs.map (·.1) = ns ∧ Iss K H Hm ds (fs.map (·.2))
  | _, _ => False
/-- the code's place: the context, the state at the entry, what is wanted of exceptions -/
structure Co where
  X : Cx
  Z : Addr → Prop
  M0 : MH
  H0 : Hp
  Ed : En → XDK
  W : WX
abbrev Co.K (C : Co) : Kz := ⟨C.X.K, C.Z⟩
structure Rs0 (K : Kz) (M0 : MH) (H0 : Hp) (σd : En) (Hm : MH) (σ : L2.St) (H : Hp) : Prop where
  env : EnvIs K H Hm σd σ
  rep : Rep K H Hm
  nt : NT M0 H0 Hm H
abbrev Rs (C : Co) (σd : En) (Hm : MH) (σ : L2.St) (H : Hp) : Prop := Rs0 C.K C.M0 C.H0 σd Hm σ H
structure Co.Ok (C : Co) : Prop where
  x : Cok C.X
  tk : Takes C.X C.W
  w : ∀ σ H σd Hm cls a fo, Rs C σd Hm σ H → XIs C.K H Hm a fo → C.Ed σd cls fo Hm → C.W cls a σ H
theorem Co.Ok.units {C : Co} (ok : C.Ok) : C.X.A.units + 1 < cLine := by have := ok.x.room.units; omega
theorem EnvIs.nt {K : Kz} {H H' : Hp} {Hm Hm' : MH} {σd : En} {σ : L2.St} (e : EnvIs K H Hm σd σ) (r : Rep K H Hm) (n : NT Hm H Hm' H') : EnvIs K H' Hm' σd σ :=
  ⟨e.len, fun i d q => let ⟨v, a, b⟩ := e.get i d q; ⟨v, a, Is.nt r n d v b⟩⟩
theorem Rs0.nxt {C : Co} {σd : En} {Hm Hm' : MH} {σ : L2.St} {H H' : Hp} (s : Rs C σd Hm σ H) (n : NT Hm H Hm' H') (r : Rep C.K H' Hm') : Rs C σd Hm' σ H' := ⟨s.env.nt s.rep n, r, s.nt.trans n⟩
theorem EnvIs.set {K : Kz} {H : Hp} {Hm : MH} {σd : En} {σ : L2.St} {d : D} {v : V} (e : EnvIs K H Hm σd σ) (i : Nat) (h : Is K H Hm d v) : EnvIs K H Hm (σd.set i (some d)) (σ.set i (some v)) :=
  ⟨by rw [List.length_set, List.length_set, e.len], fun j d' q => by
    by_cases hj : i = j
    · subst hj
      by_cases hl : i < σd.length
      · rw [List.getElem?_set_self hl] at q
        cases q
        exact ⟨v, by rw [List.getElem?_set_self (e.len ▸ hl)], h⟩
      · rw [List.getElem?_eq_none (by rw [List.length_set]; omega)] at q
        cases q
    · rw [List.getElem?_set_ne hj] at q ⊢
      exact e.get j d' q⟩
theorem EnvIs.wiped {K : Kz} {H : Hp} {Hm : MH} {σd : En} {σ : L2.St} (e : EnvIs K H Hm σd σ) : ∀ vs : List Nat, EnvIs K H Hm (wipeD σd vs) (wipe σ vs)
  | [] => e
  | v :: vs => by
    have ih := e.wiped vs
    unfold wipeD wipe
    refine ⟨by rw [List.length_set, List.length_set, ih.len], fun j d' q => ?_⟩
    by_cases hj : v = j
    · subst hj
      by_cases hl : v < (wipeD σd vs).length
      · rw [List.getElem?_set_self hl] at q; cases q
      · rw [List.getElem?_eq_none (by rw [List.length_set]; omega)] at q; cases q
    · rw [List.getElem?_set_ne hj] at q ⊢
      exact ih.get j d' q
theorem Rs0.set {C : Co} {σd : En} {Hm : MH} {σ : L2.St} {H : Hp} {d : D} {v : V} (s : Rs C σd Hm σ H) (i : Nat) (h : Is C.K H Hm d v) : Rs C (σd.set i (some d)) Hm (σ.set i (some v)) H := ⟨s.env.set i h, s.rep, s.nt⟩

abbrev TD := En → MH → DK → Prop
def Lf (C : Co) (T : TD) : TE := fun σ H Q => ∃ σd Hm Qd, Rs C σd Hm σ H ∧ T σd Hm Qd ∧ Bh C.K Hm H Qd Q
def DE (C : Co) (e : Expr) (T : TD) : Prop := PE C.X e (Lf C T)
abbrev TCd := En → MH → (Bool → MH → Prop) → Prop
def LfC (C : Co) (T : TCd) : TT := fun σ H Q => ∃ σd Hm Qd, Rs C σd Hm σ H ∧ T σd Hm Qd ∧ ∀ b H' Hm', NT Hm H Hm' H' → Rep C.K H' Hm' → Qd b Hm' → Q b H'
def DC (C : Co) (e : Expr) (T : TCd) : Prop := PT C.X e (LfC C T)
abbrev TAd := En → MH → (List D → MH → Prop) → Prop
def LfA (C : Co) (T : TAd) : TA := fun σ H Q => ∃ σd Hm Qd, Rs C σd Hm σ H ∧ T σd Hm Qd ∧ ∀ vs H' ds Hm', NT Hm H Hm' H' → Rep C.K H' Hm' → Iss C.K H' Hm' ds vs → Qd ds Hm' → Q vs H'
def DA (C : Co) (es : List Expr) (T : TAd) : Prop := PA C.X es (LfA C T)
theorem PE.weak {X : Cx} {e : Expr} {t t' : TE} (h : PE X e t) (k : ∀ σ H Q, t' σ H Q → t σ H Q) : PE X e t' := ⟨fun pins s σ H Q I q => h.run pins s σ H Q I (k σ H Q q)⟩
theorem PT.weak {X : Cx} {e : Expr} {t t' : TT} (h : PT X e t) (k : ∀ σ H Q, t' σ H Q → t σ H Q) : PT X e t' := ⟨fun pins s σ H Q I q => h.run pins s σ H Q I (k σ H Q q)⟩
theorem PA.weak {X : Cx} {e : List Expr} {t t' : TA} (h : PA X e t) (k : ∀ σ H Q, t' σ H Q → t σ H Q) : PA X e t' := ⟨fun pos pins s σ H Q I q => h.run pos pins s σ H Q I (k σ H Q q)⟩
theorem Bh.cut {K : Kz} {Hm Hm1 : MH} {H H1 : Hp} {Qd : DK} {Q : VK} (k : Bh K Hm H Qd Q) (n : NT Hm H Hm1 H1) : Bh K Hm1 H1 Qd Q := fun v H' d Hm' n' r i q => k v H' d Hm' (n.trans n') r i q
section
variable {C : Co} {a b c e : Expr} {ta tb tc te : TD} {pos : Pos}
theorem Lf.seq {C : Co} {T : TD} {σd : En} {Hm : MH} {σ : L2.St} {H : Hp} {F : D → MH → Prop} {Q : VK} (s : Rs C σd Hm σ H) (h : T σd Hm F)
    (k : ∀ v H' d Hm', NT Hm H Hm' H' → Rs C σd Hm' σ H' → Is C.K H' Hm' d v → F d Hm' → Q v H') : Lf C T σ H Q :=
  ⟨σd, Hm, F, s, h, fun v H' d Hm' n r i q => k v H' d Hm' n (s.nxt n r) i q⟩
theorem LfC.seq {C : Co} {T : TCd} {σd : En} {Hm : MH} {σ : L2.St} {H : Hp} {F : Bool → MH → Prop} {Q : Bool → Hp → Prop} (s : Rs C σd Hm σ H) (h : T σd Hm F)
    (k : ∀ b H' Hm', NT Hm H Hm' H' → Rs C σd Hm' σ H' → F b Hm' → Q b H') : LfC C T σ H Q :=
  ⟨σd, Hm, F, s, h, fun v H' Hm' n r q => k v H' Hm' n (s.nxt n r) q⟩
theorem LfA.seq {C : Co} {T : TAd} {σd : En} {Hm : MH} {σ : L2.St} {H : Hp} {F : List D → MH → Prop} {Q : List V → Hp → Prop} (s : Rs C σd Hm σ H) (h : T σd Hm F)
    (k : ∀ vs H' ds Hm', NT Hm H Hm' H' → Rs C σd Hm' σ H' → Iss C.K H' Hm' ds vs → F ds Hm' → Q vs H') : LfA C T σ H Q :=
  ⟨σd, Hm, F, s, h, fun v H' d Hm' n r i q => k v H' d Hm' n (s.nxt n r) i q⟩

theorem de_const {d : D} {v : V} (h : PE C.X e (tC v)) (hi : ∀ H Hm, Is C.K H Hm d v) : DE C e (fun _ H Q => Q d H) := PE.weak h fun σ H Q => by
  rintro ⟨σd, Hm, Qd, s, q, k⟩
  exact k.here s.rep (hi H Hm) q
theorem de_var {i : Nat} {x : Str} (hN : C.X.N[i]? = some x) (hv : Vis C.X.env.scope x) (hd : (x == ("__debug__" : Str)) = false) (hcd : (x == ("__classdict__" : Str)) = false) :
    DE C (.Name x pos) (fun σ H Q => ∃ d, σ[i]? = some (some d) ∧ Q d H) := PE.weak (pe_var hN hv hd hcd) fun σ H Q => by
  rintro ⟨σd, Hm, Qd, s, ⟨d, hd, q⟩, k⟩
  obtain ⟨v, hv, i⟩ := s.env.get _ _ hd
  exact ⟨v, hv, k.here s.rep i q⟩
theorem de_bin (ok : C.Ok) {o : Operator} {m : Bool} (ha : DE C a ta) (hb : DE C b tb) : DE C (.BinOp a o b pos) (fun σ H Q => ta σ H fun x H1 => tb σ H1 fun y H2 => binD m o x y H2 Q) :=
  PE.weak (pe_op (op_binD ok.x m o) ha hb) fun σ H Q => by
    rintro ⟨σd, Hm, Qd, s, q, k⟩
    refine Lf.seq s q fun x H1 dx Hm1 n1 s1 ix q => ?_
    refine Lf.seq s1 q fun y H2 dy Hm2 n2 s2 iy q => ?_
    exact ⟨C.Z, dx, dy, Hm2, Qd, s2.rep, Is.nt s1.rep n2 dx x ix, iy, q, (k.cut n1).cut n2⟩
theorem de_neg (ha : DE C a ta) : DE C (.UnaryOp .USub a pos) (fun σ H Q => ta σ H fun x H1 => ∃ i, x = .int i ∧ Q (.int (-i)) H1) :=
  PE.weak (pe_un un_neg ha) fun σ H Q => by
    rintro ⟨σd, Hm, Qd, s, q, k⟩
    refine Lf.seq s q fun x H1 dx Hm1 n1 s1 ix q => ?_
    obtain ⟨i, rfl, q⟩ := q
    exact ⟨i, ix.int, (k.cut n1).here s1.rep is_int q⟩
theorem de_not (ha : DE C a ta) : DE C (.UnaryOp .Not a pos) (fun σ H Q => ta σ H fun x H1 => ∃ c, truD H1 x = some c ∧ Q (.bl (!c)) H1) :=
  PE.weak (pe_notT ha) fun σ H Q => by
    rintro ⟨σd, Hm, Qd, s, q, k⟩
    refine Lf.seq s q fun x H1 dx Hm1 n1 s1 ix q => ?_
    obtain ⟨c, hc, q⟩ := q
    exact ⟨c, tru_of s1.rep ix hc, (k.cut n1).here s1.rep is_bl q⟩
theorem de_and {rest : List Expr} (ha : DE C a ta) (hb : DE C (.BoolOp .And (b :: rest) pos) tb) :
    DE C (.BoolOp .And (a :: b :: rest) pos) (fun σ H Q => ta σ H fun x H1 => ∃ c, truD H1 x = some c ∧ br c (tb σ H1 Q) (Q x H1)) :=
  PE.weak (pe_andT ha hb) fun σ H Q => by
    rintro ⟨σd, Hm, Qd, s, q, k⟩
    refine Lf.seq s q fun x H1 dx Hm1 n1 s1 ix q => ?_
    obtain ⟨c, hc, q⟩ := q
    refine ⟨c, tru_of s1.rep ix hc, ?_⟩
    cases c with
    | true => exact Lf.seq s1 q fun y H2 dy Hm2 n2 s2 iy q => ((k.cut n1).cut n2).here s2.rep iy q
    | false => exact (k.cut n1).here s1.rep ix q
theorem de_or {rest : List Expr} (ha : DE C a ta) (hb : DE C (.BoolOp .Or (b :: rest) pos) tb) :
    DE C (.BoolOp .Or (a :: b :: rest) pos) (fun σ H Q => ta σ H fun x H1 => ∃ c, truD H1 x = some c ∧ br c (Q x H1) (tb σ H1 Q)) :=
  PE.weak (pe_orT ha hb) fun σ H Q => by
    rintro ⟨σd, Hm, Qd, s, q, k⟩
    refine Lf.seq s q fun x H1 dx Hm1 n1 s1 ix q => ?_
    obtain ⟨c, hc, q⟩ := q
    refine ⟨c, tru_of s1.rep ix hc, ?_⟩
    cases c with
    | false => exact Lf.seq s1 q fun y H2 dy Hm2 n2 s2 iy q => ((k.cut n1).cut n2).here s2.rep iy q
    | true => exact (k.cut n1).here s1.rep ix q
theorem de_cmp (ok : C.Ok) {o : CmpOp} (ha : DE C a ta) (hb : DE C b tb) (hm : behindInMarks o b = false) :
    DE C (.Compare a [o] [b] pos) (fun σ H Q => ta σ H fun x H1 => tb σ H1 fun y H2 => ∃ c, cmpD o x y H2 = some c ∧ Q (.bl c) H2) :=
  PE.weak (pe_cmpR (op_cmpD ok.x o) ha hb hm) fun σ H Q => by
    rintro ⟨σd, Hm, Qd, s, q, k⟩
    refine Lf.seq s q fun x H1 dx Hm1 n1 s1 ix q => ?_
    refine Lf.seq s1 q fun y H2 dy Hm2 n2 s2 iy q => ?_
    exact ⟨C.Z, dx, dy, Hm2, Qd, s2.rep, Is.nt s1.rep n2 dx x ix, iy, q, (k.cut n1).cut n2⟩
theorem dc_cmp (ok : C.Ok) {o : CmpOp} (ha : DE C a ta) (hb : DE C b tb) (hm : behindInMarks o b = false) :
    DC C (.Compare a [o] [b] pos) (fun σ H Q => ta σ H fun x H1 => tb σ H1 fun y H2 => ∃ c, cmpD o x y H2 = some c ∧ Q c H2) :=
  PT.weak (pt_cmpR (op_cmpD ok.x o) ha hb hm) fun σ H Q => by
    rintro ⟨σd, Hm, Qd, s, q, k⟩
    refine Lf.seq s q fun x H1 dx Hm1 n1 s1 ix q => ?_
    refine Lf.seq s1 q fun y H2 dy Hm2 n2 s2 iy q => ?_
    obtain ⟨c, hc, q⟩ := q
    refine ⟨C.Z, dx, dy, Hm2, fun z Hz => z = .bl c ∧ Qd c Hz, s2.rep, Is.nt s1.rep n2 dx x ix, iy, ⟨c, hc, rfl, q⟩, fun v H' d Hm' n r i z => ?_⟩
    obtain ⟨rfl, z⟩ := z
    exact ⟨c, i.bl, k c H' Hm' ((n1.trans n2).trans n) r z⟩
theorem de_ch (ok : C.Ok) {o o' : CmpOp} (ha : DE C a ta) (hb : DE C b tb) (hc : DE C c tc) (hm : lastMarks [o, o'] [b, c] = false) :
    DE C (.Compare a [o, o'] [b, c] pos) (fun σ H Q => ta σ H fun x H1 => tb σ H1 fun y H2 => ∃ c1, cmpD o x y H2 = some c1 ∧
      br c1 (tc σ H2 fun z H3 => ∃ c2, cmpD o' y z H3 = some c2 ∧ Q (.bl c2) H3) (Q (.bl false) H2)) :=
  PE.weak (pe_chain (op_cmpD ok.x o) (op_cmpD ok.x o') ha hb hc hm) fun σ H Q => by
    rintro ⟨σd, Hm, Qd, s, q, k⟩
    refine Lf.seq s q fun x H1 dx Hm1 n1 s1 ix q => ?_
    refine Lf.seq s1 q fun y H2 dy Hm2 n2 s2 iy q => ?_
    obtain ⟨c1, hc1, q⟩ := q
    refine ⟨C.Z, dx, dy, Hm2, fun z Hz => z = .bl c1 ∧ Hz = Hm2, s2.rep, Is.nt s1.rep n2 dx x ix, iy, ⟨c1, hc1, rfl, rfl⟩, fun v H3 d Hm3 n3 r3 i z => ?_⟩
    obtain ⟨rfl, rfl⟩ := z
    have s3 := s2.nxt n3 r3
    refine ⟨c1, i.bl, ?_⟩
    cases c1 with
    | false => exact (((k.cut n1).cut n2).cut n3).here s3.rep is_bl q
    | true =>
      refine Lf.seq s3 q fun z H4 dz Hm4 n4 s4 iz q => ?_
      exact ⟨C.Z, dy, dz, Hm4, Qd, s4.rep, Is.nt s3.rep n4 dy y (Is.nt s2.rep n3 dy y iy), iz, q, ((k.cut n1).cut n2).cut (n3.trans n4)⟩
theorem dc_ch (ok : C.Ok) {o o' : CmpOp} (ha : DE C a ta) (hb : DE C b tb) (hc : DE C c tc) (hm : lastMarks [o, o'] [b, c] = false) :
    DC C (.Compare a [o, o'] [b, c] pos) (fun σ H Q => ta σ H fun x H1 => tb σ H1 fun y H2 => ∃ c1, cmpD o x y H2 = some c1 ∧
      br c1 (tc σ H2 fun z H3 => ∃ c2, cmpD o' y z H3 = some c2 ∧ Q c2 H3) (Q false H2)) :=
  PT.weak (pt_chain (op_cmpD ok.x o) (op_cmpD ok.x o') ha hb hc hm) fun σ H Q => by
    rintro ⟨σd, Hm, Qd, s, q, k⟩
    refine Lf.seq s q fun x H1 dx Hm1 n1 s1 ix q => ?_
    refine Lf.seq s1 q fun y H2 dy Hm2 n2 s2 iy q => ?_
    obtain ⟨c1, hc1, q⟩ := q
    refine ⟨C.Z, dx, dy, Hm2, fun z Hz => z = .bl c1 ∧ Hz = Hm2, s2.rep, Is.nt s1.rep n2 dx x ix, iy, ⟨c1, hc1, rfl, rfl⟩, fun v H3 d Hm3 n3 r3 i z => ?_⟩
    obtain ⟨rfl, rfl⟩ := z
    have s3 := s2.nxt n3 r3
    refine ⟨c1, i.bl, ?_⟩
    cases c1 with
    | false => exact ⟨false, rfl, k false H3 _ ((n1.trans n2).trans n3) r3 q⟩
    | true =>
      refine Lf.seq s3 q fun z H4 dz Hm4 n4 s4 iz q => ?_
      obtain ⟨c2, hc2, q⟩ := q
      refine ⟨C.Z, dy, dz, Hm4, fun z Hz => z = .bl c2 ∧ Qd c2 Hz, s4.rep, Is.nt s3.rep n4 dy y (Is.nt s2.rep n3 dy y iy), iz, ⟨c2, hc2, rfl, q⟩, fun v H' d Hm' n r i z => ?_⟩
      obtain ⟨rfl, z⟩ := z
      exact ⟨c2, i.bl, k c2 H' Hm' (((n1.trans n2).trans (n3.trans n4)).trans n) r z⟩
theorem de_ite {t : Expr} {tt : TCd} (ht : DC C t tt) (ha : DE C a ta) (hb : DE C b tb) : DE C (.IfExp t a b pos) (fun σ H Q => tt σ H fun c H1 => br c (ta σ H1 Q) (tb σ H1 Q)) :=
  PE.weak (pe_ifExp ht ha hb) fun σ H Q => by
    rintro ⟨σd, Hm, Qd, s, q, k⟩
    refine LfC.seq s q fun c H1 Hm1 n1 s1 q => ?_
    cases c with
    | true => exact Lf.seq s1 q fun y H2 dy Hm2 n2 s2 iy q => ((k.cut n1).cut n2).here s2.rep iy q
    | false => exact Lf.seq s1 q fun y H2 dy Hm2 n2 s2 iy q => ((k.cut n1).cut n2).here s2.rep iy q
theorem dc_val (ha : DE C a ta) (he : ∀ whole, isTrue a C.X.env whole = (do let v ← whole; standAt a.pos; holding [v] (truthy v))) :
    DC C a (fun σ H Q => ta σ H fun x H1 => ∃ c, truD H1 x = some c ∧ Q c H1) :=
  PT.weak (pt_truth ha he) fun σ H Q => by
    rintro ⟨σd, Hm, Qd, s, q, k⟩
    refine Lf.seq s q fun x H1 dx Hm1 n1 s1 ix q => ?_
    obtain ⟨c, hc, q⟩ := q
    exact ⟨c, tru_of s1.rep ix hc, k c H1 Hm1 n1 s1.rep q⟩
theorem dc_not {t : TCd} (ha : DC C a t) : DC C (.UnaryOp .Not a pos) (fun σ H Q => t σ H fun b H1 => Q (!b) H1) :=
  PT.weak (pt_not ha) fun σ H Q => by
    rintro ⟨σd, Hm, Qd, s, q, k⟩
    exact LfC.seq s q fun c H1 Hm1 n1 s1 q => k (!c) H1 Hm1 n1 s1.rep q
/-- tests whatever the whole is -/
def DW (C : Co) (e : Expr) (T : TCd) : Prop := PW C.X e (LfC C T)
theorem PW.weak {X : Cx} {e : Expr} {t t' : TT} (h : PW X e t) (k : ∀ σ H Q, t' σ H Q → t σ H Q) : PW X e t' := ⟨fun wh pins s σ H Q I q => h.run wh pins s σ H Q I (k σ H Q q)⟩
theorem dw_and1 {t : TCd} (ha : DC C a t) : DW C (.BoolOp .And [a] pos) t := pw_and1 ha
theorem dw_or1 {t : TCd} (ha : DC C a t) : DW C (.BoolOp .Or [a] pos) t := pw_or1 ha
theorem dw_and {t u : TCd} {rest : List Expr} (ha : DC C a t) (hb : DW C (.BoolOp .And (b :: rest) pos) u) :
    DW C (.BoolOp .And (a :: b :: rest) pos) (fun σ H Q => t σ H fun c H1 => br c (u σ H1 Q) (Q false H1)) :=
  PW.weak (pw_and ha hb) fun σ H Q => by
    rintro ⟨σd, Hm, Qd, s, q, k⟩
    refine LfC.seq s q fun c H1 Hm1 n1 s1 q => ?_
    cases c with
    | true => exact LfC.seq s1 q fun y H2 Hm2 n2 s2 q => k y H2 Hm2 (n1.trans n2) s2.rep q
    | false => exact k false H1 Hm1 n1 s1.rep q
theorem dw_or {t u : TCd} {rest : List Expr} (ha : DC C a t) (hb : DW C (.BoolOp .Or (b :: rest) pos) u) :
    DW C (.BoolOp .Or (a :: b :: rest) pos) (fun σ H Q => t σ H fun c H1 => br c (Q true H1) (u σ H1 Q)) :=
  PW.weak (pw_or ha hb) fun σ H Q => by
    rintro ⟨σd, Hm, Qd, s, q, k⟩
    refine LfC.seq s q fun c H1 Hm1 n1 s1 q => ?_
    cases c with
    | false => exact LfC.seq s1 q fun y H2 Hm2 n2 s2 q => k y H2 Hm2 (n1.trans n2) s2.rep q
    | true => exact k true H1 Hm1 n1 s1.rep q
/-! ### arguments, displays, subscripts -/
theorem da_nil : DA C [] (fun _ H Q => Q [] H) := PA.weak pa_nil fun σ H Q => by
  rintro ⟨σd, Hm, Qd, s, q, k⟩
  exact k [] H [] Hm .refl s.rep .nil q
theorem da_cons {es : List Expr} {t : TAd} (ha : DE C e te) (hr : DA C es t) (hs : starEach (e :: es) C.X.env = (false, eval e C.X.env) :: starEach es C.X.env) :
    DA C (e :: es) (fun σ H Q => te σ H fun x H1 => t σ H1 fun xs H2 => Q (x :: xs) H2) := PA.weak (pa_cons ha hr hs) fun σ H Q => by
  rintro ⟨σd, Hm, Qd, s, q, k⟩
  refine Lf.seq s q fun x H1 dx Hm1 n1 s1 ix q => ?_
  refine LfA.seq s1 q fun vs H2 ds Hm2 n2 s2 is q => ?_
  exact k (x :: vs) H2 (dx :: ds) Hm2 (n1.trans n2) s2.rep (.cons (Is.nt s1.rep n2 dx x ix) is) q
theorem de_tup {es : List Expr} {t : TAd} {x1} (h : DA C es t) : DE C (.Tuple es x1 pos) (fun σ H Q => t σ H fun ds H1 => ds.length ≤ sizeLine ∧ Q (.tup ds) H1) :=
  PE.weak (pe_tup h) fun σ H Q => by
    rintro ⟨σd, Hm, Qd, s, q, k⟩
    refine LfA.seq s q fun vs H1 ds Hm1 n1 s1 is q => ?_
    exact ⟨by rw [is.length]; exact q.1, (k.cut n1).tup s1.rep is q.2⟩
theorem de_lst {es : List Expr} {t : TAd} {m : Bool} (h : DA C es t) : DE C (.List es pos) (fun σ H Q => t σ H fun ds H1 => freshL m ds H1 Q) :=
  PE.weak (pe_lst h) fun σ H Q => by
    rintro ⟨σd, Hm, Qd, s, q, k⟩
    refine LfA.seq s q fun vs H1 ds Hm1 n1 s1 is q => ?_
    exact ⟨by rw [is.length]; exact q.1, (k.cut n1).lst s1.rep is q⟩
theorem atI_of {K : Kz} {H : Hp} {Hm : MH} {ds : List D} {vs : List V} {i : Int} {d : D} (t : Iss K H Hm ds vs) (h : atI ds i = some d) : ∃ v, atI vs i = some v ∧ Is K H Hm d v := by
  unfold atI at h ⊢
  rw [t.length]
  cases e : ixN ds.length i with
  | none => rw [e] at h; cases h
  | some j =>
    rw [e] at h
    exact t.get h
theorem ix_okD {X : Cx} (hu : X.A.units + 1 < cLine) : IxR X (fun x y H Q => ∃ Z dx dy Hm Qd, Rep ⟨X.K, Z⟩ H Hm ∧ Is ⟨X.K, Z⟩ H Hm dx x ∧ Is ⟨X.K, Z⟩ H Hm dy y ∧ (∃ d, ixD dx dy Hm = some d ∧ Qd d Hm) ∧ Bh ⟨X.K, Z⟩ Hm H Qd Q) := by
  intro value slice pins s σ H x y v u Q I rx ry h hs
  obtain ⟨Z, dx, dy, Hm, Qd, rep, ix, iy, ⟨d, hd, q⟩, k⟩ := h
  unfold ixD at hd
  split at hd
  · split at hd
    · split at hd
      · rename_i i _ z hz
        cases e : atI z.cps.toList i with
        | none => rw [e] at hd; cases hd
        | some c =>
          rw [e] at hd; cases hd
          exact ix_seq value slice pins s σ H x y v u Q I rx ry (.inr (.inr ⟨_, _, c, ix.str, iy.int, hz, e, k.here rep is_str q⟩)) hs
      · cases hd
    · cases e : seqAt Hm dx with
      | none => rw [e] at hd; cases hd
      | some xs =>
        rw [e] at hd
        obtain ⟨a, vs, rfl, sq, t⟩ := seq_of rep ix e
        obtain ⟨w, hw, iw⟩ := atI_of t hd
        have fin := k.here rep iw q
        rcases sq with sq | sq
        · exact ix_seq value slice pins s σ H _ y v u Q I rx ry (.inl ⟨a, vs, _, w, rfl, iy.int, sq, hw, fin⟩) hs
        · exact ix_seq value slice pins s σ H _ y v u Q I rx ry (.inr (.inl ⟨a, vs, _, w, rfl, iy.int, sq, hw, fin⟩)) hs
  · rename_i z
    cases e : dkAt Hm dx with
    | none => rw [e] at hd; cases hd
    | some kvs =>
      rw [e] at hd
      unfold dkAt at e
      split at e
      · rename_i a
        split at e
        · rename_i kvs' e2
          cases e
          obtain ⟨us, e3, t⟩ := dk_rep rep e2
          have hd : valD kvs (Sum.inr z) = some d := hd
          obtain ⟨w, hw, iw⟩ := t.get hd
          refine ix_dict hu value slice pins s σ H x y v u Q I rx ry ⟨a, w, ix.ref, ?_, k.here rep iw q⟩ hs
          rw [← hw, iy.str]
          exact DGet.k (k := Sum.inr z) e3
        · cases e
      · cases e
  · cases hd
theorem de_ix (ok : C.Ok) (ha : DE C a ta) (hb : DE C b tb) (hs : PlainIx b) : DE C (.Subscript a b pos) (fun σ H Q => ta σ H fun x H1 => tb σ H1 fun y H2 => ∃ d, ixD x y H2 = some d ∧ Q d H2) :=
  PE.weak (pe_ix (ix_okD ok.units) ha hb hs) fun σ H Q => by
    rintro ⟨σd, Hm, Qd, s, q, k⟩
    refine Lf.seq s q fun x H1 dx Hm1 n1 s1 ix q => ?_
    refine Lf.seq s1 q fun y H2 dy Hm2 n2 s2 iy q => ?_
    exact ⟨C.Z, dx, dy, Hm2, Qd, s2.rep, Is.nt s1.rep n2 dx x ix, iy, q, (k.cut n1).cut n2⟩
theorem de_dnewK : DE C (.Dict [] [] pos) (fun _ H Q => ∀ p, H p = none → Q (.ref p) (updM H p (.dk []))) := PE.weak pe_dnewK fun σ H Q => by
  rintro ⟨σd, Hm, Qd, s, q, k⟩
  exact k.dnew s.rep (.inl ⟨rfl, rfl⟩) q
theorem de_dnewT : DE C (.Dict [] [] pos) (fun _ H Q => ∀ p, H p = none → Q (.ref p) (updM H p (.dt []))) := PE.weak pe_dnewT fun σ H Q => by
  rintro ⟨σd, Hm, Qd, s, q, k⟩
  exact k.dnew s.rep (.inr ⟨rfl, rfl⟩) q
theorem plainIx_tup {es : List Expr} {n : Nat} {p : Pos} : PlainIx (.Tuple es n p) := fun _ _ => rfl
/-- d[(k, ..)] -/
theorem de_dixT (ok : C.Ok) {es : List Expr} {x1} {p2 : Pos} {t : TAd} (ha : DE C a ta) (h : DA C es t) :
    DE C (.Subscript a (.Tuple es x1 p2) pos) (fun σ H Q => ta σ H fun x H1 => t σ H1 fun ds H2 => ds.length ≤ sizeLine ∧ ∃ p kvs ks d, x = .ref p ∧ H2 p = some (.dt kvs) ∧ keysD ds = some ks ∧ valD kvs ks = some d ∧ Q d H2) :=
  PE.weak (pe_ix (ix_dict ok.units) ha (pe_tup h) plainIx_tup) fun σ H Q => by
    rintro ⟨σd, Hm, Qd, s, q, k⟩
    refine Lf.seq s q fun x H1 dx Hm1 n1 s1 ix q => ?_
    refine LfA.seq s1 q fun vs H2 ds Hm2 n2 s2 is q => ?_
    obtain ⟨hl, p, kvs, ks, d, rfl, hp, hk, hd, q⟩ := q
    refine ⟨by rw [is.length]; exact hl, fun b hb => ?_⟩
    have ex := ix.ref
    subst ex
    obtain ⟨us, e, t⟩ := dt_rep s2.rep hp
    obtain ⟨w, hw, iw⟩ := t.get hd
    have n3 : NT Hm2 H2 Hm2 (upd H2 b (.tup vs)) := ext_nt hb
    refine ⟨p, w, rfl, ?_, ((k.cut n1).cut n2) _ _ d Hm2 n3 (s2.rep.ext hb) (Is.nt s2.rep n3 d w iw) q⟩
    rw [← hw]
    refine DGet.t ?_ ?_
    · rw [upd_ne (ne_of_none e hb)]; exact e
    · rw [upd_same, keys_of is hk]
theorem cut_of {K : Kz} {H : Hp} {Hm : MH} {ds : List D} {vs : List V} (lo hi : Option Int) (t : Iss K H Hm ds vs) : Iss K H Hm (cutD ds lo hi) (cutV vs lo hi) := by
  unfold cutD cutV
  rw [t.length]
  exact (t.drop _).take _
abbrev TOd := En → MH → (Option Int → MH → Prop) → Prop
def LfO (C : Co) (T : TOd) : TO := fun σ H Q => ∃ σd Hm Qd, Rs C σd Hm σ H ∧ T σd Hm Qd ∧ ∀ o H' Hm', NT Hm H Hm' H' → Rep C.K H' Hm' → Qd o Hm' → Q o H'
def DO (C : Co) (e : Option Expr) (T : TOd) : Prop := PO C.X e (LfO C T)
theorem PO.weak {X : Cx} {e : Option Expr} {t t' : TO} (h : PO X e t) (k : ∀ σ H Q, t' σ H Q → t σ H Q) : PO X e t' := ⟨fun pins s σ H Q I q => h.run pins s σ H Q I (k σ H Q q)⟩
theorem do_none : DO C none (fun _ H Q => Q none H) := PO.weak po_none fun σ H Q => by
  rintro ⟨σd, Hm, Qd, s, q, k⟩
  exact k none H Hm .refl s.rep q
theorem do_some (h : DE C e te) : DO C (some e) (fun σ H Q => te σ H fun x H1 => ∃ i, x = .int i ∧ Q (some i) H1) := PO.weak (po_some h) fun σ H Q => by
  rintro ⟨σd, Hm, Qd, s, q, k⟩
  refine Lf.seq s q fun x H1 dx Hm1 n1 s1 ix q => ?_
  obtain ⟨i, rfl, q⟩ := q
  exact ⟨i, ix.int, k (some i) H1 Hm1 n1 s1.rep q⟩
theorem sl_okD {X : Cx} {m : Bool} : SlR X (fun x lo hi H Q => ∃ Z dx Hm Qd, Rep ⟨X.K, Z⟩ H Hm ∧ Is ⟨X.K, Z⟩ H Hm dx x ∧ slD m dx lo hi Hm Qd ∧ Bh ⟨X.K, Z⟩ Hm H Qd Q) := by
  intro pins s σ H x v vl vu lo hi sl Q I rx hsl pl pu h
  obtain ⟨Z, dx, Hm, Qd, rep, ix, hr, k⟩ := h
  unfold slD at hr
  split at hr
  · obtain ⟨a, vs, e, sq, t⟩ := ix.tup
    refine sl_tupA pins s σ H x v vl vu lo hi sl Q I rx hsl pl pu ⟨a, vs, e, sq, fun z => ?_, fun _ => k.tup rep (cut_of lo hi t) hr⟩
    refine k.here rep (d := .tup _) ?_ hr
    unfold Is
    refine ⟨a, vs, rfl, sq, ?_⟩
    have e2 : cutV vs lo hi = vs := by
      unfold cutV
      rw [z.1, z.2, List.drop_zero, Nat.sub_zero, List.take_length]
    have := cut_of lo hi t
    rw [e2] at this
    exact this
  · exact sl_str pins s σ H x v vl vu lo hi sl Q I rx hsl pl pu ⟨_, ix.str, hr.1, k.here rep is_str hr.2⟩
  · obtain ⟨xs, e1, q⟩ := hr
    obtain ⟨a, vs, z1, s1, t1⟩ := lst_of rep ix e1
    exact sl_list pins s σ H x v vl vu lo hi sl Q I rx hsl pl pu ⟨a, vs, z1, s1, k.lst rep (cut_of lo hi t1) q⟩
theorem de_sl {m : Bool} {lo hi : Option Expr} {tl th : TOd} {p2 : Pos} (ha : DE C a ta) (hl : DO C lo tl) (hh : DO C hi th) :
    DE C (.Subscript a (.Slice lo hi none p2) pos) (fun σ H Q => ta σ H fun x H1 => tl σ H1 fun l H2 => th σ H2 fun h H3 => slD m x l h H3 Q) :=
  PE.weak (pe_slice (sl_okD (m := m)) ha hl hh) fun σ H Q => by
    rintro ⟨σd, Hm, Qd, s, q, k⟩
    refine Lf.seq s q fun x H1 dx Hm1 n1 s1 ix q => ?_
    refine ⟨σd, Hm1, _, s1, q, fun l H2 Hm2 n2 r2 q => ?_⟩
    have s2 := s1.nxt n2 r2
    refine ⟨σd, Hm2, _, s2, q, fun h H3 Hm3 n3 r3 q => ?_⟩
    exact ⟨C.Z, dx, Hm3, Qd, r3, Is.nt r2 n3 dx x (Is.nt s1.rep n2 dx x ix), q, (k.cut n1).cut (n2.trans n3)⟩
end
end DL

set_option maxHeartbeats 400000
namespace DL
open PySem PySem.Spec PyProof.Rows L2

def Bi.val : Bi → Value
  | .len => .builtin "len" | .min => .builtin "min" | .max => .builtin "max" | .abs => .builtin "abs" | .int => .type "int" | .bool => .type "bool" | .str => .type "str"
  | .sorted => .builtin "sorted" | .list => .type "list" | .tuple => .type "tuple" | .sum => .builtin "sum" | .isi => .builtin "isinstance"
def CD0 (X : Cx) (f : Value) (r : List D → MH → DK → Prop) : Prop :=
  True
theorem intsD_of {K : Kz} {H : Hp} {Hm : MH} : ∀ {ds : List D} {vs : List V} {ns : List Int}, Iss K H Hm ds vs → intsD ds = some ns → vs = ns.map V.int
  | [], vs, ns, h, e => by unfold intsD at e; cases e; exact h.nil_of
  | d :: ds, vs, ns, h, e => by
    obtain ⟨v, r, rfl, q, t⟩ := h.cons_of
    cases d with
    | int i =>
      unfold intsD at e
      cases z : intsD ds with
      | none => rw [z] at e; cases e
      | some ms =>
        rw [z] at e; cases e
        rw [q.int, intsD_of t z]; rfl
    | _ => unfold intsD at e; cases e
theorem leastI_mem : ∀ (ns : List Int) (n : Int), leastI n ns ∈ n :: ns
  | [], n => List.mem_cons_self
  | m :: r, n => by
    unfold leastI
    have := leastI_mem r (if m < n then m else n)
    rcases List.mem_cons.mp this with e | e
    · rw [e]
      split
      · exact List.mem_cons_of_mem _ List.mem_cons_self
      · exact List.mem_cons_self
    · exact List.mem_cons_of_mem _ (List.mem_cons_of_mem _ e)
theorem leastI_le : ∀ (ns : List Int) (n : Int), ∀ y ∈ n :: ns, leastI n ns ≤ y
  | [], n, y, h => by
    have : y = n := by simpa using h
    rw [this]; exact Int.le_refl _
  | m :: r, n, y, h => by
    unfold leastI
    have ih := leastI_le r (if m < n then m else n)
    have h0 := ih _ List.mem_cons_self
    rcases List.mem_cons.mp h with e | e
    · subst e; split at h0 <;> (split <;> omega)
    · rcases List.mem_cons.mp e with e | e
      · subst e; split at h0 <;> (split <;> omega)
      · exact ih y (List.mem_cons_of_mem _ e)
theorem mostI_mem : ∀ (ns : List Int) (n : Int), mostI n ns ∈ n :: ns
  | [], n => List.mem_cons_self
  | m :: r, n => by
    unfold mostI
    have := mostI_mem r (if m > n then m else n)
    rcases List.mem_cons.mp this with e | e
    · rw [e]
      split
      · exact List.mem_cons_of_mem _ List.mem_cons_self
      · exact List.mem_cons_self
    · exact List.mem_cons_of_mem _ (List.mem_cons_of_mem _ e)
theorem mostI_ge : ∀ (ns : List Int) (n : Int), ∀ y ∈ n :: ns, y ≤ mostI n ns
  | [], n, y, h => by
    have : y = n := by simpa using h
    rw [this]; exact Int.le_refl _
  | m :: r, n, y, h => by
    unfold mostI
    have ih := mostI_ge r (if m > n then m else n)
    have h0 := ih _ List.mem_cons_self
    rcases List.mem_cons.mp h with e | e
    · subst e; split at h0 <;> (split <;> omega)
    · rcases List.mem_cons.mp e with e | e
      · subst e; split at h0 <;> (split <;> omega)
      · exact ih y (List.mem_cons_of_mem _ e)
theorem leastI_is {ns : List Int} {n m : Int} (h1 : m ∈ n :: ns) (h2 : ∀ y ∈ n :: ns, m ≤ y) : m = leastI n ns := by
  have a := leastI_le ns n m h1
  have b := h2 _ (leastI_mem ns n)
  omega
theorem mostI_is {ns : List Int} {n m : Int} (h1 : m ∈ n :: ns) (h2 : ∀ y ∈ n :: ns, y ≤ m) : m = mostI n ns := by
  have a := mostI_ge ns n m h1
  have b := h2 _ (mostI_mem ns n)
  omega
section
variable {X : Cx}
theorem hold_ints {h : Heap} : ∀ {us : List Value} {ns : List Int}, IntsAre us ns → PySem.W.HoldAll h us ns
  | _, _, .nil => PySem.W.HoldAll.nil
  | _, _, .cons n t r => PySem.W.HoldAll.cons ⟨_, .int _ _⟩ (hold_ints r)
theorem minOf_is : ∀ (ns : List Int) (n : Int), PySem.W.minOf n ns = leastI n ns
  | [], n => rfl
  | m :: r, n => by
    have ih := minOf_is r (if m < n then m else n)
    have e : leastI n (m :: r) = leastI (if m < n then m else n) r := rfl
    rw [e, ← ih]
    unfold PySem.W.minOf
    rw [List.foldl_cons]
    congr 1
    show (if (decide (m < n)) = true then m else n) = _
    by_cases h : m < n <;> simp [h]
theorem maxOf_is : ∀ (ns : List Int) (n : Int), PySem.W.maxOf n ns = mostI n ns
  | [], n => rfl
  | m :: r, n => by
    have ih := maxOf_is r (if m > n then m else n)
    have e : mostI n (m :: r) = mostI (if m > n then m else n) r := rfl
    rw [e, ← ih]
    unfold PySem.W.maxOf
    rw [List.foldl_cons]
    congr 1
    show (if (decide (n < m)) = true then m else n) = _
    by_cases h : n < m <;> simp [h]
theorem holds_int_of {h : Heap} {v : Value} {n : Int} (H : PySem.W.Holds h v n) : ∃ t, v = .int n t := by
  obtain ⟨as, r⟩ := H
  cases r
  exact ⟨_, rfl⟩
/-- min, max of a tuple of ints -/
theorem cr_minT (hc : X.calm = true) (hr : Room 40 X.A) : CallR X (.builtin "min") (fun vs H Q => ∃ (a : Addr) (n : Int) (ns : List Int), vs = [V.ref a] ∧ SqT X.K H a ((n :: ns).map V.int) ∧ Q (.int (leastI n ns)) H) := by
  intro pins s σ H vs us Q I r h
  obtain ⟨a, n, ns, rfl, hs, q⟩ := h
  obtain ⟨its, rv, hl, _⟩ := I.tuple hs
  rw [Vals.ref1 r]
  refine PySem.W.min_tuple_datum (I.ok.hd hc) hl (hold_ints rv.ints) (by have := hr.un; show X.A.units + 1 + 0 < cLine; omega) fun i v h' tk _ hv hk => ?_
  obtain ⟨t, rfl⟩ := holds_int_of hv
  exact ⟨.int _, H, I.kept hk, ⟨_, rfl⟩, by rw [minOf_is]; exact q⟩
theorem cr_maxT (hc : X.calm = true) (hr : Room 40 X.A) : CallR X (.builtin "max") (fun vs H Q => ∃ (a : Addr) (n : Int) (ns : List Int), vs = [V.ref a] ∧ SqT X.K H a ((n :: ns).map V.int) ∧ Q (.int (mostI n ns)) H) := by
  intro pins s σ H vs us Q I r h
  obtain ⟨a, n, ns, rfl, hs, q⟩ := h
  obtain ⟨its, rv, hl, _⟩ := I.tuple hs
  rw [Vals.ref1 r]
  refine PySem.W.max_tuple_datum (I.ok.hd hc) hl (hold_ints rv.ints) (by have := hr.un; show X.A.units + 1 + 0 < cLine; omega) fun i v h' tk _ hv hk => ?_
  obtain ⟨t, rfl⟩ := holds_int_of hv
  exact ⟨.int _, H, I.kept hk, ⟨_, rfl⟩, by rw [maxOf_is]; exact q⟩
theorem Iss.one {K : Kz} {H : Hp} {Hm : MH} {d : D} {vs : List V} (h : Iss K H Hm [d] vs) : ∃ v, vs = [v] ∧ Is K H Hm d v := by
  obtain ⟨v, r, rfl, q, t⟩ := h.cons_of
  rw [t.nil_of]
  exact ⟨v, rfl, q⟩
theorem Iss.two {K : Kz} {H : Hp} {Hm : MH} {d e : D} {vs : List V} (h : Iss K H Hm [d, e] vs) : ∃ v w, vs = [v, w] ∧ Is K H Hm d v ∧ Is K H Hm e w := by
  obtain ⟨v, r, rfl, q, t⟩ := h.cons_of
  obtain ⟨w, rfl, p⟩ := t.one
  exact ⟨v, w, rfl, q, p⟩
theorem map_ints {K : Kz} {H : Hp} {Hm : MH} (ns : List Int) : Iss K H Hm (ns.map D.int) (ns.map V.int) := Iss.of_ints ns
theorem isTy_of {K : Kz} {H : Hp} {Hm : MH} {d : D} {v : V} {n : String} {b : Bool} (r : Rep K H Hm) (h : Is K H Hm d v) (e : isTy d n Hm = some b) : ∃ t, TyX K.K H v (.type t) ∧ PySem.W.kitOne K.K (.type t) (.type n) = some b := by
  unfold isTy at e
  split at e
  · rename_i hn
    have hn : n ∈ tyNames := by simpa using hn
    have go : ∀ (t : String) (f : String → Bool), (∀ m ∈ tyNames, PySem.W.kitOne K.K (.type t) (.type m) = some (f m)) → f n = b → PySem.W.kitOne K.K (.type t) (.type n) = some b := fun t f h1 h2 => by rw [← h2]; exact h1 n hn
    have all : ∀ {p : String → Prop}, (p "int" ∧ p "bool" ∧ p "str" ∧ p "tuple" ∧ p "list" ∧ p "dict") → ∀ m ∈ tyNames, p m := fun h m hm => by
      simp only [tyNames, List.mem_cons, List.not_mem_nil, or_false] at hm
      rcases hm with rfl | rfl | rfl | rfl | rfl | rfl
      · exact h.1
      · exact h.2.1
      · exact h.2.2.1
      · exact h.2.2.2.1
      · exact h.2.2.2.2.1
      · exact h.2.2.2.2.2
    unfold isTy0 at e
    split at e
    · rw [h.non]; exact ⟨"NoneType", .base .non, go _ (fun _ => false) (all ⟨kit_ty (by decide +kernel), kit_ty (by decide +kernel), kit_ty (by decide +kernel), kit_ty (by decide +kernel), kit_ty (by decide +kernel), kit_ty (by decide +kernel)⟩) (Option.some.inj e)⟩
    · rw [h.bl]; exact ⟨"bool", .base (.bl _), go _ (fun m => m == "bool" || m == "int") (all ⟨kit_ty (by decide +kernel), kit_ty (by decide +kernel), kit_ty (by decide +kernel), kit_ty (by decide +kernel), kit_ty (by decide +kernel), kit_ty (by decide +kernel)⟩) (Option.some.inj e)⟩
    · rw [h.int]; exact ⟨"int", .base (.int _), go _ (fun m => m == "int") (all ⟨kit_ty (by decide +kernel), kit_ty (by decide +kernel), kit_ty (by decide +kernel), kit_ty (by decide +kernel), kit_ty (by decide +kernel), kit_ty (by decide +kernel)⟩) (Option.some.inj e)⟩
    · rw [h.str]; exact ⟨"str", .base (.str _), go _ (fun m => m == "str") (all ⟨kit_ty (by decide +kernel), kit_ty (by decide +kernel), kit_ty (by decide +kernel), kit_ty (by decide +kernel), kit_ty (by decide +kernel), kit_ty (by decide +kernel)⟩) (Option.some.inj e)⟩
    · obtain ⟨a, vs, rfl, s, _⟩ := h.tup
      refine ⟨"tuple", ?_, go _ (fun m => m == "tuple") (all ⟨kit_ty (by decide +kernel), kit_ty (by decide +kernel), kit_ty (by decide +kernel), kit_ty (by decide +kernel), kit_ty (by decide +kernel), kit_ty (by decide +kernel)⟩) (Option.some.inj e)⟩
      rcases s with (s | ⟨o, s⟩) | ⟨o, its, n, k, c, _⟩
      · exact .base (.tup s)
      · exact .fTuple s
      · exact .kTuple k c
    · unfold Is at h
      obtain ⟨a, vs, rfl, s, _⟩ := h
      refine ⟨"list", ?_, go _ (fun m => m == "list") (all ⟨kit_ty (by decide +kernel), kit_ty (by decide +kernel), kit_ty (by decide +kernel), kit_ty (by decide +kernel), kit_ty (by decide +kernel), kit_ty (by decide +kernel)⟩) (Option.some.inj e)⟩
      rcases s with ⟨s | ⟨o, s⟩, _⟩ | ⟨o, its, n, k, c, _⟩
      · exact .base (.lst s)
      · exact .base (.frz s)
      · exact .kList k c
    · unfold Is at h
      obtain ⟨a, kvs, rfl, s, _⟩ := h
      exact ⟨"dict", .base (.dK s), go _ (fun m => m == "dict") (all ⟨kit_ty (by decide +kernel), kit_ty (by decide +kernel), kit_ty (by decide +kernel), kit_ty (by decide +kernel), kit_ty (by decide +kernel), kit_ty (by decide +kernel)⟩) (Option.some.inj e)⟩
    · rename_i a _
      rw [h.ref]
      split at e
      · rename_i xs hx
        obtain ⟨vs, s, _⟩ := r.obj _ _ hx
        exact ⟨"list", .base (.lst s), go _ (fun m => m == "list") (all ⟨kit_ty (by decide +kernel), kit_ty (by decide +kernel), kit_ty (by decide +kernel), kit_ty (by decide +kernel), kit_ty (by decide +kernel), kit_ty (by decide +kernel)⟩) (Option.some.inj e)⟩
      · cases e
    · cases e
  · cases e
theorem call_biD (C : Cok X) (m : Bool) (f : Bi) : CallR X f.val fun xs H Q => ∃ Z ds Hm Qd, Rep ⟨X.K, Z⟩ H Hm ∧ Iss ⟨X.K, Z⟩ H Hm ds xs ∧ biD m f ds Hm Qd ∧ Bh ⟨X.K, Z⟩ Hm H Qd Q := by
  intro pins s σ H xs us Q I r h
  obtain ⟨Z, ds, Hm, Qd, rep, is, hr, k⟩ := h
  unfold biD at hr
  split at hr
  · obtain ⟨v, rfl, i⟩ := is.one
    exact call_len_str pins s σ H _ us Q I r ⟨_, by rw [i.str], hr.1, k.here rep is_int hr.2⟩
  · obtain ⟨v, rfl, i⟩ := is.one
    split at hr
    · obtain ⟨n, e, q⟩ := hr
      exact call_dlenD pins s σ H _ us Q I r ⟨Z, _, Hm, Qd, n, rep, .cons i .nil, e, q, k⟩
    · obtain ⟨ys, e, q⟩ := hr
      obtain ⟨a, vs, rfl, sq, t⟩ := seq_of rep i e
      exact call_len_seq pins s σ H _ us Q I r ⟨a, vs, rfl, sq, by rw [t.length]; exact k.here rep is_int q⟩
  · obtain ⟨v, w, rfl, i, j⟩ := is.two
    exact call_min2 C.calm pins s σ H _ us Q I r ⟨_, _, by rw [i.int, j.int], k.here rep is_int hr⟩
  · obtain ⟨v, w, rfl, i, j⟩ := is.two
    exact call_max2 C.calm pins s σ H _ us Q I r ⟨_, _, by rw [i.int, j.int], k.here rep is_int hr⟩
  · obtain ⟨v, rfl, i⟩ := is.one
    obtain ⟨n, ns, e, q⟩ := hr
    cases z : seqAt Hm _ with
    | none => rw [z] at e; cases e
    | some ys =>
      rw [z] at e
      obtain ⟨a, vs, rfl, sq, t⟩ := seq_of rep i z
      have e2 := intsD_of t e
      subst e2
      rcases sq with sq | sq
      · exact cr_min C.calm pins s σ H _ us Q I r ⟨a, n :: ns, rfl, sq, by simp, fun m h1 h2 => by rw [leastI_is h1 h2]; exact k.here rep is_int q⟩
      · exact cr_minT C.calm C.room pins s σ H _ us Q I r ⟨a, n, ns, rfl, sq, k.here rep is_int q⟩
  · obtain ⟨v, rfl, i⟩ := is.one
    obtain ⟨n, ns, e, q⟩ := hr
    cases z : seqAt Hm _ with
    | none => rw [z] at e; cases e
    | some ys =>
      rw [z] at e
      obtain ⟨a, vs, rfl, sq, t⟩ := seq_of rep i z
      have e2 := intsD_of t e
      subst e2
      rcases sq with sq | sq
      · exact cr_max C.calm pins s σ H _ us Q I r ⟨a, n :: ns, rfl, sq, by simp, fun m h1 h2 => by rw [mostI_is h1 h2]; exact k.here rep is_int q⟩
      · exact cr_maxT C.calm C.room pins s σ H _ us Q I r ⟨a, n, ns, rfl, sq, k.here rep is_int q⟩
  · obtain ⟨v, rfl, i⟩ := is.one
    exact call_abs pins s σ H _ us Q I r ⟨_, by rw [i.int], k.here rep is_int hr⟩
  · obtain ⟨v, rfl, i⟩ := is.one
    exact call_int1 pins s σ H _ us Q I r (.inl ⟨_, by rw [i.int], k.here rep is_int hr⟩)
  · obtain ⟨v, rfl, i⟩ := is.one
    exact call_int1 pins s σ H _ us Q I r (.inr ⟨_, by rw [i.bl], k.here rep is_int hr⟩)
  · obtain ⟨v, rfl, i⟩ := is.one
    exact call_bool1 pins s σ H _ us Q I r (.inr ⟨_, by rw [i.bl], k.here rep is_bl hr⟩)
  · obtain ⟨v, rfl, i⟩ := is.one
    exact call_str_int pins s σ H _ us Q I r ⟨_, by rw [i.int], hr.1, k.here rep is_str hr.2⟩
  · obtain ⟨v, rfl, i⟩ := is.one
    obtain ⟨ns, e, q⟩ := hr
    cases z : lstAt Hm _ with
    | none => rw [z] at e; cases e
    | some ys =>
      rw [z] at e
      obtain ⟨a, vs, rfl, sq, t⟩ := lst_of rep i z
      have e2 := intsD_of t e
      subst e2
      exact cr_sum C.calm pins s σ H _ us Q I r ⟨a, ns, rfl, sq, k.here rep is_int q⟩
  · obtain ⟨v, rfl, i⟩ := is.one
    obtain ⟨ns, e, q⟩ := hr
    cases z : lstAt Hm _ with
    | none => rw [z] at e; cases e
    | some ys =>
      rw [z] at e
      obtain ⟨a, vs, rfl, sq, t⟩ := lst_of rep i z
      have e2 := intsD_of t e
      subst e2
      exact cr_sortedI pins s σ H _ us Q I r ⟨a, ns, rfl, sq, fun ms p h1 h2 hp => k.lst rep (map_ints ms) (q ms h1 h2) p hp⟩
  · obtain ⟨v, rfl, i⟩ := is.one
    obtain ⟨ys, e, q⟩ := hr
    obtain ⟨a, vs, rfl, sq, t⟩ := seq_of rep i e
    exact call_list_of pins s σ H _ us Q I r ⟨a, vs, rfl, sq, k.lst rep t q⟩
  · obtain ⟨v, rfl, i⟩ := is.one
    obtain ⟨ys, e, q⟩ := hr
    obtain ⟨a, vs, rfl, sq, t⟩ := seq_of rep i e
    refine call_tuple_of pins s σ H _ us Q I r ⟨a, vs, rfl, ?_⟩
    rcases sq with sq | sq
    · exact .inl ⟨sq, k.tup rep t q⟩
    · exact .inr ⟨sq, k.here rep (by unfold Is; exact ⟨a, vs, rfl, sq, t⟩) q⟩
  · obtain ⟨v, w, rfl, i, j⟩ := is.two
    obtain ⟨b, e, q⟩ := hr
    obtain ⟨t, h1, h2⟩ := isTy_of rep i e
    exact call_isi pins s σ H _ us Q I r ⟨v, _, _, _, b, by rw [j.ty], .ty _, h1, h2, k.here rep is_bl q⟩
  · exact hr.elim
end
end DL

set_option maxHeartbeats 400000
namespace DL
open PySem PySem.Spec PyProof.Rows L2

/-! ### calls -/
section
variable {C : Co} {a e : Expr} {es : List Expr} {ta te : TD} {t : TAd} {pos p : Pos} {x : Str}
theorem de_bi (ok : C.Ok) {m : Bool} {f : Bi} (hg : Gl C.X x) (hm : C.X.mg x = none) (hv : bootBuiltins x = some f.val) (ha : DA C (e :: es) t) (hn : x ≠ "__name__") (hdb : (x == ("__debug__" : Str)) = false)
    (he : starEach (e :: es) C.X.env = (false, eval e C.X.env) :: starEach es C.X.env) (hpl : (backTo pos (starEach es C.X.env)).any (·.1) = false) :
    DE C (.Call (.Name x p) (e :: es) [] pos) (fun σ H Q => t σ H fun ds H1 => biD m f ds H1 Q) := by
  have key : PE C.X (.Call (.Name x p) (e :: es) [] pos) (tCB (fun xs H Q => ∃ Z ds Hm Qd, Rep ⟨C.X.K, Z⟩ H Hm ∧ Iss ⟨C.X.K, Z⟩ H Hm ds xs ∧ biD m f ds Hm Qd ∧ Bh ⟨C.X.K, Z⟩ Hm H Qd Q) (LfA C t)) := by
    cases hf : f.val with
    | builtin id => exact pe_callB (hf ▸ call_biD ok.x m f) hg hm (by rw [hv, hf]) ha hn hdb he hpl
    | type id => exact pe_callTy (hf ▸ call_biD ok.x m f) hg hm (by rw [hv, hf]) ha hn hdb he hpl
    | _ => cases f <;> cases hf
  refine PE.weak key fun σ H Q => ?_
  rintro ⟨σd, Hm, Qd, s, q, k⟩
  exact LfA.seq s q fun vs H1 ds Hm1 n1 s1 is q => ⟨C.Z, ds, Hm1, Qd, s1.rep, is, q, k.cut n1⟩
def Mt.ty : Mt → String
  | .append => "list" | .pop => "list" | .upper => "str"
def Mt.id : Mt → String
  | .append => "list.append" | .pop => "list.pop" | .upper => "str.upper"
theorem mt_okD {X : Cx} {m : Bool} {f : Mt} : MtR X f.id fun x xs H Q => ∃ Z dx ds Hm Qd, Rep ⟨X.K, Z⟩ H Hm ∧ Is ⟨X.K, Z⟩ H Hm dx x ∧ Iss ⟨X.K, Z⟩ H Hm ds xs ∧ mtD m f dx ds Hm Qd ∧ Bh ⟨X.K, Z⟩ Hm H Qd Q := by
  intro pins s σ H x xs v us Q I rx r h
  obtain ⟨Z, dx, ds, Hm, Qd, rep, ix, is, hr, k⟩ := h
  unfold mtD at hr
  split at hr
  · rename_i a d
    obtain ⟨w, rfl, iw⟩ := is.one
    obtain ⟨ys, hy, hz, q⟩ := hr
    obtain ⟨vs, e, t⟩ := rep.obj _ _ hy
    have nn : Hm a ≠ none := by rw [hy]; simp
    refine mt_append pins s σ H x _ v us Q I rx r ⟨a, vs, w, ix.ref, rfl, e, by rw [t.length]; exact hz, ?_⟩
    exact k _ _ .non _ (wr_nt nn) (wr_rep rep nn (t.append (.cons iw .nil))) is_non q
  · rename_i a
    have e0 := is.nil_of
    subst e0
    obtain ⟨ys, d, hy, q⟩ := hr
    obtain ⟨vs, e, t⟩ := rep.obj _ _ hy
    have nn : Hm a ≠ none := by rw [hy]; simp
    obtain ⟨w, hw, iw⟩ := t.get (i := ys.length) (d := d) (by simp)
    have hl : vs.length = ys.length + 1 := by rw [t.length]; simp
    have hd : vs.dropLast = vs.take ys.length := by rw [List.dropLast_eq_take, hl]; rfl
    refine mt_pop pins s σ H x _ v us Q I rx r ⟨a, vs, w, ix.ref, rfl, e, by rw [hl]; exact hw, ?_⟩
    have t2 : Iss ⟨X.K, Z⟩ H Hm ys vs.dropLast := by
      rw [hd]
      have := t.take ys.length
      rw [List.take_left] at this
      exact this
    have n1 : NT Hm H (updM Hm a (.lst ys)) (upd H a (.lst vs.dropLast)) := wr_nt nn
    exact k _ _ d _ n1 (wr_rep rep nn t2) (Is.nt rep n1 d w iw) q
  · have e0 := is.nil_of
    subst e0
    exact mt_upper pins s σ H x _ v us Q I rx r ⟨_, ix.str, rfl, hr.1, k.here rep is_str hr.2⟩
  · exact hr.elim
theorem mtTy_of {K : Kz} {H : Hp} {Hm : MH} {f : Mt} {d : D} {v : V} (r : Rep K H Hm) (i : Is K H Hm d v) (h : mtTy f d Hm) : tyV K.K f.ty v H := by
  unfold mtTy at h
  split at h
  · obtain ⟨a, xs, rfl, e⟩ := h
    obtain ⟨vs, q, _⟩ := r.obj _ _ e
    rw [i.ref]
    exact .inl ⟨rfl, vs, .inl (.inl q)⟩
  · obtain ⟨a, xs, rfl, e⟩ := h
    obtain ⟨vs, q, _⟩ := r.obj _ _ e
    rw [i.ref]
    exact .inl ⟨rfl, vs, .inl (.inl q)⟩
  · obtain ⟨z, rfl⟩ := h
    rw [i.str]
    exact rfl
theorem de_mth {m : Bool} {f : Mt} {apos : Pos} (pa : PlainAttrs f.ty) (slot : Slot f.ty x f.id) (hty : typeOf (.builtin f.id) = pure (.type "method_descriptor")) (ho : DE C a ta) (ha : DA C (e :: es) t)
    (hbase : attributeBase a x C.X.env (eval a C.X.env) = eval a C.X.env)
    (hfew : ((backTo pos (starEach (e :: es) C.X.env)).all (fun x => !x.1) && (backToKw pos (keywordEach [] C.X.env)).all (fun x => x.1.isSome)
      && decide ((e :: es).length + ([] : List Keyword).length + (if ([] : List Keyword).isEmpty then 0 else 1) < 30)) = true)
    (hline : (apos.endLine == pos.line) = true) (hs : starEach (e :: es) C.X.env = (false, eval e C.X.env) :: starEach es C.X.env) (hplain : (backTo pos (starEach es C.X.env)).any (·.1) = false) :
    DE C (.Call (.Attribute a x apos) (e :: es) [] pos) (fun σ H Q => ta σ H fun x H1 => mtTy f x H1 ∧ t σ H1 fun ds H2 => mtD m f x ds H2 Q) :=
  PE.weak (pe_bm pa slot hty (mt_okD (m := m) (f := f)) ho ha hbase hfew hline hs hplain) fun σ H Q => by
    rintro ⟨σd, Hm, Qd, s, q, k⟩
    refine Lf.seq s q fun x H1 dx Hm1 n1 s1 ix q => ⟨mtTy_of s1.rep ix q.1, ?_⟩
    exact LfA.seq s1 q.2 fun vs H2 ds Hm2 n2 s2 is q => ⟨C.Z, dx, ds, Hm2, Qd, s2.rep, Is.nt s1.rep n2 dx x ix, is, q, (k.cut n1).cut n2⟩
theorem de_mth0 {m : Bool} {f : Mt} {apos : Pos} (pa : PlainAttrs f.ty) (slot : Slot f.ty x f.id) (hty : typeOf (.builtin f.id) = pure (.type "method_descriptor")) (ho : DE C a ta)
    (hbase : attributeBase a x C.X.env (eval a C.X.env) = eval a C.X.env) (hline : (apos.endLine == pos.line) = true) :
    DE C (.Call (.Attribute a x apos) [] [] pos) (fun σ H Q => ta σ H fun x H1 => mtTy f x H1 ∧ mtD m f x [] H1 Q) :=
  PE.weak (pe_bm0 pa slot hty (mt_okD (m := m) (f := f)) ho hbase hline) fun σ H Q => by
    rintro ⟨σd, Hm, Qd, s, q, k⟩
    exact Lf.seq s q fun x H1 dx Hm1 n1 s1 ix q => ⟨mtTy_of s1.rep ix q.1, C.Z, dx, [], Hm1, Qd, s1.rep, ix, .nil, q.2, k.cut n1⟩
/-- the promise of a def, closed -/
def Cl (K : PySem.W.Frag) (n : Nat) (c : Ctr) : Sp := fun vs H Q E => ∃ Z ds Hm Qd Ed, ds.length = n ∧ Rep ⟨K, Z⟩ H Hm ∧ Iss ⟨K, Z⟩ H Hm ds vs ∧ c ds Hm Qd Ed ∧ Bh ⟨K, Z⟩ Hm H Qd Q ∧
  ∀ cls a fo H' Hm', NT Hm H Hm' H' → Rep ⟨K, Z⟩ H' Hm' → XIs ⟨K, Z⟩ H' Hm' a fo → Ed cls fo Hm' → E cls a H'
/-- a def of the module that keeps its promise -/
def Has (X : Cx) (x : Str) (n : Nat) (c : Ctr) : Prop := ∃ f fd ps k, ps.length = n ∧ X.mg x = some (.ref f) ∧ PySem.W.keepIn X.K (.ref f) = true ∧ Binds X.K fd ps [] ∧ FnOk X.prog X.w X.K X.mg X.base (L2.CX X.prog X.w) k f fd ps (Cl X.K n c) ∧ Room k X.A
theorem de_call (ok : C.Ok) {n : Nat} {c : Ctr} (hF : Has C.X x n c) (hg : Gl C.X x) (ha : DA C (e :: es) t) (hdb : (x == ("__debug__" : Str)) = false)
    (he : starEach (e :: es) C.X.env = (false, eval e C.X.env) :: starEach es C.X.env) (hpl : (backTo pos (starEach es C.X.env)).any (·.1) = false) :
    DE C (.Call (.Name x p) (e :: es) [] pos) (fun σ H Q => t σ H fun ds H1 => ds.length = n ∧ c ds H1 Q (C.Ed σ)) := by
  obtain ⟨f, fd, ps, k, hl, hm, hk, hb, F, hr⟩ := hF
  refine PE.weak (pe_callSD F hr hg hm hk hb .nil (fun σ => passAt ok.tk σ) ha hdb he hpl) fun σ H Q => ?_
  rintro ⟨σd, Hm, Qd, s, q, k⟩
  refine LfA.seq s q fun vs H1 ds Hm1 n1 s1 is q => ?_
  rw [List.append_nil]
  exact ⟨C.Z, ds, Hm1, Qd, C.Ed σd, q.1, s1.rep, is, q.2, k.cut n1, fun cls a fo H' Hm' n' r' x' h => ok.w σ H' σd Hm' cls a fo (s1.nxt n' r') x' h⟩
theorem de_call0 (ok : C.Ok) {n : Nat} {c : Ctr} (hF : Has C.X x n c) (hg : Gl C.X x) (hdb : (x == ("__debug__" : Str)) = false) :
    DE C (.Call (.Name x p) [] [] pos) (fun σ H Q => 0 = n ∧ c [] H Q (C.Ed σ)) := by
  obtain ⟨f, fd, ps, k, hl, hm, hk, hb, F, hr⟩ := hF
  refine ⟨fun pins s σ H Q I h => ?_⟩
  refine wpAny_Call_Name_kw (ld_glob I hg hm ?_ hdb)
  obtain ⟨σd, Hm, Qd, s0, q, k⟩ := h
  refine PySem.W.callWith_K0 I.kIn hk (run_fnSD (us := []) (vs := []) (E := fun σ => WE C.W σ) F hr hb .nil (passAt ok.tk σ) I .nil ?_)
  exact ⟨C.Z, [], Hm, Qd, C.Ed σd, q.1, s0.rep, .nil, q.2, k, fun cls a fo H' Hm' n' r' x' h => ok.w σ H' σd Hm' cls a fo (s0.nxt n' r') x' h⟩

/-! ### targets -/
def Out (ts : List Nat) (σ σ' : L2.St) : Prop := σ'.length = σ.length ∧ ∀ i, i ∉ ts → σ'[i]? = σ[i]?
theorem Out.refl {ts : List Nat} {σ : L2.St} : Out ts σ σ := ⟨rfl, fun _ _ => rfl⟩
theorem Out.trans {ts us : List Nat} {σ σ1 σ2 : L2.St} (a : Out ts σ σ1) (b : Out us σ1 σ2) : Out (ts ++ us) σ σ2 := ⟨b.1.trans a.1, fun i h => by
  rw [List.mem_append, not_or] at h
  rw [b.2 i h.2, a.2 i h.1]⟩
theorem Out.wiped {ts vs : List Nat} {σ σ' : L2.St} (o : Out ts (wipe σ vs) σ') (h : ∀ i ∈ ts, i ∈ vs) : wipe σ' vs = wipe σ vs := by
  apply List.ext_getElem?
  intro i
  have l1 : σ'.length = σ.length := by rw [o.1, wipe_length]
  have g : ∀ (τ : L2.St) (vs : List Nat) (j : Nat), j ∈ vs → j < τ.length → (wipe τ vs)[j]? = some none := fun τ vs j => by
    induction vs with
    | nil => intro h; cases h
    | cons v vs ih =>
      intro h hl
      unfold L2.wipe
      by_cases e : v = j
      · subst e
        rw [List.getElem?_set_self (by rw [wipe_length]; exact hl)]
      · rw [List.getElem?_set_ne e]
        exact ih ((List.mem_cons.mp h).resolve_left fun z => e z.symm) hl
  by_cases hi : i ∈ vs
  · by_cases hl : i < σ.length
    · rw [g σ' vs i hi (l1 ▸ hl), g σ vs i hi hl]
    · rw [List.getElem?_eq_none (by rw [wipe_length, l1]; omega), List.getElem?_eq_none (by rw [wipe_length]; omega)]
  · rw [wipe_out hi, o.2 i fun z => hi (h i z)]
abbrev TGd := D → En → MH → (En → MH → Prop) → Prop
def LfG (C : Co) (ts : List Nat) (T : TGd) : TG := fun v σ H Q => ∃ d σd Hm Qd, Is C.K H Hm d v ∧ Rs C σd Hm σ H ∧ T d σd Hm Qd ∧ ∀ σ' H' σd' Hm', NT Hm H Hm' H' → Rs C σd' Hm' σ' H' → Out ts σ σ' → Qd σd' Hm' → Q σ' H'
def DG (C : Co) (ts : List Nat) (e : Expr) (T : TGd) : Prop := PG C.X e (LfG C ts T)
theorem PG.weak {X : Cx} {e : Expr} {t t' : TG} (h : PG X e t) (k : ∀ v σ H Q, t' v σ H Q → t v σ H Q) : PG X e t' := ⟨fun pins s σ H v u Q I r q => h.run pins s σ H v u Q I r (k v σ H Q q)⟩
abbrev TGsd := List D → En → MH → (En → MH → Prop) → Prop
def LfGs (C : Co) (ts : List Nat) (T : TGsd) : TGs := fun vs σ H Q => ∃ ds σd Hm Qd, Iss C.K H Hm ds vs ∧ Rs C σd Hm σ H ∧ T ds σd Hm Qd ∧ ∀ σ' H' σd' Hm', NT Hm H Hm' H' → Rs C σd' Hm' σ' H' → Out ts σ σ' → Qd σd' Hm' → Q σ' H'
def DGs (C : Co) (ts : List Nat) (es : List Expr) (T : TGsd) : Prop := PGs C.X es (LfGs C ts T)
theorem PGs.weak {X : Cx} {e : List Expr} {t t' : TGs} (h : PGs X e t) (k : ∀ v σ H Q, t' v σ H Q → t v σ H Q) : PGs X e t' := ⟨fun pins s σ H v u Q I r q => h.run pins s σ H v u Q I r (k v σ H Q q)⟩
theorem dg_name (ok : C.Ok) {i : Nat} (hi : C.X.N[i]? = some x) (hx : Loc C.X.env.scope x) (hf : C.X.fn x = true ∨ C.X.env.scope.names.lookup x = some .local) :
    DG C [i] (.Name x pos) (fun d σ H Q => Q (σ.set i (some d)) H) := PG.weak (pg_name ok.x.nd hi hx hf) fun v σ H Q => by
  rintro ⟨d, σd, Hm, Qd, iv, s, q, k⟩
  refine k _ H _ Hm .refl (s.set i iv) ⟨by rw [List.length_set], fun j hj => ?_⟩ q
  rw [List.getElem?_set_ne (fun z => hj (by rw [z]; exact List.mem_cons_self))]
theorem dgs_nil : DGs C [] [] (fun ds σ H Q => ds = [] ∧ Q σ H) := PGs.weak pgs_nil fun v σ H Q => by
  rintro ⟨ds, σd, Hm, Qd, iv, s, ⟨rfl, q⟩, k⟩
  exact ⟨iv.nil_of, k σ H σd Hm .refl s .refl q⟩
theorem dgs_cons {ts us : List Nat} {t : TGd} {u : TGsd} (h1 : DG C ts e t) (h2 : DGs C us es u) (hs : (assignEach (e :: es) C.X.env).map (·.2) = assign e C.X.env :: (assignEach es C.X.env).map (·.2)) :
    DGs C (ts ++ us) (e :: es) (fun ds σ H Q => ∃ d r, ds = d :: r ∧ t d σ H fun σ1 H1 => u r σ1 H1 Q) := PGs.weak (pgs_cons h1 h2 hs) fun v σ H Q => by
  rintro ⟨ds, σd, Hm, Qd, iv, s, ⟨d, r, rfl, q⟩, k⟩
  obtain ⟨w, vr, rfl, i1, i2⟩ := iv.cons_of
  refine ⟨w, vr, rfl, d, σd, Hm, _, i1, s, q, fun σ1 H1 σd1 Hm1 n1 s1 o1 q => ?_⟩
  exact ⟨r, σd1, Hm1, Qd, Iss.nt s.rep n1 _ _ i2, s1, q, fun σ2 H2 σd2 Hm2 n2 s2 o2 q => k σ2 H2 σd2 Hm2 (n1.trans n2) s2 (o1.trans o2) q⟩
theorem dg_tup (ok : C.Ok) {ts : List Nat} {u : TGsd} {k0 l : Nat} (h : DGs C ts es u) (hst : (assignEach es C.X.env).findIdx? (·.1) = none)
    (hn : (assignEach es C.X.env).length = l) : DG C ts (.Tuple es k0 pos) (fun d σ H Q => ∃ ds, d = .tup ds ∧ ds.length = l ∧ u ds σ H Q) :=
  PG.weak (pg_tup (n := l) ok.x.calm h hn hst) fun v σ H Q => by
    rintro ⟨d, σd, Hm, Qd, iv, s, ⟨ds, rfl, hl, q⟩, k⟩
    obtain ⟨a, vs, rfl, sq, t⟩ := iv.tup
    exact ⟨a, vs, rfl, sq, by rw [t.length]; exact hl, ds, σd, Hm, Qd, t, s, q, k⟩
/-- a[i] = d of a list that is tracked -/
theorem set_okD {X : Cx} : PSet X fun o i v H Q => ∃ (Z : Addr → Prop) (dx dy dv : D) (Hm : MH) (Qd : MH → Prop), Rep ⟨X.K, Z⟩ H Hm ∧ Is ⟨X.K, Z⟩ H Hm dx o ∧ Is ⟨X.K, Z⟩ H Hm dy i ∧ Is ⟨X.K, Z⟩ H Hm dv v ∧
    (∃ p xs i j, dx = .ref p ∧ dy = .int i ∧ Hm p = some (.lst xs) ∧ ixN xs.length i = some j ∧ Qd (updM Hm p (.lst (xs.set j dv)))) ∧ ∀ H' Hm', NT Hm H Hm' H' → Rep ⟨X.K, Z⟩ H' Hm' → Qd Hm' → Q H' := by
  intro pins s σ H o i v ov iv u Q I ro ri rv h
  obtain ⟨Z, dx, dy, dv, Hm, Qd, rep, ix, iy, id, ⟨p, xs, n, j, rfl, rfl, hp, hj, q⟩, k⟩ := h
  obtain ⟨vs, e, t⟩ := rep.obj _ _ hp
  have nn : Hm p ≠ none := by rw [hp]; simp
  exact set_list pins s σ H o i v ov iv u Q I ro ri rv ⟨p, vs, n, j, ix.ref, iy.int, e, by rw [t.length]; exact hj, k _ _ (wr_nt nn) (wr_rep rep nn (t.set j id)) q⟩
theorem dg_sub {b : Expr} {tb : TD} (ho : DE C a ta) (hi : DE C b tb)
    (hs : ∀ v, assign (.Subscript a b pos) C.X.env v = (do
      let ov ← holding [v] (eval a C.X.env)
      let iv ← holding [v, ov] (eval b C.X.env)
      standAt pos
      holding [v, ov, iv] (setItem ov iv v)
      release [v, ov, iv] [])) :
    DG C [] (.Subscript a b pos) (fun d σ H Q => ta σ H fun x H1 => tb σ H1 fun y H2 => ∃ p xs i j, x = .ref p ∧ y = .int i ∧ H2 p = some (.lst xs) ∧ ixN xs.length i = some j ∧ Q σ (updM H2 p (.lst (xs.set j d)))) :=
  PG.weak (pg_sub ho hi set_okD hs) fun v σ H Q => by
    rintro ⟨d, σd, Hm, Qd, iv, s, q, k⟩
    refine Lf.seq s q fun x H1 dx Hm1 n1 s1 ix q => ?_
    refine Lf.seq s1 q fun y H2 dy Hm2 n2 s2 iy q => ?_
    exact ⟨C.Z, dx, dy, d, Hm2, fun Hm' => Qd σd Hm', s2.rep, Is.nt s1.rep n2 dx x ix, iy, Is.nt s.rep (n1.trans n2) d v iv, q, fun H' Hm' n r q => k σ H' σd Hm' ((n1.trans n2).trans n) (s2.nxt n r) .refl q⟩
theorem dg_dsub (ok : C.Ok) {b : Expr} {tb : TD} (ho : DE C a ta) (hi : DE C b tb)
    (hs : ∀ v, assign (.Subscript a b pos) C.X.env v = (do
      let ov ← holding [v] (eval a C.X.env)
      let iv ← holding [v, ov] (eval b C.X.env)
      standAt pos
      holding [v, ov, iv] (setItem ov iv v)
      release [v, ov, iv] [])) :
    DG C [] (.Subscript a b pos) (fun d σ H Q => ta σ H fun x H1 => tb σ H1 fun y H2 => ∃ p kvs k, x = .ref p ∧ keyD y = some k ∧ H2 p = some (.dk kvs) ∧ kvs.length < sizeLine ∧ Q σ (updM H2 p (.dk (putD kvs k d)))) :=
  PG.weak (pg_sub ho hi (set_dkD ok.units) hs) fun v σ H Q => by
    rintro ⟨d, σd, Hm, Qd, iv, s, q, k⟩
    refine Lf.seq s q fun x H1 dx Hm1 n1 s1 ix q => ?_
    refine Lf.seq s1 q fun y H2 dy Hm2 n2 s2 iy q => ?_
    exact ⟨C.Z, dx, dy, d, Hm2, fun Hm' => Qd σd Hm', s2.rep, Is.nt s1.rep n2 dx x ix, iy, Is.nt s.rep (n1.trans n2) d v iv, q, fun H' Hm' n r q => k σ H' σd Hm' ((n1.trans n2).trans n) (s2.nxt n r) .refl q⟩
theorem dg_dsubT (ok : C.Ok) {es : List Expr} {x1} {p2 : Pos} {t : TAd} (ho : DE C a ta) (hi : DA C es t) :
    DG C [] (.Subscript a (.Tuple es x1 p2) pos) (fun d σ H Q => ta σ H fun x H1 => t σ H1 fun ds H2 => ds.length ≤ sizeLine ∧ ∃ p kvs ks, x = .ref p ∧ keysD ds = some ks ∧ H2 p = some (.dt kvs) ∧ kvs.length < sizeLine ∧ Q σ (updM H2 p (.dt (putD kvs ks d)))) :=
  PG.weak (pg_sub ho (pe_tup hi) (set_dtD ok.units) (fun _ => rfl)) fun v σ H Q => by
    rintro ⟨d, σd, Hm, Qd, iv, s, q, k⟩
    refine Lf.seq s q fun x H1 dx Hm1 n1 s1 ix q => ?_
    refine LfA.seq s1 q fun vs H2 ds Hm2 n2 s2 is q => ?_
    obtain ⟨hl, q⟩ := q
    refine ⟨by rw [is.length]; exact hl, fun b hb => ?_⟩
    have n3 : NT Hm2 H2 Hm2 (upd H2 b (.tup vs)) := ext_nt hb
    have s3 := s2.nxt n3 (s2.rep.ext hb)
    exact ⟨C.Z, dx, d, ds, vs, b, Hm2, fun Hm' => Qd σd Hm', s3.rep, Is.nt s1.rep (n2.trans n3) dx x ix, rfl, upd_same, Iss.nt s2.rep n3 _ _ is, Is.nt s.rep ((n1.trans n2).trans n3) d v iv, q, fun H' Hm' n r q => k σ H' σd Hm' (((n1.trans n2).trans n3).trans n) (s3.nxt n r) .refl q⟩
end
end DL

namespace RT
open PySem PySem.Spec PyProof.Rows
section
variable {prog : Program} {w : World} {A : Around} {E : Value → Shared → Prop} {s : Shared}
/-- list(reversed(list)) -/
theorem call_list_rev {it l : Addr} {items : Array Value} {Q : Value → Shared → Prop} (hh : A.handled = none) (hit : s.heap.IsRevIter it l ((items.size : Int) - 1)) (hl : s.heap.IsList l items) (hne : l ≠ it) (hn : items.size ≤ sizeLine)
    (hQ : ∀ (h' : Heap) (tk : Nat) (acc : Array Value) (c : Nat), (∀ b o, b ≠ it → s.heap.get? b = some o → h'.get? b = some o) → h'.get? s.heap.objs.size = some { cls := .type "list", data := .seq acc c } → ItemsOf (fun i v => items[items.size - 1 - i]? = some v) acc items.size →
      Q (.ref s.heap.objs.size) { s with heap := h', toks := tk }) :
    wpAny (model prog w) A (call (.type "list") [.ref it]) Q E s := by
  have W := (Walks.listRev (prog := prog) (w := w) (A := A.in1.in1) hh it l hne items).toS
  obtain ⟨oi, hoi, _⟩ := id hit
  obtain ⟨ol, hol, _⟩ := id hl
  have hSi : s.heap.objs.size ≠ it := Nat.ne_of_gt (Heap.lt_size hoi)
  have hSl : s.heap.objs.size ≠ l := Nat.ne_of_gt (Heap.lt_size hol)
  have hSf : s.heap.objs.size ∉ [it, l] := by simp only [List.mem_cons, List.not_mem_nil, or_false, not_or]; exact ⟨hSi, hSl⟩
  refine callType_codes (Q₁ := fun obj s₁ => obj = .ref s.heap.objs.size ∧ s₁ = { s with heap := s.heap.push { cls := .type "list", data := .seq #[] } }) F.called_list (F.typeCall_list_1 _) F.entry_list_init
    (code_list_new _ ⟨rfl, rfl⟩) fun obj s₁ h₁ => ?_
  obtain ⟨rfl, rfl⟩ := h₁
  have hS : (s.heap.push { cls := .type "list", data := .seq #[] }).get? s.heap.objs.size = some { cls := .type "list", data := .seq #[] } := Heap.get?_push_size _ rfl
  refine ⟨⟨_, hS, rfl⟩, F.args_list_init_2 _ _, ?_⟩
  show wpAny _ A.in1.in1 (do let old ← Builtin.List.listItems (.ref s.heap.objs.size); Builtin.List.listUpdate (.ref s.heap.objs.size) (fun _ => #[]); letGo old.toList.reverse; Builtin.List.listExtendWith (.ref s.heap.objs.size) (.ref it) .none) _ _ _
  refine wpAny_bind ?_
  unfold Builtin.List.listItems
  refine wpAny_bind (wpAny_seqItems hS rfl (wpAny_pure ?_))
  show wpAny _ A.in1.in1 (updateSeq s.heap.objs.size (fun _ => #[]) >>= fun _ => letGo (#[] : Array Value).toList.reverse >>= fun _ => Builtin.List.listExtendWith (.ref s.heap.objs.size) (.ref it) .none) _ _ _
  refine wpAny_bind (wpAny_updateSeq hS rfl ?_)
  have hS2 := Heap.get?_update_self (Obj.mapSeq (fun _ => (#[] : Array Value))) hS rfl
  refine wpAny_bind (wpAny_letGo ?_)
  have up : ∀ (h : Heap) (f : Obj → Obj), (∀ b o, s.heap.get? b = some o → h.get? b = some o) → ∀ b o, s.heap.get? b = some o → (h.update s.heap.objs.size f).get? b = some o := fun h f q b o e =>
    (Heap.get?_update_other _ _ (Ne.symm (Nat.ne_of_lt (Heap.lt_size e)))).trans (q b o e)
  have k1 : ∀ b o, s.heap.get? b = some o → (s.heap.push { cls := .type "list", data := .seq #[] }).get? b = some o := fun b o e => Heap.get?_push_of_some _ e
  have k2 := up _ (Obj.mapSeq (fun _ => (#[] : Array Value))) k1
  have hit1 := hit.at (fun o e => k2 _ o e)
  have hl1 : (Heap.update (s.heap.push { cls := .type "list", data := .seq #[] }) s.heap.objs.size (Obj.mapSeq (fun _ => (#[] : Array Value)))).IsList l items := by
    obtain ⟨o, ho, r⟩ := hl
    exact ⟨o, k2 _ o ho, r⟩
  have hT : ({ s with heap := (s.heap.push { cls := .type "list", data := .seq #[] }).update s.heap.objs.size (Obj.mapSeq (fun _ => (#[] : Array Value))) } : Shared).TypeIs (.ref it) "list_reverseiterator" := Heap.IsRevIter.typeIs (s := { s with heap := _ }) hit1
  have h1 : Builtin.List.listSameRef (.ref s.heap.objs.size) (.ref it) = false := by simp [Builtin.List.listSameRef, hSi]
  unfold Builtin.List.listExtendWith
  refine wpAny_bind (wpAny_typeOf hT ?_)
  rw [if_neg (by rw [h1]; decide)]
  refine wpAny_bind (wpAny_pyIter_revIter (s := { s with heap := _ }) hit1 ?_)
  refine wpAny_bind (wpAny_holding ?_)
  unfold Builtin.List.listLengthHint
  refine wpAny_bind (wpAny_specialOf hT nolen_lri ?_)
  show wpAny _ A.in1.in1 (specialOf (Value.ref it) (Str.ofString "__length_hint__") >>= _) _ _ _
  refine wpAny_bind (wpAny_specialOf hT hint_lri ?_)
  generalize hid : ("list_reverseiterator.__length_hint__" : String) = id0
  wp_delta
  rw [show splitId id0 = some ("list_reverseiterator", "__length_hint__") from by subst hid; decide +kernel]
  subst hid
  refine wpAny_bind (wpAny_isInstance (b := true) hT (by rw [isSubtype_type]; kernel_rfl) ?_)
  refine wpAny_pure ?_
  rw [if_neg (by decide)]
  have e0 : ((items.size : Nat) : Int) - 1 - ((0 : Nat) : Int) = (items.size : Int) - 1 := by omega
  refine wpAny_pure ⟨plainId_quiet F.plain_extend_loop _, codeAny_extend_loopS W hn _ hSf _ items.size 0 _ _ _ rfl (Nat.zero_le _) ⟨Nat.zero_le _, by rw [e0]; exact hit1, hl1⟩ hS2 (ItemsOf.nil _) fun s' acc' c' hm hS' hacc => ?_⟩
  rw [Moved.eq_with hm]
  refine ⟨rfl, ?_⟩
  refine hQ s'.heap s'.toks acc' c' (fun b o hb e => hm.heap b o (fun hmem => ?_) (k2 _ _ e)) hS' hacc
  rcases List.mem_cons.mp hmem with e' | hmem
  · exact absurd (Heap.lt_size e) (by rw [e']; exact Nat.lt_irrefl _)
  · exact hb (List.mem_singleton.mp hmem)
end
end RT
namespace L2
open PySem PySem.Spec PyProof.Rows
/-- list(reversed(x)), x a list: a new list -/
def tLstRev (K : PySem.W.Frag) (te : TE) : TE := fun σ H Q => te σ H fun v H1 => ∃ (a : Addr) (xs : List V), v = .ref a ∧ SqL K H1 a xs ∧ ∀ q, H1 q = none → Q (.ref q) (upd H1 q (.lst xs.reverse))
section
variable {X : Cx}
theorem pe_listRev {e : Expr} {te : TE} {p p2 pos pos2 : Pos} (hc : X.calm = true) (hg : Gl X "list") (hm : X.mg "list" = none) (hg2 : Gl X "reversed") (hm2 : X.mg "reversed" = none) (he : PE X e te)
    (hs : starEach [e] X.env = (false, eval e X.env) :: starEach [] X.env := by rfl)
    (hs2 : starEach [.Call (.Name "reversed" p2) [e] [] pos2] X.env = (false, eval (.Call (.Name "reversed" p2) [e] [] pos2) X.env) :: starEach [] X.env := by rfl) :
    PE X (.Call (.Name "list" p) [.Call (.Name "reversed" p2) [e] [] pos2] [] pos) (tLstRev X.K te) := by
  refine ⟨fun pins s σ H Q I h => ?_⟩
  refine Call_ (ld_blt I hg hm PyProof.Rows.boot_list (PyProof.Rows.callWith_type1 (args_cons (Call_ (ld_blt I hg2 hm2 PyProof.Rows.boot_reversed (PyProof.Rows.callWith_type1 (args_cons (thn (he.run pins s σ H _ I h) fun u s1 ⟨v, H1, I1, r1, q1⟩ => args_nil ?_) hs) hs rfl))) hs2) hs2 rfl))
  obtain ⟨a, xs, ev, hq, q⟩ := q1
  subst ev
  obtain rfl : u = Value.ref a := r1
  obtain ⟨its, rv, p', hz⟩ := I1.list hq
  refine call_reversed_list p'.isList (args_nil ?_)
  have k0 : ∀ b o, s1.heap.get? b = some o → (s1.heap.push (revObj a ((its.toArray.size : Int) - 1))).get? b = some o := fun b o e => Heap.get?_push_of_some _ e
  have I2 : Inv X pins σ H1 { s1 with heap := s1.heap.push (revObj a ((its.toArray.size : Int) - 1)) } := I1.kept (t' := s1.toks) k0
  obtain ⟨f0, f1, f2, f3, f4, f5⟩ := I1.fpOk (H' := H1) (b := s1.heap.objs.size) (Nat.le_refl _) (I1.hok.fresh (Nat.le_refl _))
  have hl := p'.isList
  obtain ⟨ol, hol, _⟩ := id hl
  have hne : a ≠ s1.heap.objs.size := Nat.ne_of_lt (Heap.lt_size hol)
  have hn : its.toArray.size ≤ sizeLine := by rw [List.size_toArray, ← rv.length]; exact hz
  have hsz : (s1.heap.push (revObj a ((its.toArray.size : Int) - 1))).objs.size = s1.heap.objs.size + 1 := by simp [Heap.push]
  refine RT.call_list_rev (s := { s1 with heap := s1.heap.push (revObj a ((its.toArray.size : Int) - 1)) }) (I1.ok.hd hc) ⟨_, Heap.get?_push_size _ rfl, rfl, rfl⟩ (hl.push _) hne hn fun h' tk acc c hk hS hi => ?_
  have I3 : Inv X pins σ H1 { s1 with heap := h', toks := tk } := I2.turned (t' := tk) (fun b o hb e => hk b o hb e) f0 f1 f3 f4 f5
  have hge : s1.heap.objs.size ≤ (s1.heap.push (revObj a ((its.toArray.size : Int) - 1))).objs.size := by omega
  have new : ObjOk X.prog X.w (upd H1 (s1.heap.push (revObj a ((its.toArray.size : Int) - 1))).objs.size (.lst xs.reverse)) h' (s1.heap.push (revObj a ((its.toArray.size : Int) - 1))).objs.size (.lst xs.reverse) :=
    ⟨by rw [List.length_reverse]; exact hz, acc.toList, c, RT.vals_rev rv hi, by rw [Array.toArray_toList]; exact hS⟩
  have I3 := I1.turnedNew (t' := tk) (ch := [s1.heap.objs.size]) (h' := h') (fun b o hb e => hk b o (fun z => hb (by rw [z]; exact List.mem_singleton.mpr rfl)) (k0 b o e)) (fun b hb => by
    have e : b = s1.heap.objs.size := by simpa using hb
    subst e
    exact ⟨f0, f1, f2, f3, f4, f5⟩) hge new
  exact ⟨.ref _, _, I3, rfl, q _ (I1.hok.fresh hge)⟩
end
end L2
namespace L2
open PySem PySem.Spec PyProof.Rows
/-! ### ranges of any size -/
theorem turn_long {P : Program} {w : World} {K : PySem.W.Frag} {tg : Expr} (it : Addr) (lo : Int) (n : Nat) : Turn P w K tg (Itr lo n) [it] it (fun i h => IsLongIter h it (lo + (i : Nat) * 1) ((n : Int) - (i : Nat)) 1) where
  mem := by simp
  obj := fun i h st b hb => by
    have e : b = it := by simpa using hb
    subst e
    exact ⟨_, st, fun v z => by
      have z' : Data.fields _ = Data.cell v := z
      cases z'⟩
  keep := fun i h h' st k => k it (by simp) _ st
  item := by
    intro X hP hw hK hc i pins s σ H E I hf st hg
    subst hP hw hK
    obtain ⟨f0, f1, f2, f3, f4, f5⟩ := hf it (by simp)
    have W := Walks.longrange (prog := X.prog) (w := X.w) (I.ok.hd hc) it lo 1 n
    refine W.item i s _ _ hg st fun v h' tk hv st' kk => ?_
    obtain ⟨t, rfl⟩ := hv
    have I1 : Inv X pins σ H { s with heap := h', toks := tk } := I.turned (fun b o hb e => kk b o (by simpa using hb) e) f0 f1 f3 f4 f5
    refine ⟨_, rfl, go_of (s := { s with heap := h', toks := tk }) (n := "longrange_iterator") st' rfl rfl (by decide) ⟨.int (lo + i), H, I1, ⟨t, ?_⟩, ⟨rfl, rfl⟩, st', fun b hb => (hf b hb).1⟩⟩
    rw [Int.mul_one]
  done := by
    intro X hP hw hK hc i pins s σ H E I hf st hg
    subst hP hw hK
    obtain ⟨f0, f1, f2, f3, f4, f5⟩ := hf it (by simp)
    exact wpAny_pyNext_long_end (I.ok.hd hc) st (by have : n ≤ i := hg; omega) fun h' eb => ⟨rfl, I.turned (t' := s.toks) (fun b o hb e => eb b o hb e) f0 f1 f3 f4 f5⟩
  self := fun _ _ _ _ _ st h => wpAny_pyIter_longiter st h
section
variable {X : Cx} {tg : Expr}
theorem range_itA {pins : List (Addr × Obj)} {σ : St} {H : Hp} {s : Shared} {R : It → Hp → Prop} {E : Value → Shared → Prop} {lo hi : Int} {t u v : Tok} {tk : Nat} (I : Inv X pins σ H s)
    (q : R (Itr lo (hi - lo).toNat) H) : wpAny (model X.prog X.w) X.A (pyIter (.ref s.heap.objs.size)) (PIE X pins σ tg R) E { s with heap := s.heap.push { cls := .type "range", data := .fields #[.int lo t, .int hi u, .int 1 v] }, toks := tk } := by
  have I1 : Inv X pins σ H { s with heap := s.heap.push { cls := .type "range", data := .fields #[.int lo t, .int hi u, .int 1 v] }, toks := tk } := I.kept fun b o e => Heap.get?_push_of_some _ e
  have e1 : lo + ((0 : Nat) : Int) * 1 = lo := by simp
  have e2 : (((hi - lo).toNat : Nat) : Int) - ((0 : Nat) : Int) = Builtin.Range.rangeSize lo hi 1 := by rw [rangeSize_one]; split <;> omega
  have fp : ∀ b ∈ [(s.heap.push { cls := .type "range", data := .fields #[.int lo t, .int hi u, .int 1 v] }).objs.size], FpOk X pins H b := fun b hb => by
    have e : b = (s.heap.push { cls := .type "range", data := .fields #[.int lo t, .int hi u, .int 1 v] }).objs.size := by simpa using hb
    subst e
    exact I1.fpOk (Nat.le_refl _) (I1.hok.fresh (Nat.le_refl _))
  cases hs : Builtin.Range.small lo hi 1 with
  | true =>
    refine wpAny_pyIter_range (IsRange.new ..) hs ?_
    refine ⟨(s.heap.push { cls := .type "range", data := .fields #[.int lo t, .int hi u, .int 1 v] }).objs.size, [(s.heap.push { cls := .type "range", data := .fields #[.int lo t, .int hi u, .int 1 v] }).objs.size], _, _, H, rfl,
      I1.kept (t' := tk) fun b o e => Heap.get?_push_of_some _ e, turn_range _ lo (hi - lo).toNat, ?_, fp, q⟩
    show IsRangeIter _ _ (lo + ((0 : Nat) : Int) * 1) ((((hi - lo).toNat : Nat) : Int) - ((0 : Nat) : Int)) 1
    rw [e1, e2]
    exact Heap.get?_push_size _ rfl
  | false =>
    refine wpAny_pyIter_longrange (IsRange.new ..) hs ?_
    refine ⟨(s.heap.push { cls := .type "range", data := .fields #[.int lo t, .int hi u, .int 1 v] }).objs.size, [(s.heap.push { cls := .type "range", data := .fields #[.int lo t, .int hi u, .int 1 v] }).objs.size], _, _, H, rfl,
      I1.kept (t' := tk) fun b o e => Heap.get?_push_of_some _ e, turn_long _ lo (hi - lo).toNat, ?_, fp, q⟩
    show IsLongIter _ _ (lo + ((0 : Nat) : Int) * 1) ((((hi - lo).toNat : Nat) : Int) - ((0 : Nat) : Int)) 1
    rw [e1, e2]
    exact Heap.get?_push_size _ rfl
def iRng1A (ta : TA) : TI := fun σ H R => ta σ H fun vs H1 => ∃ j : Int, vs = [.int j] ∧ R (Itr 0 j.toNat) H1
def iRng2A (ta : TA) : TI := fun σ H R => ta σ H fun vs H1 => ∃ i j : Int, vs = [.int i, .int j] ∧ R (Itr i (j - i).toNat) H1
theorem pi_range1A {a : Expr} {ta : TA} {p pos : Pos} (hg : Gl X "range") (hm : X.mg "range" = none) (ha : PA X [a] ta) (hs : starEach [a] X.env = [(false, eval a X.env)] := by rfl) : PI X tg (.Call (.Name "range" p) [a] [] pos) (iRng1A ta) := by
  refine ⟨fun pins s σ H R I h => ?_⟩
  refine Call_ (ld_blt I hg hm boot_range (PyProof.Rows.callWith_type1 (thn (ha.run pos pins s σ H _ I h) fun us s1 ⟨vs, H1, I1, r1, q1⟩ => ?_) hs rfl))
  obtain ⟨j, e, q⟩ := q1
  subst e
  cases r1 with
  | cons r rr =>
    cases rr
    obtain ⟨t, rfl⟩ := r
    exact call_range_1 (range_itA I1 (by simpa using q))
theorem pi_range2A {a b : Expr} {ta : TA} {p pos : Pos} (hg : Gl X "range") (hm : X.mg "range" = none) (ha : PA X [a, b] ta) (hs : starEach [a, b] X.env = [(false, eval a X.env), (false, eval b X.env)] := by rfl) (hs2 : starEach [b] X.env = [(false, eval b X.env)] := by rfl) :
    PI X tg (.Call (.Name "range" p) [a, b] [] pos) (iRng2A ta) := by
  refine ⟨fun pins s σ H R I h => ?_⟩
  refine Call_ (ld_blt I hg hm boot_range (PyProof.Rows.callWith_type1 (thn (ha.run pos pins s σ H _ I h) fun us s1 ⟨vs, H1, I1, r1, q1⟩ => ?_) (by rw [hs, hs2]) (by rw [hs2]; rfl)))
  obtain ⟨i, j, e, q⟩ := q1
  subst e
  cases r1 with
  | cons r rr =>
    cases rr with
    | cons r' rr =>
      cases rr
      obtain ⟨t, rfl⟩ := r
      obtain ⟨t', rfl⟩ := r'
      exact call_range_2 (range_itA I1 q)
end
end L2
namespace DL
open PySem PySem.Spec PyProof.Rows L2
section
variable {C : Co} {a : Expr} {ta : TD}
theorem de_rvl (ok : C.Ok) {m : Bool} {p p2 pos pos2 : Pos} (hg : Gl C.X "list") (hm : C.X.mg "list" = none) (hg2 : Gl C.X "reversed") (hm2 : C.X.mg "reversed" = none) (ha : DE C a ta)
    (hs : starEach [a] C.X.env = (false, eval a C.X.env) :: starEach [] C.X.env) :
    DE C (.Call (.Name "list" p) [.Call (.Name "reversed" p2) [a] [] pos2] [] pos) (fun σ H Q => ta σ H fun x H1 => ∃ xs, lstAt H1 x = some xs ∧ freshL m xs.reverse H1 Q) :=
  PE.weak (pe_listRev ok.x.calm hg hm hg2 hm2 ha hs) fun σ H Q => by
    rintro ⟨σd, Hm, Qd, s, q, k⟩
    refine Lf.seq s q fun x H1 dx Hm1 n1 s1 ix q => ?_
    obtain ⟨xs, e, q⟩ := q
    obtain ⟨a, vs, rfl, sq, t⟩ := lst_of s1.rep ix e
    exact ⟨a, vs, rfl, sq, (k.cut n1).lst s1.rep t.reverse q⟩
end
end DL
namespace DL
open PySem PySem.Spec PyProof.Rows L2
/-! ### {int: v, ..}: a dict that is never read -/
inductive KeyIs : List Int → List (Option Expr) → Prop where
  | nil : KeyIs [] []
  | cons {i : Int} {n : Nat} {p : Pos} {ks : List Int} {keys : List (Option Expr)} (h : KeyIs ks keys) : KeyIs (i :: ks) (some (.Constant (.int i) n p) :: keys)
theorem KeyIs.some' {ks : List Int} {keys : List (Option Expr)} (h : KeyIs ks keys) : keys.all (·.isSome) = true := by
  induction h with
  | nil => rfl
  | cons h ih => rw [List.all_cons, ih]; rfl
theorem KeyIs.length {ks : List Int} {keys : List (Option Expr)} (h : KeyIs ks keys) : keys.length = ks.length := by
  induction h with
  | nil => rfl
  | cons h ih => rw [List.length_cons, List.length_cons, ih]
def LfP (C : Co) (ks : List Int) (T : TAd) (σ : L2.St) (H : Hp) (Q : List (V × V) → Hp → Prop) : Prop := ∃ σd Hm Qd, Rs C σd Hm σ H ∧ T σd Hm Qd ∧
  ∀ vs H' ds Hm', NT Hm H Hm' H' → Rep C.K H' Hm' → Iss C.K H' Hm' ds vs → Qd ds Hm' → Q ((ks.zip vs).map fun kv => (V.int kv.1, kv.2)) H'
def DPs (C : Co) (pos : Pos) (keys : List (Option Expr)) (values : List Expr) (ks : List Int) (T : TAd) : Prop := ∃ trs, PPs C.X pos keys values trs ∧ ∀ σ H Q, LfP C ks T σ H Q → tPairs trs σ H Q
section
variable {C : Co} {pos : Pos}
theorem dps_nil : DPs C pos [] [] [] (fun σ H Q => Q [] H) := ⟨[], pps_nil, fun σ H Q => by
  rintro ⟨σd, Hm, Qd, s, q, k⟩
  exact k [] H [] Hm .refl s.rep .nil q⟩
theorem dps_cons {keys : List (Option Expr)} {v : Expr} {vs : List Expr} {i : Int} {n : Nat} {p : Pos} {ks : List Int} {tv : TD} {T : TAd} (hv : DE C v tv) (hr : DPs C pos keys vs ks T) :
    DPs C pos (some (.Constant (.int i) n p) :: keys) (v :: vs) (i :: ks) (fun σ H Q => tv σ H fun x H1 => T σ H1 fun xs H2 => Q (x :: xs) H2) := by
  obtain ⟨trs, pp, ht⟩ := hr
  refine ⟨_, pps_cons pe_int hv pp, fun σ H Q => ?_⟩
  rintro ⟨σd, Hm, Qd, s, q, k⟩
  refine Lf.seq s q fun x H1 dx Hm1 n1 s1 ix q => ?_
  refine ht _ _ _ ⟨σd, Hm1, _, s1, q, fun ws H2 ds Hm2 n2 r2 is q => ?_⟩
  exact k (x :: ws) H2 (dx :: ds) Hm2 (n1.trans n2) r2 (.cons (Is.nt s1.rep n2 dx x ix) is) q
theorem iss_dk {K : Kz} {H : Hp} {Hm : MH} {p : Addr} {kv0 kv1 : List (Key × V)} (e : H p = some (.dK kv0)) (ds : List D) (vs : List V) (t : Iss K H Hm ds vs) : Iss K (upd H p (.dK kv1)) Hm ds vs :=
  Iss.tr (fun a ys q => by
    rcases q with (q | ⟨u, q⟩) | q
    · exact .inl (.inl (by rw [upd_ne (ne_of q e (by intro z; cases z))]; exact q))
    · exact .inl (.inr ⟨u, by rw [upd_ne (ne_of q e (by intro z; cases z))]; exact q⟩)
    · exact .inr q) (fun a ys q => by
    rcases q with ⟨q, m, z⟩ | q
    · rcases q with q | ⟨u, q⟩
      · exact .inl ⟨.inl (by rw [upd_ne (ne_of q e (by intro z; cases z))]; exact q), m, z⟩
      · exact .inl ⟨.inr ⟨u, by rw [upd_ne (ne_of q e (by intro z; cases z))]; exact q⟩, m, z⟩
    · exact .inr q) (fun a C dx fs q m => ⟨by rw [upd_ne (ne_of q e (by intro z; cases z))]; exact q, m⟩) (fun a kvs q m => by
    by_cases h : a = p
    · subst h
      exact ⟨kv1, upd_same, m⟩
    · exact ⟨kvs, by rw [upd_ne h]; exact q, m⟩) ds vs t
theorem rep_dk {K : Kz} {H : Hp} {Hm : MH} {p : Addr} {kv0 kv1 : List (Key × V)} (e : H p = some (.dK kv0)) (m : Hm p = none) (hz : ¬ K.Z p) (r : Rep K H Hm) : Rep K (upd H p (.dK kv1)) Hm := by
  refine ⟨fun a u e' => ?_, fun a z => ?_⟩
  · have ne : a ≠ p := fun z => by rw [z, m] at e'; cases e'
    have := r.obj a u e'
    cases u with
    | lst ds => obtain ⟨vs, q, z⟩ := this; exact ⟨vs, by rw [upd_ne ne]; exact q, iss_dk e _ _ z⟩
    | ins C ns ds => obtain ⟨dx, fs, q, l, z⟩ := this; exact ⟨dx, fs, by rw [upd_ne ne]; exact q, l, iss_dk e _ _ z⟩
    | dk kvs => obtain ⟨us, q, l, z⟩ := this; exact ⟨us, by rw [upd_ne ne]; exact q, l, iss_dk e _ _ z⟩
    | dt kvs => obtain ⟨us, q, l, z⟩ := this; exact ⟨us, by rw [upd_ne ne]; exact q, l, iss_dk e _ _ z⟩
  · have ne : a ≠ p := fun w => hz (w ▸ z)
    obtain ⟨u, q, m⟩ := r.hid a z
    exact ⟨u, by rw [upd_ne ne]; exact q, m⟩
/-- the dict's own place is written -/
theorem de_dct {keys : List (Option Expr)} {values : List Expr} {ks : List Int} {T : TAd} (hk : KeyIs ks keys) (hl : ks.length = values.length) (h0 : ks ≠ []) (h15 : ks.length ≤ 15) (h : DPs C pos keys values ks T) :
    DE C (.Dict keys values pos) (fun σ H Q => T σ H fun _ H1 => Q .dct H1) := by
  obtain ⟨trs, pp, ht⟩ := h
  refine PE.weak (pe_disp pp hk.some' (hk.length.trans hl) (fun e => h0 (by rw [e] at hk; cases hk; rfl)) (by rw [hk.length]; exact h15)) fun σ H Q => ?_
  rintro ⟨σd, Hm, Qd, s, q, k⟩
  intro p hp
  have n0 : NT Hm H Hm (upd H p (.dK [])) := fun a o e m => ⟨by rw [upd_ne (fun z => by rw [z, hp] at e; cases e)]; exact e, m⟩
  have hpm : Hm p = none := s.rep.free hp
  have r0 : Rep C.K (upd H p (.dK [])) Hm := s.rep.ext hp
  refine ht _ _ _ ⟨σd, Hm, _, s.nxt n0 r0, q, fun ws H2 ds Hm2 n2 r2 is q => ?_⟩
  obtain ⟨e2, m2⟩ := n2 p _ upd_same hpm
  refine ⟨e2, (ks.zip ws).map (fun kv => (Sum.inl kv.1, kv.2)), ?_, ?_, ?_⟩
  · rw [List.map_map]; rfl
  · rw [List.length_map, List.length_zip]; omega
  · have hz : ¬ C.K.Z p := fun z => by
      obtain ⟨u, q, _⟩ := s.rep.hid p z
      rw [hp] at q; cases q
    refine k _ _ .dct Hm2 (fun a o e m => ?_) (rep_dk e2 m2 hz r2) (by unfold Is; exact ⟨p, _, rfl, upd_same, m2, hz⟩) q
    have ne : a ≠ p := fun z => by rw [z, hp] at e; cases e
    obtain ⟨e3, m3⟩ := n2 a o (by rw [upd_ne ne]; exact e) m
    exact ⟨by rw [upd_ne ne]; exact e3, m3⟩
end
end DL

set_option maxHeartbeats 400000
namespace DL
open PySem PySem.Spec PyProof.Rows L2

/-! ### what is walked -/
/-- from the state (Hm1, H1) on, where keep stands: J yields the items ds, then stops -/
structure ItIs (K : Kz) (J : L2.It) (ds : List D) (keep : MH → Prop) (Hm1 : MH) (H1 : Hp) : Prop where
  go : ∀ Hm H i d, NT Hm1 H1 Hm H → Rep K H Hm → keep Hm → ds[i]? = some d → J.go i H
  yld : ∀ Hm H i d x H', NT Hm1 H1 Hm H → Rep K H Hm → keep Hm → ds[i]? = some d → J.yld i H x H' → NT Hm H Hm H' ∧ Rep K H' Hm ∧ Is K H' Hm d x
  stop : ∀ Hm H i, NT Hm1 H1 Hm H → Rep K H Hm → keep Hm → ds.length ≤ i → J.stop i H
abbrev TId := En → MH → (List D → (MH → Prop) → MH → Prop) → Prop
def LfI (C : Co) (T : TId) : TI := fun σ H R => ∃ σd Hm Qd, Rs C σd Hm σ H ∧ T σd Hm Qd ∧ ∀ J H' ds keep Hm', NT Hm H Hm' H' → Rep C.K H' Hm' → (∀ Z' : Addr → Prop, (∀ a, Z' a → C.Z a ∨ H' a = none) → ItIs ⟨C.X.K, Z'⟩ J ds keep Hm' H') → Qd ds keep Hm' → R J H'
def DI (C : Co) (tg e : Expr) (T : TId) : Prop := PI C.X tg e (LfI C T)
theorem PI.weak {X : Cx} {tg e : Expr} {t t' : TI} (h : PI X tg e t) (k : ∀ σ H Q, t' σ H Q → t σ H Q) : PI X tg e t' := ⟨fun pins s σ H Q I q => h.run pins s σ H Q I (k σ H Q q)⟩
section
variable {C : Co} {tg e a b : Expr} {te ta tb : TD} {pos p : Pos}
theorem pi_or {X : Cx} {l : Expr} {tl : TE} (hl : PE X l tl) : PI X tg l (fun σ H R => tl σ H fun x H1 => (∃ a, x = .ref a ∧ (∃ xs, SqL X.K H1 a xs) ∧ R (Itl X.K a) H1) ∨ ∃ a, x = .ref a ∧ (∃ xs, SqT X.K H1 a xs) ∧ R (Itt X.K a) H1) := by
  refine ⟨fun pins s σ H R I h => ?_⟩
  refine thn (hl.run pins s σ H _ I h) fun v s1 ⟨x, H1, I1, r1, q1⟩ => ?_
  rcases q1 with ⟨a, e, ⟨xs, hq⟩, q⟩ | ⟨a, e, ⟨xs, hq⟩, q⟩
  · subst e
    cases r1
    obtain ⟨its, rv, p, hz⟩ := I1.list hq
    refine wpAny_pyIter_list p.isList ?_
    refine ⟨s1.heap.objs.size, [s1.heap.objs.size], _, _, H1, rfl, I1.kept (t' := s1.toks) fun b o e => Heap.get?_push_of_some _ e, turn_list a _, ⟨_, Heap.get?_push_size _ rfl, rfl, rfl⟩, fun b hb => ?_, q⟩
    have e : b = s1.heap.objs.size := by simpa using hb
    subst e
    exact I1.fpOk (Nat.le_refl _) (I1.hok.fresh (Nat.le_refl _))
  · subst e
    cases r1
    obtain ⟨its, rv, p, hz⟩ := I1.tuple hq
    refine wpAny_pyIter_tuple (show s1.heap.IsTuple a its.toArray from p) ?_
    refine ⟨s1.heap.objs.size, [s1.heap.objs.size], _, _, H1, rfl, I1.kept (t' := s1.toks) fun b o e => Heap.get?_push_of_some _ e, turn_tuple a _, ⟨_, Heap.get?_push_size _ rfl, rfl, rfl⟩, fun b hb => ?_, q⟩
    have e : b = s1.heap.objs.size := by simpa using hb
    subst e
    exact I1.fpOk (Nat.le_refl _) (I1.hok.fresh (Nat.le_refl _))
theorem it_list {K : Kz} {a : Addr} {ds : List D} {keep : MH → Prop} {Hm1 : MH} {H1 : Hp} (h : ∀ Hm H, NT Hm1 H1 Hm H → Rep K H Hm → keep Hm → ∃ vs, SqL K.K H a vs ∧ Iss K H Hm ds vs) : ItIs K (Itl K.K a) ds keep Hm1 H1 := by
  refine ⟨fun Hm H i d n r k e => ?_, fun Hm H i d x H' n r k e y => ?_, fun Hm H i n r k e => ?_⟩
  · obtain ⟨vs, s, t⟩ := h Hm H n r k
    obtain ⟨v, hv, _⟩ := t.get e
    exact ⟨vs, v, s, hv⟩
  · obtain ⟨vs, s, t⟩ := h Hm H n r k
    obtain ⟨v, hv, iv⟩ := t.get e
    obtain ⟨rfl, f⟩ := y
    have q := f vs s
    rw [hv] at q; cases q
    exact ⟨.refl, r, iv⟩
  · obtain ⟨vs, s, t⟩ := h Hm H n r k
    exact ⟨vs, s, by rw [t.length]; exact e⟩
theorem it_tup {K : Kz} {a : Addr} {ds : List D} {keep : MH → Prop} {Hm1 : MH} {H1 : Hp} (h : ∀ Hm H, NT Hm1 H1 Hm H → Rep K H Hm → keep Hm → ∃ vs, SqT K.K H a vs ∧ Iss K H Hm ds vs) : ItIs K (Itt K.K a) ds keep Hm1 H1 := by
  refine ⟨fun Hm H i d n r k e => ?_, fun Hm H i d x H' n r k e y => ?_, fun Hm H i n r k e => ?_⟩
  · obtain ⟨vs, s, t⟩ := h Hm H n r k
    obtain ⟨v, hv, _⟩ := t.get e
    exact ⟨vs, v, s, hv⟩
  · obtain ⟨vs, s, t⟩ := h Hm H n r k
    obtain ⟨v, hv, iv⟩ := t.get e
    obtain ⟨rfl, f⟩ := y
    have q := f vs s
    rw [hv] at q; cases q
    exact ⟨.refl, r, iv⟩
  · obtain ⟨vs, s, t⟩ := h Hm H n r k
    exact ⟨vs, s, by rw [t.length]; exact e⟩
theorem it_rng {K : Kz} {lo : Int} {n : Nat} {keep : MH → Prop} {Hm1 : MH} {H1 : Hp} : ItIs K (Itr lo n) ((List.range n).map fun (k : Nat) => D.int (lo + (k : Int))) keep Hm1 H1 := by
  have get : ∀ (i : Nat) (d : D), ((List.range n).map fun (k : Nat) => D.int (lo + (k : Int)))[i]? = some d → i < n ∧ d = .int (lo + i) := fun i d e => by
    rw [List.getElem?_map] at e
    by_cases h : i < n
    · rw [List.getElem?_range h] at e
      cases e
      exact ⟨h, rfl⟩
    · rw [List.getElem?_eq_none (by rw [List.length_range]; omega)] at e; cases e
  refine ⟨fun Hm H i d _ r k e => (get i d e).1, fun Hm H i d x H' _ r k e y => ?_, fun Hm H i _ r k e => ?_⟩
  · obtain ⟨h1, rfl⟩ := get i d e
    obtain ⟨rfl, rfl⟩ := y
    exact ⟨.refl, r, is_int⟩
  · exact (by simpa using e : n ≤ i)
/-- fresh places hidden too -/
theorem Iss.hid {K : PySem.W.Frag} {Z Z' : Addr → Prop} {H : Hp} {Hm : MH} {ds : List D} {vs : List V} (hz : ∀ a, Z' a → Z a ∨ H a = none) (h : Iss ⟨K, Z⟩ H Hm ds vs) : Iss ⟨K, Z'⟩ H Hm ds vs :=
  Iss.tr (K := ⟨K, Z⟩) (K' := ⟨K, Z'⟩) (fun _ _ q => q) (fun a xs q => by
    rcases q with ⟨q, m, z⟩ | q
    · refine .inl ⟨q, m, fun z' => ?_⟩
      rcases hz a z' with w | w
      · exact z w
      · rcases q with q | ⟨_, q⟩ <;> (rw [w] at q; cases q)
    · exact .inr q) (fun a C dx fs q m => ⟨q, m.1, fun z' => by
      rcases hz a z' with w | w
      · exact m.2 w
      · rw [w] at q; cases q⟩) (fun a kvs q m => ⟨kvs, q, m.1, fun z' => by
      rcases hz a z' with w | w
      · exact m.2 w
      · rw [w] at q; cases q⟩) ds vs h
theorem nt_iss {K : PySem.W.Frag} {Z Z' : Addr → Prop} {H H' : Hp} {Hm Hm' : MH} {ds : List D} {vs : List V} (r : Rep ⟨K, Z⟩ H Hm) (n : NT Hm H Hm' H') (h : Iss ⟨K, Z'⟩ H Hm ds vs) : Iss ⟨K, Z'⟩ H' Hm' ds vs :=
  Iss.tr (K := ⟨K, Z'⟩) (K' := ⟨K, Z'⟩) (fun _ _ q => sqT_nt r n q) (fun _ _ q => frzL_nt n q) (fun a C dx fs q m => by
    obtain ⟨e, e'⟩ := n _ _ q m.1
    exact ⟨e, e', m.2⟩) (fun a kvs q m => by
    obtain ⟨e, e'⟩ := n _ _ q m.1
    exact ⟨kvs, e, e', m.2⟩) ds vs h
theorem di_seq (h : DE C e te) : DI C tg e (fun σ H Q => te σ H fun x H1 => ∃ xs, seqAt H1 x = some xs ∧ Q xs (keepOf H1 x) H1) := PI.weak (pi_or h) fun σ H R => by
  rintro ⟨σd, Hm, Qd, s, q, k⟩
  refine Lf.seq s q fun x H1 dx Hm1 n1 s1 ix q => ?_
  obtain ⟨ds, e, q⟩ := q
  cases dx with
  | tup xs =>
    unfold seqAt at e; cases e
    obtain ⟨a, vs, rfl, sq, t⟩ := ix.tup
    exact .inr ⟨a, rfl, ⟨vs, sq⟩, k _ H1 _ _ Hm1 n1 s1.rep (fun Z' hz => it_tup (K := ⟨C.X.K, Z'⟩) fun Hm2 H2 n2 r2 _ => ⟨vs, sqT_nt s1.rep n2 sq, nt_iss s1.rep n2 (t.hid hz)⟩) q⟩
  | rol xs =>
    unfold seqAt lstAt at e; cases e
    unfold Is at ix
    obtain ⟨a, vs, rfl, sq, t⟩ := ix
    exact .inl ⟨a, rfl, ⟨vs, sq.sq⟩, k _ H1 _ _ Hm1 n1 s1.rep (fun Z' hz => it_list (K := ⟨C.X.K, Z'⟩) fun Hm2 H2 n2 r2 _ => ⟨vs, (frzL_nt n2 sq).sq, nt_iss s1.rep n2 (t.hid hz)⟩) q⟩
  | ref a =>
    unfold seqAt lstAt at e
    have e1 := ix.ref
    subst e1
    cases z : Hm1 a with
    | none => simp only [z] at e; cases e
    | some o =>
      cases o with
      | ins C ns ds => simp only [z] at e; cases e
      | dk kvs => simp only [z] at e; cases e
      | dt kvs => simp only [z] at e; cases e
      | lst xs =>
        simp only [z] at e; cases e
        obtain ⟨vs, h, t⟩ := s1.rep.obj _ _ z
        refine .inl ⟨a, rfl, ⟨vs, .inl (.inl h)⟩, k _ H1 _ _ Hm1 n1 s1.rep (fun Z' hz => it_list (K := ⟨C.X.K, Z'⟩) fun Hm2 H2 n2 r2 kp => ?_) q⟩
        have kp : Hm2 a = Hm1 a := kp
        rw [z] at kp
        obtain ⟨vs2, h2, t2⟩ := r2.obj _ _ kp
        exact ⟨vs2, .inl (.inl h2), t2⟩
  | _ => unfold seqAt lstAt at e; cases e
theorem di_rng1 (hg : Gl C.X "range") (hm : C.X.mg "range" = none) (ha : DE C a ta) (h1 : starEach [a] C.X.env = [(false, eval a C.X.env)]) :
    DI C tg (.Call (.Name "range" p) [a] [] pos) (fun σ H Q => ta σ H fun x H1 => ∃ j : Int, x = .int j ∧ Q ((List.range j.toNat).map fun (n : Nat) => D.int (0 + (n : Int))) (fun _ => True) H1) :=
  PI.weak (pi_range1A hg hm (da_cons ha da_nil h1) h1) fun σ H R => by
    rintro ⟨σd, Hm, Qd, s, q, k⟩
    refine LfA.seq s (F := fun ds H1 => ∃ j : Int, ds = [.int j] ∧ Qd ((List.range j.toNat).map fun (n : Nat) => D.int (0 + (n : Int))) (fun _ => True) H1) (T := fun σ H Q => ta σ H fun x H1 => Q [x] H1) ?_ fun vs H1 ds Hm1 n1 s1 is q => ?_
    · show ta σd Hm fun x H1 => ∃ j : Int, [x] = [.int j] ∧ _
      simp only [List.cons.injEq, and_true]
      exact q
    · obtain ⟨j, rfl, q⟩ := q
      obtain ⟨v, rfl, i⟩ := is.one
      exact ⟨j, by rw [i.int], k _ H1 _ _ Hm1 n1 s1.rep (fun Z' _ => it_rng) q⟩
theorem di_rng2 (hg : Gl C.X "range") (hm : C.X.mg "range" = none) (ha : DE C a ta) (hb : DE C b tb) (h2 : starEach [a, b] C.X.env = [(false, eval a C.X.env), (false, eval b C.X.env)]) (h1 : starEach [b] C.X.env = [(false, eval b C.X.env)]) :
    DI C tg (.Call (.Name "range" p) [a, b] [] pos) (fun σ H Q => ta σ H fun x H1 => tb σ H1 fun y H2 => ∃ i j : Int, x = .int i ∧ y = .int j ∧
      Q ((List.range (j - i).toNat).map fun (n : Nat) => D.int (i + (n : Int))) (fun _ => True) H2) :=
  PI.weak (pi_range2A hg hm (da_cons ha (da_cons hb da_nil h1) (by rw [h2, h1])) h2 h1) fun σ H R => by
    rintro ⟨σd, Hm, Qd, s, q, k⟩
    refine LfA.seq s (F := fun ds H2 => ∃ i j : Int, ds = [.int i, .int j] ∧ Qd ((List.range (j - i).toNat).map fun (n : Nat) => D.int (i + (n : Int))) (fun _ => True) H2) (T := fun σ H Q => ta σ H fun x H1 => tb σ H1 fun y H2 => Q [x, y] H2) ?_ fun vs H1 ds Hm1 n1 s1 is q => ?_
    · show ta σd Hm fun x H1 => tb σd H1 fun y H2 => ∃ i j : Int, [x, y] = [.int i, .int j] ∧ _
      simp only [List.cons.injEq, and_true, and_assoc]

      exact q
    · obtain ⟨i, j, rfl, q⟩ := q
      obtain ⟨v, w, rfl, iv, iw⟩ := is.two
      exact ⟨i, j, by rw [iv.int, iw.int], k _ H1 _ _ Hm1 n1 s1.rep (fun Z' _ => it_rng) q⟩

/-! ### statements -/
structure EndsOk (C : Co) (Hm : MH) (σ : L2.St) (H : Hp) (Dd : Ends') (D : Ends) : Prop where
  nx : ∀ σ' H' σd' Hm', NT Hm H Hm' H' → Rs C σd' Hm' σ' H' → Dd.nx σd' Hm' → D.nx σ' H'
  bk : ∀ σ' H' σd' Hm', NT Hm H Hm' H' → Rs C σd' Hm' σ' H' → Dd.bk σd' Hm' → D.bk σ' H'
  ct : ∀ σ' H' σd' Hm', NT Hm H Hm' H' → Rs C σd' Hm' σ' H' → Dd.ct σd' Hm' → D.ct σ' H'
  rt : Bh C.K Hm H Dd.rt D.rt
abbrev TSd := Ends' → En → MH → Prop
def LfS (C : Co) (T : TSd) : TS := fun D σ H => ∃ σd Hm Dd, Rs C σd Hm σ H ∧ T Dd σd Hm ∧ EndsOk C Hm σ H Dd D
def DS (C : Co) (st : Stmt) (T : TSd) : Prop := PS C.X st (LfS C T)
def DSs (C : Co) (st : List Stmt) (T : TSd) : Prop := PSs C.X st (LfS C T)
theorem PS.weak {X : Cx} {st : Stmt} {t t' : TS} (h : PS X st t) (k : ∀ D σ H, t' D σ H → t D σ H) : PS X st t' := ⟨fun pins s σ H D I q => h.run pins s σ H D I (k D σ H q)⟩
theorem PSs.weak {X : Cx} {st : List Stmt} {t t' : TS} (h : PSs X st t) (k : ∀ D σ H, t' D σ H → t D σ H) : PSs X st t' := ⟨fun pins s σ H D I q => h.run pins s σ H D I (k D σ H q)⟩
theorem EndsOk.cut {Hm Hm1 : MH} {σ σ1 : L2.St} {H H1 : Hp} {Dd : Ends'} {D : Ends} (e : EndsOk C Hm σ H Dd D) (n : NT Hm H Hm1 H1) : EndsOk C Hm1 σ1 H1 Dd D :=
  ⟨fun a b c d n' => e.nx a b c d (n.trans n'), fun a b c d n' => e.bk a b c d (n.trans n'), fun a b c d n' => e.ct a b c d (n.trans n'), e.rt.cut n⟩
theorem dss_nil : DSs C [] (fun D σ H => D.nx σ H) := PSs.weak pss_nil fun D σ H => by
  rintro ⟨σd, Hm, Dd, s, q, k⟩
  exact k.nx σ H σd Hm .refl s q
theorem dss_cons {st : Stmt} {rest : List Stmt} {t u : TSd} (h1 : DS C st t) (h2 : DSs C rest u) : DSs C (st :: rest) (fun D σ H => t { D with nx := fun σ1 H1 => u D σ1 H1 } σ H) :=
  PSs.weak (pss_cons h1 h2) fun D σ H => by
    rintro ⟨σd, Hm, Dd, s, q, k⟩
    exact ⟨σd, Hm, _, s, q, fun σ' H' σd' Hm' n s' q => ⟨σd', Hm', Dd, s', q, k.cut n⟩, k.bk, k.ct, k.rt⟩
theorem ds_asg {ts : List Nat} {t : TGd} (he : DE C e te) (hg : DG C ts tg t) (hs : swapsWithSole [tg] e pos.line C.X.env = pure false) (hw : swappedStores [tg] e C.X.env = pure none) (h1 : (assignEach [tg] C.X.env).map (·.2) = [assign tg C.X.env]) :
    DS C (.Assign [tg] e pos) (fun D σ H => te σ H fun x H1 => t x σ H1 D.nx) := PS.weak (ps_asg he hg hs hw h1) fun D σ H => by
  rintro ⟨σd, Hm, Dd, s, q, k⟩
  refine Lf.seq s q fun x H1 dx Hm1 n1 s1 ix q => ?_
  exact ⟨dx, σd, Hm1, _, ix, s1, q, fun σ' H' σd' Hm' n s' _ q => k.nx σ' H' σd' Hm' (n1.trans n) s' q⟩
theorem ds_aug (ok : C.Ok) {i : Nat} {x : Str} {o : Operator} {pos' : Pos} (hi : C.X.N[i]? = some x) (hx : Loc C.X.env.scope x) (he : DE C e te) (hf : C.X.fn x = true ∨ C.X.env.scope.names.lookup x = some .local) :
    DS C (.AugAssign (.Name x pos') o e pos) (fun D σ H => ∃ x, σ[i]? = some (some x) ∧ te σ H fun y H1 => augD o x y H1 fun z H2 => D.nx (σ.set i (some z)) H2) :=
  PS.weak (ps_aug ok.x.nd hi hx he (op_augD ok.x o) hf) fun D σ H => by
    rintro ⟨σd, Hm, Dd, s, ⟨x, hx, q⟩, k⟩
    obtain ⟨v, hv, iv⟩ := s.env.get _ _ hx
    refine ⟨v, hv, Lf.seq s q fun y H1 dy Hm1 n1 s1 iy q => ?_⟩
    refine ⟨C.Z, x, dy, Hm1, _, s1.rep, Is.nt s.rep n1 x v iv, iy, q, fun z H2 dz Hm2 n2 r2 iz q => ?_⟩
    exact k.nx _ H2 _ Hm2 (n1.trans n2) ((s1.nxt n2 r2).set i iz) q
theorem ds_ex (he : DE C e te) (hs : swapsWith e none pos.line C.X.env = pure false) : DS C (.Expr e pos) (fun D σ H => te σ H fun _ H1 => D.nx σ H1) := PS.weak (ps_expr he hs) fun D σ H => by
  rintro ⟨σd, Hm, Dd, s, q, k⟩
  exact Lf.seq s q fun y H1 dy Hm1 n1 s1 iy q => k.nx σ H1 σd Hm1 n1 s1 q
theorem ds_ret (he : DE C e te) : DS C (.Return (some e) pos) (fun D σ H => te σ H D.rt) := PS.weak (ps_ret he) fun D σ H => by
  rintro ⟨σd, Hm, Dd, s, q, k⟩
  exact Lf.seq s q fun y H1 dy Hm1 n1 s1 iy q => (k.rt.cut n1).here s1.rep iy q
theorem ds_retN : DS C (.Return none pos) (fun D _ H => D.rt .non H) := PS.weak ps_retN fun D σ H => by
  rintro ⟨σd, Hm, Dd, s, q, k⟩
  exact k.rt.here s.rep is_non q
theorem ds_if {c : Expr} {x y : List Stmt} {tc : TCd} {t u : TSd} (hc : DC C c tc) (ha : DSs C x t) (hb : DSs C y u) : DS C (.If c x y pos) (fun D σ H => tc σ H fun b H1 => br b (t D σ H1) (u D σ H1)) :=
  PS.weak (ps_if hc ha hb) fun D σ H => by
    rintro ⟨σd, Hm, Dd, s, q, k⟩
    refine LfC.seq s q fun b H1 Hm1 n1 s1 q => ?_
    cases b with
    | true => exact ⟨σd, Hm1, Dd, s1, q, k.cut n1⟩
    | false => exact ⟨σd, Hm1, Dd, s1, q, k.cut n1⟩
theorem ds_brk : DS C (.Break pos) (fun D σ H => D.bk σ H) := PS.weak ps_break fun D σ H => by
  rintro ⟨σd, Hm, Dd, s, q, k⟩
  exact k.bk σ H σd Hm .refl s q
theorem ds_ct : DS C (.Continue pos) (fun D σ H => D.ct σ H) := PS.weak ps_continue fun D σ H => by
  rintro ⟨σd, Hm, Dd, s, q, k⟩
  exact k.ct σ H σd Hm .refl s q
theorem ds_pass : DS C (.Pass pos) (fun D σ H => D.nx σ H) := PS.weak ps_pass fun D σ H => by
  rintro ⟨σd, Hm, Dd, s, q, k⟩
  exact k.nx σ H σd Hm .refl s q
theorem ds_loop (ok : C.Ok) (po : PassesOwn (model C.X.prog C.X.w) C.X.A C.X.env C.X.xe) {ts : List Nat} {body : List Stmt} {ti : TId} {t : TGd} {tb : TSd} (hi : DI C tg e ti) (hg : DG C ts tg t) (hb : DSs C body tb)
    (hs : ∀ x, foldedSetIterable e C.X.env x = pure x) :
    DS C (.For tg e body [] pos) (fun D σ H => ti σ H fun xs keep H1 => loopL (fun x σ H Q => t x σ H fun σ1 H1 => tb { D with nx := Q, ct := Q, bk := D.nx } σ1 H1) keep xs σ H1 D.nx) :=
  PS.weak (ps_for po ok.x.calm hi hg hb hs) fun D σ H => by
    rintro ⟨σd, Hm, Dd, s, q, k⟩
    refine ⟨σd, Hm, _, s, q, fun J H1 ds keep Hm1 n1 r1 J0 q => ?_⟩
    have J1 := J0 C.Z fun a z => .inl z
    have s1 := s.nxt n1 r1
    refine ⟨fun i m σ H => m = ds.length - i ∧ i ≤ ds.length ∧ ∃ σd Hm, Rs C σd Hm σ H ∧ NT Hm1 H1 Hm H ∧ loopL (fun x σ H Q => t x σ H fun σ1 H1 => tb { Dd with nx := Q, ct := Q, bk := Dd.nx } σ1 H1) keep (ds.drop i) σd Hm Dd.nx,
      ⟨ds.length, rfl, Nat.zero_le _, σd, Hm1, s1, .refl, by rw [List.drop_zero]; exact q⟩, ?_⟩
    rintro i m σ2 H2 ⟨rfl, hi, σd2, Hm2, s2, n2, q⟩
    by_cases hlt : i < ds.length
    · have e1 : ds.drop i = ds[i] :: ds.drop (i + 1) := List.drop_eq_getElem_cons hlt
      rw [e1] at q
      obtain ⟨kp, q⟩ := q
      have g : ds[i]? = some ds[i] := List.getElem?_eq_getElem hlt
      refine .inr ⟨J1.go Hm2 H2 i _ n2 s2.rep kp g, fun σ H => ∃ σd Hm, Rs C σd Hm σ H ∧ NT Hm1 H1 Hm H ∧ loopL (fun x σ H Q => t x σ H fun σ1 H1 => tb { Dd with nx := Q, ct := Q, bk := Dd.nx } σ1 H1) keep (ds.drop (i + 1)) σd Hm Dd.nx,
        fun σ' H' ⟨σd', Hm', a, b, c⟩ => ⟨ds.length - (i + 1), by omega, rfl, hlt, σd', Hm', a, b, c⟩, fun x H3 y => ?_⟩
      obtain ⟨n3, r3, ix⟩ := J1.yld Hm2 H2 i _ x H3 n2 s2.rep kp g y
      have s3 := s2.nxt n3 r3
      refine ⟨_, σd2, Hm2, _, ix, s3, q, fun σ4 H4 σd4 Hm4 n4 s4 _ q => ?_⟩
      have nn := (n2.trans n3).trans n4
      refine ⟨σd4, Hm4, _, s4, q, fun σ' H' σd' Hm' n s' q => ⟨σd', Hm', s', nn.trans n, q⟩, fun σ' H' σd' Hm' n s' q => k.nx σ' H' σd' Hm' (n1.trans (nn.trans n)) s' q, fun σ' H' σd' Hm' n s' q => ⟨σd', Hm', s', nn.trans n, q⟩, (k.rt.cut n1).cut nn⟩
    · have e0 : ds.drop i = [] := List.drop_eq_nil_of_le (by omega)
      rw [e0] at q
      obtain ⟨kp, q⟩ := q
      exact .inl ⟨J1.stop Hm2 H2 i n2 s2.rep kp (by omega), k.nx σ2 H2 σd2 Hm2 (n1.trans n2) s2 q⟩
theorem ds_whl (po : PassesOwn (model C.X.prog C.X.w) C.X.A C.X.env C.X.xe) {c : Expr} {body : List Stmt} {tc : TCd} {tb : TSd} (hc : DC C c tc) (hb : DSs C body tb) :
    DS C (.While c body [] pos) (fun D σ H => ∃ n, whileN tc (fun σ H Q => tb { D with nx := Q, ct := Q, bk := D.nx } σ H) n σ H D.nx) :=
  PS.weak (ps_while po hc hb) fun D σ H => by
    rintro ⟨σd, Hm, Dd, s, ⟨n, q⟩, k⟩
    refine ⟨fun m σ' H' => ∃ σd' Hm', Rs C σd' Hm' σ' H' ∧ NT Hm H Hm' H' ∧ whileN tc (fun σ H Q => tb { Dd with nx := Q, ct := Q, bk := Dd.nx } σ H) m σd' Hm' Dd.nx, ⟨n, σd, Hm, s, .refl, q⟩, ?_⟩
    rintro m σ1 H1 ⟨σd1, Hm1, s1, n1, q⟩
    cases m with
    | zero => exact q.elim
    | succ m =>
      refine LfC.seq s1 q fun b H2 Hm2 n2 s2 q => ?_
      cases b with
      | false => exact k.nx σ1 H2 σd1 Hm2 (n1.trans n2) s2 q
      | true =>
        refine ⟨fun σ' H' => ∃ σd' Hm', Rs C σd' Hm' σ' H' ∧ NT Hm H Hm' H' ∧ whileN tc (fun σ H Q => tb { Dd with nx := Q, ct := Q, bk := Dd.nx } σ H) m σd' Hm' Dd.nx, fun σ' H' z => ⟨m, Nat.lt_succ_self _, z⟩, σd1, Hm2, _, s2, q, ?_⟩
        exact ⟨fun σ' H' σd' Hm' n s' q => ⟨σd', Hm', s', (n1.trans n2).trans n, q⟩, fun σ' H' σd' Hm' n s' q => k.nx σ' H' σd' Hm' ((n1.trans n2).trans n) s' q, fun σ' H' σd' Hm' n s' q => ⟨σd', Hm', s', (n1.trans n2).trans n, q⟩, (k.rt.cut n1).cut n2⟩
theorem ds_never {st : Stmt} : DS C st (fun _ _ _ => False) := PS.weak ps_never fun D σ H => by
  rintro ⟨σd, Hm, Dd, s, q, k⟩
  exact q.elim
/-! match on texts -/
def valS : Pattern → Option Str
  | .MatchValue (.Constant (.str x) _ _) _ => some x
  | _ => none
def valSs : List Pattern → Option (List Str)
  | [] => some []
  | p :: r => (valS p).bind fun x => (valSs r).map (x :: ·)
def patS : Pattern → Option (List Str)
  | .MatchOr ps _ => valSs ps
  | p => (valS p).map fun x => [x]
theorem valS_is {p : Pattern} {x : Str} (h : valS p = some x) : ∃ n q1 q2, p = .MatchValue (.Constant (.str x) n q1) q2 := by
  unfold valS at h
  split at h
  · cases h; exact ⟨_, _, _, rfl⟩
  · cases h
theorem val_run {X : Cx} {pins : List (Addr × Obj)} {s : Shared} {σ : L2.St} {H : Hp} {p : Pattern} {x a : Str} {u : Value} {Q : Option (List (Str × Value)) → Shared → Prop} (hp : valS p = some x) (I : Inv X pins σ H s) (r : RelV (.str a) u)
    (h : ∀ s', Inv X pins σ H s' → Q (if decide (a = x) then some [] else none) s') : wpAny (model X.prog X.w) X.A (matchPattern p X.env u) Q X.xe s := by
  obtain ⟨n, q1, q2, rfl⟩ := valS_is hp
  refine wpAny_matchPattern_Value (thn ((pe_str (X := X)).run pins s σ H (fun v H' => v = .str x ∧ H' = H) I ⟨rfl, rfl⟩) fun w s1 ⟨v', H', I', r', e1, e2⟩ => ?_)
  subst e1 e2
  refine thn (op_eq pins s1 σ H' (.str a) (.str x) u w (fun v H2 => v = .bl (decide (V.str a = V.str x)) ∧ H2 = H') I' r r' ⟨rfl, rfl, rfl⟩) fun c s2 ⟨v2, H2, I2, r2, e1, e2⟩ => ?_
  subst e1 e2
  have e3 : decide (V.str a = V.str x) = decide (a = x) := by simp
  rw [e3] at r2
  have e4 : c = Value.bool (decide (a = x)) := r2
  subst e4
  refine wpAny_truthy_bool ?_
  have := h s2 I2
  by_cases e : a = x
  · rw [decide_eq_true e] at this ⊢; exact this
  · rw [decide_eq_false e] at this ⊢; exact this
theorem first_run {X : Cx} {pins : List (Addr × Obj)} {σ : L2.St} {H : Hp} {a : Str} {u : Value} {Q : Option (List (Str × Value)) → Shared → Prop} (r : RelV (.str a) u) : ∀ {ps : List Pattern} {ks : List Str} {s : Shared}, valSs ps = some ks → Inv X pins σ H s →
    (∀ s', Inv X pins σ H s' → Q (if memS a ks then some [] else none) s') → wpAny (model X.prog X.w) X.A (matchFirst ps X.env u) Q X.xe s
  | [], ks, s, hp, I, h => by
    unfold valSs at hp; cases hp
    exact wpAny_matchFirst_nil (h s I)
  | p :: ps, ks, s, hp, I, h => by
    unfold valSs at hp
    simp only [Option.bind_eq_some_iff, Option.map_eq_some_iff] at hp
    obtain ⟨x, hx, ks', hk, rfl⟩ := hp
    have em : memS a (x :: ks') = (decide (a = x) || memS a ks') := by
      cases ks' with
      | nil => simp
      | cons y r => rfl
    rw [em] at h
    refine wpAny_matchFirst_cons (val_run hx I r fun s' I' => ?_)
    by_cases e : a = x
    · have := h s' I'
      rw [decide_eq_true e] at this ⊢
      exact this
    · rw [decide_eq_false e] at h ⊢
      exact first_run r hk I' h
theorem names_none : ∀ {ps : List Pattern} {ks : List Str}, valSs ps = some ks → namesOfAll ps = []
  | [], ks, _ => by unfold namesOfAll; rfl
  | p :: ps, ks, hp => by
    unfold valSs at hp
    simp only [Option.bind_eq_some_iff, Option.map_eq_some_iff] at hp
    obtain ⟨x, hx, ks', hk, rfl⟩ := hp
    obtain ⟨n, q1, q2, rfl⟩ := valS_is hx
    unfold namesOfAll
    rw [names_none hk]
    rfl
theorem take1_val {ps : List Pattern} {ks : List Str} (h : valSs ps = some ks) : ∃ ks', valSs (ps.take 1) = some ks' := by
  cases ps with
  | nil => exact ⟨[], rfl⟩
  | cons p r =>
    unfold valSs at h
    simp only [Option.bind_eq_some_iff, Option.map_eq_some_iff] at h
    obtain ⟨x, hx, ks', hk, rfl⟩ := h
    refine ⟨[x], ?_⟩
    show valSs [p] = _
    unfold valSs
    rw [hx]; rfl
theorem pat_run {X : Cx} {pins : List (Addr × Obj)} {s : Shared} {σ : L2.St} {H : Hp} {p : Pattern} {ks : List Str} {a : Str} {u : Value} {Q : Option (List (Str × Value)) → Shared → Prop} (hp : patS p = some ks) (I : Inv X pins σ H s) (r : RelV (.str a) u)
    (h : ∀ s', Inv X pins σ H s' → Q (if memS a ks then some [] else none) s') : wpAny (model X.prog X.w) X.A (matchPattern p X.env u) Q X.xe s := by
  unfold patS at hp
  split at hp
  · rename_i ps pos1
    refine wpAny_matchPattern_Or (first_run r hp I fun s' I' => ?_)
    have := h s' I'
    cases hm : memS a ks with
    | true =>
      rw [hm] at this
      obtain ⟨ks', h1⟩ := take1_val hp
      show Q (some ((namesOfAll (ps.take 1)).filterMap _)) s'
      rw [names_none h1]
      exact this
    | false =>
      rw [hm] at this
      exact this
  · simp only [Option.map_eq_some_iff] at hp
    obtain ⟨x, hx, rfl⟩ := hp
    exact val_run hx I r h
def DMs (C : Co) (cs : List MatchCase) (T : D → TSd) : Prop := ∀ (first : Bool) (pins : List (Addr × Obj)) (s : Shared) (σ : L2.St) (H : Hp) (Dn : Ends) (d : D) (v : V) (u : Value) (σd : En) (Hm : MH) (Dd : Ends'), Inv C.X pins σ H s → RelV v u → Is C.K H Hm d v → Rs C σd Hm σ H → T d Dd σd Hm → EndsOk C Hm σ H Dd Dn →
  wpAny (model C.X.prog C.X.w) C.X.A (matchCases cs C.X.env u first) (SP C.X pins Dn) C.X.xe s
theorem dms_nil : DMs C [] (fun _ D σ H => D.nx σ H) := fun first pins s σ H Dn d v u σd Hm Dd I r i s0 q k =>
  wpAny_matchCases_nil ⟨σ, H, I, k.nx σ H σd Hm .refl s0 q⟩
theorem dms_dflt {b : List Stmt} {tb : TSd} {q2 : Pos} {rest : List MatchCase} (hb : DSs C b tb) : DMs C (⟨.MatchAs none none q2, none, b⟩ :: rest) (fun _ D σ H => tb D σ H) := fun first pins s σ H Dn d v u σd Hm Dd I r i s0 q k =>
  wpAny_matchCases_cons (wpAny_matchPattern_Capture (wpAny_assignInOrder_none (hb.run pins s σ H Dn I ⟨σd, Hm, Dd, s0, q, k⟩)))
theorem dms_cons {p : Pattern} {ks : List Str} {b : List Stmt} {tb : TSd} {rest : List MatchCase} {tr : D → TSd} (hp : patS p = some ks) (hb : DSs C b tb) (hr : DMs C rest tr) :
    DMs C (⟨p, none, b⟩ :: rest) (fun d D σ H => ∃ c, eqStr d ks = some c ∧ br c (tb D σ H) (tr d D σ H)) := fun first pins s σ H Dn d v u σd Hm Dd I r i s0 q k => by
  obtain ⟨c, hc, q⟩ := q
  unfold eqStr at hc
  split at hc
  · rename_i a
    have e := i.str
    subst e
    cases hc
    refine wpAny_matchCases_cons (pat_run hp I r fun s' I' => ?_)
    cases hm : memS a ks with
    | true =>
      rw [hm] at q
      exact wpAny_assignInOrder_none (hb.run pins s' σ H Dn I' ⟨σd, Hm, Dd, s0, q, k⟩)
    | false =>
      rw [hm] at q
      exact hr false pins s' σ H Dn (.str a) (.str a) u σd Hm Dd I' r i s0 q k
  · cases hc
theorem ds_mtch {cs : List MatchCase} {tc : D → TSd} (he : DE C e te) (hc : DMs C cs tc) : DS C (.Match e cs pos) (fun D σ H => te σ H fun x H1 => tc x D σ H1) := ⟨fun pins s σ H Dn I q => by
  obtain ⟨σd, Hm, Dd, s0, q, k⟩ := q
  refine wpAny_Match (thn (he.run pins s σ H (fun v H' => ∃ d Hm', NT Hm H Hm' H' ∧ Rs C σd Hm' σ H' ∧ Is C.K H' Hm' d v ∧ tc d Dd σd Hm') I (Lf.seq s0 q fun v H' d Hm' n s1 i q => ⟨d, Hm', n, s1, i, q⟩)) fun u s1 ⟨v, H1, I1, r1, d, Hm1, n1, s2, i, q⟩ => ?_)
  exact hc true pins s1 σ H1 Dn d v u σd Hm1 Dd I1 r1 i s2 q (k.cut n1)⟩
end
end DL

set_option maxHeartbeats 400000
namespace DL
open PySem PySem.Spec PyProof.Rows L2

/-- the tests of a comprehension's clause -/
def DCs (C : Co) (es : List Expr) (T : TCd) : Prop := PTs C.X es (LfC C T)
theorem PTs.weak {X : Cx} {es : List Expr} {t t' : TT} (h : PTs X es t) (k : ∀ σ H Q, t' σ H Q → t σ H Q) : PTs X es t' := ⟨fun pins s σ H Q I q => h.run pins s σ H Q I (k σ H Q q)⟩
theorem dcs_nil {C : Co} : DCs C [] (fun _ H Q => Q true H) := PTs.weak pts_nil fun σ H Q => by
  rintro ⟨σd, Hm, Qd, s, q, k⟩
  exact k true H Hm .refl s.rep q
theorem dcs_one {C : Co} {c : Expr} {t : TCd} (h : DC C c t) : DCs C [c] (fun σ H Q => t σ H fun b H1 => br b (Q true H1) (Q false H1)) := PTs.weak (pts_one h) fun σ H Q => by
  rintro ⟨σd, Hm, Qd, s, q, k⟩
  refine LfC.seq s q fun b H1 Hm1 n1 s1 q => ?_
  cases b with
  | true => exact k true H1 Hm1 n1 s1.rep q
  | false => exact k false H1 Hm1 n1 s1.rep q

section
variable {K : PySem.W.Frag} {Z : Addr → Prop} {H : Hp} {Hm : MH} {D0 : Addr} {ds : List D} {vs : List V} {d : D} {v : V}
abbrev hidZ (Z : Addr → Prop) (D0 : Addr) : Addr → Prop := fun a => Z a ∨ a = D0
/-- a hidden list changes -/
theorem hw {K : Kz} (hz : K.Z D0) {xs : List V} (h : H D0 = some (.lst xs)) {o : HO} :
    (∀ a ys, SqT K.K H a ys → SqT K.K (upd H D0 o) a ys) ∧ (∀ a ys, FrzL K H Hm a ys → FrzL K (upd H D0 o) Hm a ys) ∧
      (∀ a C dx fs, H a = some (.ins C dx fs) → (Hm a = none ∧ ¬ K.Z a) → upd H D0 o a = some (.ins C dx fs) ∧ (Hm a = none ∧ ¬ K.Z a)) ∧
      ∀ a kvs, H a = some (.dK kvs) → (Hm a = none ∧ ¬ K.Z a) → ∃ kvs', upd H D0 o a = some (.dK kvs') ∧ (Hm a = none ∧ ¬ K.Z a) := by
  refine ⟨fun a ys q => ?_, fun a ys q => ?_, fun a C dx fs q m => ?_, fun a kvs q m => ?_⟩
  · rcases q with (q | ⟨u, q⟩) | q
    · exact .inl (.inl (by rw [upd_ne (ne_of q h (by intro z; cases z))]; exact q))
    · exact .inl (.inr ⟨u, by rw [upd_ne (ne_of q h (by intro z; cases z))]; exact q⟩)
    · exact .inr q
  · rcases q with ⟨q, m, z⟩ | q
    · have ne : a ≠ D0 := fun e => z (e ▸ hz)
      rcases q with q | ⟨u, q⟩
      · exact .inl ⟨.inl (by rw [upd_ne ne]; exact q), m, z⟩
      · exact .inl ⟨.inr ⟨u, by rw [upd_ne ne]; exact q⟩, m, z⟩
    · exact .inr q
  · have ne : a ≠ D0 := fun e => m.2 (e ▸ hz)
    exact ⟨by rw [upd_ne ne]; exact q, m⟩
  · have ne : a ≠ D0 := fun e => m.2 (e ▸ hz)
    exact ⟨kvs, by rw [upd_ne ne]; exact q, m⟩
theorem Iss.hw {K : Kz} (hz : K.Z D0) {xs : List V} (h : H D0 = some (.lst xs)) {o : HO} (t : Iss K H Hm ds vs) : Iss K (upd H D0 o) Hm ds vs :=
  let ⟨a, b, c, g⟩ := DL.hw (Hm := Hm) hz h (o := o); Iss.tr a b c g ds vs t
theorem Is.hw {K : Kz} (hz : K.Z D0) {xs : List V} (h : H D0 = some (.lst xs)) {o : HO} (t : Is K H Hm d v) : Is K (upd H D0 o) Hm d v :=
  let ⟨a, b, c, g⟩ := DL.hw (Hm := Hm) hz h (o := o); Is.tr a b c g d v t
theorem Rep.hw {K : Kz} (hz : K.Z D0) {xs : List V} (h : H D0 = some (.lst xs)) {o : HO} (r : Rep K H Hm) : Rep K (upd H D0 o) Hm := by
  obtain ⟨_, _, hm⟩ := r.hid D0 hz
  refine ⟨fun a u e => ?_, fun a z => ?_⟩
  · have ne : a ≠ D0 := fun q => by rw [q, hm] at e; cases e
    have := r.obj a u e
    cases u with
    | lst ds => obtain ⟨vs, q, t⟩ := this; exact ⟨vs, by rw [upd_ne ne]; exact q, t.hw hz h⟩
    | ins C ns ds => obtain ⟨dx, fs, q, l, t⟩ := this; exact ⟨dx, fs, by rw [upd_ne ne]; exact q, l, t.hw hz h⟩
    | dk kvs => obtain ⟨us, q, l, t⟩ := this; exact ⟨us, by rw [upd_ne ne]; exact q, l, t.hw hz h⟩
    | dt kvs => obtain ⟨us, q, l, t⟩ := this; exact ⟨us, by rw [upd_ne ne]; exact q, l, t.hw hz h⟩
  · obtain ⟨u, q, m⟩ := r.hid a z
    by_cases e : a = D0
    · exact ⟨o, by rw [e, upd_same], m⟩
    · exact ⟨u, by rw [upd_ne e]; exact q, m⟩
theorem EnvIs.hw {K : Kz} (hz : K.Z D0) {xs : List V} (h : H D0 = some (.lst xs)) {o : HO} {σd : En} {σ : L2.St} (e : EnvIs K H Hm σd σ) : EnvIs K (upd H D0 o) Hm σd σ :=
  ⟨e.len, fun i d q => let ⟨v, a, b⟩ := e.get i d q; ⟨v, a, b.hw hz h⟩⟩
/-- a new list, hidden -/
theorem is_new (h : H D0 = none) {o : HO} (r : Rep ⟨K, Z⟩ H Hm) : (∀ d v, Is ⟨K, Z⟩ H Hm d v → Is ⟨K, hidZ Z D0⟩ (upd H D0 o) Hm d v) ∧ ∀ ds vs, Iss ⟨K, Z⟩ H Hm ds vs → Iss ⟨K, hidZ Z D0⟩ (upd H D0 o) Hm ds vs := by
  have a1 : ∀ a ys, SqT K H a ys → SqT K (upd H D0 o) a ys := fun a ys q => sqT_nt r (ext_nt h) q
  have a2 : ∀ a ys, FrzL ⟨K, Z⟩ H Hm a ys → FrzL ⟨K, hidZ Z D0⟩ (upd H D0 o) Hm a ys := fun a ys q => by
    rcases q with ⟨q, m, z⟩ | q
    · rcases q with q | ⟨u, q⟩
      · have ne := ne_of_none q h
        exact .inl ⟨.inl (by rw [upd_ne ne]; exact q), m, fun w => w.elim z ne⟩
      · have ne := ne_of_none q h
        exact .inl ⟨.inr ⟨u, by rw [upd_ne ne]; exact q⟩, m, fun w => w.elim z ne⟩
    · exact .inr q
  have a3 : ∀ a C dx fs, H a = some (.ins C dx fs) → (Hm a = none ∧ ¬ Z a) → upd H D0 o a = some (.ins C dx fs) ∧ (Hm a = none ∧ ¬ hidZ Z D0 a) := fun a C dx fs q m => by
    have ne := ne_of_none q h
    exact ⟨by rw [upd_ne ne]; exact q, m.1, fun w => w.elim m.2 ne⟩
  have a4 : ∀ a kvs, H a = some (.dK kvs) → (Hm a = none ∧ ¬ Z a) → ∃ kvs', upd H D0 o a = some (.dK kvs') ∧ (Hm a = none ∧ ¬ hidZ Z D0 a) := fun a kvs q m => by
    have ne := ne_of_none q h
    exact ⟨kvs, by rw [upd_ne ne]; exact q, m.1, fun w => w.elim m.2 ne⟩
  exact ⟨fun d v => Is.tr (K := ⟨K, Z⟩) (K' := ⟨K, hidZ Z D0⟩) a1 a2 a3 a4 d v, fun ds vs => Iss.tr (K := ⟨K, Z⟩) (K' := ⟨K, hidZ Z D0⟩) a1 a2 a3 a4 ds vs⟩
theorem rep_new (h : H D0 = none) {o : HO} (r : Rep ⟨K, Z⟩ H Hm) : Rep ⟨K, hidZ Z D0⟩ (upd H D0 o) Hm := by
  have t := (is_new h (o := o) r).2
  refine ⟨fun a u e => ?_, fun a z => ?_⟩
  · obtain ⟨w, q, _⟩ := r.hit e
    have ne := ne_of_none q h
    have := r.obj a u e
    cases u with
    | lst ds => obtain ⟨vs, q, z⟩ := this; exact ⟨vs, by rw [upd_ne ne]; exact q, t _ _ z⟩
    | ins C ns ds => obtain ⟨dx, fs, q, l, z⟩ := this; exact ⟨dx, fs, by rw [upd_ne ne]; exact q, l, t _ _ z⟩
    | dk kvs => obtain ⟨us, q, l, z⟩ := this; exact ⟨us, by rw [upd_ne ne]; exact q, l, t _ _ z⟩
    | dt kvs => obtain ⟨us, q, l, z⟩ := this; exact ⟨us, by rw [upd_ne ne]; exact q, l, t _ _ z⟩
  · rcases z with z | z
    · obtain ⟨u, q, m⟩ := r.hid a z
      have ne := ne_of_none q h
      exact ⟨u, by rw [upd_ne ne]; exact q, m⟩
    · rw [z]
      exact ⟨o, upd_same, r.free h⟩
/-- hidden no more -/
theorem iss_shown (t : Iss ⟨K, hidZ Z D0⟩ H Hm ds vs) : Iss ⟨K, Z⟩ H Hm ds vs :=
  Iss.tr (K := ⟨K, hidZ Z D0⟩) (K' := ⟨K, Z⟩) (fun _ _ q => q) (fun a ys q => by
    rcases q with ⟨q, m, z⟩ | q
    · exact .inl ⟨q, m, fun w => z (.inl w)⟩
    · exact .inr q) (fun a C dx fs q m => ⟨q, m.1, fun w => m.2 (.inl w)⟩) (fun a kvs q m => ⟨kvs, q, m.1, fun w => m.2 (.inl w)⟩) ds vs t
theorem rep_shown (r : Rep ⟨K, hidZ Z D0⟩ H Hm) : Rep ⟨K, Z⟩ H Hm := by
  refine ⟨fun a u e => ?_, fun a z => r.hid a (.inl z)⟩
  have := r.obj a u e
  cases u with
  | lst ds => obtain ⟨vs, q, z⟩ := this; exact ⟨vs, q, iss_shown z⟩
  | ins C ns ds => obtain ⟨dx, fs, q, l, z⟩ := this; exact ⟨dx, fs, q, l, iss_shown z⟩
  | dk kvs => obtain ⟨us, q, l, z⟩ := this; exact ⟨us, q, l, iss_shown z⟩
  | dt kvs => obtain ⟨us, q, l, z⟩ := this; exact ⟨us, q, l, iss_shown z⟩
/-- .. and tracked -/
theorem iss_tracked (t : Iss ⟨K, hidZ Z D0⟩ H Hm ds vs) {u : MO} : Iss ⟨K, Z⟩ H (updM Hm D0 u) ds vs :=
  Iss.tr (K := ⟨K, hidZ Z D0⟩) (K' := ⟨K, Z⟩) (fun _ _ q => q) (fun a ys q => by
    rcases q with ⟨q, m, z⟩ | q
    · exact .inl ⟨q, by rw [updM_ne fun e => z (.inr e)]; exact m, fun w => z (.inl w)⟩
    · exact .inr q) (fun a C dx fs q m => ⟨q, by rw [updM_ne fun e => m.2 (.inr e)]; exact m.1, fun w => m.2 (.inl w)⟩) (fun a kvs q m => ⟨kvs, q, by rw [updM_ne fun e => m.2 (.inr e)]; exact m.1, fun w => m.2 (.inl w)⟩) ds vs t
theorem rep_tracked (r : Rep ⟨K, hidZ Z D0⟩ H Hm) (hz : ¬ Z D0) {es : List D} {ws : List V} (h : H D0 = some (.lst ws)) (t : Iss ⟨K, hidZ Z D0⟩ H Hm es ws) : Rep ⟨K, Z⟩ H (updM Hm D0 (.lst es)) := by
  refine ⟨fun a u e => ?_, fun a z => ?_⟩
  · by_cases ha : a = D0
    · subst ha
      rw [updM_same] at e; cases e
      exact ⟨ws, h, iss_tracked t⟩
    · rw [updM_ne ha] at e
      have := r.obj a u e
      cases u with
      | lst ds => obtain ⟨vs, q, z⟩ := this; exact ⟨vs, q, iss_tracked z⟩
      | ins C ns ds => obtain ⟨dx, fs, q, l, z⟩ := this; exact ⟨dx, fs, q, l, iss_tracked z⟩
      | dk kvs => obtain ⟨us, q, l, z⟩ := this; exact ⟨us, q, l, iss_tracked z⟩
      | dt kvs => obtain ⟨us, q, l, z⟩ := this; exact ⟨us, q, l, iss_tracked z⟩
  · obtain ⟨u, q, m⟩ := r.hid a (.inl z)
    have ne : a ≠ D0 := fun e => hz (by rw [← e]; exact z)
    exact ⟨u, q, by rw [updM_ne ne]; exact m⟩
end
/-- a comprehension's own place -/
abbrev inBlk (X : Cx) (s : Shared) (H : Hp) (scope : Scope) (Ca : Addr) (cl : List (Str × Addr)) (fp : List Addr) (Z : Addr → Prop) (M0 : MH) (H0 : Hp) : Co :=
  ⟨X.blk s H scope (compEnvC scope cl Ca X.env) fp, Z, M0, H0, fun _ _ _ _ => False, fun _ _ _ _ => False⟩
theorem inBlk_ok {X : Cx} (x : Cok X) {s : Shared} {H : Hp} {scope : Scope} {Ca : Addr} {cl : List (Str × Addr)} {fp : List Addr} {Z : Addr → Prop} {M0 : MH} {H0 : Hp} : (inBlk X s H scope Ca cl fp Z M0 H0).Ok :=
  ⟨⟨x.calm, x.nd, x.room, ⟨x.big.seer, x.big.tree, x.big.dp, x.big.fr⟩⟩, takes0, fun _ _ _ _ _ _ _ _ _ h => h⟩
section
variable {C : Co} {elt tg iter : Expr} {ifs : List Expr} {scope : Scope} {own : List (Str × Nat)} {pos : Pos} {ti : TId} {ts : List Nat} {t : TGd} {tc : TCd} {te : TD} {m : Bool}
def lcT (ti : TId) (t : TGd) (tc : TCd) (te : TD) (own : List Nat) (m : Bool) : TD := fun σ H Q => ti σ H fun xs keep H1 => xs.length ≤ sizeLine ∧
  lcL (fun x H Q => t x (wipeD σ own) H fun σ1 H1 => tc σ1 H1 fun b H2 => br b (te σ1 H2 fun y H3 => Q (some y) H3) (Q none H2)) keep xs H1 fun ys H2 => freshL m ys H2 Q
theorem lc_read (hts : ∀ i ∈ ts, i ∈ own.map (·.2)) {σ : L2.St} {H : Hp} {Q : VK} (h : Lf C (lcT ti t tc te (own.map (·.2)) m) σ H Q) :
    tLc (LfI C ti) (fun v σ H Q => ∃ Z M0 H0, LfG ⟨C.X, Z, M0, H0, fun _ _ _ _ => False, fun _ _ _ _ => False⟩ ts t v σ H Q) (fun σ H Q => ∃ Z M0 H0, LfC ⟨C.X, Z, M0, H0, fun _ _ _ _ => False, fun _ _ _ _ => False⟩ tc σ H Q)
      (fun σ H Q => ∃ Z M0 H0, Lf ⟨C.X, Z, M0, H0, fun _ _ _ _ => False, fun _ _ _ _ => False⟩ te σ H Q) (own.map (·.2)) σ H Q := by
  obtain ⟨σd, Hm, Qd, s, q, k⟩ := h
  refine ⟨σd, Hm, _, s, q, fun J H1 ds keep Hm1 n1 r1 J0 q D0 hD => ?_⟩
  have s1 := s.nxt n1 r1
  obtain ⟨hsz, q⟩ := q
  have J1 := J0 (hidZ C.Z D0) fun a z => z.imp id fun e => by rw [e]; exact hD
  have hzD : hidZ C.Z D0 D0 := .inr rfl
  have nzD : ¬ C.Z D0 := fun z => by
    obtain ⟨u, e, _⟩ := r1.hid D0 z
    rw [hD] at e; cases e
  have n0 : NT Hm1 H1 Hm1 (upd H1 D0 (.lst [])) := ext_nt hD
  have r0 : Rep ⟨C.X.K, hidZ C.Z D0⟩ (upd H1 D0 (.lst [])) Hm1 := rep_new hD r1
  have e0 : EnvIs ⟨C.X.K, hidZ C.Z D0⟩ (upd H1 D0 (.lst [])) Hm1 (wipeD σd (own.map (·.2))) (wipe σ (own.map (·.2))) := by
    have e1 := s1.env.wiped (own.map (·.2))
    exact ⟨e1.len, fun i d q => let ⟨v, a, b⟩ := e1.get i d q; ⟨v, a, (is_new hD r1).1 d v b⟩⟩
  let step : D → MH → (Option D → MH → Prop) → Prop := fun x H Q => t x (wipeD σd (own.map (·.2))) H fun σ1 H1 => tc σ1 H1 fun b H2 => br b (te σ1 H2 fun y H3 => Q (some y) H3) (Q none H2)
  let Inv' : Nat → Hp → Prop := fun i H => ∃ Hm accd accv, H D0 = some (.lst accv) ∧ Hm D0 = none ∧ EnvIs ⟨C.X.K, hidZ C.Z D0⟩ H Hm (wipeD σd (own.map (·.2))) (wipe σ (own.map (·.2))) ∧ Rep ⟨C.X.K, hidZ C.Z D0⟩ H Hm ∧ NT Hm1 H1 Hm H ∧
    Iss ⟨C.X.K, hidZ C.Z D0⟩ H Hm accd accv ∧ accv.length ≤ i ∧ lcL step keep (ds.drop i) Hm fun ys H2 => freshL m (accd ++ ys) H2 Qd
  refine ⟨fun i m H => m = ds.length - i ∧ i ≤ ds.length ∧ Inv' i H, ⟨ds.length, rfl, Nat.zero_le _, Hm1, [], [], upd_same, r1.free hD, e0, r0, n0, .nil, Nat.le_refl _, q⟩, ?_⟩
  rintro i m' H2 ⟨rfl, hi, Hm2, accd, accv, hA, hN, e2, r2, n2, t2, hl, q⟩
  by_cases hlt : i < ds.length
  · have e1 : ds.drop i = ds[i] :: ds.drop (i + 1) := List.drop_eq_getElem_cons hlt
    rw [e1] at q
    obtain ⟨kp, q⟩ := q
    have g : ds[i]? = some ds[i] := List.getElem?_eq_getElem hlt
    refine .inr ⟨J1.go Hm2 H2 i _ n2 r2 kp g, Inv' (i + 1), fun H' z => ⟨ds.length - (i + 1), by omega, rfl, hlt, z⟩, fun x H3 y => ?_⟩
    obtain ⟨n3, r3, ix⟩ := J1.yld Hm2 H2 i _ x H3 n2 r2 kp g y
    have hA3 := n3 D0 _ hA hN
    have env3 : EnvIs ⟨C.X.K, hidZ C.Z D0⟩ H3 Hm2 (wipeD σd (own.map (·.2))) (wipe σ (own.map (·.2))) := e2.nt r2 n3
    refine ⟨hidZ C.Z D0, Hm2, H3, ds[i], wipeD σd (own.map (·.2)), Hm2, _, ix, ⟨env3, r3, .refl⟩, q, fun σ4 H4 σd4 Hm4 n4 s4 out q => ?_⟩
    refine ⟨out.wiped hts, hidZ C.Z D0, Hm2, H3, σd4, Hm4, _, s4, q, fun b H5 Hm5 n5 r5 q => ?_⟩
    have s5 := s4.nxt n5 r5
    have nn := n4.trans n5
    have hA5 := nn D0 _ hA3.1 hA3.2
    cases b with
    | false => exact ⟨Hm5, accd, accv, hA5.1, hA5.2, env3.nt r3 nn, r5, (n2.trans n3).trans nn, Iss.nt r3 nn _ _ (Iss.nt r2 n3 _ _ t2), by omega, q⟩
    | true =>
      refine ⟨hidZ C.Z D0, Hm2, H3, σd4, Hm5, _, s5, q, fun y H6 dy Hm6 n6 r6 iy q => ?_⟩
      have nn6 := nn.trans n6
      have hA6 := nn6 D0 _ hA3.1 hA3.2
      refine ⟨accv, hA6.1, by omega, Hm6, accd ++ [dy], accv ++ [y], upd_same, hA6.2, (env3.nt r3 nn6).hw hzD hA6.1, r6.hw hzD hA6.1, ?_, ?_, by rw [List.length_append]; simp; omega, ?_⟩
      · refine fun a u e z => ?_
        obtain ⟨e', z'⟩ := ((n2.trans n3).trans nn6) a u e z
        exact ⟨by rw [upd_ne (ne_of_none e hD)]; exact e', z'⟩
      · exact ((Iss.nt r3 nn6 _ _ (Iss.nt r2 n3 _ _ t2)).append (.cons iy .nil)).hw hzD hA6.1
      · simp only [List.append_assoc, List.singleton_append]
        exact q
  · have e1 : ds.drop i = [] := List.drop_eq_nil_of_le (by omega)
    rw [e1] at q
    obtain ⟨kp, q⟩ := q
    have q : freshL m (accd ++ []) Hm2 Qd := q
    rw [List.append_nil] at q
    refine .inl ⟨J1.stop Hm2 H2 i n2 r2 kp (by omega), ?_⟩
    obtain ⟨_, q⟩ := q
    cases m with
    | true =>
      have q : ∀ p, Hm2 p = none → Qd (.ref p) (updM Hm2 p (.lst accd)) := q
      refine k _ H2 (.ref D0) (updM Hm2 D0 (.lst accd)) (fun a u e z => ?_) (rep_tracked r2 nzD hA t2) is_ref (q D0 hN)
      obtain ⟨e3, z3⟩ := n1 a u e z
      obtain ⟨e4, z4⟩ := n2 a u e3 z3
      exact ⟨e4, by rw [updM_ne (ne_of_none e3 hD)]; exact z4⟩
    | false =>
      have q : Qd (.rol accd) Hm2 := q
      exact k _ H2 (.rol accd) Hm2 (n1.trans n2) (rep_shown r2) (by unfold Is; exact ⟨D0, accv, rfl, .inl ⟨.inl hA, hN, nzD⟩, iss_shown t2⟩) q
theorem de_lc (ok : C.Ok) (hi : DI C tg iter ti) (blk : BlkOk C.X.N C.X.env.scope scope own) (hts : ∀ i ∈ ts, i ∈ own.map (·.2))
    (hg : ∀ s H Ca cl fp Z M0 H0, DG (inBlk C.X s H scope Ca cl fp Z M0 H0) ts tg t) (ht : ∀ s H Ca cl fp Z M0 H0, DCs (inBlk C.X s H scope Ca cl fp Z M0 H0) ifs tc)
    (he : ∀ s H Ca cl fp Z M0 H0, DE (inBlk C.X s H scope Ca cl fp Z M0 H0) elt te) (hs : ∀ x, foldedSetIterable iter C.X.env x = pure x) :
    DE C (.ListComp elt [⟨tg, iter, ifs, 0⟩] scope pos) (lcT ti t tc te (own.map (·.2)) m) :=
  PE.weak (pe_lc (own := own) (g := fun v σ H Q => ∃ Z M0 H0, LfG ⟨C.X, Z, M0, H0, fun _ _ _ _ => False, fun _ _ _ _ => False⟩ ts t v σ H Q) (tt := fun σ H Q => ∃ Z M0 H0, LfC ⟨C.X, Z, M0, H0, fun _ _ _ _ => False, fun _ _ _ _ => False⟩ tc σ H Q)
      (te := fun σ H Q => ∃ Z M0 H0, Lf ⟨C.X, Z, M0, H0, fun _ _ _ _ => False, fun _ _ _ _ => False⟩ te σ H Q) ok.x.calm ok.x.nd hi blk
      (fun s H Ca cl fp => ⟨fun pins s' σ H' v u Q I r ⟨Z, M0, H0, q⟩ => (hg s H Ca cl fp Z M0 H0).run pins s' σ H' v u Q I r q⟩)
      (fun s H Ca cl fp => ⟨fun pins s' σ H' Q I ⟨Z, M0, H0, q⟩ => (ht s H Ca cl fp Z M0 H0).run pins s' σ H' Q I q⟩)
      (fun s H Ca cl fp => ⟨fun pins s' σ H' Q I ⟨Z, M0, H0, q⟩ => (he s H Ca cl fp Z M0 H0).run pins s' σ H' Q I q⟩) hs) fun σ H Q h => lc_read hts h
theorem ds_setLc (ok : C.Ok) {i : Nat} {y : Str} {py spos : Pos} (hy : C.X.N[i]? = some y) (hyl : C.X.env.scope.names.lookup y = some .local)
    (hsw : swapsWith (.ListComp elt [⟨tg, iter, ifs, 0⟩] scope pos) (some (.Name y py)) spos.line C.X.env = pure true) (hi : DI C tg iter ti) (blk : BlkOk C.X.N C.X.env.scope scope own) (hts : ∀ i ∈ ts, i ∈ own.map (·.2))
    (hg : ∀ s H Ca cl fp Z M0 H0, DG (inBlk C.X s H scope Ca cl fp Z M0 H0) ts tg t) (ht : ∀ s H Ca cl fp Z M0 H0, DCs (inBlk C.X s H scope Ca cl fp Z M0 H0) ifs tc)
    (he : ∀ s H Ca cl fp Z M0 H0, DE (inBlk C.X s H scope Ca cl fp Z M0 H0) elt te) (hs : ∀ x, foldedSetIterable iter C.X.env x = pure x) :
    DS C (.Assign [.Name y py] (.ListComp elt [⟨tg, iter, ifs, 0⟩] scope pos) spos) (fun D σ H => lcT ti t tc te (own.map (·.2)) m σ H fun x H1 => D.nx (σ.set i (some x)) H1) :=
  PS.weak (ps_setLc (own := own) (g := fun v σ H Q => ∃ Z M0 H0, LfG ⟨C.X, Z, M0, H0, fun _ _ _ _ => False, fun _ _ _ _ => False⟩ ts t v σ H Q) (tt := fun σ H Q => ∃ Z M0 H0, LfC ⟨C.X, Z, M0, H0, fun _ _ _ _ => False, fun _ _ _ _ => False⟩ tc σ H Q)
      (te := fun σ H Q => ∃ Z M0 H0, Lf ⟨C.X, Z, M0, H0, fun _ _ _ _ => False, fun _ _ _ _ => False⟩ te σ H Q) ok.x.calm ok.x.nd hy hyl hsw hi blk
      (fun s H Ca cl fp => ⟨fun pins s' σ H' v u Q I r ⟨Z, M0, H0, q⟩ => (hg s H Ca cl fp Z M0 H0).run pins s' σ H' v u Q I r q⟩)
      (fun s H Ca cl fp => ⟨fun pins s' σ H' Q I ⟨Z, M0, H0, q⟩ => (ht s H Ca cl fp Z M0 H0).run pins s' σ H' Q I q⟩)
      (fun s H Ca cl fp => ⟨fun pins s' σ H' Q I ⟨Z, M0, H0, q⟩ => (he s H Ca cl fp Z M0 H0).run pins s' σ H' Q I q⟩) hs) fun D σ H => by
    rintro ⟨σd, Hm, Dd, s, q, k⟩
    refine lc_read hts ⟨σd, Hm, _, s, q, fun x H1 dx Hm1 n1 r1 ix q => ?_⟩
    exact k.nx _ H1 _ Hm1 n1 ((s.nxt n1 r1).set i ix) q
end
end DL

set_option maxHeartbeats 1000000
namespace DL
open PySem PySem.Spec PyProof.Rows L2

structure Pm where
  N : List Str
  B : List Str
  F : List Str
  mu : List (Nat × Nat)
def Pm.m (p : Pm) (pos : Pos) : Bool := p.mu.contains (pos.line, pos.col)
def slot (N : List Str) (x : Str) : Option Nat := if N[N.idxOf x]? = some x then some (N.idxOf x) else none
def visOk (sc : Scope) (x : Str) : Bool := match sc.names.lookup x with
  | some .local => true | some .cell => true | some .free => true | _ => false
def locOk (blk : Bool) (sc : Scope) (x : Str) : Bool := match sc.names.lookup x with
  | some .local => true | some .cell => !blk | _ => false
def glOk (sc : Scope) (x : Str) : Bool := match sc.names.lookup x with
  | some .globalImplicit => true | _ => false
def plainN (x : Str) : Bool := !(x == ("__debug__" : Str)) && !(x == ("__classdict__" : Str)) && !(x == ("__name__" : Str))
def biTab : List (Str × Bi) := [("len", .len), ("min", .min), ("max", .max), ("abs", .abs), ("int", .int), ("bool", .bool), ("str", .str), ("sorted", .sorted), ("list", .list), ("tuple", .tuple), ("sum", .sum), ("isinstance", .isi)]
def tyTab : List (Str × String) := [("int", "int"), ("bool", "bool"), ("str", "str"), ("tuple", "tuple"), ("list", "list"), ("dict", "dict")]
def mtTab : List (Str × Mt) := [("append", .append), ("pop", .pop), ("upper", .upper)]
def starred : Expr → Bool
  | .Starred .. => true | _ => false
def isComp : Expr → Bool
  | .ListComp .. => true | .SetComp .. => true | .DictComp .. => true | _ => false
def isSet : Expr → Bool
  | .Set .. => true | _ => false
def isSlice : Expr → Bool
  | .Slice .. => true | _ => false
def isCall0 : Expr → Bool
  | .Call (.Name _ _) [] [] _ => true | _ => false
def ownOf (N : List Str) : Expr → List (Str × Nat)
  | .Name x _ => [(x, N.idxOf x)]
  | .Tuple es _ _ => es.flatMap fun
    | .Name x _ => [(x, N.idxOf x)]
    | .Tuple fs _ _ => fs.flatMap fun
      | .Name x _ => [(x, N.idxOf x)]
      | _ => []
    | _ => []
  | _ => []
/-- list(reversed(a)) -/
def revArg (p : Pm) (sc : Scope) (x : Str) (es : List Expr) : Option Expr := match es with
  | [.Call (.Name y _) [a] [] _] => if x == ("list" : Str) && y == ("reversed" : Str) && glOk sc y && p.B.contains y && !starred a then some a else none
  | _ => none
def keyInts : List (Option Expr) → Option (List Int)
  | [] => some []
  | some (.Constant (.int i) _ _) :: r => (keyInts r).map (i :: ·)
  | _ => none
def revOr (o : Option Expr) (f : Expr → Option E) (g : Option E) : Option E := match o with
  | some a => f a
  | none => g
def subOr (m : Bool) (a b : E) : T := match m with
  | true => .dsub a b
  | false => .sub a b
mutual
def compE (p : Pm) : Nat → Scope → Expr → Option E
  | 0, _, _ => none
  | n + 1, sc, e => match e with
    | .Constant (.int i) _ _ => some (.k (.int i))
    | .Constant (.bool b) _ _ => some (.k (.bl b))
    | .Constant (.str x) _ _ => some (.k (.str x))
    | .Constant .none _ _ => some (.k .non)
    | .Name x _ => if plainN x then
        if visOk sc x then (slot p.N x).map .v else if glOk sc x then
          if p.B.contains x then (tyTab.lookup x).map .ty else some (.g x)
        else none
      else none
    | .BinOp a o b pos => (compE p n sc a).bind fun a' => (compE p n sc b).map fun b' => .bin (p.m pos) o a' b'
    | .UnaryOp .USub a _ => (compE p n sc a).map .neg
    | .UnaryOp .Not a _ => (compE p n sc a).map .not
    | .BoolOp _ [a] _ => compE p n sc a
    | .BoolOp .And (a :: b :: r) pos => (compE p n sc a).bind fun a' => (compE p n sc (.BoolOp .And (b :: r) pos)).map fun b' => .and a' b'
    | .BoolOp .Or (a :: b :: r) pos => (compE p n sc a).bind fun a' => (compE p n sc (.BoolOp .Or (b :: r) pos)).map fun b' => .or a' b'
    | .Compare a [o] [b] _ => if behindInMarks o b then none else (compE p n sc a).bind fun a' => (compE p n sc b).map fun b' => .cmp o a' b'
    | .Compare a [o, o'] [b, c] _ => if lastMarks [o, o'] [b, c] then none else (compE p n sc a).bind fun a' => (compE p n sc b).bind fun b' => (compE p n sc c).map fun c' => .ch a' o b' o' c'
    | .IfExp t a b _ => (compE p n sc t).bind fun t' => (compE p n sc a).bind fun a' => (compE p n sc b).map fun b' => .ite t' a' b'
    | .Tuple es _ _ => (compEs p n sc es).map .tup
    | .List es pos => (compEs p n sc es).map (.lst (p.m pos))
    | .Subscript a (.Slice lo hi none _) pos => (compE p n sc a).bind fun a' => (compO p n sc lo).bind fun l' => (compO p n sc hi).map fun h' => .sl (p.m pos) a' l' h'
    | .Subscript a (.Tuple es _ _) _ => (compE p n sc a).bind fun a' => (compEs p n sc es).map fun es' => .dixT a' es'
    | .Subscript a b _ => if isSlice b then none else (compE p n sc a).bind fun a' => (compE p n sc b).map fun b' => .ix a' b'
    | .Call (.Name x _) (e :: es) [] pos => if plainN x && glOk sc x then
        if p.B.contains x then revOr (revArg p sc x (e :: es)) (fun a => (compE p n sc a).map (.rvl (p.m pos))) ((biTab.lookup x).bind fun f => (compEs p n sc (e :: es)).map fun es' => .bi (p.m pos) f es')
        else if p.F.contains x then (compEs p n sc (e :: es)).map fun es' => .call x es' else none
      else none
    | .Call (.Name x _) [] [] _ => if plainN x && glOk sc x && p.F.contains x then some (.call x .nil) else none
    | .Call (.Attribute a x apos) [] [] pos => if isCall0 a || !(apos.endLine == pos.line) then none else
        (mtTab.lookup x).bind fun f => (compE p n sc a).map fun a' => .mth (p.m pos) a' f .nil
    | .Call (.Attribute a x apos) (e :: es) [] pos => if isCall0 a || !(apos.endLine == pos.line) || !decide ((e :: es).length < 30) then none else
        (mtTab.lookup x).bind fun f => (compE p n sc a).bind fun a' => (compEs p n sc (e :: es)).map fun es' => .mth (p.m pos) a' f es'
    | .ListComp elt [⟨tg, iter, ifs, 0⟩] scope pos => if isSet iter || !blkC p.N sc scope (ownOf p.N tg) then none else
        (compI p n sc iter).bind fun i' => (compT p n true (relS scope sc) tg).bind fun t' => if !(t'.slots.all ((ownOf p.N tg).map (·.2)).contains) then none else
          (compCs p n (relS scope sc) ifs).bind fun c' => (compE p n (relS scope sc) elt).map fun e' => .lc (p.m pos) e' t' i' c' ((ownOf p.N tg).map (·.2))
    | .Dict [] [] pos => some (.dnew (p.m pos))
    | .Dict keys values _ => (keyInts keys).bind fun ks => if ks.length == values.length && !ks.isEmpty && decide (ks.length ≤ 15) then (compEs p n sc values).map (.dct ks) else none
    | _ => none
def compEs (p : Pm) : Nat → Scope → List Expr → Option Es
  | 0, _, _ => none
  | n + 1, sc, es => match es with
    | [] => some .nil
    | e :: r => if starred e then none else (compE p n sc e).bind fun e' => (compEs p n sc r).map fun r' => .cons e' r'
def compCs (p : Pm) : Nat → Scope → List Expr → Option Es
  | 0, _, _ => none
  | n + 1, sc, es => match es with
    | [] => some .nil
    | [e] => (compE p n sc e).map fun e' => .cons e' .nil
    | _ => none
def compO (p : Pm) : Nat → Scope → Option Expr → Option Oe
  | 0, _, _ => none
  | n + 1, sc, o => match o with
    | none => some .no
    | some e => (compE p n sc e).map .so
def compT (p : Pm) : Nat → Bool → Scope → Expr → Option T
  | 0, _, _, _ => none
  | n + 1, blk, sc, e => match e with
    | .Name x _ => if locOk blk sc x then (slot p.N x).map .nm else none
    | .Tuple es _ _ => (compTs p n blk sc es).map .tup
    | .Subscript a (.Tuple es _ _) _ => (compE p n sc a).bind fun a' => (compEs p n sc es).map fun es' => .dsubT a' es'
    | .Subscript a b pos => if isSlice b then none else (compE p n sc a).bind fun a' => (compE p n sc b).map fun b' => subOr (p.m pos) a' b'
    | _ => none
def compTs (p : Pm) : Nat → Bool → Scope → List Expr → Option Ts
  | 0, _, _, _ => none
  | n + 1, blk, sc, es => match es with
    | [] => some .nil
    | e :: r => if starred e then none else (compT p n blk sc e).bind fun e' => (compTs p n blk sc r).map fun r' => .cons e' r'
def compI (p : Pm) : Nat → Scope → Expr → Option It
  | 0, _, _ => none
  | n + 1, sc, e => match e with
    | .Call (.Name x _) [a] [] _ => if x == ("range" : Str) then
        if glOk sc x && p.B.contains x && !starred a then (compE p n sc a).map .rng1 else none
      else (compE p n sc e).map .seq
    | .Call (.Name x _) [a, b] [] _ => if x == ("range" : Str) then
        if glOk sc x && p.B.contains x && !starred a && !starred b then (compE p n sc a).bind fun a' => (compE p n sc b).map fun b' => .rng2 a' b' else none
      else (compE p n sc e).map .seq
    | e => (compE p n sc e).map .seq
end
def parTup : List Expr → Expr → Bool
  | [.Tuple ts _ _], .Tuple _ _ _ => true | [.List _ _], .Tuple _ _ _ => true | _, _ => false
/-- whether the list of a comprehension is stored within its frame -/
def lcUsed (sc : Scope) (tg : Expr) (e : Expr) : Option Bool := match e, tg with
  | .ListComp _ _ scope pos, .Name t tpos => some (decide (sc.names.lookup t = some .local) && (tpos.line == pos.line) && !(scope.names.any fun (n, k) => n == t && (k == .local || k == .cell)))
  | .SetComp .., _ => none | .DictComp .., _ => none
  | _, _ => some false
mutual
def compS (p : Pm) : Nat → Scope → Stmt → Option S
  | 0, _, _ => none
  | n + 1, sc, s => match s with
    | .Assign [tg] e _ => if parTup [tg] e || starred tg then none else (compE p n sc e).bind fun e' => (compT p n false sc tg).bind fun t' => (lcUsed sc tg e).map fun _ => .asg t' e'
    | .AugAssign (.Name x _) o e _ => if locOk false sc x then (slot p.N x).bind fun i => (compE p n sc e).map fun e' => .aug i o e' else none
    | .Expr e _ => if isComp e then none else (compE p n sc e).map .ex
    | .Return (some e) _ => (compE p n sc e).map .ret
    | .Return none _ => some .retN
    | .If c a b _ => (compE p n sc c).bind fun c' => (compSs p n sc a).bind fun a' => (compSs p n sc b).map fun b' => .cond c' a' b'
    | .For tg i b [] _ => if isSet i then none else (compI p n sc i).bind fun i' => (compT p n false sc tg).bind fun t' => (compSs p n sc b).map fun b' => .loop t' i' b'
    | .While c b [] _ => (compE p n sc c).bind fun c' => (compSs p n sc b).map fun b' => .whl c' b'
    | .Break _ => some .brk
    | .Continue _ => some .ct
    | .Pass _ => some .pass
    | .Raise _ _ _ => some .fail
    | .Match e cs _ => (compE p n sc e).bind fun e' => (compMs p n sc cs).map fun cs' => .mtch e' cs'
    | _ => none
def compMs (p : Pm) : Nat → Scope → List MatchCase → Option Ms
  | 0, _, _ => none
  | n + 1, sc, cs => match cs with
    | [] => some .nil
    | c :: r => match c with
      | ⟨.MatchAs none none _, none, b⟩ => (compSs p n sc b).map .dflt
      | ⟨q, none, b⟩ => (patS q).bind fun ks => (compSs p n sc b).bind fun b' => (compMs p n sc r).map fun r' => .cons ks b' r'
      | _ => none
def compSs (p : Pm) : Nat → Scope → List Stmt → Option Ss
  | 0, _, _ => none
  | n + 1, sc, ss => match ss with
    | [] => some .nil
    | s :: r => (compS p n sc s).bind fun s' => (compSs p n sc r).map fun r' => .cons s' r'
end
end DL

set_option maxHeartbeats 1000000
namespace DL
open PySem PySem.Spec PyProof.Rows L2

structure GOk (p : Pm) (G : Gm) (X : Cx) : Prop where
  fn : ∀ x, p.F.contains x = true → ∃ n c, G.fn x = some (n, c) ∧ Has X x n c
  gv : ∀ x d, G.gv x = some d → ∃ u v, X.mg x = some u ∧ RelV v u ∧ ∀ (Z : Addr → Prop) H Hm, Is ⟨X.K, Z⟩ H Hm d v
  bl : ∀ x, p.B.contains x = true → X.mg x = none
structure At (p : Pm) (G : Gm) (blk : Bool) (sc : Scope) (C : Co) : Prop where
  ok : C.Ok
  N : C.X.N = p.N
  sc : C.X.env.scope = sc
  g : GOk p G C.X
  fn : blk = false → ∀ x, C.X.fn x = true
  kind : C.X.env.scope.kind = .function
theorem At.blk {p : Pm} {G : Gm} {b : Bool} {sc : Scope} {C : Co} (h : At p G b sc C) {s : Shared} {H : Hp} {scope : Scope} {Ca : Addr} {cl : List (Str × Addr)} {fp : List Addr} {Z : Addr → Prop} {M0 : MH} {H0 : Hp} (hk : scope.kind = .function) :
    At p G true (relS scope sc) (inBlk C.X s H scope Ca cl fp Z M0 H0) :=
  ⟨inBlk_ok h.ok.x, h.N, by show relS scope C.X.env.scope = _; rw [h.sc], ⟨h.g.fn, h.g.gv, h.g.bl⟩, (fun z => Bool.noConfusion z), hk⟩
section
variable {p : Pm} {G : Gm} {blk : Bool} {sc : Scope} {C : Co} {pos0 : Pos}
theorem slot_of {N : List Str} {x : Str} {i : Nat} (h : slot N x = some i) : N[i]? = some x := by
  unfold slot at h
  split at h
  · cases h; assumption
  · cases h
theorem vis_of (a : At p G blk sc C) {x : Str} (h : visOk sc x = true) : Vis C.X.env.scope x := by
  rw [a.sc]
  unfold visOk at h
  split at h
  · exact .inl (by assumption)
  · exact .inr (.inl (by assumption))
  · exact .inr (.inr (by assumption))
  · cases h
theorem loc_of (a : At p G blk sc C) {x : Str} (h : locOk blk sc x = true) : Loc C.X.env.scope x ∧ (C.X.fn x = true ∨ C.X.env.scope.names.lookup x = some .local) := by
  rw [a.sc]
  unfold locOk at h
  split at h
  · exact ⟨.inl (by assumption), .inr (by assumption)⟩
  · exact ⟨.inr (by assumption), .inl (a.fn (by simpa using h) x)⟩
  · cases h
theorem gl_of (a : At p G blk sc C) {x : Str} (h : glOk sc x = true) : Gl C.X x := by
  show C.X.env.scope.names.lookup x = _
  rw [a.sc]
  unfold glOk at h
  split at h
  · assumption
  · cases h
theorem plain_of {x : Str} (h : plainN x = true) : (x == ("__debug__" : Str)) = false ∧ (x == ("__classdict__" : Str)) = false ∧ x ≠ "__name__" := by
  unfold plainN at h
  simp only [Bool.and_eq_true, Bool.not_eq_true'] at h
  exact ⟨h.1.1, h.1.2, fun e => by rw [e] at h; simp at h⟩
theorem lookup_memS {α : Type} : ∀ {l : List (Str × α)} {x : Str} {v : α}, l.lookup x = some v → (x, v) ∈ l
  | [], _, _, h => by simp at h
  | (y, w) :: r, x, v, h => by
    rw [List.lookup_cons] at h
    split at h
    · rename_i e
      have : x = y := by simpa using e
      cases h
      rw [this]; exact List.mem_cons_self
    · exact List.mem_cons_of_mem _ (lookup_memS h)
theorem bi_boot {x : Str} {f : Bi} (h : biTab.lookup x = some f) : bootBuiltins x = some f.val := by
  have all : ∀ q ∈ biTab, bootBuiltins q.1 = some q.2.val := by decide +kernel
  exact all _ (lookup_memS h)
theorem ty_boot {x : Str} {n : String} (h : tyTab.lookup x = some n) : bootBuiltins x = some (.type n) := by
  have all : ∀ q ∈ tyTab, bootBuiltins q.1 = some (.type q.2) := by decide +kernel
  exact all _ (lookup_memS h)
theorem mt_facts {x : Str} {f : Mt} (h : mtTab.lookup x = some f) : PlainAttrs f.ty ∧ Slot f.ty x f.id ∧ typeOf (.builtin f.id) = pure (.type "method_descriptor") := by
  have m := lookup_memS h
  simp only [mtTab, List.mem_cons, List.not_mem_nil, or_false, Prod.mk.injEq] at m
  rcases m with ⟨rfl, rfl⟩ | ⟨rfl, rfl⟩ | ⟨rfl, rfl⟩
  · exact ⟨PySem.F.plainAttrs_list, PySem.F.slot_list_append, PySem.F.type_list_append⟩
  · exact ⟨PySem.F.plainAttrs_list, PySem.F.slot_list_pop, PySem.F.type_list_pop⟩
  · exact ⟨PySem.F.plainAttrs_str, PySem.F.slot_str_upper, PySem.F.type_str_upper⟩
theorem star1 {e : Expr} {es : List Expr} {env : Env} (h : starred e = false) : starEach (e :: es) env = (false, eval e env) :: starEach es env := by
  cases e <;> first | rfl | cases h
theorem star_any {es : List Expr} {env : Env} {pos : Pos} (h : es.all (fun e => !starred e) = true) : (backTo pos (starEach es env)).any (·.1) = false := by
  induction es with
  | nil => rfl
  | cons e r ih =>
    rw [List.all_cons, Bool.and_eq_true] at h
    rw [star1 (by simpa using h.1)]
    show (false || (backTo pos (starEach r env)).any (·.1)) = false
    rw [ih h.2]; rfl
theorem star_few {es : List Expr} {env : Env} {pos : Pos} (h : es.all (fun e => !starred e) = true) (hl : decide (es.length < 30) = true) :
    ((backTo pos (starEach es env)).all (fun x => !x.1) && (backToKw pos (keywordEach [] env)).all (fun x => x.1.isSome) && decide (es.length + ([] : List Keyword).length + (if ([] : List Keyword).isEmpty then 0 else 1) < 30)) = true := by
  have h1 : (backTo pos (starEach es env)).all (fun x => !x.1) = true := by
    have := star_any (env := env) (pos := pos) h
    rw [List.any_eq_false] at this
    rw [List.all_eq_true]
    intro x hx
    have := this x hx
    simpa using this
  rw [h1]
  have h2 : (backToKw pos (keywordEach [] env)).all (fun x => x.1.isSome) = true := rfl
  rw [h2]
  have h3 : es.length < 30 := of_decide_eq_true hl
  simp
  omega
theorem assign1 {e : Expr} {es : List Expr} {env : Env} (h : starred e = false) : assignEach (e :: es) env = (false, assign e env) :: assignEach es env := by
  cases e <;> first | rfl | cases h
theorem assign_len {es : List Expr} {env : Env} (h : es.all (fun e => !starred e) = true) : (assignEach es env).length = es.length ∧ (assignEach es env).findIdx? (·.1) = none := by
  induction es with
  | nil => exact ⟨rfl, rfl⟩
  | cons e r ih =>
    rw [List.all_cons, Bool.and_eq_true] at h
    rw [assign1 (by simpa using h.1)]
    obtain ⟨a, b⟩ := ih h.2
    refine ⟨by rw [List.length_cons, List.length_cons, a], ?_⟩
    rw [List.findIdx?_cons]
    simp only [b]
    rfl
theorem set_free {e : Expr} {env : Env} (h : isSet e = false) : ∀ x, foldedSetIterable e env x = pure x := by
  intro x
  cases e <;> first | rfl | cases h
theorem attr_free {a : Expr} {x : Str} {env : Env} (h : isCall0 a = false) : attributeBase a x env (eval a env) = eval a env := by
  unfold attributeBase
  split
  · cases h
  · rfl
theorem plainIx {b : Expr} (h : isSlice b = false) : PlainIx b := by
  intro o i
  cases b <;> first | rfl | cases h
theorem pt_ite {X : Cx} {c a b : Expr} {tc ta tb : TT} {pos : Pos} (hc : PT X c tc) (ha : PT X a ta) (hb : PT X b tb) : PT X (.IfExp c a b pos) (fun σ H Q => tc σ H fun k H1 => if k = true then ta σ H1 Q else tb σ H1 Q) := by
  refine ⟨fun pins s σ H Q I h => ?_⟩
  rw [PySem.isTrue]
  refine wpAny_bind (thn (hc.run pins s σ H _ I h) fun k s1 ⟨H1, I1, q1⟩ => ?_)
  cases k with
  | true => exact ha.run pins s1 σ H1 Q I1 q1
  | false => exact hb.run pins s1 σ H1 Q I1 q1
theorem dc_ite {c a b : Expr} {tc ta tb : TCd} {pos : Pos} (hc : DC C c tc) (ha : DC C a ta) (hb : DC C b tb) : DC C (.IfExp c a b pos) (fun σ H Q => tc σ H fun k H1 => br k (ta σ H1 Q) (tb σ H1 Q)) :=
  PT.weak (pt_ite hc ha hb) fun σ H Q => by
    rintro ⟨σd, Hm, Qd, s, q, k⟩
    refine LfC.seq s q fun c H1 Hm1 n1 s1 q => ?_
    cases c with
    | true => exact LfC.seq s1 q fun y H2 Hm2 n2 s2 q => k y H2 Hm2 (n1.trans n2) s2.rep q
    | false => exact LfC.seq s1 q fun y H2 Hm2 n2 s2 q => k y H2 Hm2 (n1.trans n2) s2.rep q
theorem ts_len : ∀ {n : Nat} {es : List Expr} {ts : Ts} {blk : Bool} {sc : Scope}, compTs p n blk sc es = some ts → ts.len = es.length ∧ es.all (fun e => !starred e) = true := by
  intro n
  induction n with
  | zero => intro es ts blk sc h; unfold compTs at h; cases h
  | succ n ih =>
    intro es ts blk sc h
    unfold compTs at h
    split at h
    · cases h; exact ⟨rfl, rfl⟩
    · split at h
      · cases h
      · rename_i hs
        simp only [Option.bind_eq_some_iff, Option.map_eq_some_iff] at h
        obtain ⟨e', _, r', hr, rfl⟩ := h
        obtain ⟨h1, h2⟩ := ih hr
        refine ⟨by rw [Ts.len, h1, List.length_cons], ?_⟩
        rw [List.all_cons, h2]
        simpa using hs
theorem es_star : ∀ {n : Nat} {es : List Expr} {c : Es} {sc : Scope}, compEs p n sc es = some c → es.all (fun e => !starred e) = true := by
  intro n
  induction n with
  | zero => intro es ts sc h; unfold compEs at h; cases h
  | succ n ih =>
    intro es ts sc h
    unfold compEs at h
    split at h
    · rfl
    · split at h
      · cases h
      · rename_i hs
        simp only [Option.bind_eq_some_iff, Option.map_eq_some_iff] at h
        obtain ⟨e', _, r', hr, rfl⟩ := h
        rw [List.all_cons, ih hr]
        simpa using hs
/-- the call of a def: its promise is told -/
theorem call_fun {t : TAd} {x : Str} {n : Nat} {c : Ctr} {Ed : En → XDK} (h : G.fn x = some (n, c)) :
    (fun (σ : En) (H : MH) (Q : DK) => t σ H fun ds H1 => ∃ n c, G.fn x = some (n, c) ∧ ds.length = n ∧ c ds H1 Q (Ed σ)) = fun σ H Q => t σ H fun ds H1 => ds.length = n ∧ c ds H1 Q (Ed σ) := by
  funext σ H Q
  congr 1
  funext ds H1
  rw [h]
  apply propext
  constructor
  · rintro ⟨n', c', e, a, b⟩
    cases e
    exact ⟨a, b⟩
  · rintro ⟨a, b⟩
    exact ⟨n, c, rfl, a, b⟩
/-- a BoolOp's test does not look at its whole -/
theorem dw_of {e : Expr} {t : TCd} (h : (∃ (l : List Expr), e = .BoolOp .And l pos0) ∨ ∃ (l : List Expr), e = .BoolOp .Or l pos0) (hc : DC C e t) : DW C e t := by
  refine ⟨fun wh pins s σ H Q I q => ?_⟩
  have := hc.run pins s σ H Q I q
  rcases h with ⟨l, rfl⟩ | ⟨l, rfl⟩ <;> (rw [PySem.isTrue] at this ⊢; exact this)
theorem sub_free {a b : Expr} {pos : Pos} {env : Env} (h : isSlice b = false) : ∀ v, assign (.Subscript a b pos) env v = (do
      let ov ← holding [v] (eval a env)
      let iv ← holding [v, ov] (eval b env)
      standAt pos
      holding [v, ov, iv] (setItem ov iv v)
      release [v, ov, iv] []) := by
  intro v
  cases b <;> first | rfl | cases h
set_option maxHeartbeats 4000000 in
theorem keyInts_is : ∀ {keys : List (Option Expr)} {ks : List Int}, keyInts keys = some ks → KeyIs ks keys
  | [], ks, h => by unfold keyInts at h; cases h; exact .nil
  | k :: r, ks, h => by
    unfold keyInts at h
    split at h
    · rename_i e; cases e
    · rename_i i n p r' e
      cases e
      simp only [Option.map_eq_some_iff] at h
      obtain ⟨ks', h', rfl⟩ := h
      exact .cons (keyInts_is h')
    · cases h
theorem revArg_is {x : Str} {es : List Expr} {b : Expr} (h : revArg p sc x es = some b) : ∃ y q1 q2, x = ("list" : Str) ∧ es = [.Call (.Name y q1) [b] [] q2] ∧ y = ("reversed" : Str) ∧ glOk sc y = true ∧ p.B.contains y = true ∧ starred b = false := by
  unfold revArg at h
  split at h
  · rename_i y q1 a q2
    split at h
    · rename_i hh
      cases h
      simp only [Bool.and_eq_true, Bool.not_eq_true', beq_iff_eq] at hh
      exact ⟨y, q1, q2, hh.1.1.1.1, rfl, hh.1.1.1.2, hh.1.1.2, hh.1.2, hh.2⟩
    · cases h
  · cases h
theorem sound (n : Nat) :
    (∀ blk sc C e c, At p G blk sc C → compE p n sc e = some c → DE C e (wpE G C.Ed c)) ∧
    (∀ blk sc C e c, At p G blk sc C → compE p n sc e = some c → DC C e (wpC G C.Ed c)) ∧
    (∀ blk sc C es c, At p G blk sc C → compEs p n sc es = some c → DA C es (wpEs G C.Ed c)) ∧
    (∀ blk sc C es c, At p G blk sc C → compCs p n sc es = some c → DCs C es (wpCs G C.Ed c)) ∧
    (∀ blk sc C o c, At p G blk sc C → compO p n sc o = some c → DO C o (wpO G C.Ed c)) ∧
    (∀ blk sc C e c, At p G blk sc C → compT p n blk sc e = some c → DG C c.slots e (wpT G C.Ed c)) ∧
    (∀ blk sc C es c, At p G blk sc C → compTs p n blk sc es = some c → DGs C c.slots es (wpTs G C.Ed c)) ∧
    (∀ blk sc C tg e c, At p G blk sc C → compI p n sc e = some c → DI C tg e (wpI G C.Ed c)) ∧
    (∀ blk sc C es c, At p G blk sc C → compEs p n sc es = some c → ∀ pos ks keys, KeyIs ks keys → ks.length = es.length → DPs C pos keys es ks (wpEs G C.Ed c)) := by
  induction n with
  | zero =>
    refine ⟨?_, ?_, ?_, ?_, ?_, ?_, ?_, ?_, ?_⟩
    · intro blk sc C e c a h; unfold compE at h; cases h
    · intro blk sc C e c a h; unfold compE at h; cases h
    · intro blk sc C e c a h; unfold compEs at h; cases h
    · intro blk sc C e c a h; unfold compCs at h; cases h
    · intro blk sc C e c a h; unfold compO at h; cases h
    · intro blk sc C e c a h; unfold compT at h; cases h
    · intro blk sc C e c a h; unfold compTs at h; cases h
    · intro blk sc C tg e c a h; unfold compI at h; cases h
    · intro blk sc C e c a h; unfold compEs at h; cases h
  | succ n ih =>
    obtain ⟨ihE, ihC, ihEs, ihCs, ihO, ihT, ihTs, ihI, ihP⟩ := ih
    have main : ∀ blk sc C e c, At p G blk sc C → compE p (n + 1) sc e = some c → DE C e (wpE G C.Ed c) := by
      intro blk sc C e c a h
      unfold compE at h
      split at h
      · cases h; exact de_const pe_int fun _ _ => is_int
      · cases h; exact de_const pe_bl fun _ _ => is_bl
      · cases h; exact de_const pe_str fun _ _ => is_str
      · cases h; exact de_const pe_non fun _ _ => is_non
      · split at h
        · rename_i hp
          obtain ⟨p1, p2, p3⟩ := plain_of hp
          split at h
          · rename_i hv
            simp only [Option.map_eq_some_iff] at h
            obtain ⟨i, hi, rfl⟩ := h
            exact de_var (by rw [a.N]; exact slot_of hi) (vis_of a hv) p1 p2
          · split at h
            · rename_i hg
              split at h
              · rename_i hb
                simp only [Option.map_eq_some_iff] at h
                obtain ⟨m, hm, rfl⟩ := h
                exact de_const (pe_bltn (v := .ty m) (gl_of a hg) (a.g.bl _ hb) (ty_boot hm) rfl p3 p1) fun _ _ => is_ty
              · cases h
                refine ⟨fun pins s σ H Q I h => ?_⟩
                obtain ⟨σd, Hm, Qd, s0, ⟨d, hd, q⟩, k⟩ := id h
                obtain ⟨u, v, hm, r, hi⟩ := a.g.gv _ _ hd
                exact (pe_glob (gl_of a hg) hm r p1).run pins s σ H Q I (k.here s0.rep (hi C.Z H Hm) q)
            · cases h
        · cases h
      · simp only [Option.bind_eq_some_iff, Option.map_eq_some_iff] at h
        obtain ⟨a', ha, b', hb, rfl⟩ := h
        exact de_bin a.ok (ihE _ _ _ _ _ a ha) (ihE _ _ _ _ _ a hb)
      · simp only [Option.map_eq_some_iff] at h
        obtain ⟨a', ha, rfl⟩ := h
        exact de_neg (ihE _ _ _ _ _ a ha)
      · simp only [Option.map_eq_some_iff] at h
        obtain ⟨a', ha, rfl⟩ := h
        exact de_not (ihE _ _ _ _ _ a ha)
      · exact pe_one (ihE _ _ _ _ _ a h)
      · simp only [Option.bind_eq_some_iff, Option.map_eq_some_iff] at h
        obtain ⟨a', ha, b', hb, rfl⟩ := h
        exact de_and (ihE _ _ _ _ _ a ha) (ihE _ _ _ _ _ a hb)
      · simp only [Option.bind_eq_some_iff, Option.map_eq_some_iff] at h
        obtain ⟨a', ha, b', hb, rfl⟩ := h
        exact de_or (ihE _ _ _ _ _ a ha) (ihE _ _ _ _ _ a hb)
      · split at h
        · cases h
        · rename_i hm
          simp only [Option.bind_eq_some_iff, Option.map_eq_some_iff] at h
          obtain ⟨a', ha, b', hb, rfl⟩ := h
          exact de_cmp a.ok (ihE _ _ _ _ _ a ha) (ihE _ _ _ _ _ a hb) (by simpa using hm)
      · split at h
        · cases h
        · rename_i hm
          simp only [Option.bind_eq_some_iff, Option.map_eq_some_iff] at h
          obtain ⟨a', ha, b', hb, c', hc, rfl⟩ := h
          exact de_ch a.ok (ihE _ _ _ _ _ a ha) (ihE _ _ _ _ _ a hb) (ihE _ _ _ _ _ a hc) (by simpa using hm)
      · simp only [Option.bind_eq_some_iff, Option.map_eq_some_iff] at h
        obtain ⟨t', ht, a', ha, b', hb, rfl⟩ := h
        exact de_ite (ihC _ _ _ _ _ a ht) (ihE _ _ _ _ _ a ha) (ihE _ _ _ _ _ a hb)
      · simp only [Option.map_eq_some_iff] at h
        obtain ⟨a', ha, rfl⟩ := h
        exact de_tup (ihEs _ _ _ _ _ a ha)
      · simp only [Option.map_eq_some_iff] at h
        obtain ⟨a', ha, rfl⟩ := h
        exact de_lst (ihEs _ _ _ _ _ a ha)
      · simp only [Option.bind_eq_some_iff, Option.map_eq_some_iff] at h
        obtain ⟨a', ha, l', hl, h', hh, rfl⟩ := h
        exact de_sl (ihE _ _ _ _ _ a ha) (ihO _ _ _ _ _ a hl) (ihO _ _ _ _ _ a hh)
      · simp only [Option.bind_eq_some_iff, Option.map_eq_some_iff] at h
        obtain ⟨a', ha, es', he, rfl⟩ := h
        exact de_dixT a.ok (ihE _ _ _ _ _ a ha) (ihEs _ _ _ _ _ a he)
      · split at h
        · cases h
        · rename_i hs
          simp only [Option.bind_eq_some_iff, Option.map_eq_some_iff] at h
          obtain ⟨a', ha, b', hb, rfl⟩ := h
          exact de_ix a.ok (ihE _ _ _ _ _ a ha) (ihE _ _ _ _ _ a hb) (plainIx (by simpa using hs))
      · split at h
        · rename_i hp
          rw [Bool.and_eq_true] at hp
          obtain ⟨p1, p2, p3⟩ := plain_of hp.1
          split at h
          · rename_i hb
            unfold revOr at h
            split at h
            · rename_i b hr
              simp only [Option.map_eq_some_iff] at h
              obtain ⟨b', hb', rfl⟩ := h
              obtain ⟨y, q1, q2, hx, hes, hy, hgy, hBy, hst⟩ := revArg_is hr
              cases hes
              subst hx
              subst hy
              exact de_rvl a.ok (gl_of a hp.2) (a.g.bl _ hb) (gl_of a hgy) (a.g.bl _ hBy) (ihE _ _ _ _ _ a hb') (star1 hst)
            · simp only [Option.bind_eq_some_iff, Option.map_eq_some_iff] at h
              obtain ⟨f, hf, es', he, rfl⟩ := h
              have st := es_star he
              rw [List.all_cons, Bool.and_eq_true] at st
              exact de_bi a.ok (gl_of a hp.2) (a.g.bl _ hb) (bi_boot hf) (ihEs _ _ _ _ _ a he) p3 p1 (star1 (by simpa using st.1)) (star_any st.2)
          · split at h
            · rename_i hF
              simp only [Option.map_eq_some_iff] at h
              obtain ⟨es', he, rfl⟩ := h
              have st := es_star he
              rw [List.all_cons, Bool.and_eq_true] at st
              obtain ⟨m, c, hG, hH⟩ := a.g.fn _ hF
              have e3 : wpE G C.Ed (.call _ es') = _ := call_fun (t := wpEs G C.Ed es') (Ed := C.Ed) hG
              rw [e3]
              exact de_call a.ok hH (gl_of a hp.2) (ihEs _ _ _ _ _ a he) p1 (star1 (by simpa using st.1)) (star_any st.2)
            · cases h
        · cases h
      · split at h
        · rename_i hp
          rw [Bool.and_eq_true, Bool.and_eq_true] at hp
          obtain ⟨p1, p2, p3⟩ := plain_of hp.1.1
          cases h
          obtain ⟨m, c, hG, hH⟩ := a.g.fn _ hp.2
          have e3 : wpE G C.Ed (.call _ .nil) = _ := call_fun (t := fun _ H Q => Q [] H) (Ed := C.Ed) hG
          rw [e3]
          exact de_call0 a.ok hH (gl_of a hp.1.2) p1
        · cases h
      · split at h
        · cases h
        · rename_i a0 x0 apos0 ps hp
          simp only [Bool.or_eq_true, not_or, Bool.not_eq_true, Bool.not_eq_false'] at hp
          simp only [Option.bind_eq_some_iff, Option.map_eq_some_iff] at h
          obtain ⟨f, hf, a', ha, rfl⟩ := h
          obtain ⟨m1, m2, m3⟩ := mt_facts hf
          exact de_mth0 (m := p.m ps) m1 m2 m3 (ihE _ _ _ _ _ a ha) (attr_free hp.1) (by simpa using hp.2)
      · split at h
        · cases h
        · rename_i hp
          simp only [Bool.or_eq_true, not_or, Bool.not_eq_true, Bool.not_eq_false'] at hp
          simp only [Option.bind_eq_some_iff, Option.map_eq_some_iff] at h
          obtain ⟨f, hf, a', ha, es', he, rfl⟩ := h
          obtain ⟨m1, m2, m3⟩ := mt_facts hf
          have st := es_star he
          have st2 := st
          rw [List.all_cons, Bool.and_eq_true] at st
          exact de_mth m1 m2 m3 (ihE _ _ _ _ _ a ha) (ihEs _ _ _ _ _ a he) (attr_free hp.1.1) (star_few st2 (by simpa using hp.2)) (by simpa using hp.1.2) (star1 (by simpa using st.1)) (star_any st.2)
      · split at h
        · cases h
        · rename_i hp
          simp only [Bool.or_eq_true, not_or, Bool.not_eq_true, Bool.not_eq_false'] at hp
          simp only [Option.bind_eq_some_iff] at h
          obtain ⟨i', hi, t', ht, h⟩ := h
          split at h
          · cases h
          · rename_i hsl
            simp only [Option.bind_eq_some_iff, Option.map_eq_some_iff] at h
            obtain ⟨c', hc, e', he, rfl⟩ := h
            have hk : Scope.kind _ = .function := (blkOk_by hp.2).kind
            refine de_lc a.ok (ihI _ _ _ _ _ _ a hi) (blkOk_by (by rw [a.N, a.sc]; exact hp.2)) (fun i hm => ?_) (fun s H Ca cl fp Z M0 H0 => ihT _ _ _ _ _ (a.blk hk) ht) (fun s H Ca cl fp Z M0 H0 => ihCs _ _ _ _ _ (a.blk hk) hc) (fun s H Ca cl fp Z M0 H0 => ihE _ _ _ _ _ (a.blk hk) he) (set_free hp.1)
            have := hsl
            simp only [Bool.not_eq_true, Bool.not_eq_false', List.all_eq_true] at this
            simpa using this i hm
      · rename_i pos1
        cases h
        cases hm : p.m pos1 with
        | true => exact de_dnewT
        | false => exact de_dnewK
      · simp only [Option.bind_eq_some_iff] at h
        obtain ⟨ks, hk, h⟩ := h
        split at h
        · rename_i hh
          simp only [Bool.and_eq_true, beq_iff_eq, Bool.not_eq_true', List.isEmpty_eq_false_iff, decide_eq_true_eq] at hh
          simp only [Option.map_eq_some_iff] at h
          obtain ⟨c', hc, rfl⟩ := h
          exact de_dct (keyInts_is hk) hh.1.1 hh.1.2 hh.2 (ihP _ _ _ _ _ a hc _ _ _ (keyInts_is hk) hh.1.1)
        · cases h
      · cases h
    refine ⟨main, ?_, ?_, ?_, ?_, ?_, ?_, ?_, ?_⟩
    · intro blk sc C e c a h
      have hv := main blk sc C e c a h
      unfold compE at h
      split at h
      · cases h; exact dc_val hv fun _ => rfl
      · cases h; exact dc_val hv fun _ => rfl
      · cases h; exact dc_val hv fun _ => rfl
      · cases h; exact dc_val hv fun _ => rfl
      · split at h
        · split at h
          · simp only [Option.map_eq_some_iff] at h
            obtain ⟨i, hi, rfl⟩ := h
            exact dc_val hv fun _ => rfl
          · split at h
            · split at h
              · simp only [Option.map_eq_some_iff] at h
                obtain ⟨m, hm, rfl⟩ := h
                exact dc_val hv fun _ => rfl
              · cases h
                exact dc_val hv fun _ => rfl
            · cases h
        · cases h
      · simp only [Option.bind_eq_some_iff, Option.map_eq_some_iff] at h
        obtain ⟨a', ha, b', hb, rfl⟩ := h
        exact dc_val hv fun _ => rfl
      · simp only [Option.map_eq_some_iff] at h
        obtain ⟨a', ha, rfl⟩ := h
        exact dc_val hv fun _ => rfl
      · simp only [Option.map_eq_some_iff] at h
        obtain ⟨a', ha, rfl⟩ := h
        exact dc_not (ihC _ _ _ _ _ a ha)
      · rename_i op _ _
        cases op with
        | And => exact (dw_and1 (ihC _ _ _ _ _ a h)).pt
        | Or => exact (dw_or1 (ihC _ _ _ _ _ a h)).pt
      · simp only [Option.bind_eq_some_iff, Option.map_eq_some_iff] at h
        obtain ⟨a', ha, b', hb, rfl⟩ := h
        exact (dw_and (ihC _ _ _ _ _ a ha) (dw_of (.inl ⟨_, rfl⟩) (ihC _ _ _ _ _ a hb))).pt
      · simp only [Option.bind_eq_some_iff, Option.map_eq_some_iff] at h
        obtain ⟨a', ha, b', hb, rfl⟩ := h
        exact (dw_or (ihC _ _ _ _ _ a ha) (dw_of (.inr ⟨_, rfl⟩) (ihC _ _ _ _ _ a hb))).pt
      · split at h
        · cases h
        · rename_i hm
          simp only [Option.bind_eq_some_iff, Option.map_eq_some_iff] at h
          obtain ⟨a', ha, b', hb, rfl⟩ := h
          exact dc_cmp a.ok (ihE _ _ _ _ _ a ha) (ihE _ _ _ _ _ a hb) (by simpa using hm)
      · split at h
        · cases h
        · rename_i hm
          simp only [Option.bind_eq_some_iff, Option.map_eq_some_iff] at h
          obtain ⟨a', ha, b', hb, c', hc, rfl⟩ := h
          exact dc_ch a.ok (ihE _ _ _ _ _ a ha) (ihE _ _ _ _ _ a hb) (ihE _ _ _ _ _ a hc) (by simpa using hm)
      · simp only [Option.bind_eq_some_iff, Option.map_eq_some_iff] at h
        obtain ⟨t', ht, a', ha, b', hb, rfl⟩ := h
        exact dc_ite (ihC _ _ _ _ _ a ht) (ihC _ _ _ _ _ a ha) (ihC _ _ _ _ _ a hb)
      · simp only [Option.map_eq_some_iff] at h
        obtain ⟨a', ha, rfl⟩ := h
        exact dc_val hv fun _ => rfl
      · simp only [Option.map_eq_some_iff] at h
        obtain ⟨a', ha, rfl⟩ := h
        exact dc_val hv fun _ => rfl
      · simp only [Option.bind_eq_some_iff, Option.map_eq_some_iff] at h
        obtain ⟨a', ha, l', hl, h', hh, rfl⟩ := h
        exact dc_val hv fun _ => rfl
      · simp only [Option.bind_eq_some_iff, Option.map_eq_some_iff] at h
        obtain ⟨a', ha, es', he, rfl⟩ := h
        exact dc_val hv fun _ => rfl
      · split at h
        · cases h
        · simp only [Option.bind_eq_some_iff, Option.map_eq_some_iff] at h
          obtain ⟨a', ha, b', hb, rfl⟩ := h
          exact dc_val hv fun _ => rfl
      · split at h
        · split at h
          · unfold revOr at h
            split at h
            · simp only [Option.map_eq_some_iff] at h
              obtain ⟨b', hb', rfl⟩ := h
              exact dc_val hv fun _ => rfl
            · simp only [Option.bind_eq_some_iff, Option.map_eq_some_iff] at h
              obtain ⟨f, hf, es', he, rfl⟩ := h
              exact dc_val hv fun _ => rfl
          · split at h
            · simp only [Option.map_eq_some_iff] at h
              obtain ⟨es', he, rfl⟩ := h
              exact dc_val hv fun _ => rfl
            · cases h
        · cases h
      · split at h
        · cases h
          exact dc_val hv fun _ => rfl
        · cases h
      · split at h
        · cases h
        · simp only [Option.bind_eq_some_iff, Option.map_eq_some_iff] at h
          obtain ⟨f, hf, a', ha, rfl⟩ := h
          exact dc_val hv fun _ => rfl
      · split at h
        · cases h
        · simp only [Option.bind_eq_some_iff, Option.map_eq_some_iff] at h
          obtain ⟨f, hf, a', ha, es', he, rfl⟩ := h
          exact dc_val hv fun _ => rfl
      · split at h
        · cases h
        · simp only [Option.bind_eq_some_iff] at h
          obtain ⟨i', hi, t', ht, h⟩ := h
          split at h
          · cases h
          · simp only [Option.bind_eq_some_iff, Option.map_eq_some_iff] at h
            obtain ⟨c', hc, e', he, rfl⟩ := h
            exact dc_val hv fun _ => rfl
      · cases h
        exact dc_val hv fun _ => rfl
      · simp only [Option.bind_eq_some_iff] at h
        obtain ⟨ks, hk, h⟩ := h
        split at h
        · simp only [Option.map_eq_some_iff] at h
          obtain ⟨c', hc, rfl⟩ := h
          exact dc_val hv fun _ => rfl
        · cases h
      · cases h
    · intro blk sc C es c a h
      unfold compEs at h
      split at h
      · cases h
        exact da_nil
      · split at h
        · cases h
        · rename_i hs
          simp only [Option.bind_eq_some_iff, Option.map_eq_some_iff] at h
          obtain ⟨e', he, r', hr, rfl⟩ := h
          exact da_cons (ihE _ _ _ _ _ a he) (ihEs _ _ _ _ _ a hr) (star1 (by simpa using hs))
    · intro blk sc C es c a h
      unfold compCs at h
      split at h
      · cases h
        exact dcs_nil
      · simp only [Option.map_eq_some_iff] at h
        obtain ⟨e', he, rfl⟩ := h
        exact dcs_one (ihC _ _ _ _ _ a he)
      · cases h
    · intro blk sc C o c a h
      unfold compO at h
      split at h
      · cases h
        exact do_none
      · simp only [Option.map_eq_some_iff] at h
        obtain ⟨e', he, rfl⟩ := h
        exact do_some (ihE _ _ _ _ _ a he)
    · intro blk sc C e c a h
      unfold compT at h
      split at h
      · split at h
        · rename_i hl
          simp only [Option.map_eq_some_iff] at h
          obtain ⟨i, hi, rfl⟩ := h
          obtain ⟨h1, h2⟩ := loc_of a hl
          exact dg_name a.ok (by rw [a.N]; exact slot_of hi) h1 h2
        · cases h
      · simp only [Option.map_eq_some_iff] at h
        obtain ⟨ts, hts, rfl⟩ := h
        obtain ⟨h1, h2⟩ := ts_len hts
        obtain ⟨h3, h4⟩ := assign_len (env := C.X.env) h2
        exact dg_tup a.ok (ihTs _ _ _ _ _ a hts) h4 (by rw [h3, h1])
      · simp only [Option.bind_eq_some_iff, Option.map_eq_some_iff] at h
        obtain ⟨a', ha, es', he, rfl⟩ := h
        exact dg_dsubT a.ok (ihE _ _ _ _ _ a ha) (ihEs _ _ _ _ _ a he)
      · rename_i pos1 _
        split at h
        · cases h
        · rename_i hs
          simp only [Option.bind_eq_some_iff, Option.map_eq_some_iff] at h
          obtain ⟨a', ha, b', hb, rfl⟩ := h
          unfold subOr
          cases hm : p.m pos1 with
          | true => exact dg_dsub a.ok (ihE _ _ _ _ _ a ha) (ihE _ _ _ _ _ a hb) (sub_free (by simpa using hs))
          | false => exact dg_sub (ihE _ _ _ _ _ a ha) (ihE _ _ _ _ _ a hb) (sub_free (by simpa using hs))
      · cases h
    · intro blk sc C es c a h
      unfold compTs at h
      split at h
      · cases h
        exact dgs_nil
      · split at h
        · cases h
        · rename_i hs
          simp only [Option.bind_eq_some_iff, Option.map_eq_some_iff] at h
          obtain ⟨e', he, r', hr, rfl⟩ := h
          refine dgs_cons (ihT _ _ _ _ _ a he) (ihTs _ _ _ _ _ a hr) ?_
          rw [assign1 (by simpa using hs)]
          rfl
    · intro blk sc C tg e c a h
      unfold compI at h
      split at h
      · split at h
        · rename_i hx
          split at h
          · rename_i hg
            simp only [Option.map_eq_some_iff] at h
            obtain ⟨a', ha, rfl⟩ := h
            simp only [Bool.and_eq_true, Bool.not_eq_true', Bool.not_eq_eq_eq_not, Bool.not_true] at hg
            have ex := eq_of_beq hx
            subst ex
            exact di_rng1 (gl_of a hg.1.1) (a.g.bl _ hg.1.2) (ihE _ _ _ _ _ a ha) (star1 hg.2)
          · cases h
        · simp only [Option.map_eq_some_iff] at h
          obtain ⟨a', ha, rfl⟩ := h
          exact di_seq (ihE _ _ _ _ _ a ha)
      · split at h
        · rename_i hx
          split at h
          · rename_i hg
            simp only [Option.bind_eq_some_iff, Option.map_eq_some_iff] at h
            obtain ⟨a', ha, b', hb, rfl⟩ := h
            simp only [Bool.and_eq_true, Bool.not_eq_true', Bool.not_eq_eq_eq_not, Bool.not_true] at hg
            have ex := eq_of_beq hx
            subst ex
            exact di_rng2 (gl_of a hg.1.1.1) (a.g.bl _ hg.1.1.2) (ihE _ _ _ _ _ a ha) (ihE _ _ _ _ _ a hb) (by rw [star1 hg.1.2, star1 hg.2]; rfl) (star1 hg.2)
          · cases h
        · simp only [Option.map_eq_some_iff] at h
          obtain ⟨a', ha, rfl⟩ := h
          exact di_seq (ihE _ _ _ _ _ a ha)
      · simp only [Option.map_eq_some_iff] at h
        obtain ⟨a', ha, rfl⟩ := h
        exact di_seq (ihE _ _ _ _ _ a ha)
    · intro blk sc C es c a h pos ks keys hk hl
      unfold compEs at h
      split at h
      · cases h
        cases hk with
        | nil => exact dps_nil
        | cons hk => cases hl
      · split at h
        · cases h
        · rename_i hs
          simp only [Option.bind_eq_some_iff, Option.map_eq_some_iff] at h
          obtain ⟨e', he, r', hr, rfl⟩ := h
          cases hk with
          | nil => cases hl
          | cons hk => exact dps_cons (ihE _ _ _ _ _ a he) (ihP _ _ _ _ _ a hr _ _ _ hk (by simpa using hl))
end
end DL

set_option maxHeartbeats 1000000
namespace DL
open PySem PySem.Spec PyProof.Rows L2

section
variable {p : Pm} {G : Gm} {blk : Bool} {sc : Scope} {C : Co} {pos0 : Pos}
theorem swaps_free {tg e : Expr} {line : Nat} {env : Env} (hk : sc.kind = .function) (he : env.scope = sc) (h : lcUsed sc tg e = some false) : swapsWith e (some tg) line env = pure false := by
  unfold lcUsed at h
  split at h
  · rename_i elt gs scope pos t tpos
    have h := Option.some.inj h
    unfold swapsWith
    show (pure _ : Sem Bool) = pure false
    congr 1
    have hb : env.blockKind = .function := by unfold Env.blockKind; rw [he, hk]; rfl
    have ht : (env.kindOf t == some .local) = decide (sc.names.lookup t = some .local) := by
      show (env.scope.names.lookup t == some .local) = _
      rw [he, Bool.beq_eq_decide_eq]
    rw [hb, ht]
    exact h
  · cases h
  · cases h
  · rename_i h1 h2 h3
    unfold swapsWith
    cases e with
    | ListComp a b c d =>
      cases tg with
      | Name t tp => first | exact (h1 _ _ _ _ _ _ rfl rfl).elim | exact (h2 _ _ _ _ _ _ rfl rfl).elim | exact (h3 _ _ _ _ _ _ rfl rfl).elim | (exfalso; simp_all)
      | _ => rfl
    | SetComp a b c d => first | exact (h1 _ _ _ _ rfl).elim | exact (h2 _ _ _ _ rfl).elim
    | DictComp a b c d f => first | exact (h1 _ _ _ _ _ rfl).elim | exact (h2 _ _ _ _ _ rfl).elim | exact (h3 _ _ _ _ _ rfl).elim
    | _ => rfl
theorem swaps_drop {e : Expr} {line : Nat} {env : Env} (h : isComp e = false) : swapsWith e none line env = pure false := by
  cases e <;> first | rfl | cases h
theorem par_free {tg e : Expr} {env : Env} (h : parTup [tg] e = false) : swappedStores [tg] e env = pure none := by
  unfold swappedStores
  cases tg <;> cases e <;> first | rfl | cases h
theorem assign1T {tg : Expr} {env : Env} (h : starred tg = false) : (assignEach [tg] env).map (·.2) = [assign tg env] := by
  rw [assign1 h]; rfl
theorem comp_lc {n : Nat} {e elt : Expr} {gs : List Comprehension} {scope : Scope} {pos : Pos} {c : E} (h : compE p (n + 1) sc e = some c) (he : e = .ListComp elt gs scope pos) :
    ∃ tg iter ifs i' t' c' e', gs = [⟨tg, iter, ifs, 0⟩] ∧ isSet iter = false ∧ blkC p.N sc scope (ownOf p.N tg) = true ∧ compI p n sc iter = some i' ∧ compT p n true (relS scope sc) tg = some t' ∧
      (∀ i ∈ t'.slots, i ∈ (ownOf p.N tg).map (·.2)) ∧ compCs p n (relS scope sc) ifs = some c' ∧ compE p n (relS scope sc) elt = some e' ∧ c = .lc (p.m pos) e' t' i' c' ((ownOf p.N tg).map (·.2)) := by
  unfold compE at h
  split at h
  all_goals first | (cases he; done) | skip
  · split at h
    · cases h
    · rename_i hp
      simp only [Bool.or_eq_true, not_or, Bool.not_eq_true, Bool.not_eq_false'] at hp
      simp only [Option.bind_eq_some_iff] at h
      obtain ⟨i', hi, t', ht, h⟩ := h
      split at h
      · cases h
      · rename_i hsl
        simp only [Option.bind_eq_some_iff, Option.map_eq_some_iff] at h
        obtain ⟨c', hc, e', hE, rfl⟩ := h
        cases he
        refine ⟨_, _, _, i', t', c', e', rfl, hp.1, hp.2, hi, ht, fun i hm => ?_, hc, hE, rfl⟩
        simp only [Bool.not_eq_true, Bool.not_eq_false', List.all_eq_true] at hsl
        simpa using hsl i hm
  · cases h
set_option maxHeartbeats 4000000 in
theorem soundS (n : Nat) :
    (∀ C s c, At p G false sc C → PassesOwn (model C.X.prog C.X.w) C.X.A C.X.env C.X.xe → compS p n sc s = some c → DS C s (wpS G C.Ed c)) ∧
    (∀ C ss c, At p G false sc C → PassesOwn (model C.X.prog C.X.w) C.X.A C.X.env C.X.xe → compSs p n sc ss = some c → DSs C ss (wpSs G C.Ed c)) ∧
    (∀ C cs c, At p G false sc C → PassesOwn (model C.X.prog C.X.w) C.X.A C.X.env C.X.xe → compMs p n sc cs = some c → DMs C cs (wpMs G C.Ed c)) := by
  induction n with
  | zero =>
    refine ⟨?_, ?_, ?_⟩
    · intro C s c a po h; unfold compS at h; cases h
    · intro C s c a po h; unfold compSs at h; cases h
    · intro C s c a po h; unfold compMs at h; cases h
  | succ n ih =>
    obtain ⟨ihS, ihSs, ihMs⟩ := ih
    obtain ⟨eE, eC, eEs, eCs, eO, eT, eTs, eI, _⟩ := sound (p := p) (G := G) n
    refine ⟨?_, ?_, ?_⟩
    · intro C s c a po h
      have hk := a.kind
      rw [a.sc] at hk
      unfold compS at h
      split at h
      · rename_i tg e ps
        split at h
        · cases h
        · rename_i hp
          simp only [Bool.or_eq_true, not_or, Bool.not_eq_true] at hp
          simp only [Option.bind_eq_some_iff, Option.map_eq_some_iff] at h
          obtain ⟨e', he, t', ht, u, hu, rfl⟩ := h
          cases u with
          | false => exact ds_asg (eE _ _ _ _ _ a he) (eT _ _ _ _ _ a ht) (swaps_free hk a.sc hu) (par_free hp.1) (assign1T hp.2)
          | true =>
            unfold lcUsed at hu
            split at hu
            · rename_i elt gs scope pos t tpos
              have hu := Option.some.inj hu
              simp only [Bool.and_eq_true, decide_eq_true_eq, Bool.not_eq_true'] at hu
              obtain ⟨⟨u1, u2⟩, u3⟩ := hu
              cases n with
              | zero => unfold compE at he; cases he
              | succ m =>
                obtain ⟨tg, iter, ifs, i', t2, c', e2, rfl, h1, h2, h3, h4, h5, h6, h7, rfl⟩ := comp_lc he rfl
                obtain ⟨fE, fC, fEs, fCs, fO, fT, fTs, fI, _⟩ := sound (p := p) (G := G) m
                have hT : ∃ i, slot p.N t = some i ∧ t' = .nm i := by
                  unfold compT at ht
                  simp only at ht
                  split at ht
                  · simp only [Option.map_eq_some_iff] at ht
                    obtain ⟨i, hi, rfl⟩ := ht
                    exact ⟨i, hi, rfl⟩
                  · cases ht
                obtain ⟨i, hi, rfl⟩ := hT
                have hkb : Scope.kind _ = .function := (blkOk_by h2).kind
                have hsw : swapsWith (.ListComp elt [⟨tg, iter, ifs, 0⟩] scope pos) (some (.Name t tpos)) ps.line C.X.env = pure true := sw_true (by rw [a.sc]; exact hk) (by rw [a.sc]; exact u1) u2 u3
                exact ds_setLc (m := p.m pos) a.ok (by rw [a.N]; exact slot_of hi) (by rw [a.sc]; exact u1) hsw (fI _ _ _ _ _ _ a h3) (blkOk_by (by rw [a.N, a.sc]; exact h2)) h5
                  (fun s H Ca cl fp Z M0 H0 => fT _ _ _ _ _ (a.blk hkb) h4) (fun s H Ca cl fp Z M0 H0 => fCs _ _ _ _ _ (a.blk hkb) h6) (fun s H Ca cl fp Z M0 H0 => fE _ _ _ _ _ (a.blk hkb) h7) (set_free h1)
            · cases hu
            · cases hu
            · cases hu
      · split at h
        · rename_i hl
          simp only [Option.bind_eq_some_iff, Option.map_eq_some_iff] at h
          obtain ⟨i, hi, e', he, rfl⟩ := h
          obtain ⟨h1, h2⟩ := loc_of a hl
          exact ds_aug a.ok (by rw [a.N]; exact slot_of hi) h1 (eE _ _ _ _ _ a he) h2
        · cases h
      · split at h
        · cases h
        · rename_i hp
          simp only [Option.map_eq_some_iff] at h
          obtain ⟨e', he, rfl⟩ := h
          exact ds_ex (eE _ _ _ _ _ a he) (swaps_drop (by simpa using hp))
      · simp only [Option.map_eq_some_iff] at h
        obtain ⟨e', he, rfl⟩ := h
        exact ds_ret (eE _ _ _ _ _ a he)
      · cases h
        exact ds_retN
      · simp only [Option.bind_eq_some_iff, Option.map_eq_some_iff] at h
        obtain ⟨c', hc, a', ha, b', hb, rfl⟩ := h
        exact ds_if (eC _ _ _ _ _ a hc) (ihSs _ _ _ a po ha) (ihSs _ _ _ a po hb)
      · split at h
        · cases h
        · rename_i hp
          simp only [Option.bind_eq_some_iff, Option.map_eq_some_iff] at h
          obtain ⟨i', hi, t', ht, b', hb, rfl⟩ := h
          exact ds_loop a.ok po (eI _ _ _ _ _ _ a hi) (eT _ _ _ _ _ a ht) (ihSs _ _ _ a po hb) (set_free (by simpa using hp))
      · simp only [Option.bind_eq_some_iff, Option.map_eq_some_iff] at h
        obtain ⟨c', hc, b', hb, rfl⟩ := h
        exact ds_whl po (eC _ _ _ _ _ a hc) (ihSs _ _ _ a po hb)
      · cases h
        exact ds_brk
      · cases h
        exact ds_ct
      · cases h
        exact ds_pass
      · cases h
        exact ds_never
      · simp only [Option.bind_eq_some_iff, Option.map_eq_some_iff] at h
        obtain ⟨e', he, c', hc, rfl⟩ := h
        exact ds_mtch (tc := wpMs G C.Ed c') (eE _ _ _ _ _ a he) (ihMs _ _ _ a po hc)
      · cases h
    · intro C s c a po h
      unfold compSs at h
      split at h
      · cases h
        exact dss_nil
      · simp only [Option.bind_eq_some_iff, Option.map_eq_some_iff] at h
        obtain ⟨s', hs, r', hr, rfl⟩ := h
        exact dss_cons (t := wpS G C.Ed s') (u := wpSs G C.Ed r') (ihS _ _ _ a po hs) (ihSs _ _ _ a po hr)
    · intro C cs c a po h
      unfold compMs at h
      split at h
      · cases h
        exact dms_nil
      · split at h
        · simp only [Option.map_eq_some_iff] at h
          obtain ⟨b', hb, rfl⟩ := h
          exact dms_dflt (tb := wpSs G C.Ed b') (ihSs _ _ _ a po hb)
        · simp only [Option.bind_eq_some_iff, Option.map_eq_some_iff] at h
          obtain ⟨ks, hk, b', hb, r', hr, rfl⟩ := h
          exact dms_cons (tb := wpSs G C.Ed b') (tr := wpMs G C.Ed r') hk (ihSs _ _ _ a po hb) (ihMs _ _ _ a po hr)
        · cases h
end
end DL

set_option maxHeartbeats 1000000
namespace DL
open PySem PySem.Spec PyProof.Rows L2

/-! ### what is forgotten at a return -/
/-- whatever stands for (d, H) stands for (d', H') -/
def Frz (d : D) (H : MH) (d' : D) (H' : MH) : Prop := ∀ (K : Kz) (h : Hp) (v : V), Is K h H d v → Rep K h H → Is K h H' d' v ∧ Rep K h H' ∧ Sub H' H
/-- H' is H with some places forgotten -/
def Less (H' H : MH) : Prop := ∀ a, H' a = H a ∨ H' a = none
theorem Less.refl {H : MH} : Less H H := fun _ => .inl rfl
theorem Less.upd {H H0 : MH} {p : Addr} {o : MO} (h : Less H0 H) (hp : H0 p = none) : Less H0 (updM H p o) := fun a => by
  by_cases e : a = p
  · rw [e]; exact .inr hp
  · rw [updM_ne e]; exact h a
theorem Less.sub {H' H : MH} (h : Less H' H) : Sub H' H := fun a e => by
  rcases h a with q | q
  · rw [q]; exact e
  · exact q
theorem Less.rep {K : Kz} {h : Hp} {H' H : MH} (l : Less H' H) (r : Rep K h H) : Rep K h H' := by
  refine ⟨fun a o e => ?_, fun a z => ?_⟩
  · have e' : H a = some o := by
      rcases l a with q | q
      · rw [← q]; exact e
      · rw [q] at e; cases e
    have := r.obj a o e'
    cases o with
    | lst ds => obtain ⟨vs, q, t⟩ := this; exact ⟨vs, q, Iss.sub l.sub _ _ t⟩
    | ins C ns ds => obtain ⟨dx, fs, q, n, t⟩ := this; exact ⟨dx, fs, q, n, Iss.sub l.sub _ _ t⟩
    | dk kvs => obtain ⟨us, q, n, t⟩ := this; exact ⟨us, q, n, Iss.sub l.sub _ _ t⟩
    | dt kvs => obtain ⟨us, q, n, t⟩ := this; exact ⟨us, q, n, Iss.sub l.sub _ _ t⟩
  · obtain ⟨o, q, m⟩ := r.hid a z
    exact ⟨o, q, l.sub a m⟩
theorem Frz.less {d : D} {H' H : MH} (l : Less H' H) : Frz d H d H' := fun K h v i r => ⟨Is.sub l.sub d v i, l.rep r, l.sub⟩
theorem Frz.refl {d : D} {H : MH} : Frz d H d H := Frz.less .refl
theorem Frz.rol {p : Addr} {ds : List D} {H' H : MH} (hp : H p = some (.lst ds)) (l : Less H' H) (hn : H' p = none) : Frz (.ref p) H (.rol ds) H' := fun K h v i r => by
  refine ⟨?_, l.rep r, l.sub⟩
  obtain ⟨vs, q, t⟩ := r.obj _ _ hp
  unfold Is
  refine ⟨p, vs, i.ref, .inl ⟨.inl q, hn, fun z => ?_⟩, Iss.sub l.sub _ _ t⟩
  obtain ⟨_, _, m⟩ := r.hid p z
  rw [hp] at m; cases m
/-- the end of a def -/
@[irreducible] def Rt (Q : DK) : DK := fun d H => ∃ d' H', Frz d H d' H' ∧ Q d' H'
@[irreducible] def Ex (E : XDK) : XDK := fun cls fo H => ∃ H', Less H' H ∧ E cls fo H'
@[simp] theorem isTy_ii (i : Int) (H : MH) : isTy (.int i) "int" H = some true := rfl
@[simp] theorem isTy_ib (i : Int) (H : MH) : isTy (.int i) "bool" H = some false := rfl
@[simp] theorem isTy_bi (i : Bool) (H : MH) : isTy (.bl i) "int" H = some true := rfl
@[simp] theorem isTy_bb (i : Bool) (H : MH) : isTy (.bl i) "bool" H = some true := rfl
theorem br_dec {p : Prop} [Decidable p] {A B : Prop} (h1 : p → A) (h2 : ¬ p → B) : br (decide p) A B := by
  by_cases h : p
  · rw [decide_eq_true h]; exact h1 h
  · rw [decide_eq_false h]; exact h2 h
theorem br_b {b : Bool} {A B : Prop} (h1 : b = true → A) (h2 : b = false → B) : br b A B := by
  cases b with
  | true => exact h1 rfl
  | false => exact h2 rfl
theorem Rt.now {Q : DK} {d : D} {H : MH} (q : Q d H) : Rt Q d H := by unfold Rt; exact ⟨d, H, .refl, q⟩
theorem Rt.less {Q : DK} {d : D} {H H' : MH} (l : Less H' H) (q : Q d H') : Rt Q d H := by unfold Rt; exact ⟨d, H', .less l, q⟩
theorem Rt.rol {Q : DK} {p : Addr} {ds : List D} {H H' : MH} (hp : H p = some (.lst ds)) (l : Less H' H) (hn : H' p = none) (q : Q (.rol ds) H') : Rt Q (.ref p) H := by unfold Rt; exact ⟨.rol ds, H', .rol hp l hn, q⟩
@[simp] def startD (N : List Str) (ds : List D) : En := ds.map some ++ List.replicate (N.length - ds.length) none
@[simp] def wpF (G : Gm) (N : List Str) (body : Ss) (ds : List D) (H : MH) (Q : DK) (E : XDK) : Prop := wpSs G (fun _ => Ex E) body { nx := fun _ H1 => Rt Q .non H1, rt := Rt Q } (startD N ds) H

def scopeC (N P : List Str) (sc : Scope) : Bool :=
  (match sc.kind with | .function => true | _ => false) && !sc.isCoroutine && !sc.isGenerator && decide N.Nodup && decide (N.take P.length = P) &&
    P.all (fun x => decide (sc.names.lookup x = some .local) || decide (sc.names.lookup x = some .cell)) && sc.names.all (fun y => decide (y.2 ≠ .free))
theorem scope_of {N P : List Str} {sc : Scope} (h : scopeC N P sc = true) : FnScope N P sc := by
  unfold scopeC at h
  simp only [Bool.and_eq_true, Bool.not_eq_true', decide_eq_true_eq, List.all_eq_true, Bool.or_eq_true] at h
  obtain ⟨⟨⟨⟨⟨⟨h1, h2⟩, h3⟩, h4⟩, h5⟩, h6⟩, h7⟩ := h
  refine ⟨?_, h2, h3, h4, h5, h6, h7⟩
  split at h1
  · assumption
  · cases h1
/-- a def of the module, at a level -/
def FnAt (P : Program) (w : World) (K : PySem.W.Frag) (mg : Str → Option Value) (base : Heap) (k : Nat) (x : Str) (n : Nat) (c : Ctr) : Prop :=
  ∃ f fd ps, ps.length = n ∧ mg x = some (.ref f) ∧ PySem.W.keepIn K (.ref f) = true ∧ Binds K fd ps [] ∧ FnOk P w K mg base (L2.CX P w) k f fd ps (Cl K n c)
theorem FnAt.mono {P : Program} {w : World} {K : PySem.W.Frag} {mg : Str → Option Value} {base : Heap} {j k : Nat} {x : Str} {n : Nat} {c : Ctr} (h : FnAt P w K mg base j x n c) (l : j ≤ k) : FnAt P w K mg base k x n c :=
  let ⟨f, fd, ps, a, b, d, e, F⟩ := h; ⟨f, fd, ps, a, b, d, e, F.mono l⟩
/-- what the head tells of the module -/
structure Mo (P : Program) (w : World) (K : PySem.W.Frag) (mg : Str → Option Value) (base : Heap) (B : List Str) (gv : Str → Option D) : Prop where
  seer : base.NoSeer
  tree : P.given.tree = none
  bl : ∀ x, B.contains x = true → mg x = none
  gv : ∀ x d, gv x = some d → ∃ u v, mg x = some u ∧ RelV v u ∧ ∀ (Z : Addr → Prop) H Hm, Is ⟨K, Z⟩ H Hm d v
section
variable {P : Program} {w : World} {K : PySem.W.Frag} {mg : Str → Option Value} {base : Heap}
theorem fn_sound {x qual : Str} {st : Stmt} {f : Addr} {fd : FuncData} (F : Fun K x qual st f fd) {p : Pm} {ps : List Str} {n k : Nat} {G : Gm} {body : Ss} {c : Ctr}
    (hsc : scopeC p.N ps (defScope st) = true) (hb : compSs p n (defScope st) (defBody st) = some body) (hk : 40 ≤ k) (M : Mo P w K mg base p.B G.gv)
    (hG : ∀ x, p.F.contains x = true → ∃ n c, G.fn x = some (n, c) ∧ FnAt P w K mg base k x n c)
    (hc : ∀ ds H Q E, c ds H Q E → wpF G p.N body ds H Q E) : FnOk P w K mg base (L2.CX P w) (k + 1) f fd ps (Cl K ps.length c) := by
  have S := scope_of hsc
  refine F.okX S (fun vs H Q E h => ?_) (fun cdv A outer s H vs Q E hr h => ?_)
  · obtain ⟨Z, ds, Hm, Qd, Ed, hl, rep, is, _⟩ := h
    rw [is.length, hl]
  · obtain ⟨Z, ds, Hm, Qd, Ed, hl, rep, is, hq, bh, hx⟩ := h
    let C : Co := ⟨cxOf (L2.CX P w) P w K mg base p.N qual (defScope st) f cdv A outer s H E, Z, Hm, H, fun _ => Ex Ed, fun cls d _ H' => E cls d H'⟩
    have hr40 : Room 40 C.X.A := hr.mono hk
    have ok : C.Ok := ⟨⟨rfl, S.nd, hr40, ⟨M.seer, M.tree, by have := hr40.dp; show C.X.A.depth + 100 < _; omega, ⟨_, _, rfl, S.gen, S.co, rfl, rfl⟩⟩⟩, takes_of rfl rfl rfl rfl, fun σ H' σd Hm' cls a fo r xi e => by
      have e : Ex Ed cls fo Hm' := e
      unfold Ex at e
      obtain ⟨H2, l, e⟩ := e
      have n2 : NT Hm H H2 H' := fun b o q m => by
        obtain ⟨e1, m1⟩ := r.nt b o q m
        exact ⟨e1, l.sub b m1⟩
      refine hx cls a fo H' H2 n2 (l.rep r.rep) ?_ e
      cases a with
      | none => cases fo with
        | none => trivial
        | some z => exact xi.elim
      | some a => cases fo with
        | none => exact xi.elim
        | some z =>
          obtain ⟨fs, e1, ⟨m1, z1⟩, nm, t⟩ := xi
          exact ⟨fs, e1, ⟨l.sub a m1, z1⟩, nm, Iss.sub l.sub _ _ t⟩⟩
    have at0 : At p G false (defScope st) C := ⟨ok, rfl, rfl, ⟨fun x hx => by
      obtain ⟨n, c, e, f', fd', ps', a1, a2, a3, a4, a5⟩ := hG x hx
      exact ⟨n, c, e, f', fd', ps', k, a1, a2, a3, a4, a5, hr⟩, M.gv, M.bl⟩, fun _ _ => rfl, S.kind⟩
    refine ⟨_, (soundS (p := p) (G := G) n).2.1 C _ body at0 PassesOwn.leaving hb, ?_⟩
    refine ⟨startD p.N ds, Hm, _, ⟨⟨?_, fun i d e => ?_⟩, rep, .refl⟩, hc ds Hm Qd Ed hq, ?_⟩
    · unfold startD L2.start
      simp only [List.length_append, List.length_map, List.length_replicate, is.length]
    · unfold startD at e
      unfold L2.start
      by_cases hi : i < ds.length
      · rw [List.getElem?_append_left (by rw [List.length_map]; exact hi), List.getElem?_map] at e
        cases q : ds[i]? with
        | none => rw [q] at e; cases e
        | some d' =>
          rw [q] at e; cases e
          obtain ⟨v, hv, iv⟩ := is.get q
          exact ⟨v, by rw [List.getElem?_append_left (by rw [List.length_map, is.length]; exact hi), List.getElem?_map, hv]; rfl, iv⟩
      · rw [List.getElem?_append_right (by rw [List.length_map]; omega), List.getElem?_replicate] at e
        split at e <;> cases e
    · have fin : Bh ⟨K, Z⟩ Hm H (Rt Qd) Q := fun v H' d Hm' n r i q => by
        unfold Rt at q
        obtain ⟨d', H2, fz, q⟩ := q
        obtain ⟨i2, r2, s2⟩ := fz _ _ _ i r
        exact bh v H' d' H2 (fun b o e m => by
          obtain ⟨e1, m1⟩ := n b o e m
          exact ⟨e1, s2 b m1⟩) r2 i2 q
      exact ⟨fun σ' H' σd' Hm' n s' q => fin .non H' .non Hm' n s'.rep is_non q, fun _ _ _ _ _ _ q => q, fun _ _ _ _ _ _ q => q, fin⟩
end
end DL

set_option maxHeartbeats 1000000
namespace DL
open PySem PySem.Spec PyProof.Rows L2

/-- the law's promise: for a script of whole numbers, True -/
def lawC : Ctr := fun ds H Q _ => ∃ ns : List Int, ds = [.rol (ns.map D.int)] ∧ ns.length ≤ 63 ∧ (∀ z ∈ ns, Builtin.Int.intBits z ≤ 1048576) ∧ Q (.bl true) H
section
variable {P : Program} {w : World} {K : PySem.W.Frag} {mg mb : Str → Option Value} {k : Nat} {fa : Addr} {s₁ : Shared} {vs : List Value} {ns : List Int}
theorem hidden_ns {H : Hp} {h : Heap} {b : Addr} {m : Str → Option Value} (n : h.Ns b m) (free : ∀ o es ep, h.get? b = some o → o.data = .dict es ep → H b = none) : (hidT h H).Ns b m := by
  obtain ⟨o, es, ep, e, d, r⟩ := n
  exact ⟨o, es, ep, hidT_get e (free o es ep e d), d, r⟩
/-- the script as a place: the call of the law from where the head leaves -/
theorem end_at {a : Addr} {fd : FuncData} {x : Str} {H : Hp} (KX : K.In s₁.heap) (hns : s₁.heap.Ns mainGlobals mg) (hb : s₁.heap.Ns builtinsNs mb) (hbb : ∀ x : Str, x ≠ "__name__" → mb x = bootBuiltins x)
    (hlim : s₁.heap.NoLimit) (hse : s₁.heap.NoSeer) (hg : s₁.gens = #[]) (ha : s₁.heap.get? a = some { cls := .type "list", data := .seq vs.toArray })
    (hr : Room k callerA) (hbind : ∀ (s : Shared) (u : Value), BindsTo s fd ⟨[u], []⟩ [(x, u)])
    (F : ∀ base : Heap, K.In base → base.Ns mainGlobals mg → base.NoSeer → FnOk P w K mg base (L2.CX P w) k fa fd [x] (Cl K 1 lawC))
    (hlen : ns.length ≤ 63) (hbits : ∀ z ∈ ns, Builtin.Int.intBits z ≤ 1048576)
    (hS : (∃ o, H a = some (.frz o (.lst (ns.map V.int)))) ∨ WL K a (ns.map V.int)) (hok : HOk P w H s₁.heap) (honly : ∀ b u, H b = some u → b = a ∧ ∃ o xs, u = .frz o (.lst xs)) (hK : H a ≠ none → K.lookup a = none) :
    codeAny (model P w) callerA (.call (.ref fa) ⟨[.ref a], []⟩) (fun r s' => r = .ok (.ret (.bool true)) ∧ OldK s₁.heap s'.heap ∧ s'.os = s₁.os ∧ AllBare s'.gens) s₁ := by
  have notDict : ∀ (b : Addr) (o : Obj) (es : Array DictEntry) (ep : Nat), s₁.heap.get? b = some o → o.data = .dict es ep → H b = none := by
    intro b o es ep e d
    cases q : H b with
    | none => rfl
    | some u =>
      obtain ⟨rfl, _⟩ := honly b u q
      rw [ha] at e
      cases e
      cases d
  have ns' : ∀ {b : Addr} {m : Str → Option Value}, s₁.heap.Ns b m → (hidT s₁.heap H).Ns b m := fun n => hidden_ns n (notDict _)
  have kin : K.In (hidT s₁.heap H) := by
    intro b o e
    refine hidT_get (KX b o e) ?_
    cases q : H b with
    | none => rfl
    | some u =>
      obtain ⟨rfl, _⟩ := honly b u q
      rw [hK (by rw [q]; simp)] at e
      cases e
  have seer : (hidT s₁.heap H).NoSeer := by
    obtain ⟨⟨mc, c1, c2⟩, ⟨mm, m1, m2⟩, ⟨mi, i1, i2⟩, ⟨mq, bm, ob, g1, g2, g3, g4, g5⟩⟩ := hse
    refine ⟨⟨mc, ns' c1, c2⟩, ⟨mm, ns' m1, m2⟩, ⟨mi, ns' i1, i2⟩, ⟨mq, bm, ob, ns' g1, g2, hidT_get g3 ?_, g4, g5⟩⟩
    cases q : H bm with
    | none => rfl
    | some u =>
      obtain ⟨rfl, _⟩ := honly bm u q
      rw [ha] at g3
      have g3 := Option.some.inj g3
      rw [← g3] at g4
      exact absurd (show Value.type "list" = Value.type "module" from g4) (by decide)
  have mod : Mod K mg (hidT s₁.heap H) := by
    obtain ⟨mc, c1, c2⟩ := hlim
    exact ⟨kin, ns' hns, ⟨mb, ns' hb, hbb⟩, ⟨mc, ns' c1, c2⟩⟩
  have start0 : Env0 P w K mg (hidT s₁.heap H) callerA [] s₁ H := by
    refine ⟨rfl, mod, fun b o e => of_hidT e, Nat.le_of_eq (hidT_size _ _), trivial, ?_, hok, .of_eq hg⟩
    intro b hb
    cases hb
  have want : Cl K 1 lawC [.ref a] H (fun v _ => v = .bl true) fun _ _ _ => False := by
    refine ⟨fun _ => False, [.rol (ns.map D.int)], fun _ => none, fun d _ => d = .bl true, fun _ _ _ => False, rfl, ⟨(fun _ _ e => by cases e), (fun _ z => z.elim)⟩, ?_, ⟨ns, rfl, hlen, hbits, rfl⟩, ?_, fun _ _ _ _ _ _ _ _ z => z⟩
    · refine .cons ?_ .nil
      unfold Is
      refine ⟨a, ns.map V.int, rfl, ?_, Iss.of_ints ns⟩
      rcases hS with ⟨o, e⟩ | e
      · exact .inl ⟨.inr ⟨o, e⟩, rfl, fun z => z⟩
      · exact .inr e
    · intro v H' d Hm' _ _ i e
      subst e
      exact i.bl
  have run := (F _ kin (ns' hns) seer).run callerA [] s₁ H ⟨[.ref a], []⟩ [.ref a] [.ref a] _ _ hr start0 (hbind s₁ (.ref a)) (.cons rfl .nil) want
  refine codeAny_mono run fun r s' h => ?_
  rcases r with e | fl
  · obtain ⟨_, _, _, _, _, _, _, _, _, _, _, _, z⟩ := (show L2.CX P w [] H s₁ (fun _ _ _ => False) e s' from h)
    exact z.elim
  · cases fl with
    | ret u =>
      obtain ⟨v, H', os, bare, un, hok', rv, q⟩ := h
      have q : v = .bl true := q
      subst q
      have eu : u = Value.bool true := rv
      refine ⟨by rw [eu], OldK.of_keep fun b o e => ?_, os, bare⟩
      cases q : H b with
      | none => exact un.keep b o e q (fun z => nomatch z) (fun z => nomatch z)
      | some u =>
        obtain ⟨_, o2, xs, rfl⟩ := honly b u q
        have e1 := (hok b _ q).1
        have e2 := (hok' b _ (un.frzs b o2 _ q)).1
        rw [e] at e1
        cases e1
        exact e2
    | next => exact False.elim h
    | brk => exact False.elim h
    | cont => exact False.elim h
theorem end_call {a : Addr} {fd : FuncData} {x : Str} (KX : K.In s₁.heap) (hns : s₁.heap.Ns mainGlobals mg) (hb : s₁.heap.Ns builtinsNs mb) (hbb : ∀ x : Str, x ≠ "__name__" → mb x = bootBuiltins x)
    (hlim : s₁.heap.NoLimit) (hse : s₁.heap.NoSeer) (hg : s₁.gens = #[]) (ha : s₁.heap.get? a = some { cls := .type "list", data := .seq vs.toArray }) (hi : IntsAre vs ns)
    (hr : Room k callerA) (hbind : ∀ (s : Shared) (u : Value), BindsTo s fd ⟨[u], []⟩ [(x, u)])
    (F : ∀ base : Heap, K.In base → base.Ns mainGlobals mg → base.NoSeer → FnOk P w K mg base (L2.CX P w) k fa fd [x] (Cl K 1 lawC))
    (hlen : ns.length ≤ 63) (hbits : ∀ z ∈ ns, Builtin.Int.intBits z ≤ 1048576) :
    codeAny (model P w) callerA (.call (.ref fa) ⟨[.ref a], []⟩) (fun r s' => r = .ok (.ret (.bool true)) ∧ OldK s₁.heap s'.heap ∧ s'.os = s₁.os ∧ AllBare s'.gens) s₁ := by
  have rv : Vals (ns.map V.int) vs := vals_ints hi
  have lv : vs.length = ns.length := hi.length
  have small : ns.length ≤ sizeLine := Nat.le_trans hlen (by decide)
  cases hk : K.lookup a with
  | some o =>
    have e := KX a o hk
    rw [ha] at e
    cases e
    refine end_at (H := fun _ => none) KX hns hb hbb hlim hse hg ha hr hbind F hlen hbits (.inr ?_) (fun _ _ z => by cases z) (fun _ _ z => by cases z) (fun z => (z rfl).elim)
    exact ⟨_, vs.toArray, _, hk, rfl, rfl, rfl, by rw [List.size_toArray, lv]; exact small, rv⟩
  | none =>
    have at1 : ∀ (b : Addr) (u : HO), (if b = a then some (HO.frz { cls := .type "list", data := .seq vs.toArray } (.lst (ns.map V.int))) else none) = some u → b = a ∧ u = .frz { cls := .type "list", data := .seq vs.toArray } (.lst (ns.map V.int)) := by
      intro b u e
      by_cases h : b = a
      · rw [if_pos h] at e
        exact ⟨h, (Option.some.inj e).symm⟩
      · rw [if_neg h] at e
        cases e
    refine end_at (H := fun b => if b = a then some (HO.frz { cls := .type "list", data := .seq vs.toArray } (.lst (ns.map V.int))) else none) KX hns hb hbb hlim hse hg ha hr hbind F hlen hbits (.inl ⟨_, if_pos rfl⟩) ?_ ?_ fun _ => hk
    · intro b u e
      obtain ⟨rfl, rfl⟩ := at1 b u e
      exact ⟨ha, by rw [List.length_map]; exact small, vs, _, rv, ha⟩
    · intro b u e
      obtain ⟨h1, h2⟩ := at1 b u e
      exact ⟨h1, _, _, h2⟩
end
/-- THE END of a law row -/
theorem law_end {l : PySem.W.OpenLaw} {q : Program} {loose : List Str} {XP : (Str → Option Value) → Heap → Prop} {YP : World → Heap → Prop} {d : DefRec} {K : Params → PySem.W.Frag} {k : Nat} {x : Str}
    (hn : l.most = some 63) (hq : importsNone q = true) (hdf : d.params.defaults = []) (hr : Room k callerA) (hY : ∀ (w : World) (h : Heap), YP w h → (K w.params).In h)
    (F : ∀ (w : World) (mg : Str → Option Value) (fa : Addr) (h : Heap), (K w.params).In h → h.Ns mainGlobals mg → mg d.name = some (.ref fa) →
      ∃ fd : FuncData, (∀ (s : Shared) (u : Value), BindsTo s fd ⟨[u], []⟩ [(x, u)]) ∧
        ∀ base : Heap, (K w.params).In base → base.Ns mainGlobals mg → base.NoSeer → FnOk l.prog w (K w.params) mg base (L2.CX l.prog w) k fa fd [x] (Cl (K w.params) 1 lawC)) :
    PySem.W.WalkO q loose XP YP l.row.toRowW d [] (fun f vs => PySem.call f vs) := by
  refine Att.attach_callB hn hdf fun w s₀ s₁ mg mb fa o pm cd doc a vs ns G Y ho hd hcd hmg hobj hints hlen hbits hg => ?_
  have KX := hY w _ Y
  obtain ⟨fd, hb, hF⟩ := F w mg fa _ KX G.T.g hmg
  exact end_call KX G.T.g G.T.b G.T.builtins G.T.nolimit (G.T.seer hq) hg hobj hints hr hb hF hlen hbits
end DL

set_option maxHeartbeats 1000000
namespace DL
open PySem PySem.Spec PyProof.Rows L2

/-- a def of the module's top, as the head leaves it -/
def FnK (K : PySem.W.Frag) (x : Str) (st : Stmt) : Prop := ∃ f fd, PySem.W.nsIn K mainGlobals x = some (some (.ref f)) ∧ Fun K x x st f fd
theorem fnk_mk {K : PySem.W.Frag} {x : Str} {st : Stmt} {f : Addr} {oc : Value} {od an : Option Addr} {osl : Array (Option Value)} {kV doc pm cdv ct : Value}
    {h : Heap} (_X : K.In h) (a : PySem.W.nsIn K mainGlobals x = some (some (.ref f))) (l : K.lookup f = some ⟨oc, od, .func (PySem.W.fnOf x x (defArgs st) (defBody st) (defScope st) .none kV doc pm an cdv ct), osl⟩)
    (c : PySem.W.codeIn K cdv x = true) (k : PySem.W.keepIn K (.ref f) = true) : FnK K x st := ⟨f, _, a, fun_mk l c k⟩
theorem nsk {K : PySem.W.Frag} {h : Heap} (_X : K.In h) {x : Str} (a : PySem.W.nsIn K mainGlobals x = some none) : PySem.W.nsIn K mainGlobals x = some none := a
section
variable {P : Program} {w : World} {K : PySem.W.Frag} {mg : Str → Option Value} {base : Heap} {G : Gm} {k : Nat}
def Prev (P : Program) (w : World) (K : PySem.W.Frag) (mg : Str → Option Value) (base : Heap) (G : Gm) (k : Nat) (F : List Str) : Prop :=
  ∀ y, F.contains y = true → ∃ n c, G.fn y = some (n, c) ∧ FnAt P w K mg base k y n c
theorem prev_nil : Prev P w K mg base G k [] := fun y h => by cases h
theorem prev_cons {x : Str} {F : List Str} {n : Nat} {c : Ctr} (h : Prev P w K mg base G k F) (e : G.fn x = some (n, c)) (f : FnAt P w K mg base (k + 1) x n c) : Prev P w K mg base G (k + 1) (x :: F) := fun y hy => by
  rw [List.contains_cons, Bool.or_eq_true] at hy
  rcases hy with hy | hy
  · have : y = x := by simpa using hy
    rw [this]
    exact ⟨n, c, e, f⟩
  · obtain ⟨m, c', e', f'⟩ := h y hy
    exact ⟨m, c', e', f'.mono (Nat.le_succ k)⟩
theorem prev_add {x : Str} {F : List Str} {n j : Nat} {c : Ctr} (h : Prev P w K mg base G k F) (l : k ≤ j) (e : G.fn x = some (n, c)) (f : FnAt P w K mg base j x n c) : Prev P w K mg base G j (x :: F) := fun y hy => by
  rw [List.contains_cons, Bool.or_eq_true] at hy
  rcases hy with hy | hy
  · have : y = x := by simpa using hy
    rw [this]
    exact ⟨n, c, e, f⟩
  · obtain ⟨m, c', e', f'⟩ := h y hy
    exact ⟨m, c', e', f'.mono l⟩
theorem fn_step {x : Str} {st : Stmt} {N B F : List Str} {mu : List (Nat × Nat)} {ps : List Str} {n : Nat} {body : Ss} {c : Ctr} (X : K.In base) (hns : base.Ns mainGlobals mg) (M : Mo P w K mg base B G.gv) (hf : FnK K x st)
    (hb : ∀ (kV doc pm : Value) (an : Option Addr) (cdv ct : Value) (us : List Value), us.length = ps.length → bindArgs (PySem.W.fnOf x x (defArgs st) (defBody st) (defScope st) .none kV doc pm an cdv ct) ⟨us, []⟩ = pure (ps.zip us))
    (hsc : scopeC N ps (defScope st) = true) (hcomp : compSs ⟨N, B, F, mu⟩ n (defScope st) (defBody st) = some body) (hk : 40 ≤ k) (hprev : Prev P w K mg base G k F)
    (hc : ∀ ds H Q E, c ds H Q E → wpF G N body ds H Q E) : FnAt P w K mg base (k + 1) x ps.length c := by
  obtain ⟨f, fd, a, F0⟩ := hf
  exact ⟨f, fd, ps, rfl, PySem.W.mg_of X hns a, F0.kp, F0.binds hb, fn_sound F0 (p := ⟨N, B, F, mu⟩) hsc hcomp hk M hprev hc⟩
/-- one name read anew -/
def Gm.ovr (G : Gm) (x : Str) (n : Nat) (c : Ctr) : Gm := ⟨fun y => if y = x then some (n, c) else G.fn y, G.gv⟩
theorem Gm.ovr_same {G : Gm} {x : Str} {n : Nat} {c : Ctr} : (G.ovr x n c).fn x = some (n, c) := if_pos rfl
theorem Gm.ovr_ne {G : Gm} {x y : Str} {n : Nat} {c : Ctr} (h : y ≠ x) : (G.ovr x n c).fn y = G.fn y := if_neg h
theorem prev_ovr {x : Str} {F : List Str} {n : Nat} {c : Ctr} (h : Prev P w K mg base G k F) (hx : F.contains x = false) (f : FnAt P w K mg base k x n c) : Prev P w K mg base (G.ovr x n c) k (x :: F) := fun y hy => by
  by_cases e : y = x
  · subst e
    exact ⟨n, c, Gm.ovr_same, f⟩
  · rw [List.contains_cons, Bool.or_eq_true] at hy
    rcases hy with hy | hy
    · exact absurd (by simpa using hy) e
    · obtain ⟨m, c', e', f'⟩ := h y hy
      exact ⟨m, c', by rw [Gm.ovr_ne e]; exact e', f'⟩
theorem prev_up {F : List Str} {j : Nat} (h : Prev P w K mg base G k F) (l : k ≤ j) : Prev P w K mg base G j F := fun y hy => by
  obtain ⟨m, c', e', f'⟩ := h y hy
  exact ⟨m, c', e', f'.mono l⟩
/-- a def that calls itself, d deep at most -/
theorem fn_rec {x : Str} {st : Stmt} {N B F : List Str} {mu : List (Nat × Nat)} {ps : List Str} {n : Nat} {body : Ss} {c : Nat → Ctr} (X : K.In base) (hns : base.Ns mainGlobals mg) (M : Mo P w K mg base B G.gv) (hf : FnK K x st)
    (hb : ∀ (kV doc pm : Value) (an : Option Addr) (cdv ct : Value) (us : List Value), us.length = ps.length → bindArgs (PySem.W.fnOf x x (defArgs st) (defBody st) (defScope st) .none kV doc pm an cdv ct) ⟨us, []⟩ = pure (ps.zip us))
    (hsc : scopeC N ps (defScope st) = true) (hcomp : compSs ⟨N, B, x :: F, mu⟩ n (defScope st) (defBody st) = some body) (hk : 40 ≤ k) (hprev : Prev P w K mg base G k F) (hx : F.contains x = false)
    (h0 : ∀ ds H Q E, ¬ c 0 ds H Q E) (hc : ∀ d ds H Q E, c (d + 1) ds H Q E → wpF (G.ovr x ps.length (c d)) N body ds H Q E) : ∀ d, FnAt P w K mg base (k + 1 + d) x ps.length (c d)
  | 0 => by
    obtain ⟨f, fd, a, F0⟩ := hf
    refine ⟨f, fd, ps, rfl, PySem.W.mg_of X hns a, F0.kp, F0.binds hb, ?_⟩
    exact F0.okX (scope_of hsc) (fun vs H Q E h => by
      obtain ⟨Z, ds, Hm, Qd, Ed, hl, rep, is, hq, _⟩ := h
      exact absurd hq (h0 _ _ _ _)) (fun cdv A outer s H vs Q E hr h => by
      obtain ⟨Z, ds, Hm, Qd, Ed, hl, rep, is, hq, _⟩ := h
      exact absurd hq (h0 _ _ _ _))
  | d + 1 => by
    have ih := fn_rec X hns M hf hb hsc hcomp hk hprev hx h0 hc d
    have l : k ≤ k + 1 + d := by omega
    exact fn_step (G := G.ovr x ps.length (c d)) X hns M hf hb hsc hcomp (Nat.le_trans hk l) (prev_ovr (prev_up hprev l) hx ih) (hc d)
/-- the law itself -/
theorem law_fin {h : Heap} {fa : Addr} {x : Str} {st : Stmt} {N B F : List Str} {mu : List (Nat × Nat)} {sn : Str} {n : Nat} {body : Ss} (X : K.In h) (hns : h.Ns mainGlobals mg) (hmg : mg x = some (.ref fa)) (hf : FnK K x st)
    (hb : ∀ (kV doc pm : Value) (an : Option Addr) (cdv ct : Value) (u : Value), bindArgs (PySem.W.fnOf x x (defArgs st) (defBody st) (defScope st) .none kV doc pm an cdv ct) ⟨[u], []⟩ = pure [(sn, u)])
    (hsc : scopeC N [sn] (defScope st) = true) (hcomp : compSs ⟨N, B, F, mu⟩ n (defScope st) (defBody st) = some body) (hk : 40 ≤ k) (hc : ∀ ds H Q E, lawC ds H Q E → wpF G N body ds H Q E)
    (hp : ∀ base, K.In base → base.Ns mainGlobals mg → base.NoSeer → Mo P w K mg base B G.gv ∧ Prev P w K mg base G k F) :
    ∃ fd : FuncData, (∀ (s : Shared) (u : Value), BindsTo s fd ⟨[u], []⟩ [(sn, u)]) ∧
      ∀ base : Heap, K.In base → base.Ns mainGlobals mg → base.NoSeer → FnOk P w K mg base (L2.CX P w) (k + 1) fa fd [sn] (Cl K 1 lawC) := by
  obtain ⟨f, fd, a, F0⟩ := hf
  have e := PySem.W.mg_of X hns a
  rw [hmg] at e
  cases e
  refine ⟨fd, fun s u => ?_, fun base hX hN hS => ?_⟩
  · obtain ⟨oc, od, kV, doc, pm, an, cdv, ct, osl, rfl, lk, hcd⟩ := F0.ex
    exact BindsTo.of_eq (hb kV doc pm an cdv ct u)
  · obtain ⟨M, pr⟩ := hp base hX hN hS
    exact fn_sound F0 (p := ⟨N, B, F, mu⟩) hsc hcomp hk M pr hc
end
/-! ### constants of the module -/
def GvK (K : PySem.W.Frag) (x : Str) (d : D) : Prop := ∃ u v, PySem.W.nsIn K mainGlobals x = some (some u) ∧ RelV v u ∧ ∀ (Z : Addr → Prop) H Hm, Is ⟨K, Z⟩ H Hm d v
def flatU : Value → Option (D × V)
  | .none => some (.non, .non)
  | .bool b => some (.bl b, .bl b)
  | .int i _ => some (.int i, .int i)
  | .str x _ => some (.str x, .str x)
  | _ => none
theorem flatU_is {u : Value} {d : D} {v : V} (h : flatU u = some (d, v)) : RelV v u ∧ ∀ (K : Kz) H Hm, Is K H Hm d v := by
  cases u <;> simp only [flatU, Option.some.injEq, Prod.mk.injEq, reduceCtorEq] at h
  all_goals (obtain ⟨rfl, rfl⟩ := h)
  · exact ⟨rfl, fun _ _ _ => by unfold Is; rfl⟩
  · exact ⟨rfl, fun _ _ _ => by unfold Is; rfl⟩
  · exact ⟨⟨_, rfl⟩, fun _ _ _ => by unfold Is; rfl⟩
  · exact ⟨⟨_, rfl⟩, fun _ _ _ => by unfold Is; rfl⟩
theorem flatU_all : ∀ {us : List Value} {ds : List D}, us.map (fun u => (flatU u).map (·.1)) = ds.map some → ∃ vs, Vals vs us ∧ ∀ (K : Kz) H Hm, Iss K H Hm ds vs
  | [], [], _ => ⟨[], .nil, fun _ _ _ => .nil⟩
  | [], _ :: _, h => by cases h
  | _ :: _, [], h => by cases h
  | u :: us, d :: ds, h => by
    rw [List.map_cons, List.map_cons, List.cons.injEq] at h
    obtain ⟨vs, r, q⟩ := flatU_all h.2
    cases e : flatU u with
    | none => rw [e] at h; cases h.1
    | some z =>
      obtain ⟨d', v⟩ := z
      rw [e] at h
      have e2 : d' = d := Option.some.inj h.1
      subst e2
      obtain ⟨r1, q1⟩ := flatU_is e
      exact ⟨v :: vs, .cons r1 r, fun K H Hm => .cons (q1 K H Hm) (q K H Hm)⟩
theorem gvk_tup {K : PySem.W.Frag} {x : Str} {A : Addr} {od : Option Addr} {its : Array Value} {n : Nat} {osl : Array (Option Value)} {ds : List D} {h : Heap} (_X : K.In h) (a : PySem.W.nsIn K mainGlobals x = some (some (.ref A)))
    (l : K.lookup A = some ⟨.type "tuple", od, .seq its n, osl⟩) (hs : its.size ≤ 1000) (hv : its.toList.map (fun u => (flatU u).map (·.1)) = ds.map some) : GvK K x (.tup ds) := by
  obtain ⟨vs, r, q⟩ := flatU_all hv
  refine ⟨_, .ref A, a, rfl, fun Z H Hm => ?_⟩
  unfold Is
  exact ⟨A, vs, rfl, .inr ⟨_, its, n, l, rfl, rfl, Nat.le_trans hs (by decide), r⟩, q _ _ _⟩
theorem gvk_flat {K : PySem.W.Frag} {x : Str} {u : Value} {d : D} {h : Heap} (_X : K.In h) (a : PySem.W.nsIn K mainGlobals x = some (some u)) (hv : (flatU u).map (·.1) = some d) : GvK K x d := by
  cases e : flatU u with
  | none => rw [e] at hv; cases hv
  | some z =>
    obtain ⟨d', v⟩ := z
    rw [e] at hv
    have e2 : d' = d := Option.some.inj hv
    subst e2
    obtain ⟨r1, q1⟩ := flatU_is e
    exact ⟨u, v, a, r1, fun Z H Hm => q1 _ _ _⟩
def GvAll (K : PySem.W.Frag) (mg : Str → Option Value) (r : List (Str × D)) : Prop := ∀ x d, r.lookup x = some d → ∃ u v, mg x = some u ∧ RelV v u ∧ ∀ (Z : Addr → Prop) H Hm, Is ⟨K, Z⟩ H Hm d v
theorem gvs_nil {K : PySem.W.Frag} {mg : Str → Option Value} : GvAll K mg [] := fun _ _ e => by cases e
theorem gvs_cons {K : PySem.W.Frag} {mg : Str → Option Value} {base : Heap} {x0 : Str} {d0 : D} {r : List (Str × D)} (X : K.In base) (hns : base.Ns mainGlobals mg) (g : GvK K x0 d0) (t : GvAll K mg r) : GvAll K mg ((x0, d0) :: r) := fun x d e => by
  rw [List.lookup_cons] at e
  cases q : x == x0 with
  | true =>
    rw [q] at e
    cases e
    have : x = x0 := by simpa using q
    subst this
    obtain ⟨u, v, a, r1, q1⟩ := g
    exact ⟨u, v, PySem.W.mg_of X hns a, r1, q1⟩
  | false =>
    rw [q] at e
    exact t x d e
end DL

set_option maxHeartbeats 1000000
namespace DL
open PySem PySem.Spec PyProof.Rows L2
def N__law_whole : List Str := ["got"]
def b__law_whole : Ss := (.cons (.ret (.and (.bi false .isi (.cons (.v 0) (.cons (.ty "int") .nil))) (.not (.bi false .isi (.cons (.v 0) (.cons (.ty "bool") .nil)))))) .nil)
def N__law_same : List Str := ["got", "due", "k"]
def b__law_same : Ss := (.cons (.cond (.or (.bi false .isi (.cons (.v 1) (.cons (.ty "tuple") .nil))) (.bi false .isi (.cons (.v 1) (.cons (.ty "list") .nil)))) (.cons (.cond (.and (.bi false .isi (.cons (.v 1) (.cons (.ty "tuple") .nil))) (.not (.bi false .isi (.cons (.v 0) (.cons (.ty "tuple") .nil))))) (.cons (.ret (.k (.bl false))) .nil) .nil) (.cons (.cond (.and (.bi false .isi (.cons (.v 1) (.cons (.ty "list") .nil))) (.not (.bi false .isi (.cons (.v 0) (.cons (.ty "list") .nil))))) (.cons (.ret (.k (.bl false))) .nil) .nil) (.cons (.cond (.cmp .NotEq (.bi false .len (.cons (.v 0) .nil)) (.bi false .len (.cons (.v 1) .nil))) (.cons (.ret (.k (.bl false))) .nil) .nil) (.cons (.loop (.nm 2) (.rng1 (.bi false .len (.cons (.v 1) .nil))) (.cons (.cond (.not (.call "_law_same" (.cons (.ix (.v 0) (.v 2)) (.cons (.ix (.v 1) (.v 2)) .nil)))) (.cons (.ret (.k (.bl false))) .nil) .nil) .nil)) (.cons (.ret (.k (.bl true))) .nil))))) .nil) (.cons (.cond (.cmp .Is (.v 1) (.k .non)) (.cons (.ret (.cmp .Is (.v 0) (.k .non))) .nil) .nil) (.cons (.cond (.bi false .isi (.cons (.v 1) (.cons (.ty "bool") .nil))) (.cons (.ret (.and (.bi false .isi (.cons (.v 0) (.cons (.ty "bool") .nil))) (.cmp .Eq (.v 0) (.v 1)))) .nil) .nil) (.cons (.cond (.bi false .isi (.cons (.v 1) (.cons (.ty "int") .nil))) (.cons (.ret (.and (.call "_law_whole" (.cons (.v 0) .nil)) (.cmp .Eq (.v 0) (.v 1)))) .nil) .nil) (.cons (.ret (.and (.bi false .isi (.cons (.v 0) (.cons (.ty "str") .nil))) (.cmp .Eq (.v 0) (.v 1)))) .nil)))))
def N_cut : List Str := ["block", "rect", "part", "left", "top", "right", "bottom", "row"]
def b_cut : Ss := (.cons (.asg (.nm 3) (.bin false .Sub (.ix (.v 2) (.k (.int 0))) (.ix (.v 1) (.k (.int 0))))) (.cons (.asg (.nm 4) (.bin false .Sub (.ix (.v 2) (.k (.int 1))) (.ix (.v 1) (.k (.int 1))))) (.cons (.asg (.nm 5) (.bin false .Sub (.ix (.v 2) (.k (.int 2))) (.ix (.v 1) (.k (.int 0))))) (.cons (.asg (.nm 6) (.bin false .Sub (.ix (.v 2) (.k (.int 3))) (.ix (.v 1) (.k (.int 1))))) (.cons (.ret (.bi false .tuple (.cons (.lc false (.bi false .tuple (.cons (.sl false (.v 7) (.so (.v 3)) (.so (.v 5))) .nil)) (.nm 7) (.seq (.sl false (.v 0) (.so (.v 4)) (.so (.v 6)))) .nil [7]) .nil))) .nil)))))
def N__law_block : List Str := ["things", "rect", "rows", "y", "x"]
def b__law_block : Ss := (.cons (.asg (.nm 2) (.lst true .nil)) (.cons (.loop (.nm 3) (.rng2 (.ix (.v 1) (.k (.int 1))) (.ix (.v 1) (.k (.int 3)))) (.cons (.ex (.mth false (.v 2) .append (.cons (.bi false .tuple (.cons (.lc false (.dixT (.v 0) (.cons (.v 4) (.cons (.v 3) .nil))) (.nm 4) (.rng2 (.ix (.v 1) (.k (.int 0))) (.ix (.v 1) (.k (.int 2)))) .nil [4]) .nil)) .nil))) .nil)) (.cons (.ret (.bi false .tuple (.cons (.v 2) .nil))) .nil)))
def N__law_cuts : List Str := ["things", "rect", "part", "inner", "block", "piece", "due"]
def b__law_cuts : Ss := (.cons (.asg (.nm 4) (.call "_law_block" (.cons (.v 0) (.cons (.v 1) .nil)))) (.cons (.asg (.nm 5) (.call "cut" (.cons (.v 4) (.cons (.v 1) (.cons (.v 2) .nil))))) (.cons (.cond (.or (.not (.call "_law_same" (.cons (.v 5) (.cons (.call "_law_block" (.cons (.v 0) (.cons (.v 2) .nil))) .nil)))) (.not (.call "_law_same" (.cons (.call "cut" (.cons (.v 4) (.cons (.v 1) (.cons (.v 1) .nil)))) (.cons (.v 4) .nil))))) (.cons (.ret (.k (.bl false))) .nil) .nil) (.cons (.asg (.nm 6) (.call "_law_block" (.cons (.v 0) (.cons (.v 3) .nil)))) (.cons (.ret (.and (.call "_law_same" (.cons (.call "cut" (.cons (.v 5) (.cons (.v 2) (.cons (.v 3) .nil)))) (.cons (.v 6) .nil))) (.call "_law_same" (.cons (.call "cut" (.cons (.v 4) (.cons (.v 1) (.cons (.v 3) .nil)))) (.cons (.v 6) .nil))))) .nil)))))
def N__law_part : List Str := ["rect", "numbers", "x", "y"]
def b__law_part : Ss := (.cons (.asg (.nm 2) (.bin false .Add (.ix (.v 0) (.k (.int 0))) (.bin false .Mod (.bi false .int (.cons (.ix (.v 1) (.k (.int 0))) .nil)) (.bin false .Sub (.ix (.v 0) (.k (.int 2))) (.ix (.v 0) (.k (.int 0))))))) (.cons (.asg (.nm 3) (.bin false .Add (.ix (.v 0) (.k (.int 1))) (.bin false .Mod (.bi false .int (.cons (.ix (.v 1) (.k (.int 1))) .nil)) (.bin false .Sub (.ix (.v 0) (.k (.int 3))) (.ix (.v 0) (.k (.int 1))))))) (.cons (.ret (.tup (.cons (.v 2) (.cons (.v 3) (.cons (.bin false .Add (.bin false .Add (.v 2) (.k (.int 1))) (.bin false .Mod (.bi false .int (.cons (.ix (.v 1) (.k (.int 2))) .nil)) (.bin false .Sub (.ix (.v 0) (.k (.int 2))) (.v 2)))) (.cons (.bin false .Add (.bin false .Add (.v 3) (.k (.int 1))) (.bin false .Mod (.bi false .int (.cons (.ix (.v 1) (.k (.int 3))) .nil)) (.bin false .Sub (.ix (.v 0) (.k (.int 3))) (.v 3)))) .nil)))))) .nil)))
def N_holds : List Str := ["rect", "x", "y"]
def b_holds : Ss := (.cons (.ret (.and (.ch (.ix (.v 0) (.k (.int 0))) .LtE (.v 1) .Lt (.ix (.v 0) (.k (.int 2)))) (.ch (.ix (.v 0) (.k (.int 1))) .LtE (.v 2) .Lt (.ix (.v 0) (.k (.int 3)))))) .nil)
def N__law_inside : List Str := ["a", "x", "y", "due"]
def b__law_inside : Ss := (.cons (.asg (.nm 3) (.and (.cmp .LtE (.ix (.v 0) (.k (.int 0))) (.v 1)) (.and (.cmp .LtE (.v 1) (.bin false .Sub (.ix (.v 0) (.k (.int 2))) (.k (.int 1)))) (.and (.cmp .LtE (.ix (.v 0) (.k (.int 1))) (.v 2)) (.cmp .LtE (.v 2) (.bin false .Sub (.ix (.v 0) (.k (.int 3))) (.k (.int 1)))))))) (.cons (.cond (.not (.call "_law_same" (.cons (.call "holds" (.cons (.v 0) (.cons (.v 1) (.cons (.v 2) .nil)))) (.cons (.v 3) .nil)))) (.cons (.ret (.k (.bl false))) .nil) .nil) (.cons (.cond (.or (.not (.call "_law_same" (.cons (.call "holds" (.cons (.v 0) (.cons (.ix (.v 0) (.k (.int 0))) (.cons (.ix (.v 0) (.k (.int 1))) .nil)))) (.cons (.k (.bl true)) .nil)))) (.not (.call "_law_same" (.cons (.call "holds" (.cons (.v 0) (.cons (.bin false .Sub (.ix (.v 0) (.k (.int 2))) (.k (.int 1))) (.cons (.bin false .Sub (.ix (.v 0) (.k (.int 3))) (.k (.int 1))) .nil)))) (.cons (.k (.bl true)) .nil))))) (.cons (.ret (.k (.bl false))) .nil) .nil) (.cons (.loop (.tup (.cons (.nm 1) (.cons (.nm 2) .nil))) (.seq (.tup (.cons (.tup (.cons (.bin false .Sub (.ix (.v 0) (.k (.int 0))) (.k (.int 1))) (.cons (.ix (.v 0) (.k (.int 1))) .nil))) (.cons (.tup (.cons (.ix (.v 0) (.k (.int 0))) (.cons (.bin false .Sub (.ix (.v 0) (.k (.int 1))) (.k (.int 1))) .nil))) (.cons (.tup (.cons (.ix (.v 0) (.k (.int 2))) (.cons (.bin false .Sub (.ix (.v 0) (.k (.int 3))) (.k (.int 1))) .nil))) (.cons (.tup (.cons (.bin false .Sub (.ix (.v 0) (.k (.int 2))) (.k (.int 1))) (.cons (.ix (.v 0) (.k (.int 3))) .nil))) (.cons (.tup (.cons (.ix (.v 0) (.k (.int 2))) (.cons (.ix (.v 0) (.k (.int 3))) .nil))) .nil))))))) (.cons (.cond (.not (.call "_law_same" (.cons (.call "holds" (.cons (.v 0) (.cons (.v 1) (.cons (.v 2) .nil)))) (.cons (.k (.bl false)) .nil)))) (.cons (.ret (.k (.bl false))) .nil) .nil) .nil)) (.cons (.ret (.k (.bl true))) .nil)))))
def N__law_hull : List Str := ["rows", "hull", "rect", "x0", "y0", "x1"]
def b__law_hull : Ss := (.cons (.asg (.nm 1) (.k .non)) (.cons (.loop (.nm 2) (.seq (.v 0)) (.cons (.cond (.cmp .Is (.v 1) (.k .non)) (.cons (.asg (.nm 1) (.v 2)) .nil) .nil) (.cons (.asg (.nm 3) (.ite (.cmp .Lt (.ix (.v 2) (.k (.int 0))) (.ix (.v 1) (.k (.int 0)))) (.ix (.v 2) (.k (.int 0))) (.ix (.v 1) (.k (.int 0))))) (.cons (.asg (.nm 4) (.ite (.cmp .Lt (.ix (.v 2) (.k (.int 1))) (.ix (.v 1) (.k (.int 1)))) (.ix (.v 2) (.k (.int 1))) (.ix (.v 1) (.k (.int 1))))) (.cons (.asg (.nm 5) (.ite (.cmp .Gt (.ix (.v 2) (.k (.int 2))) (.ix (.v 1) (.k (.int 2)))) (.ix (.v 2) (.k (.int 2))) (.ix (.v 1) (.k (.int 2))))) (.cons (.asg (.nm 1) (.tup (.cons (.v 3) (.cons (.v 4) (.cons (.v 5) (.cons (.ite (.cmp .Gt (.ix (.v 2) (.k (.int 3))) (.ix (.v 1) (.k (.int 3)))) (.ix (.v 2) (.k (.int 3))) (.ix (.v 1) (.k (.int 3)))) .nil)))))) .nil)))))) (.cons (.ret (.v 1)) .nil)))
def N_around_places : List Str := ["places", "xs", "place", "ys"]
def b_around_places : Ss := (.cons (.cond (.cmp .Eq (.bi false .len (.cons (.v 0) .nil)) (.k (.int 0))) (.cons (.ret (.k .non)) .nil) .nil) (.cons (.asg (.nm 1) (.lc false (.ix (.v 2) (.k (.int 0))) (.nm 2) (.seq (.v 0)) .nil [2])) (.cons (.asg (.nm 3) (.lc false (.ix (.v 2) (.k (.int 1))) (.nm 2) (.seq (.v 0)) .nil [2])) (.cons (.ret (.tup (.cons (.bi false .min (.cons (.v 1) .nil)) (.cons (.bi false .min (.cons (.v 3) .nil)) (.cons (.bin false .Add (.bi false .max (.cons (.v 1) .nil)) (.k (.int 1))) (.cons (.bin false .Add (.bi false .max (.cons (.v 3) .nil)) (.k (.int 1))) .nil)))))) .nil))))
def N_around : List Str := ["rects", "x0", "rect", "y0", "x1", "y1"]
def b_around : Ss := (.cons (.cond (.cmp .Eq (.bi false .len (.cons (.v 0) .nil)) (.k (.int 0))) (.cons (.ret (.k .non)) .nil) .nil) (.cons (.asg (.nm 1) (.bi false .min (.cons (.lc false (.ix (.v 2) (.k (.int 0))) (.nm 2) (.seq (.v 0)) .nil [2]) .nil))) (.cons (.asg (.nm 3) (.bi false .min (.cons (.lc false (.ix (.v 2) (.k (.int 1))) (.nm 2) (.seq (.v 0)) .nil [2]) .nil))) (.cons (.asg (.nm 4) (.bi false .max (.cons (.lc false (.ix (.v 2) (.k (.int 2))) (.nm 2) (.seq (.v 0)) .nil [2]) .nil))) (.cons (.asg (.nm 5) (.bi false .max (.cons (.lc false (.ix (.v 2) (.k (.int 3))) (.nm 2) (.seq (.v 0)) .nil [2]) .nil))) (.cons (.ret (.tup (.cons (.v 1) (.cons (.v 3) (.cons (.v 4) (.cons (.v 5) .nil)))))) .nil))))))
def N__law_arounds : List Str := ["rects", "places", "passed", "items", "alone", "place"]
def b__law_arounds : Ss := (.cons (.asg (.nm 2) (.bi false .list (.cons (.v 0) .nil))) (.cons (.asg (.nm 3) (.bi false .list (.cons (.v 1) .nil))) (.cons (.asg (.nm 4) (.lc false (.tup (.cons (.ix (.v 5) (.k (.int 0))) (.cons (.ix (.v 5) (.k (.int 1))) (.cons (.bin false .Add (.ix (.v 5) (.k (.int 0))) (.k (.int 1))) (.cons (.bin false .Add (.ix (.v 5) (.k (.int 1))) (.k (.int 1))) .nil))))) (.nm 5) (.seq (.v 1)) .nil [5])) (.cons (.cond (.or (.not (.call "_law_same" (.cons (.call "around" (.cons (.v 2) .nil)) (.cons (.call "_law_hull" (.cons (.v 0) .nil)) .nil)))) (.not (.call "_law_same" (.cons (.call "around" (.cons (.bi false .tuple (.cons (.v 0) .nil)) .nil)) (.cons (.call "_law_hull" (.cons (.v 0) .nil)) .nil))))) (.cons (.ret (.k (.bl false))) .nil) .nil) (.cons (.cond (.not (.call "_law_same" (.cons (.call "around_places" (.cons (.v 3) .nil)) (.cons (.call "_law_hull" (.cons (.v 4) .nil)) .nil)))) (.cons (.ret (.k (.bl false))) .nil) .nil) (.cons (.cond (.not (.call "_law_same" (.cons (.call "around_places" (.cons (.bi false .tuple (.cons (.v 1) .nil)) .nil)) (.cons (.call "_law_hull" (.cons (.v 4) .nil)) .nil)))) (.cons (.ret (.k (.bl false))) .nil) .nil) (.cons (.ret (.and (.cmp .Eq (.v 2) (.v 0)) (.cmp .Eq (.v 3) (.v 1)))) .nil)))))))
def N_overlap : List Str := ["a", "b", "x0", "y0", "x1", "y1"]
def b_overlap : Ss := (.cons (.asg (.nm 2) (.bi false .max (.cons (.ix (.v 0) (.k (.int 0))) (.cons (.ix (.v 1) (.k (.int 0))) .nil)))) (.cons (.asg (.nm 3) (.bi false .max (.cons (.ix (.v 0) (.k (.int 1))) (.cons (.ix (.v 1) (.k (.int 1))) .nil)))) (.cons (.asg (.nm 4) (.bi false .min (.cons (.ix (.v 0) (.k (.int 2))) (.cons (.ix (.v 1) (.k (.int 2))) .nil)))) (.cons (.asg (.nm 5) (.bi false .min (.cons (.ix (.v 0) (.k (.int 3))) (.cons (.ix (.v 1) (.k (.int 3))) .nil)))) (.cons (.cond (.and (.cmp .Lt (.v 2) (.v 4)) (.cmp .Lt (.v 3) (.v 5))) (.cons (.ret (.tup (.cons (.v 2) (.cons (.v 3) (.cons (.v 4) (.cons (.v 5) .nil)))))) .nil) .nil) (.cons (.ret (.k .non)) .nil))))))
def N_widened : List Str := ["rect", "left", "up", "right", "down"]
def b_widened : Ss := (.cons (.ret (.tup (.cons (.bin false .Sub (.ix (.v 0) (.k (.int 0))) (.v 1)) (.cons (.bin false .Sub (.ix (.v 0) (.k (.int 1))) (.v 2)) (.cons (.bin false .Add (.ix (.v 0) (.k (.int 2))) (.v 3)) (.cons (.bin false .Add (.ix (.v 0) (.k (.int 3))) (.v 4)) .nil)))))) .nil)
def N__law_common : List Str := ["a", "b", "xs", "ys"]
def b__law_common : Ss := (.cons (.cond (.or (.cmp .GtE (.ix (.v 0) (.k (.int 0))) (.ix (.v 1) (.k (.int 2)))) (.or (.cmp .GtE (.ix (.v 1) (.k (.int 0))) (.ix (.v 0) (.k (.int 2)))) (.or (.cmp .GtE (.ix (.v 0) (.k (.int 1))) (.ix (.v 1) (.k (.int 3)))) (.cmp .GtE (.ix (.v 1) (.k (.int 1))) (.ix (.v 0) (.k (.int 3))))))) (.cons (.ret (.k .non)) .nil) .nil) (.cons (.asg (.nm 2) (.bi false .sorted (.cons (.lst false (.cons (.ix (.v 0) (.k (.int 0))) (.cons (.ix (.v 0) (.k (.int 2))) (.cons (.ix (.v 1) (.k (.int 0))) (.cons (.ix (.v 1) (.k (.int 2))) .nil))))) .nil))) (.cons (.asg (.nm 3) (.bi false .sorted (.cons (.lst false (.cons (.ix (.v 0) (.k (.int 1))) (.cons (.ix (.v 0) (.k (.int 3))) (.cons (.ix (.v 1) (.k (.int 1))) (.cons (.ix (.v 1) (.k (.int 3))) .nil))))) .nil))) (.cons (.ret (.tup (.cons (.ix (.v 2) (.k (.int 1))) (.cons (.ix (.v 3) (.k (.int 1))) (.cons (.ix (.v 2) (.k (.int 2))) (.cons (.ix (.v 3) (.k (.int 2))) .nil)))))) .nil))))
def N__law_pairs : List Str := ["a", "b", "four", "due", "wider"]
def b__law_pairs : Ss := (.cons (.asg (.nm 3) (.call "_law_common" (.cons (.v 0) (.cons (.v 1) .nil)))) (.cons (.cond (.or (.not (.call "_law_same" (.cons (.call "overlap" (.cons (.v 0) (.cons (.v 1) .nil))) (.cons (.v 3) .nil)))) (.or (.not (.call "_law_same" (.cons (.call "overlap" (.cons (.v 1) (.cons (.v 0) .nil))) (.cons (.v 3) .nil)))) (.not (.call "_law_same" (.cons (.call "overlap" (.cons (.v 0) (.cons (.v 0) .nil))) (.cons (.v 0) .nil)))))) (.cons (.ret (.k (.bl false))) .nil) .nil) (.cons (.asg (.nm 4) (.tup (.cons (.bin false .Sub (.ix (.v 0) (.k (.int 0))) (.ix (.v 2) (.k (.int 0)))) (.cons (.bin false .Sub (.ix (.v 0) (.k (.int 1))) (.ix (.v 2) (.k (.int 1)))) (.cons (.bin false .Add (.ix (.v 0) (.k (.int 2))) (.ix (.v 2) (.k (.int 2)))) (.cons (.bin false .Add (.ix (.v 0) (.k (.int 3))) (.ix (.v 2) (.k (.int 3)))) .nil)))))) (.cons (.cond (.not (.call "_law_same" (.cons (.call "widened" (.cons (.v 0) (.cons (.ix (.v 2) (.k (.int 0))) (.cons (.ix (.v 2) (.k (.int 1))) (.cons (.ix (.v 2) (.k (.int 2))) (.cons (.ix (.v 2) (.k (.int 3))) .nil)))))) (.cons (.v 4) .nil)))) (.cons (.ret (.k (.bl false))) .nil) .nil) (.cons (.ret (.call "_law_same" (.cons (.call "overlap" (.cons (.v 4) (.cons (.v 0) .nil))) (.cons (.v 0) .nil)))) .nil)))))
def N__law_things : List Str := ["mixed", "rect", "things", "y", "x", "k"]
def b__law_things : Ss := (.cons (.asg (.nm 2) (.dnew true)) (.cons (.loop (.nm 3) (.rng2 (.ix (.v 1) (.k (.int 1))) (.ix (.v 1) (.k (.int 3)))) (.cons (.loop (.nm 4) (.rng2 (.ix (.v 1) (.k (.int 0))) (.ix (.v 1) (.k (.int 2)))) (.cons (.asg (.nm 5) (.bi true .len (.cons (.v 2) .nil))) (.cons (.asg (.dsubT (.v 2) (.cons (.v 4) (.cons (.v 3) .nil))) (.ix (.tup (.cons (.v 5) (.cons (.bin false .Add (.k (.str "t")) (.bi false .str (.cons (.v 5) .nil))) (.cons (.k .non) (.cons (.tup (.cons (.k (.int 0)) (.cons (.v 5) (.cons (.k (.int 0)) (.cons (.k (.int 255)) .nil))))) (.cons (.neg (.v 5)) (.cons (.k (.bl true)) .nil))))))) (.bin false .Mod (.bi false .int (.cons (.ix (.v 0) (.bin false .Mod (.bi false .int (.cons (.v 5) .nil)) (.k (.int 63)))) .nil)) (.k (.int 6))))) .nil))) .nil)) (.cons (.ret (.v 2)) .nil)))
def N__law_draws : List Str := ["script", "at", "count", "cell", "rows", "rest", "k", "seed"]
def b__law_draws : Ss := (.cons (.asg (.nm 3) (.k (.int 0))) (.cons (.cond (.cmp .Lt (.v 1) (.bi false .len (.cons (.v 0) .nil))) (.cons (.asg (.nm 3) (.bi false .abs (.cons (.bi false .int (.cons (.ix (.v 0) (.v 1)) .nil)) .nil))) .nil) .nil) (.cons (.asg (.nm 4) (.lst true .nil)) (.cons (.asg (.nm 5) (.v 3)) (.cons (.cond (.cmp .GtE (.v 3) (.bin false .Pow (.k (.int 10)) (.k (.int 18)))) (.cons (.loop (.nm 6) (.rng1 (.v 2)) (.cons (.cond (.cmp .Eq (.v 5) (.k (.int 0))) (.cons .brk .nil) .nil) (.cons (.ex (.mth false (.v 4) .append (.cons (.bin false .Mod (.bi false .int (.cons (.v 5) .nil)) (.k (.int 9973))) .nil))) (.cons (.asg (.nm 5) (.bin false .FloorDiv (.v 5) (.k (.int 9973)))) .nil)))) .nil) .nil) (.cons (.asg (.nm 7) (.bin false .Add (.bin false .Add (.bin false .Mod (.bi false .int (.cons (.v 3) .nil)) (.k (.int 1000003))) (.bin false .Mult (.k (.int 611)) (.v 1))) (.k (.int 17)))) (.cons (.loop (.nm 6) (.rng1 (.bin false .Sub (.v 2) (.bi false .len (.cons (.v 4) .nil)))) (.cons (.asg (.nm 7) (.bin false .Mod (.bi false .int (.cons (.bin false .Add (.bin false .Add (.bin false .Mult (.v 7) (.v 7)) (.bin false .Mult (.k (.int 48271)) (.bin false .Add (.v 6) (.k (.int 1))))) (.k (.int 12345))) .nil)) (.k (.int 999983)))) (.cons (.ex (.mth false (.v 4) .append (.cons (.bin false .Mod (.bi false .int (.cons (.bin false .Add (.bin false .Mod (.bi false .int (.cons (.bin false .Mult (.v 7) (.v 7)) .nil)) (.k (.int 1000003))) (.bin false .Mult (.k (.int 69621)) (.v 6))) .nil)) (.k (.int 9973))) .nil))) .nil))) (.cons (.ret (.v 4)) .nil))))))))
def N__law_cell : List Str := ["script", "k"]
def b__law_cell : Ss := (.cons (.cond (.cmp .Lt (.v 1) (.bi false .len (.cons (.v 0) .nil))) (.cons (.ret (.bi false .int (.cons (.ix (.v 0) (.v 1)) .nil))) .nil) .nil) (.cons (.ret (.k (.int 0))) .nil))
def N__law_numbers : List Str := ["script", "at", "many", "seed", "small", "mixed", "rows", "k", "number"]
def b__law_numbers : Ss := (.cons (.asg (.nm 5) (.call "_law_draws" (.cons (.v 0) (.cons (.v 3) (.cons (.v 2) .nil))))) (.cons (.asg (.nm 6) (.lst true .nil)) (.cons (.loop (.nm 7) (.rng1 (.v 2)) (.cons (.asg (.nm 8) (.bin false .Sub (.bin false .Mod (.bi false .int (.cons (.ix (.v 5) (.v 7)) .nil)) (.k (.int 16))) (.k (.int 6)))) (.cons (.cond (.cmp .Lt (.bin false .Add (.v 1) (.v 7)) (.bi false .len (.cons (.v 0) .nil))) (.cons (.asg (.nm 8) (.bi false .int (.cons (.ix (.v 0) (.bin false .Add (.v 1) (.v 7))) .nil))) .nil) .nil) (.cons (.cond (.v 4) (.cons (.asg (.nm 8) (.bin false .Sub (.bin false .Mod (.bi false .int (.cons (.v 8) .nil)) (.k (.int 16))) (.k (.int 6)))) .nil) .nil) (.cons (.ex (.mth false (.v 6) .append (.cons (.v 8) .nil))) .nil))))) (.cons (.ret (.v 6)) .nil))))
def N__law_comb : List Str := ["numbers", "wide", "high", "rows", "k", "across", "down", "x", "y"]
def b__law_comb : Ss := (.cons (.asg (.nm 1) (.bin false .Add (.k (.int 1)) (.bi false .abs (.cons (.ix (.v 0) (.k (.int 2))) .nil)))) (.cons (.asg (.nm 2) (.bin false .Add (.k (.int 1)) (.bi false .abs (.cons (.ix (.v 0) (.k (.int 3))) .nil)))) (.cons (.asg (.nm 3) (.lst true .nil)) (.cons (.loop (.nm 4) (.rng1 (.bin false .Add (.k (.int 8)) (.bin false .Mod (.bi false .int (.cons (.ix (.v 0) (.k (.int 4))) .nil)) (.k (.int 33))))) (.cons (.asg (.nm 5) (.bin false .Mult (.bin false .Add (.k (.int 1)) (.bi false .abs (.cons (.ix (.v 0) (.k (.int 5))) .nil))) (.v 4))) (.cons (.asg (.nm 6) (.k (.int 0))) (.cons (.cond (.cmp .Eq (.bin false .Mod (.bi false .int (.cons (.ix (.v 0) (.k (.int 6))) .nil)) (.k (.int 2))) (.k (.int 1))) (.cons (.asg (.nm 6) (.v 5)) (.cons (.asg (.nm 5) (.k (.int 0))) .nil)) .nil) (.cons (.asg (.nm 7) (.bin false .Add (.ix (.v 0) (.k (.int 0))) (.v 5))) (.cons (.asg (.nm 8) (.bin false .Add (.ix (.v 0) (.k (.int 1))) (.v 6))) (.cons (.ex (.mth false (.v 3) .append (.cons (.tup (.cons (.v 7) (.cons (.v 8) (.cons (.bin false .Add (.v 7) (.v 1)) (.cons (.bin false .Add (.v 8) (.v 2)) .nil))))) .nil))) .nil))))))) (.cons (.ret (.v 3)) .nil)))))
def N__law_rects : List Str := ["numbers", "many", "rows", "k", "x", "y"]
def b__law_rects : Ss := (.cons (.asg (.nm 2) (.lst true .nil)) (.cons (.loop (.nm 3) (.rng1 (.v 1)) (.cons (.asg (.nm 4) (.ix (.v 0) (.bin false .Mult (.k (.int 4)) (.v 3)))) (.cons (.asg (.nm 5) (.ix (.v 0) (.bin false .Add (.bin false .Mult (.k (.int 4)) (.v 3)) (.k (.int 1))))) (.cons (.ex (.mth false (.v 2) .append (.cons (.tup (.cons (.v 4) (.cons (.v 5) (.cons (.bin false .Add (.bin false .Add (.v 4) (.k (.int 1))) (.bi false .abs (.cons (.ix (.v 0) (.bin false .Add (.bin false .Mult (.k (.int 4)) (.v 3)) (.k (.int 2)))) .nil))) (.cons (.bin false .Add (.bin false .Add (.v 5) (.k (.int 1))) (.bi false .abs (.cons (.ix (.v 0) (.bin false .Add (.bin false .Mult (.k (.int 4)) (.v 3)) (.k (.int 3)))) .nil))) .nil))))) .nil))) .nil)))) (.cons (.ret (.v 2)) .nil)))
def N__law_second : List Str := ["a", "b", "way", "wide", "high"]
def b__law_second : Ss := (.cons (.asg (.nm 3) (.bin false .Sub (.ix (.v 1) (.k (.int 2))) (.ix (.v 1) (.k (.int 0))))) (.cons (.asg (.nm 4) (.bin false .Sub (.ix (.v 1) (.k (.int 3))) (.ix (.v 1) (.k (.int 1))))) (.cons (.cond (.cmp .Eq (.v 2) (.k (.int 1))) (.cons (.ret (.tup (.cons (.ix (.v 0) (.k (.int 2))) (.cons (.ix (.v 0) (.k (.int 1))) (.cons (.bin false .Add (.ix (.v 0) (.k (.int 2))) (.v 3)) (.cons (.ix (.v 0) (.k (.int 3))) .nil)))))) .nil) .nil) (.cons (.cond (.cmp .Eq (.v 2) (.k (.int 2))) (.cons (.ret (.tup (.cons (.ix (.v 0) (.k (.int 0))) (.cons (.ix (.v 0) (.k (.int 3))) (.cons (.ix (.v 0) (.k (.int 2))) (.cons (.bin false .Add (.ix (.v 0) (.k (.int 3))) (.v 4)) .nil)))))) .nil) .nil) (.cons (.cond (.cmp .Eq (.v 2) (.k (.int 3))) (.cons (.ret (.tup (.cons (.ix (.v 0) (.k (.int 2))) (.cons (.ix (.v 0) (.k (.int 3))) (.cons (.bin false .Add (.ix (.v 0) (.k (.int 2))) (.v 3)) (.cons (.bin false .Add (.ix (.v 0) (.k (.int 3))) (.v 4)) .nil)))))) .nil) .nil) (.cons (.cond (.cmp .Eq (.v 2) (.k (.int 4))) (.cons (.ret (.v 0)) .nil) .nil) (.cons (.cond (.cmp .Eq (.v 2) (.k (.int 5))) (.cons (.ret (.tup (.cons (.bin false .Add (.ix (.v 0) (.k (.int 0))) (.bin false .Mod (.bi false .int (.cons (.v 3) .nil)) (.bin false .Sub (.ix (.v 0) (.k (.int 2))) (.ix (.v 0) (.k (.int 0)))))) (.cons (.bin false .Add (.ix (.v 0) (.k (.int 1))) (.bin false .Mod (.bi false .int (.cons (.v 4) .nil)) (.bin false .Sub (.ix (.v 0) (.k (.int 3))) (.ix (.v 0) (.k (.int 1)))))) (.cons (.ix (.v 0) (.k (.int 2))) (.cons (.ix (.v 0) (.k (.int 3))) .nil)))))) .nil) .nil) (.cons (.cond (.cmp .Eq (.v 2) (.k (.int 6))) (.cons (.ret (.tup (.cons (.bin false .Sub (.ix (.v 0) (.k (.int 2))) (.k (.int 1))) (.cons (.bin false .Sub (.ix (.v 0) (.k (.int 3))) (.v 4)) (.cons (.bin false .Add (.ix (.v 0) (.k (.int 2))) (.v 3)) (.cons (.ix (.v 0) (.k (.int 3))) .nil)))))) .nil) .nil) (.cons (.cond (.cmp .Eq (.v 2) (.k (.int 7))) (.cons (.ret (.tup (.cons (.ix (.v 0) (.k (.int 0))) (.cons (.bin false .Sub (.ix (.v 0) (.k (.int 3))) (.k (.int 1))) (.cons (.bin false .Add (.ix (.v 0) (.k (.int 0))) (.v 3)) (.cons (.bin false .Add (.ix (.v 0) (.k (.int 3))) (.v 4)) .nil)))))) .nil) .nil) (.cons (.ret (.v 1)) .nil))))))))))
def N_law : List Str := ["script", "small", "pair", "a", "b", "numbers", "four", "number", "row", "rects", "corners", "k", "one", "places", "sides", "most", "rect", "part", "things"]
def b_law : Ss := (.cons (.asg (.nm 1) (.cmp .Gt (.bin false .Mod (.bi false .int (.cons (.bin false .FloorDiv (.call "_law_cell" (.cons (.v 0) (.cons (.k (.int 0)) .nil))) (.k (.int 9))) .nil)) (.k (.int 3))) (.k (.int 0)))) (.cons (.asg (.nm 2) (.call "_law_rects" (.cons (.call "_law_numbers" (.cons (.v 0) (.cons (.k (.int 4)) (.cons (.k (.int 8)) (.cons (.k (.int 0)) (.cons (.v 1) .nil)))))) (.cons (.k (.int 2)) .nil)))) (.cons (.asg (.nm 3) (.ix (.v 2) (.k (.int 0)))) (.cons (.asg (.nm 4) (.call "_law_second" (.cons (.v 3) (.cons (.ix (.v 2) (.k (.int 1))) (.cons (.bin false .Mod (.bi false .int (.cons (.call "_law_cell" (.cons (.v 0) (.cons (.k (.int 0)) .nil))) .nil)) (.k (.int 9))) .nil))))) (.cons (.asg (.nm 5) (.call "_law_numbers" (.cons (.v 0) (.cons (.k (.int 12)) (.cons (.k (.int 6)) (.cons (.k (.int 1)) (.cons (.v 1) .nil))))))) (.cons (.asg (.nm 6) (.lc false (.bi false .abs (.cons (.v 7) .nil)) (.nm 7) (.seq (.sl false (.v 5) .no (.so (.k (.int 4))))) .nil [7])) (.cons (.asg (.nm 8) (.call "_law_numbers" (.cons (.v 0) (.cons (.k (.int 18)) (.cons (.k (.int 20)) (.cons (.k (.int 2)) (.cons (.v 1) .nil))))))) (.cons (.asg (.nm 9) (.ite (.cmp .Lt (.bin false .Mod (.bi false .int (.cons (.call "_law_cell" (.cons (.v 0) (.cons (.k (.int 1)) .nil))) .nil)) (.k (.int 7))) (.k (.int 6))) (.call "_law_rects" (.cons (.v 8) (.cons (.bin false .Mod (.bi false .int (.cons (.call "_law_cell" (.cons (.v 0) (.cons (.k (.int 1)) .nil))) .nil)) (.k (.int 7))) .nil))) (.call "_law_comb" (.cons (.v 8) .nil)))) (.cons (.asg (.nm 8) (.call "_law_numbers" (.cons (.v 0) (.cons (.k (.int 38)) (.cons (.k (.int 10)) (.cons (.k (.int 3)) (.cons (.v 1) .nil))))))) (.cons (.asg (.nm 10) (.lc false (.tup (.cons (.ix (.v 8) (.bin false .Mult (.k (.int 2)) (.v 11))) (.cons (.ix (.v 8) (.bin false .Add (.bin false .Mult (.k (.int 2)) (.v 11)) (.k (.int 1)))) .nil))) (.nm 11) (.rng1 (.bi false .min (.cons (.k (.int 5)) (.cons (.bin false .Mod (.bi false .int (.cons (.call "_law_cell" (.cons (.v 0) (.cons (.k (.int 2)) .nil))) .nil)) (.k (.int 7))) .nil)))) .nil [11])) (.cons (.cond (.cmp .Eq (.bin false .Mod (.bi false .int (.cons (.call "_law_cell" (.cons (.v 0) (.cons (.k (.int 2)) .nil))) .nil)) (.k (.int 7))) (.k (.int 6))) (.cons (.asg (.nm 10) (.lc false (.tup (.cons (.ix (.v 12) (.k (.int 0))) (.cons (.ix (.v 12) (.k (.int 1))) .nil))) (.nm 12) (.seq (.call "_law_comb" (.cons (.v 8) .nil))) .nil [12])) .nil) .nil) (.cons (.asg (.nm 13) (.lc false (.bin false .Add (.ix (.v 10) (.v 11)) (.ix (.tup (.cons (.tup .nil) (.cons (.tup (.cons (.k (.int 7)) .nil)) (.cons (.tup (.cons (.k (.int 0)) (.cons (.tup (.cons (.k (.int 0)) (.cons (.k (.int 0)) (.cons (.k (.int 0)) (.cons (.k (.int 9)) .nil))))) .nil))) .nil)))) (.bin false .Mod (.v 11) (.k (.int 3))))) (.nm 11) (.rng1 (.bi false .len (.cons (.v 10) .nil))) .nil [11])) (.cons (.asg (.nm 14) (.call "_law_numbers" (.cons (.v 0) (.cons (.k (.int 48)) (.cons (.k (.int 10)) (.cons (.k (.int 4)) (.cons (.k (.bl false)) .nil))))))) (.cons (.asg (.nm 15) (.ite (.cmp .NotEq (.bin false .Mod (.bi false .int (.cons (.call "_law_cell" (.cons (.v 0) (.cons (.k (.int 3)) .nil))) .nil)) (.k (.int 8))) (.k (.int 1))) (.tup (.cons (.k (.int 9)) (.cons (.k (.int 7)) .nil))) (.tup (.cons (.k (.int 70)) (.cons (.k (.int 3)) .nil))))) (.cons (.asg (.nm 16) (.tup (.cons (.ix (.v 3) (.k (.int 0))) (.cons (.ix (.v 3) (.k (.int 1))) (.cons (.bin false .Add (.bin false .Add (.ix (.v 3) (.k (.int 0))) (.k (.int 1))) (.bin false .Mod (.bi false .int (.cons (.ix (.v 14) (.k (.int 0))) .nil)) (.ix (.v 15) (.k (.int 0))))) (.cons (.bin false .Add (.bin false .Add (.ix (.v 3) (.k (.int 1))) (.k (.int 1))) (.bin false .Mod (.bi false .int (.cons (.ix (.v 14) (.k (.int 1))) .nil)) (.ix (.v 15) (.k (.int 1))))) .nil)))))) (.cons (.asg (.nm 17) (.call "_law_part" (.cons (.v 16) (.cons (.sl false (.v 14) (.so (.k (.int 2))) (.so (.k (.int 6)))) .nil)))) (.cons (.asg (.nm 18) (.call "_law_things" (.cons (.call "_law_draws" (.cons (.v 0) (.cons (.k (.int 3)) (.cons (.k (.int 63)) .nil)))) (.cons (.v 16) .nil)))) (.cons (.cond (.or (.not (.call "_law_pairs" (.cons (.v 3) (.cons (.v 4) (.cons (.v 6) .nil))))) (.or (.not (.call "_law_arounds" (.cons (.v 9) (.cons (.v 13) .nil)))) (.not (.call "_law_inside" (.cons (.v 3) (.cons (.ix (.v 5) (.k (.int 4))) (.cons (.ix (.v 5) (.k (.int 5))) .nil))))))) (.cons (.ret (.k (.bl false))) .nil) .nil) (.cons (.ret (.and (.call "_law_inside" (.cons (.v 4) (.cons (.ix (.v 5) (.k (.int 4))) (.cons (.ix (.v 5) (.k (.int 5))) .nil)))) (.call "_law_cuts" (.cons (.v 18) (.cons (.v 16) (.cons (.v 17) (.cons (.call "_law_part" (.cons (.v 17) (.cons (.sl false (.v 14) (.so (.k (.int 6))) .no) .nil))) .nil))))))) .nil)))))))))))))))))))
/-! plain facts -/
theorem loopL_inv {turn : D → En → MH → (En → MH → Prop) → Prop} {keep : MH → Prop} (I : En → MH → Prop) : ∀ {xs : List D} {σ : En} {H : MH} {Q : En → MH → Prop}, (∀ σ H, I σ H → keep H) →
    (∀ x ∈ xs, ∀ σ H (Q : En → MH → Prop), I σ H → (∀ σ' H', I σ' H' → Q σ' H') → turn x σ H Q) → I σ H → (∀ σ' H', I σ' H' → Q σ' H') → loopL turn keep xs σ H Q
  | [], σ, H, Q, hk, ht, h0, hq => ⟨hk σ H h0, hq σ H h0⟩
  | x :: r, σ, H, Q, hk, ht, h0, hq => ⟨hk σ H h0, ht x List.mem_cons_self σ H _ h0 fun σ' H' h' => loopL_inv I hk (fun y hy => ht y (List.mem_cons_of_mem _ hy)) h' hq⟩
theorem lcL_map {step : D → MH → (Option D → MH → Prop) → Prop} {keep : MH → Prop} {H : MH} (f : D → D) (hk : keep H) : ∀ {xs : List D} {Q : List D → MH → Prop}, (∀ x ∈ xs, ∀ Q : Option D → MH → Prop, Q (some (f x)) H → step x H Q) → Q (xs.map f) H → lcL step keep xs H Q
  | [], Q, hs, q => ⟨hk, q⟩
  | x :: r, Q, hs, q => ⟨hk, hs x List.mem_cons_self _ (lcL_map f hk (fun y hy => hs y (List.mem_cons_of_mem _ hy)) q)⟩
theorem mulOk_of {i j : Int} {a b : Nat} (ha : i.natAbs < 2 ^ a) (hb : j.natAbs < 2 ^ b) (h0 : 0 < a) (h1 : 0 < b) (h : a + b ≤ 50000000) : mulOk i j := by
  have x := PySem.Flt.log2_lt_of h0 ha
  have y := PySem.Flt.log2_lt_of h1 hb
  unfold mulOk
  omega
theorem mulOk_l {i j : Int} (h : -(2 ^ 64) < i ∧ i < 2 ^ 64) : mulOk i j := .inl h
theorem mulOk_r {i j : Int} (h : -(2 ^ 64) < j ∧ j < 2 ^ 64) : mulOk i j := .inr (.inl h)
@[simp] theorem mulOk_lit (n : Nat) [h : OfNat Int n] : True := trivial
theorem pw_add (a c : Nat) : 2 ^ a * 2 ^ c = 2 ^ (a + c) := (Nat.pow_add 2 a c).symm
/-- sizes: below 2 ^ b -/
@[irreducible] def Sz (b : Nat) (i : Int) : Prop := i.natAbs < 2 ^ b
theorem Sz.mono {a b : Nat} {i : Int} (h : Sz a i) (l : a ≤ b) : Sz b i := by
  unfold Sz at *
  exact Nat.lt_of_lt_of_le h (Nat.pow_le_pow_right (by decide) l)
theorem Sz.add {a : Nat} {i j : Int} (h : Sz a i) (g : Sz a j) : Sz (a + 1) (i + j) := by
  unfold Sz at *
  rw [Nat.pow_succ]
  omega
theorem Sz.sub {a : Nat} {i j : Int} (h : Sz a i) (g : Sz a j) : Sz (a + 1) (i - j) := by
  unfold Sz at *
  rw [Nat.pow_succ]
  omega
theorem Sz.mul {a b : Nat} {i j : Int} (h : Sz a i) (g : Sz b j) : Sz (a + b) (i * j) := by
  unfold Sz at *
  rw [Int.natAbs_mul, Nat.pow_add]
  exact Nat.mul_lt_mul'' h g
theorem Sz.lit {n : Int} {b : Nat} (h : n.natAbs < 2 ^ 10) (hb : 10 ≤ b) : Sz b n := by
  unfold Sz
  exact Nat.lt_of_lt_of_le h (Nat.pow_le_pow_right (by decide) hb)
theorem Sz.le {b : Nat} {i j : Int} (h : Sz b j) (l : i.natAbs ≤ j.natAbs) : Sz b i := by
  unfold Sz at *
  exact Nat.lt_of_le_of_lt l h
theorem Sz.absucc {b : Nat} {a : Int} (h : Sz b a) : Sz (b + 1) (1 + if a < 0 then -a else a) := by
  unfold Sz at *
  rw [Nat.pow_succ]
  generalize (2 : Nat) ^ b = w at *
  split <;> omega
theorem Sz.ok {a b : Nat} {i j : Int} (h : Sz a i) (g : Sz b j) (ha : 0 < a) (hb : 0 < b) (l : a + b ≤ 50000000) : mulOk i j := by
  unfold Sz at *
  exact mulOk_of h g ha hb l
theorem div_is {N c t : Int} (hc : 0 < c) (h1 : c * t ≤ N) (h2 : N < c * t + c) : N / c = t := by
  rw [Int.ediv_eq_iff_of_pos hc, Int.mul_comm t c]
  exact ⟨h1, h2⟩
theorem div_small {N c : Int} (hc : 0 < c) : (N / c).natAbs ≤ N.natAbs := by
  have h1 := Int.mul_ediv_self_le (x := N) (k := c) (by omega)
  have h2 := Int.lt_mul_ediv_self_add (x := N) hc
  rcases Int.lt_or_le N 0 with h | h
  · have : N / c < 0 := Int.ediv_neg_of_neg_of_pos h hc
    have h3 : c * (N / c) ≤ 1 * (N / c) := Int.mul_le_mul_of_nonpos_right (by omega) (by omega)
    have h4 : N ≤ N / c := by
      have : N / c * c ≤ N := by rw [Int.mul_comm]; exact h1
      rcases Int.lt_or_le (N / c) N with q | q
      · exfalso
        have e : (N / c + 1) * c ≤ N * 1 := by
          have a1 : (N / c + 1) * c ≤ N * c := Int.mul_le_mul_of_nonneg_right (by omega) (by omega)
          have a2 : N * c ≤ N * 1 := Int.mul_le_mul_of_nonpos_left (by omega) (by omega)
          omega
        rw [Int.add_mul, Int.one_mul, Int.mul_comm (N / c) c] at e
        omega
      · exact q
    omega
  · have h3 : 0 ≤ N / c := Int.ediv_nonneg h (by omega)
    have h4 : 1 * (N / c) ≤ c * (N / c) := Int.mul_le_mul_of_nonneg_right (by omega) h3
    omega
theorem intsD_map : ∀ ns : List Int, intsD (ns.map D.int) = some ns
  | [] => rfl
  | n :: r => by
    rw [List.map_cons]
    unfold intsD
    rw [intsD_map r]; rfl
theorem sort3 {a b c : Int} {ms L : List Int} (hp : ms.Perm [a, b, c]) (hs : ms.Pairwise (· ≤ ·)) (hl : L.Perm [a, b, c]) (hls : L.Pairwise (· ≤ ·)) : ms = L :=
  List.Perm.eq_of_pairwise (fun x y _ _ h1 h2 => by omega) hs hls (hp.trans hl.symm)
theorem loopL_ix {turn : D → En → MH → (En → MH → Prop) → Prop} {keep : MH → Prop} (I : Nat → En → MH → Prop) : ∀ {xs : List D} {σ : En} {H : MH} {Q : En → MH → Prop} (n : Nat), (∀ i σ H, I i σ H → keep H) →
    (∀ i x, xs[i]? = some x → ∀ σ H (Q : En → MH → Prop), I (n + i) σ H → (∀ σ' H', I (n + i + 1) σ' H' → Q σ' H') → turn x σ H Q) → I n σ H → (∀ σ' H', I (n + xs.length) σ' H' → Q σ' H') → loopL turn keep xs σ H Q
  | [], σ, H, Q, n, hk, ht, h0, hq => ⟨hk _ σ H h0, hq σ H h0⟩
  | x :: r, σ, H, Q, n, hk, ht, h0, hq => ⟨hk _ σ H h0, ht 0 x rfl σ H _ h0 fun σ' H' h' => loopL_ix I (n + 1) hk (fun i y hy σ H Q hi hq => ht (i + 1) y hy σ H Q (by rw [show n + (i + 1) = n + 1 + i by omega]; exact hi) (by rw [show n + (i + 1) + 1 = n + 1 + i + 1 by omega]; exact hq)) h' (by rw [List.length_cons, show n + (r.length + 1) = n + 1 + r.length by omega] at hq; exact hq)⟩
/-- with the exit told to the turns (break) -/
theorem loopL_br {turn : D → En → MH → (En → MH → Prop) → Prop} {keep : MH → Prop} (I : Nat → En → MH → Prop) {xs : List D} {σ : En} {H : MH} {Q : En → MH → Prop} (hk : ∀ i σ H, I i σ H → keep H) (h0 : I 0 σ H) (hq : ∀ i σ' H', i ≤ xs.length → I i σ' H' → Q σ' H')
    (ht : (∀ i σ' H', i ≤ xs.length → I i σ' H' → Q σ' H') → ∀ i x, i < xs.length → xs[i]? = some x → ∀ σ H (Q : En → MH → Prop), I i σ H → (∀ σ' H', I (i + 1) σ' H' → Q σ' H') → turn x σ H Q) : loopL turn keep xs σ H Q :=
  loopL_ix I 0 hk (fun i x hx σ H Q hi hq' => ht hq i x (by
    rcases Nat.lt_or_ge i xs.length with h | h
    · exact h
    · rw [List.getElem?_eq_none h] at hx; cases hx) hx σ H Q (by rw [Nat.zero_add] at hi; exact hi) (by rw [Nat.zero_add] at hq'; exact hq')) h0 (fun σ' H' h => hq _ _ _ (Nat.le_refl _) (by rw [Nat.zero_add] at h; exact h))
theorem rng_at {n i : Nat} {lo : Int} {x : D} (h : ((List.range n).map fun (k : Nat) => D.int (lo + (k : Int)))[i]? = some x) : i < n ∧ x = .int (lo + (i : Int)) := by
  rw [List.getElem?_map] at h
  by_cases hi : i < n
  · rw [List.getElem?_range hi] at h
    cases h
    exact ⟨hi, rfl⟩
  · rw [List.getElem?_eq_none (by rw [List.length_range]; omega)] at h; cases h
@[simp] def Ss.tl : Ss → Ss
  | .cons _ r => r
  | .nil => .nil
theorem lstAt_ref {H : MH} {p : Addr} {xs : List D} (h : H p = some (.lst xs)) : lstAt H (.ref p) = some xs := by
  show (match H p with | some (.lst xs) => some xs | _ => none) = some xs
  rw [h]
theorem seqAt_ref {H : MH} {p : Addr} {xs : List D} (h : H p = some (.lst xs)) : seqAt H (.ref p) = some xs := by
  unfold seqAt
  exact lstAt_ref h
theorem updM_idem {H : MH} {p : Addr} {o u : MO} : updM (updM H p o) p u = updM H p u := by
  funext b
  by_cases h : b = p
  · rw [h, updM_same, updM_same]
  · rw [updM_ne h, updM_ne h, updM_ne h]
theorem snoc_int {rs : List Int} {r : Int} : rs.map D.int ++ [D.int r] = (rs ++ [r]).map D.int := by rw [List.map_append]; rfl
theorem snocM {H : MH} {p : Addr} {rs : List Int} {r : Int} : updM H p (.lst (rs.map D.int ++ [D.int r])) p = some (.lst ((rs ++ [r]).map D.int)) := by rw [updM_same, snoc_int]
theorem mem_snoc {α : Type} {P : α → Prop} {rs : List α} {x : α} (hr : ∀ r ∈ rs, P r) (h : P x) : ∀ r ∈ rs ++ [x], P r := fun r hm => by
  rcases List.mem_append.1 hm with m | m
  · exact hr r m
  · rw [List.mem_singleton.1 m]; exact h
theorem len_snoc {α : Type} {rs : List α} {x : α} {n : Nat} (h : rs.length ≤ n) : (rs ++ [x]).length ≤ n + 1 := by
  rw [List.length_append]
  exact Nat.add_le_add h (Nat.le_refl 1)
theorem ix_tup {xs : List D} {i : Int} {x : D} {H : MH} (h0 : 0 ≤ i) (h : xs[i.toNat]? = some x) : ixD (.tup xs) (.int i) H = some x := by
  have h1 : i.toNat < xs.length := by
    rcases Nat.lt_or_ge i.toNat xs.length with q | q
    · exact q
    · rw [List.getElem?_eq_none q] at h; cases h
  show atI xs i = _
  unfold atI ixN
  rw [if_pos h0, if_pos (by omega)]
  exact h
theorem ix_rol {xs : List D} {i : Int} {x : D} {H : MH} (h0 : 0 ≤ i) (h : xs[i.toNat]? = some x) : ixD (.rol xs) (.int i) H = some x := by
  have h1 : i.toNat < xs.length := by
    rcases Nat.lt_or_ge i.toNat xs.length with q | q
    · exact q
    · rw [List.getElem?_eq_none q] at h; cases h
  show atI xs i = _
  unfold atI ixN
  rw [if_pos h0, if_pos (by omega)]
  exact h
theorem ix_ref {H : MH} {p : Addr} {xs : List D} {i : Int} {d : D} (h : H p = some (.lst xs)) (e : atI xs i = some d) : ixD (.ref p) (.int i) H = some d := by
  show (seqAt H (.ref p)).bind (fun xs => atI xs i) = _
  rw [seqAt_ref h]
  exact e
/-- a place forgotten -/
def less1 (H : MH) (q : Addr) : MH := fun b => if b = q then none else H b
theorem less1_less {H : MH} {q : Addr} : Less (less1 H q) H := fun b => by
  unfold less1
  split
  · exact .inr rfl
  · exact .inl rfl
theorem less1_ne {H : MH} {q b : Addr} (h : b ≠ q) : less1 H q b = H b := if_neg h
theorem less1_same {H : MH} {q : Addr} : less1 H q q = none := if_pos rfl
theorem ne_at {H : MH} {p q : Addr} {o : MO} (h : H p = some o) (g : H q = none) : p ≠ q := fun e => by rw [e, g] at h; cases h
theorem br_pos {p : Prop} [Decidable p] {A B : Prop} (h : p) (a : A) : br (decide p) A B := by rw [decide_eq_true h]; exact a
theorem br_neg {p : Prop} [Decidable p] {A B : Prop} (h : ¬ p) (b : B) : br (decide p) A B := by rw [decide_eq_false h]; exact b
theorem br_npos {p : Prop} [Decidable p] {A B : Prop} (h : p) (b : B) : br (!decide p) A B := by rw [decide_eq_true h]; exact b
theorem br_nneg {p : Prop} [Decidable p] {A B : Prop} (h : ¬ p) (a : A) : br (!decide p) A B := by rw [decide_eq_false h]; exact a

/-! the harness -/
def c__law_cell : Ctr := fun ds H Q _ => ∃ (ns : List Int) (k : Nat), ds = [.rol (ns.map D.int), .int k] ∧ Q (.int (ns.getD k 0)) H
def c__law_draws : Ctr := fun ds H Q _ => ∃ (ns : List Int) (at' count : Int), ds = [.rol (ns.map D.int), .int at', .int count] ∧ 0 ≤ at' ∧ at' ≤ 1000 ∧ 0 ≤ count ∧ count ≤ 1000 ∧
  ∀ rs : List Int, (∀ r ∈ rs, 0 ≤ r ∧ r < 9973) → rs.length = count.toNat → Q (.rol (rs.map D.int)) H
abbrev c_law : Ctr := lawC
def c__law_pool : Ctr := fun ds H Q _ => ∃ (ns : List Int) (cells count : Int), ds = [.rol (ns.map D.int), .int cells, .int count] ∧ 0 ≤ cells ∧ cells ≤ 100 ∧ 0 ≤ count ∧ count ≤ 1000 ∧
  ∀ (p : Addr) (rs : List Int), H p = none → Q (.ref p) (updM H p (.lst (rs.map D.int)))
def c__law_take : Ctr := fun ds H Q _ => ∃ (p : Addr) (rs : List Int) (many : Int), ds = [.ref p, .int many] ∧ H p = some (.lst (rs.map D.int)) ∧ 0 < many ∧
  ∀ (r : Int) (rs' : List Int) (H' : MH), 0 ≤ r → r < many → H' p = some (.lst (rs'.map D.int)) → (∀ b, b ≠ p → H' b = H b) → Q (.int r) H'
def c__law_pick : Ctr := fun ds H Q _ => ∃ (p : Addr) (rs : List Int) (xs : List D), ds = [.ref p, .tup xs] ∧ H p = some (.lst (rs.map D.int)) ∧ 0 < xs.length ∧
  ∀ (i : Nat) (x : D) (rs' : List Int) (H' : MH), xs[i]? = some x → H' p = some (.lst (rs'.map D.int)) → (∀ b, b ≠ p → H' b = H b) → Q x H'
def isI (H : MH) (d : D) : Option Bool := (isTy d "int" H).bind fun x => (isTy d "bool" H).map fun y => x && !y
def c__law_whole : Ctr := fun ds H Q _ => ∃ (d : D) (b : Bool), ds = [d] ∧ isI H d = some b ∧ Q (.bl b) H
theorem isI_of {H : MH} {d : D} {b : Bool} (h : isI H d = some b) : ∃ x y, isTy d "int" H = some x ∧ isTy d "bool" H = some y ∧ b = (x && !y) := by
  unfold isI at h
  simp only [Option.bind_eq_some_iff, Option.map_eq_some_iff] at h
  obtain ⟨x, hx, y, hy, rfl⟩ := h
  exact ⟨x, y, hx, hy, rfl⟩
mutual
def sameD : Nat → D → D → Option Bool
  | 0, _, _ => none
  | n + 1, .tup xs, .tup ys => if xs.length = ys.length then allS n xs ys else some false
  | n + 1, .rol xs, .rol ys => if xs.length = ys.length then allS n xs ys else some false
  | _ + 1, .int a, .int b => some (decide (a = b))
  | _ + 1, .bl a, .bl b => some (decide (a = b))
  | _ + 1, .str a, .str b => some (decide (a = b))
  | _ + 1, .non, .non => some true
  | _ + 1, _, _ => none
def allS : Nat → List D → List D → Option Bool
  | n, x :: xs, y :: ys => (sameD n x y).bind fun b => if b then allS n xs ys else some false
  | _, _, _ => some true
end
def c__law_same (n : Nat) : Ctr := fun ds H Q _ => ∃ (x y : D) (b : Bool), ds = [x, y] ∧ sameD n x y = some b ∧ Q (.bl b) H
theorem c__law_same_0 : ∀ ds H Q E, ¬ c__law_same 0 ds H Q E := by
  rintro ds H Q E ⟨x, y, b, rfl, h, q⟩
  unfold sameD at h
  cases h

theorem q_dec {Q : D → MH → Prop} {H : MH} {P R : Prop} [Decidable P] [Decidable R] (q : Q (.bl (decide P)) H) (h : P ↔ R) : Q (.bl (decide R)) H := by
  have e : decide P = decide R := by simp only [h]
  rwa [e] at q
theorem q_f {Q : D → MH → Prop} {H : MH} {P : Prop} [Decidable P] (q : Q (.bl (decide P)) H) (h : ¬ P) : Q (.bl false) H := by
  rwa [decide_eq_false h] at q
theorem q_t {Q : D → MH → Prop} {H : MH} {P : Prop} [Decidable P] (q : Q (.bl (decide P)) H) (h : P) : Q (.bl true) H := by
  rwa [decide_eq_true h] at q
theorem q_i {Q : D → MH → Prop} {H : MH} {i j : Int} (q : Q (.int i) H) (h : i = j) : Q (.int j) H := h ▸ q
theorem q_b {Q : D → MH → Prop} {H : MH} {i j : Bool} (q : Q (.bl i) H) (h : i = j) : Q (.bl j) H := h ▸ q
theorem q_t2 {Q : D → MH → Prop} {H : MH} {P : Prop} [Decidable P] (q : Q (.bl true) H) (h : P) : Q (.bl (decide P)) H := by
  rwa [decide_eq_true h]
theorem ix_ro {ms : List Int} {i : Int} {H : MH} (h0 : 0 ≤ i) (h1 : i < ms.length) : ixD (.rol (ms.map D.int)) (.int i) H = some (.int (ms.getD i.toNat 0)) := by
  have h2 : i.toNat < ms.length := by omega
  show (seqAt H (.rol (ms.map D.int))).bind (fun xs => atI xs i) = _
  show atI (ms.map D.int) i = _
  have h3 : (ms.map D.int)[i.toNat]? = some (.int (ms.getD i.toNat 0)) := by
    rw [List.getElem?_map, List.getElem?_eq_getElem h2, List.getD_eq_getElem?_getD, List.getElem?_eq_getElem h2]
    rfl
  unfold atI ixN
  rw [List.length_map, if_pos h0, if_pos h1]
  exact h3
theorem getD_mem {ms : List Int} {k : Nat} (h : k < ms.length) : ms.getD k 0 ∈ ms := by
  rw [List.getD_eq_getElem?_getD, List.getElem?_eq_getElem h]
  exact List.getElem_mem h
local macro_rules | `(tactic| walk_at "plain") => `(tactic| simp only [Bool.not_eq_true', Bool.not_eq_false', Bool.not_eq_eq_eq_not, Bool.not_true, Bool.not_false, decide_eq_true_eq, decide_eq_false_iff_not, List.any_cons, List.any_nil, eqF, eqD, Option.getD, Bool.or_false, Bool.or_eq_true, Bool.or_eq_false_iff, beq_iff_eq, beq_eq_false_iff_ne, ne_eq] at *)
local macro_rules | `(tactic| walk_at "fin") => `(tactic| first | (refine q_dec (by assumption) ?_; omega) | (refine q_f (by assumption) ?_; omega) | (refine q_t (by assumption) ?_; omega))
local macro_rules | `(tactic| walk_at "side") => `(tactic| first | assumption | omega | (exact rfl) | (exact trivial) | (exact ⟨_, _, rfl, by assumption⟩) | (exact ⟨_, _, rfl, updM_same⟩) | (rw [List.length_map, sizeLine_eq]; omega) | (simp only [List.length_map]; omega) | (exact Nat.le_of_ble_eq_true rfl) | (exact mulOk_l (by omega)) | (exact mulOk_r (by omega)))
local macro_rules | `(tactic| walk_at "step") => `(tactic| (conv => whnf); (first
  | (refine ⟨_, rfl, ?_⟩)
  | (refine ⟨_, _, by assumption, rfl, ?_⟩)
  | (refine ⟨_, by assumption, ?_⟩)
  | (refine ⟨_, updM_same, ?_⟩)
  | (refine ⟨_, ix_ref updM_same rfl, ?_⟩)
  | (refine ⟨_, seqAt_ref (by assumption), ?_⟩)
  | (refine ⟨_, ix_ref (by assumption) rfl, ?_⟩)
  | (refine ⟨_, lstAt_ref (by assumption), ?_⟩)
  | (refine ⟨_, _, rfl, ?_⟩)
  | (refine ⟨_, _, _, rfl, ?_⟩)
  | (refine ⟨_, _, rfl, rfl, ?_⟩)
  | (refine ⟨_, _, _, rfl, rfl, ?_⟩)
  | (refine ⟨_, _, rfl, by assumption, ?_⟩)
  | (refine And.intro (by walk_at "side") ?_)
  | (refine And.intro ?_ ?_)
  | (refine br_pos (by omega) ?_)
  | (refine br_neg (by omega) ?_)
  | (refine br_dec (fun h => ?_) (fun h => ?_))
  | (refine br_npos (by omega) ?_)
  | (refine br_nneg (by omega) ?_)
  | (refine br_b (fun h => ?_) (fun h => ?_))
  | (refine Rt.now ?_)))
local macro_rules | `(tactic| walk_at "go") => `(tactic| repeat' (first | assumption | walk_at "step"))
local macro_rules | `(tactic| walk_at "stepN") => `(tactic| (conv => whnf); (first
  | (refine ⟨_, rfl, ?_⟩)
  | (refine ⟨_, _, by assumption, rfl, ?_⟩)
  | (refine ⟨_, by assumption, ?_⟩)
  | (refine ⟨_, updM_same, ?_⟩)
  | (refine ⟨_, ix_ref updM_same rfl, ?_⟩)
  | (refine ⟨_, seqAt_ref (by assumption), ?_⟩)
  | (refine ⟨_, ix_ref (by assumption) rfl, ?_⟩)
  | (refine ⟨_, lstAt_ref (by assumption), ?_⟩)
  | (refine ⟨_, _, rfl, ?_⟩)
  | (refine ⟨_, _, _, rfl, ?_⟩)
  | (refine ⟨_, _, rfl, rfl, ?_⟩)
  | (refine ⟨_, _, _, rfl, rfl, ?_⟩)
  | (refine ⟨_, _, rfl, by assumption, ?_⟩)
  | (refine And.intro (by walk_at "side") ?_)
  | (refine And.intro ?_ ?_)
  | (refine br_pos (by omega) ?_)
  | (refine br_neg (by omega) ?_)
  | (refine br_dec (fun h => ?_) (fun h => ?_))
  | (refine br_npos (by omega) ?_)
  | (refine br_nneg (by omega) ?_)
  | (refine br_b (fun h => ?_) (fun h => ?_))))
local macro_rules | `(tactic| walk_at "goN") => `(tactic| repeat' (first | assumption | walk_at "stepN"))

theorem k__law_cell (G : Gm) : ∀ ds H Q E, c__law_cell ds H Q E → wpF G N__law_cell b__law_cell ds H Q E := by
  rintro ds H Q E ⟨ns, k, rfl, q⟩
  walk_at "go"
  · rename_i h
    rw [List.length_map] at h
    refine ⟨_, ix_ro (by omega) h, ?_⟩
    walk_at "go"
  · rename_i h
    rw [List.length_map] at h
    refine q_i q ?_
    rw [List.getD_eq_getElem?_getD, List.getElem?_eq_none (by omega)]
    rfl
theorem k__law_draws (G : Gm) : ∀ ds H Q E, c__law_draws ds H Q E → wpF G N__law_draws b__law_draws ds H Q E := by
  rintro ds H Q E ⟨ns, at', count, rfl, ha0, ha1, hc0, hc1, q⟩
  have tail : ∀ (p : Addr) (cell rest seed : Int) (kv : Option D) (rs0 : List Int) (H' : MH), 0 ≤ cell → (∀ r ∈ rs0, 0 ≤ r ∧ r < 9973) → rs0.length ≤ count.toNat → H p = none → H' p = some (.lst (rs0.map D.int)) → (∀ b, b ≠ p → H' b = H b) →
      wpSs G (fun _ => Ex E) (Ss.tl (Ss.tl (Ss.tl (Ss.tl (Ss.tl b__law_draws))))) { nx := fun _ H1 => Rt Q .non H1, rt := Rt Q } [some (.rol (ns.map D.int)), some (.int at'), some (.int count), some (.int cell), some (.ref p), some (.int rest), kv, none] H' := by
    intro p cell rest seed kv rs0 H' h0 hr hl hp hp' hoff
    walk_at "goN"
    refine loopL_ix (fun i σ H2 => ∃ (kv : Option D) (sd : Int) (rs : List Int), σ = [some (.rol (ns.map .int)), some (.int at'), some (.int count), some (.int cell), some (.ref p), some (.int rest), kv, some (.int sd)] ∧ 0 ≤ sd ∧ sd ≤ 2000000 ∧ (∀ r ∈ rs, 0 ≤ r ∧ r < 9973) ∧ rs.length = rs0.length + i ∧ H2 p = some (.lst (rs.map D.int)) ∧ ∀ b, b ≠ p → H2 b = H b) 0 (fun _ _ _ _ => trivial) ?_ ⟨_, _, _, rfl, by omega, by omega, hr, rfl, hp', hoff⟩ ?_
    · rintro i x hx σ H2 Q' ⟨kv, sd, rs, rfl, s0, s1, hr, hl2, hp2, hoff⟩ hq
      obtain ⟨hi2, rfl⟩ := rng_at hx
      walk_at "goN"
      exact hq _ _ ⟨_, _, _, rfl, by omega, by omega, mem_snoc hr (by omega), by rw [List.length_append, hl2]; simp; omega, snocM, fun b hb => (updM_ne hb).trans (hoff b hb)⟩
    · rintro σ H2 ⟨kv, sd, rs, rfl, s0, s1, hr, hl2, hp2, hoff⟩
      rw [List.length_map, List.length_range, List.length_map] at hl2
      walk_at "goN"
      refine Rt.rol hp2 (fun b => ?_) hp (q rs hr (by omega))
      by_cases e : b = p
      · rw [e]; exact .inr hp
      · exact .inl (hoff b e).symm
  have tail2 : ∀ (p : Addr) (cell : Int) (H' : MH), 0 ≤ cell → H p = none → H' p = some (.lst (([] : List Int).map D.int)) → (∀ b, b ≠ p → H' b = H b) →
      wpSs G (fun _ => Ex E) (Ss.tl (Ss.tl (Ss.tl b__law_draws))) { nx := fun _ H1 => Rt Q .non H1, rt := Rt Q } [some (.rol (ns.map .int)), some (.int at'), some (.int count), some (.int cell), some (.ref p), none, none, none] H' := by
    intro p cell H' h0 hp hp' hoff
    have cp : CPow 10 18 := ⟨by decide, by decide, by decide⟩
    repeat' (first | (refine tail p cell cell 0 none [] H' h0 (fun _ h => by cases h) (Nat.zero_le _) hp hp' hoff) | assumption | walk_at "stepN")
    · refine loopL_br (fun i σ H2 => ∃ (kv : Option D) (rest : Int) (rs : List Int), σ = [some (.rol (ns.map .int)), some (.int at'), some (.int count), some (.int cell), some (.ref p), some (.int rest), kv, none] ∧ 0 ≤ rest ∧ (∀ r ∈ rs, 0 ≤ r ∧ r < 9973) ∧ rs.length ≤ i ∧ H2 p = some (.lst (rs.map D.int)) ∧ ∀ b, b ≠ p → H2 b = H b) (fun _ _ _ _ => trivial) ⟨_, _, [], rfl, by omega, (fun _ h => by cases h), Nat.le_refl _, hp', hoff⟩ ?_ ?_
      · rintro i σ H2 hi ⟨kv, rest, rs, rfl, s0, hr, hl, hp2, hoff⟩
        rw [List.length_map, List.length_range] at hi
        exact tail p cell rest 0 kv rs H2 h0 hr (by omega) hp hp2 hoff
      · rintro fin i x hi hx σ H2 Q' ⟨kv, rest, rs, rfl, s0, hr, hl, hp2, hoff⟩ hq
        obtain ⟨hi2, rfl⟩ := rng_at hx
        repeat' (first | (refine fin i _ _ (Nat.le_of_lt hi) ⟨_, _, rs, rfl, s0, hr, hl, hp2, hoff⟩) | assumption | walk_at "stepN")
        exact hq _ _ ⟨_, _, _, rfl, by omega, mem_snoc hr (by omega), len_snoc hl, snocM, fun b hb => (updM_ne hb).trans (hoff b hb)⟩
  walk_at "goN"
  · refine ⟨_, ix_ro ha0 (by rename_i h; rw [List.length_map] at h; exact h), ?_⟩
    walk_at "goN"
    intro p hp
    exact tail2 p _ _ (by split <;> omega) hp updM_same (fun b hb => updM_ne hb)
  · intro p hp
    exact tail2 p 0 _ (by omega) hp updM_same (fun b hb => updM_ne hb)
theorem k__law_whole (G : Gm) : ∀ ds H Q E, c__law_whole ds H Q E → wpF G N__law_whole b__law_whole ds H Q E := by
  rintro ds H Q E ⟨d, b, rfl, h, q⟩
  obtain ⟨x, y, h1, h2, rfl⟩ := isI_of h
  walk_at "go"
  · rename_i h; subst h; exact q
  · rename_i h; subst h; exact q
theorem allS_at {n i : Nat} {xs ys : List D} {x y : D} {b : Bool} (h : allS n (xs.drop i) (ys.drop i) = some b) (hx : xs[i]? = some x) (hy : ys[i]? = some y) : ∃ c, sameD n x y = some c ∧ (c = true → allS n (xs.drop (i + 1)) (ys.drop (i + 1)) = some b) ∧ (c = false → b = false) := by
  obtain ⟨h1, rfl⟩ := List.getElem?_eq_some_iff.1 hx
  obtain ⟨h2, rfl⟩ := List.getElem?_eq_some_iff.1 hy
  rw [List.drop_eq_getElem_cons h1, List.drop_eq_getElem_cons h2] at h
  unfold allS at h
  cases e : sameD n xs[i] ys[i] with
  | none => rw [e] at h; cases h
  | some c =>
    rw [e] at h
    refine ⟨c, rfl, fun hc => ?_, fun hc => ?_⟩
    · subst hc; exact h
    · subst hc; cases h; rfl
theorem k__law_same (n : Nat) (G : Gm) (g1 : G.fn "_law_same" = some (2, c__law_same n)) (g2 : G.fn "_law_whole" = some (1, c__law_whole)) : ∀ ds H Q E, c__law_same (n + 1) ds H Q E → wpF G N__law_same b__law_same ds H Q E := by
  rintro ds H Q E ⟨got, due, b, rfl, hs, q⟩
  unfold sameD at hs
  split at hs
  · rename_i e; cases e
  · rename_i m xs ys e
    cases e
    walk_at "go"
    · rename_i h
      split at hs
      · rename_i e; exfalso; rw [e] at h; simp at h
      · cases hs; exact q
    · rename_i h
      have hl : xs.length = ys.length := by
        have : ((xs.length : Int) = ys.length) := by simpa using h
        omega
      rw [if_pos hl] at hs
      refine loopL_ix (fun i σ H2 => ∃ kv : Option D, σ = [some (.tup xs), some (.tup ys), kv] ∧ H2 = H ∧ allS n (xs.drop i) (ys.drop i) = some b) 0 (fun _ _ _ _ => trivial) ?_ ⟨_, rfl, rfl, hs⟩ ?_
      · rintro i x hx σ H2 Q' ⟨kv, rfl, rfl, ha⟩ hq
        obtain ⟨hi, rfl⟩ := rng_at hx
        have hi : i < ys.length := by omega
        rw [Nat.zero_add] at ha
        obtain ⟨c, hc, c1, c2⟩ := allS_at ha (List.getElem?_eq_getElem (hl ▸ hi)) (List.getElem?_eq_getElem hi)
        have i0 : (0 : Int) ≤ 0 + (i : Int) := by omega
        have e0 : ((0 : Int) + (i : Int)).toNat = i := by omega
        walk_at "go"
        refine ⟨_, ix_tup i0 (by rw [e0]; exact List.getElem?_eq_getElem (hl ▸ hi)), ?_⟩
        walk_at "go"
        refine ⟨_, ix_tup i0 (by rw [e0]; exact List.getElem?_eq_getElem hi), ?_⟩
        walk_at "go"
        · rename_i h
          have : c = false := by simpa using h
          rw [c2 this] at q
          exact q
        · rename_i h
          exact hq _ _ ⟨_, rfl, rfl, by rw [Nat.zero_add]; exact c1 (by simpa using h)⟩
      · rintro σ H2 ⟨kv, rfl, rfl, ha⟩
        rw [List.length_map, List.length_range, Nat.zero_add] at ha
        walk_at "go"
        have e1 : ((ys.length : Int) : Int).toNat = ys.length := by omega
        rw [e1] at ha
        rw [List.drop_eq_nil_of_le (by omega)] at ha
        unfold allS at ha
        cases ha
        exact q
  · rename_i m xs ys e
    cases e
    walk_at "go"
    · rename_i h
      split at hs
      · rename_i e; exfalso; rw [e] at h; simp at h
      · cases hs; exact q
    · rename_i h
      have hl : xs.length = ys.length := by
        have : ((xs.length : Int) = ys.length) := by simpa using h
        omega
      rw [if_pos hl] at hs
      refine loopL_ix (fun i σ H2 => ∃ kv : Option D, σ = [some (.rol xs), some (.rol ys), kv] ∧ H2 = H ∧ allS n (xs.drop i) (ys.drop i) = some b) 0 (fun _ _ _ _ => trivial) ?_ ⟨_, rfl, rfl, hs⟩ ?_
      · rintro i x hx σ H2 Q' ⟨kv, rfl, rfl, ha⟩ hq
        obtain ⟨hi, rfl⟩ := rng_at hx
        have hi : i < ys.length := by omega
        rw [Nat.zero_add] at ha
        obtain ⟨c, hc, c1, c2⟩ := allS_at ha (List.getElem?_eq_getElem (hl ▸ hi)) (List.getElem?_eq_getElem hi)
        have i0 : (0 : Int) ≤ 0 + (i : Int) := by omega
        have e0 : ((0 : Int) + (i : Int)).toNat = i := by omega
        walk_at "go"
        refine ⟨_, ix_rol i0 (by rw [e0]; exact List.getElem?_eq_getElem (hl ▸ hi)), ?_⟩
        walk_at "go"
        refine ⟨_, ix_rol i0 (by rw [e0]; exact List.getElem?_eq_getElem hi), ?_⟩
        walk_at "go"
        · rename_i h
          have : c = false := by simpa using h
          rw [c2 this] at q
          exact q
        · rename_i h
          exact hq _ _ ⟨_, rfl, rfl, by rw [Nat.zero_add]; exact c1 (by simpa using h)⟩
      · rintro σ H2 ⟨kv, rfl, rfl, ha⟩
        rw [List.length_map, List.length_range, Nat.zero_add] at ha
        walk_at "go"
        have e1 : ((ys.length : Int) : Int).toNat = ys.length := by omega
        rw [e1] at ha
        rw [List.drop_eq_nil_of_le (by omega)] at ha
        unfold allS at ha
        cases ha
        exact q
  · cases hs
    walk_at "go"
  · cases hs
    walk_at "go"
  · cases hs
    walk_at "go"
  · cases hs
    walk_at "go"
  · cases hs

/-! rects -/
structure Rc where
  x0 : Int
  y0 : Int
  x1 : Int
  y1 : Int
abbrev Rc.d (r : Rc) : D := .tup [.int r.x0, .int r.y0, .int r.x1, .int r.y1]
def Rc.Ok (r : Rc) : Prop := r.x0 < r.x1 ∧ r.y0 < r.y1
def mn2 (i j : Int) : Int := if j < i then j else i
def mx2 (i j : Int) : Int := if j > i then j else i
def ovl (a b : Rc) : D := if mx2 a.x0 b.x0 < mn2 a.x1 b.x1 ∧ mx2 a.y0 b.y0 < mn2 a.y1 b.y1 then .tup [.int (mx2 a.x0 b.x0), .int (mx2 a.y0 b.y0), .int (mn2 a.x1 b.x1), .int (mn2 a.y1 b.y1)] else .non
def hullD : List Rc → D
  | [] => .non
  | r :: rs => .tup [.int (leastI r.x0 (rs.map Rc.x0)), .int (leastI r.y0 (rs.map Rc.y0)), .int (mostI r.x1 (rs.map Rc.x1)), .int (mostI r.y1 (rs.map Rc.y1))]
abbrev Pc := Int × Int × List D
abbrev pl (p : Pc) : D := .tup (.int p.1 :: .int p.2.1 :: p.2.2)
def one (p : Pc) : Rc := ⟨p.1, p.2.1, p.1 + 1, p.2.1 + 1⟩
def hullP : List Pc → D
  | [] => .non
  | r :: rs => .tup [.int (leastI r.1 (rs.map (·.1))), .int (leastI r.2.1 (rs.map (·.2.1))), .int (mostI r.1 (rs.map (·.1)) + 1), .int (mostI r.2.1 (rs.map (·.2.1)) + 1)]
theorem leastI_snoc (m : Int) : ∀ (n : Int) (r : List Int), leastI n (r ++ [m]) = if m < leastI n r then m else leastI n r
  | n, [] => rfl
  | n, k :: r => leastI_snoc m (if k < n then k else n) r
theorem mostI_snoc (m : Int) : ∀ (n : Int) (r : List Int), mostI n (r ++ [m]) = if m > mostI n r then m else mostI n r
  | n, [] => rfl
  | n, k :: r => mostI_snoc m (if k > n then k else n) r
theorem mostI_succ : ∀ (n : Int) (r : List Int), mostI (n + 1) (r.map (· + 1)) = mostI n r + 1
  | n, [] => rfl
  | n, k :: r => by
    show mostI (if k + 1 > n + 1 then k + 1 else n + 1) (r.map (· + 1)) = mostI (if k > n then k else n) r + 1
    rw [← mostI_succ]
    congr 1
    split <;> split <;> omega
theorem hull_one (P : List Pc) : hullD (P.map one) = hullP P := by
  cases P with
  | nil => rfl
  | cons p r =>
    show D.tup _ = D.tup _
    have e1 := mostI_succ p.1 (r.map (·.1))
    have e2 := mostI_succ p.2.1 (r.map (·.2.1))
    rw [List.map_map] at e1 e2
    rw [List.map_map, List.map_map, List.map_map, List.map_map, ← e1, ← e2]
    rfl
theorem hull_snoc (R : List Rc) (r : Rc) (hR : R ≠ []) : ∃ x0 y0 x1 y1 : Int, hullD R = .tup [.int x0, .int y0, .int x1, .int y1] ∧
    hullD (R ++ [r]) = .tup [.int (if r.x0 < x0 then r.x0 else x0), .int (if r.y0 < y0 then r.y0 else y0), .int (if r.x1 > x1 then r.x1 else x1), .int (if r.y1 > y1 then r.y1 else y1)] := by
  cases R with
  | nil => exact absurd rfl hR
  | cons a R =>
    refine ⟨_, _, _, _, rfl, ?_⟩
    show D.tup [.int (leastI a.x0 ((R ++ [r]).map Rc.x0)), .int (leastI a.y0 ((R ++ [r]).map Rc.y0)), .int (mostI a.x1 ((R ++ [r]).map Rc.x1)), .int (mostI a.y1 ((R ++ [r]).map Rc.y1))] = _
    rw [List.map_append, List.map_append, List.map_append, List.map_append]
    show D.tup [.int (leastI a.x0 (_ ++ [r.x0])), .int (leastI a.y0 (_ ++ [r.y0])), .int (mostI a.x1 (_ ++ [r.x1])), .int (mostI a.y1 (_ ++ [r.y1]))] = _
    rw [leastI_snoc, leastI_snoc, mostI_snoc, mostI_snoc]
theorem same_rc (n : Nat) (a b c d : Int) : sameD (n + 2) (.tup [.int a, .int b, .int c, .int d]) (.tup [.int a, .int b, .int c, .int d]) = some true := by simp [sameD, allS]
theorem same_hull (n : Nat) (R : List Rc) : sameD (n + 2) (hullD R) (hullD R) = some true := by
  cases R with
  | nil => rfl
  | cons r rs => exact same_rc n _ _ _ _
theorem same_hullP (n : Nat) (P : List Pc) : sameD (n + 2) (hullP P) (hullP P) = some true := by rw [← hull_one]; exact same_hull n _
theorem ovl_non {a b : Rc} (h : ¬ (mx2 a.x0 b.x0 < mn2 a.x1 b.x1 ∧ mx2 a.y0 b.y0 < mn2 a.y1 b.y1)) : ovl a b = .non := if_neg h
theorem same_ovl (n : Nat) (a b : Rc) : sameD (n + 2) (ovl a b) (ovl a b) = some true := by
  unfold ovl
  split
  · exact same_rc n _ _ _ _
  · rfl
theorem mx2_comm (a b : Int) : mx2 a b = mx2 b a := by unfold mx2; split <;> split <;> omega
theorem mn2_comm (a b : Int) : mn2 a b = mn2 b a := by unfold mn2; split <;> split <;> omega
theorem ovl_comm (a b : Rc) : ovl b a = ovl a b := by
  unfold ovl
  rw [mx2_comm b.x0, mx2_comm b.y0, mn2_comm b.x1, mn2_comm b.y1]
theorem ovl_in {a b : Rc} (hb : b.Ok) (h : a.x0 ≤ b.x0 ∧ a.y0 ≤ b.y0 ∧ b.x1 ≤ a.x1 ∧ b.y1 ≤ a.y1) : ovl a b = b.d := by
  have e1 : mx2 a.x0 b.x0 = b.x0 := by unfold mx2; split <;> omega
  have e2 : mx2 a.y0 b.y0 = b.y0 := by unfold mx2; split <;> omega
  have e3 : mn2 a.x1 b.x1 = b.x1 := by unfold mn2; split <;> omega
  have e4 : mn2 a.y1 b.y1 = b.y1 := by unfold mn2; split <;> omega
  unfold ovl
  rw [e1, e2, e3, e4]
  exact if_pos hb
theorem pw4 {a b c d : Int} (h1 : a ≤ b) (h2 : b ≤ c) (h3 : c ≤ d) : [a, b, c, d].Pairwise (· ≤ ·) := by
  simp only [List.pairwise_cons, List.mem_cons, List.not_mem_nil, or_false]
  refine ⟨fun x hx => by omega, fun x hx => by omega, fun x hx => by omega, fun x hx => hx.elim, .nil⟩
theorem sorted_is {ms ns : List Int} (hp : ms.Perm ns) (hs : ms.Pairwise (· ≤ ·)) (hn : ns.Pairwise (· ≤ ·)) : ms = ns := List.Perm.eq_of_pairwise (fun x y _ _ h1 h2 => by omega) hs hn hp
/-- of four borders in order -/
theorem four_is {a0 a1 b0 b1 : Int} (ha : a0 < a1) (hb : b0 < b1) (h1 : a0 < b1) (h2 : b0 < a1) {ms : List Int} (hp : ms.Perm [a0, a1, b0, b1]) (hs : ms.Pairwise (· ≤ ·)) : ms = [mn2 a0 b0, mx2 a0 b0, mn2 a1 b1, mx2 a1 b1] := by
  refine sorted_is (hp.trans ?_) hs ?_
  · have p1 : [a0, a1, b0, b1].Perm [a0, b0, a1, b1] := .cons _ (.swap _ _ _)
    have p2 : ∀ {c d : Int} {r : List Int}, [c, d] ++ r = [c, d] ++ r := rfl
    have lo : [a0, b0].Perm [mn2 a0 b0, mx2 a0 b0] := by
      unfold mn2 mx2
      split <;> split
      · omega
      · exact .swap _ _ _
      · exact .refl _
      · have : a0 = b0 := by omega
        rw [this]
    have hi : [a1, b1].Perm [mn2 a1 b1, mx2 a1 b1] := by
      unfold mn2 mx2
      split <;> split
      · omega
      · exact .swap _ _ _
      · exact .refl _
      · have : a1 = b1 := by omega
        rw [this]
    exact p1.trans (lo.append hi)
  · refine pw4 ?_ ?_ ?_
    · unfold mn2 mx2; split <;> split <;> omega
    · unfold mn2 mx2; split <;> split <;> omega
    · unfold mn2 mx2; split <;> split <;> omega
theorem lcL_mapg {α : Type} {step : D → MH → (Option D → MH → Prop) → Prop} {keep : MH → Prop} {H : MH} (g h : α → D) (hk : keep H) : ∀ {R : List α} {Q : List D → MH → Prop}, (∀ a ∈ R, ∀ Q : Option D → MH → Prop, Q (some (h a)) H → step (g a) H Q) → Q (R.map h) H → lcL step keep (R.map g) H Q
  | [], Q, hs, q => ⟨hk, q⟩
  | x :: r, Q, hs, q => ⟨hk, hs x List.mem_cons_self _ (lcL_mapg g h hk (fun y hy => hs y (List.mem_cons_of_mem _ hy)) q)⟩
theorem intsD_mapk {α : Type} (k : α → Int) : ∀ R : List α, intsD (R.map fun r => D.int (k r)) = some (R.map k)
  | [] => rfl
  | n :: r => by
    rw [List.map_cons]
    unfold intsD
    rw [intsD_mapk k r]; rfl
/-! blocks -/
def blkRow (f : Int → Int → D) (r : Rc) (y : Int) : D := .tup ((List.range (r.x1 - r.x0).toNat).map fun (i : Nat) => f (r.x0 + (i : Int)) y)
def blk (f : Int → Int → D) (r : Rc) : D := .tup ((List.range (r.y1 - r.y0).toNat).map fun (j : Nat) => blkRow f r (r.y0 + (j : Int)))
def Rc.In (a b : Rc) : Prop := b.x0 ≤ a.x0 ∧ b.y0 ≤ a.y0 ∧ a.x1 ≤ b.x1 ∧ a.y1 ≤ b.y1
theorem cut_map {n : Nat} {g : Nat → D} {lo hi : Int} (h0 : 0 ≤ lo) (h1 : lo ≤ hi) (h2 : hi ≤ n) : cutD ((List.range n).map g) (some lo) (some hi) = (List.range (hi - lo).toNat).map fun k => g (lo.toNat + k) := by
  have e1 : HT.sIx n 0 (some lo) = lo.toNat := by
    show (if lo < 0 then _ else min lo.toNat n) = _
    rw [if_neg (by omega)]; omega
  have e2 : HT.sIx n n (some hi) = hi.toNat := by
    show (if hi < 0 then _ else min hi.toNat n) = _
    rw [if_neg (by omega)]; omega
  unfold cutD
  rw [List.length_map, List.length_range, e1, e2]
  apply List.ext_getElem?
  intro k
  rw [List.getElem?_take, List.getElem?_drop, List.getElem?_map, List.getElem?_map]
  by_cases hk : k < hi.toNat - lo.toNat
  · rw [if_pos hk, List.getElem?_range (by omega), List.getElem?_range (by omega)]; rfl
  · rw [if_neg hk, List.getElem?_eq_none (l := List.range _) (by rw [List.length_range]; omega)]; rfl
/-- what a thing is like: at most a tuple of flat ones -/
def okT (d : D) : Prop := sameD 2 d d = some true
theorem allS_map {n : Nat} {g : Nat → D} (h : ∀ i, sameD n (g i) (g i) = some true) : ∀ l : List Nat, allS n (l.map g) (l.map g) = some true
  | [] => by unfold allS; rfl
  | i :: r => by
    rw [List.map_cons]
    unfold allS
    rw [h i]
    exact allS_map h r
theorem same_tupm {n m : Nat} {g : Nat → D} (h : ∀ i < m, sameD n (g i) (g i) = some true) : sameD (n + 1) (.tup ((List.range m).map g)) (.tup ((List.range m).map g)) = some true := by
  unfold sameD
  rw [if_pos rfl]
  have : ∀ l : List Nat, (∀ i ∈ l, i < m) → allS n (l.map g) (l.map g) = some true := by
    intro l
    induction l with
    | nil => intro _; unfold allS; rfl
    | cons i r ih =>
      intro hl
      rw [List.map_cons]
      unfold allS
      rw [h i (hl i List.mem_cons_self)]
      exact ih fun j hj => hl j (List.mem_cons_of_mem _ hj)
  exact this _ fun i hi => List.mem_range.1 hi
theorem same_blk {f : Int → Int → D} {r : Rc} (h : ∀ x y, r.x0 ≤ x → x < r.x1 → r.y0 ≤ y → y < r.y1 → okT (f x y)) : sameD 4 (blk f r) (blk f r) = some true := by
  unfold blk
  refine same_tupm fun j hj => ?_
  unfold blkRow
  exact same_tupm fun i hi => h _ _ (by omega) (by omega) (by omega) (by omega)
theorem len_str {k : Nat} (h : k < 300) : (Str.ofString (toString ((k : Nat) : Int))).length ≤ 10 := by
  have all : ∀ k : Fin 300, (Str.ofString (toString ((k.val : Nat) : Int))).length ≤ 10 := by decide +kernel
  exact all ⟨k, h⟩
/-! data that compares -/
def Pl (d : D) (k : Nat) : Prop := ∃ p, pyD d = some p ∧ p.canLay0 = true ∧ p.depth ≤ k ∧ PyData.eqv p p = true
def Pls (ds : List D) (k : Nat) : Prop := ∃ ps, pyDs ds = some ps ∧ PyData.canLayAll0 ps = true ∧ PyData.depthAll ps ≤ k ∧ PyData.eqvAll ps ps = true
theorem Pl.int (i : Int) (k : Nat) : Pl (.int i) k := ⟨.int i, rfl, rfl, Nat.zero_le _, by simp [PyData.eqv]⟩
theorem Pls.of {k : Nat} : ∀ {ds : List D}, (∀ d ∈ ds, Pl d k) → Pls ds k
  | [], _ => ⟨[], rfl, rfl, Nat.zero_le _, by simp [PyData.eqvAll]⟩
  | d :: ds, h => by
    obtain ⟨p, h1, h2, h3, h4⟩ := h d List.mem_cons_self
    obtain ⟨ps, g1, g2, g3, g4⟩ := Pls.of fun e he => h e (List.mem_cons_of_mem _ he)
    refine ⟨p :: ps, ?_, ?_, ?_, ?_⟩
    · unfold pyDs
      rw [h1, g1]; rfl
    · unfold PyData.canLayAll0
      rw [h2, g2]; rfl
    · unfold PyData.depthAll
      exact Nat.max_le.2 ⟨h3, g3⟩
    · unfold PyData.eqvAll
      rw [h4, g4]; rfl
theorem Pl.tup {ds : List D} {k : Nat} (h : ∀ d ∈ ds, Pl d k) : Pl (.tup ds) (k + 1) := by
  obtain ⟨ps, g1, g2, g3, g4⟩ := Pls.of h
  refine ⟨.tuple ps, ?_, ?_, ?_, ?_⟩
  · unfold pyD
    rw [g1]; rfl
  · unfold PyData.canLay0; exact g2
  · unfold PyData.depth; omega
  · unfold PyData.eqv; exact g4
theorem eq_rol {ds : List D} {k : Nat} {H : MH} (h : ∀ d ∈ ds, Pl d k) (hk : k < 64) : eqD (rdL H (.rol ds)) (rdL H (.rol ds)) = some true := by
  obtain ⟨ps, g1, g2, g3, g4⟩ := Pls.of h
  have e : pyD (.rol ds) = some (.list ps) := by unfold pyD; rw [g1]; rfl
  have s : SeqAt.shaped (.list ps) = true := by
    unfold SeqAt.shaped
    rw [Bool.and_eq_true, decide_eq_true_eq]
    refine ⟨?_, ?_⟩
    · unfold PyData.canLay0; exact g2
    · unfold PyData.depth; omega
  have v : PyData.eqv (.list ps) (.list ps) = true := by unfold PyData.eqv; exact g4
  show (pyD (.rol ds)).bind (fun d => (pyD (.rol ds)).bind fun e => if SeqAt.shaped d && SeqAt.shaped e then some (PyData.eqv d e) else none) = some true
  rw [e]
  show (if SeqAt.shaped (.list ps) && SeqAt.shaped (.list ps) then some (PyData.eqv (.list ps) (.list ps)) else none) = some true
  rw [s, v]; rfl
/-! contracts -/
def c_overlap : Ctr := fun ds H Q _ => ∃ a b : Rc, ds = [a.d, b.d] ∧ Q (ovl a b) H
def c_widened : Ctr := fun ds H Q _ => ∃ (a : Rc) (l u r w : Int), ds = [a.d, .int l, .int u, .int r, .int w] ∧ Q (Rc.d ⟨a.x0 - l, a.y0 - u, a.x1 + r, a.y1 + w⟩) H
def c_around : Ctr := fun ds H Q _ => ∃ R : List Rc, (ds = [.rol (R.map Rc.d)] ∨ ds = [.tup (R.map Rc.d)]) ∧ R.length ≤ 1000 ∧ Q (hullD R) H
def c__law_hull : Ctr := fun ds H Q _ => ∃ R : List Rc, ds = [.rol (R.map Rc.d)] ∧ Q (hullD R) H
def c_around_places : Ctr := fun ds H Q _ => ∃ P : List Pc, (ds = [.rol (P.map pl)] ∨ ds = [.tup (P.map pl)]) ∧ P.length ≤ 1000 ∧ Q (hullP P) H
def c_holds : Ctr := fun ds H Q _ => ∃ (a : Rc) (x y : Int), ds = [a.d, .int x, .int y] ∧ Q (.bl (decide (a.x0 ≤ x ∧ x < a.x1 ∧ a.y0 ≤ y ∧ y < a.y1))) H
def c_cut : Ctr := fun ds H Q _ => ∃ (f : Int → Int → D) (r p : Rc), ds = [blk f r, r.d, p.d] ∧ p.In r ∧ p.Ok ∧ (r.x1 - r.x0 ≤ 100 ∧ r.y1 - r.y0 ≤ 100) ∧ Q (blk f p) H
def HasB (kvs : List (List Key × D)) (f : Int → Int → D) (r : Rc) : Prop := ∀ x y, r.x0 ≤ x → x < r.x1 → r.y0 ≤ y → y < r.y1 → valD kvs [.inl x, .inl y] = some (f x y)
def c__law_block : Ctr := fun ds H Q _ => ∃ (p : Addr) (kvs : List (List Key × D)) (f : Int → Int → D) (r : Rc), ds = [.ref p, r.d] ∧ H p = some (.dt kvs) ∧ HasB kvs f r ∧ (r.x1 - r.x0 ≤ 100 ∧ r.y1 - r.y0 ≤ 100) ∧ Q (blk f r) H
def c__law_things : Ctr := fun ds H Q _ => ∃ (ms : List Int) (r : Rc), ds = [.rol (ms.map .int), r.d] ∧ ms.length = 63 ∧ r.Ok ∧ (r.x1 - r.x0 ≤ 70 ∧ r.y1 - r.y0 ≤ 7 ∧ (r.x1 - r.x0 ≤ 9 ∨ r.y1 - r.y0 ≤ 3)) ∧
  ∀ (p : Addr) (kvs : List (List Key × D)) (f : Int → Int → D), H p = none → HasB kvs f r → (∀ x y, r.x0 ≤ x → x < r.x1 → r.y0 ≤ y → y < r.y1 → okT (f x y)) → Q (.ref p) (updM H p (.dt kvs))
def c__law_part : Ctr := fun ds H Q _ => ∃ (r : Rc) (a b c d : Int), ds = [r.d, .rol [.int a, .int b, .int c, .int d]] ∧ r.Ok ∧ ∀ p : Rc, p.Ok → p.In r → Q p.d H
def c__law_cuts : Ctr := fun ds H Q _ => ∃ (p : Addr) (kvs : List (List Key × D)) (f : Int → Int → D) (r a b : Rc), ds = [.ref p, r.d, a.d, b.d] ∧ H p = some (.dt kvs) ∧ HasB kvs f r ∧ (∀ x y, r.x0 ≤ x → x < r.x1 → r.y0 ≤ y → y < r.y1 → okT (f x y)) ∧
  (r.x1 - r.x0 ≤ 100 ∧ r.y1 - r.y0 ≤ 100) ∧ r.Ok ∧ a.Ok ∧ b.Ok ∧ a.In r ∧ b.In a ∧ Q (.bl true) H
def c__law_inside : Ctr := fun ds H Q _ => ∃ (a : Rc) (x y : Int), ds = [a.d, .int x, .int y] ∧ a.Ok ∧ Q (.bl true) H
def c__law_common : Ctr := fun ds H Q _ => ∃ a b : Rc, ds = [a.d, b.d] ∧ a.Ok ∧ b.Ok ∧ Q (ovl a b) H
def c__law_pairs : Ctr := fun ds H Q _ => ∃ (a b : Rc) (l u r w : Int), ds = [a.d, b.d, .rol [.int l, .int u, .int r, .int w]] ∧ a.Ok ∧ b.Ok ∧ (0 ≤ l ∧ 0 ≤ u ∧ 0 ≤ r ∧ 0 ≤ w) ∧ Q (.bl true) H
def c__law_arounds : Ctr := fun ds H Q _ => ∃ (R : List Rc) (P : List Pc), ds = [.rol (R.map Rc.d), .rol (P.map pl)] ∧ (R.length ≤ 100 ∧ P.length ≤ 100) ∧ (∀ p ∈ P, ∀ d ∈ p.2.2, Pl d 1) ∧ Q (.bl true) H
def c__law_second : Ctr := fun ds H Q _ => ∃ (a b : Rc) (w : Int), ds = [a.d, b.d, .int w] ∧ a.Ok ∧ b.Ok ∧ ∀ c : Rc, c.Ok → Q c.d H
def c__law_rects : Ctr := fun ds H Q _ => ∃ (ns : List Int) (many : Int), ds = [.rol (ns.map .int), .int many] ∧ 0 ≤ many ∧ 4 * many ≤ ns.length ∧ many ≤ 100 ∧ ∀ R : List Rc, R.length = many.toNat → (∀ r ∈ R, r.Ok) → Q (.rol (R.map Rc.d)) H
def c__law_comb : Ctr := fun ds H Q _ => ∃ ns : List Int, ds = [.rol (ns.map .int)] ∧ 7 ≤ ns.length ∧ ∀ R : List Rc, R.length ≤ 40 → (∀ r ∈ R, r.Ok) → Q (.rol (R.map Rc.d)) H
def c__law_numbers : Ctr := fun ds H Q _ => ∃ (ns : List Int) (at' many seed : Int) (small : Bool), ds = [.rol (ns.map .int), .int at', .int many, .int seed, .bl small] ∧ (0 ≤ at' ∧ at' ≤ 100) ∧ (0 ≤ many ∧ many ≤ 100) ∧ (0 ≤ seed ∧ seed ≤ 100) ∧
  ∀ rs : List Int, rs.length = many.toNat → Q (.rol (rs.map .int)) H
theorem k_overlap (G : Gm) : ∀ ds H Q E, c_overlap ds H Q E → wpF G N_overlap b_overlap ds H Q E := by
  rintro ds H Q E ⟨a, b, rfl, q⟩
  unfold ovl at q
  walk_at "go"
  · rename_i h1 h2
    by_cases hc : mx2 a.x0 b.x0 < mn2 a.x1 b.x1 ∧ mx2 a.y0 b.y0 < mn2 a.y1 b.y1
    · rw [if_pos hc] at q
      exact q
    · exact absurd ⟨h1, h2⟩ hc
  · rename_i h1 h2
    rw [if_neg (fun z => h2 z.2)] at q
    exact q
  · rename_i h1
    rw [if_neg (fun z => h1 z.1)] at q
    exact q
theorem k_widened (G : Gm) : ∀ ds H Q E, c_widened ds H Q E → wpF G N_widened b_widened ds H Q E := by
  rintro ds H Q E ⟨a, l, u, r, w, rfl, q⟩
  walk_at "go"
theorem nz_len {α : Type} {x : α} {r : List α} {g : α → D} : ¬ (((((x :: r).map g).length : Nat) : Int) = 0) := by simp; omega
theorem len_ok {α : Type} {r : List α} {g : α → D} (h : r.length ≤ 1000) : (r.map g).length ≤ sizeLine := by rw [List.length_map, sizeLine_eq]; omega
theorem pl0 {p : Pc} {H : MH} : ixD (pl p) (.int 0) H = some (.int p.1) := ix_tup (by decide) rfl
theorem pl1 {p : Pc} {H : MH} : ixD (pl p) (.int 1) H = some (.int p.2.1) := ix_tup (by decide) rfl
theorem k_around (G : Gm) : ∀ ds H Q E, c_around ds H Q E → wpF G N_around b_around ds H Q E := by
  rintro ds H Q E ⟨R, hd, hl, q⟩
  cases R with
  | nil => rcases hd with rfl | rfl <;> walk_at "go"
  | cons r R =>
    rcases hd with rfl | rfl
    · repeat first | (refine br_neg nz_len ?_) | (refine And.intro (len_ok hl) ?_) | (refine lcL_mapg (R := (r :: R)) Rc.d (fun r => .int (r.x0)) trivial ?_ ?_) | (refine ⟨_, _, intsD_mapk _ _, ?_⟩) | walk_at "stepN"
      · rintro a - Q q; repeat' first | assumption | (refine ⟨_, pl0, ?_⟩) | (refine ⟨_, pl1, ?_⟩) | walk_at "stepN"
      repeat first | (refine br_neg nz_len ?_) | (refine And.intro (len_ok hl) ?_) | (refine lcL_mapg (R := (r :: R)) Rc.d (fun r => .int (r.y0)) trivial ?_ ?_) | (refine ⟨_, _, intsD_mapk _ _, ?_⟩) | walk_at "stepN"
      · rintro a - Q q; repeat' first | assumption | (refine ⟨_, pl0, ?_⟩) | (refine ⟨_, pl1, ?_⟩) | walk_at "stepN"
      repeat first | (refine br_neg nz_len ?_) | (refine And.intro (len_ok hl) ?_) | (refine lcL_mapg (R := (r :: R)) Rc.d (fun r => .int (r.x1)) trivial ?_ ?_) | (refine ⟨_, _, intsD_mapk _ _, ?_⟩) | walk_at "stepN"
      · rintro a - Q q; repeat' first | assumption | (refine ⟨_, pl0, ?_⟩) | (refine ⟨_, pl1, ?_⟩) | walk_at "stepN"
      repeat first | (refine br_neg nz_len ?_) | (refine And.intro (len_ok hl) ?_) | (refine lcL_mapg (R := (r :: R)) Rc.d (fun r => .int (r.y1)) trivial ?_ ?_) | (refine ⟨_, _, intsD_mapk _ _, ?_⟩) | walk_at "stepN"
      · rintro a - Q q; repeat' first | assumption | (refine ⟨_, pl0, ?_⟩) | (refine ⟨_, pl1, ?_⟩) | walk_at "stepN"
      repeat' first | assumption | (refine And.intro (len_ok hl) ?_) | (refine ⟨_, _, intsD_mapk _ _, ?_⟩) | walk_at "stepN"
      exact Rt.now q
    · repeat first | (refine br_neg nz_len ?_) | (refine And.intro (len_ok hl) ?_) | (refine lcL_mapg (R := (r :: R)) Rc.d (fun r => .int (r.x0)) trivial ?_ ?_) | (refine ⟨_, _, intsD_mapk _ _, ?_⟩) | walk_at "stepN"
      · rintro a - Q q; repeat' first | assumption | (refine ⟨_, pl0, ?_⟩) | (refine ⟨_, pl1, ?_⟩) | walk_at "stepN"
      repeat first | (refine br_neg nz_len ?_) | (refine And.intro (len_ok hl) ?_) | (refine lcL_mapg (R := (r :: R)) Rc.d (fun r => .int (r.y0)) trivial ?_ ?_) | (refine ⟨_, _, intsD_mapk _ _, ?_⟩) | walk_at "stepN"
      · rintro a - Q q; repeat' first | assumption | (refine ⟨_, pl0, ?_⟩) | (refine ⟨_, pl1, ?_⟩) | walk_at "stepN"
      repeat first | (refine br_neg nz_len ?_) | (refine And.intro (len_ok hl) ?_) | (refine lcL_mapg (R := (r :: R)) Rc.d (fun r => .int (r.x1)) trivial ?_ ?_) | (refine ⟨_, _, intsD_mapk _ _, ?_⟩) | walk_at "stepN"
      · rintro a - Q q; repeat' first | assumption | (refine ⟨_, pl0, ?_⟩) | (refine ⟨_, pl1, ?_⟩) | walk_at "stepN"
      repeat first | (refine br_neg nz_len ?_) | (refine And.intro (len_ok hl) ?_) | (refine lcL_mapg (R := (r :: R)) Rc.d (fun r => .int (r.y1)) trivial ?_ ?_) | (refine ⟨_, _, intsD_mapk _ _, ?_⟩) | walk_at "stepN"
      · rintro a - Q q; repeat' first | assumption | (refine ⟨_, pl0, ?_⟩) | (refine ⟨_, pl1, ?_⟩) | walk_at "stepN"
      repeat' first | assumption | (refine And.intro (len_ok hl) ?_) | (refine ⟨_, _, intsD_mapk _ _, ?_⟩) | walk_at "stepN"
      exact Rt.now q
theorem k_around_places (G : Gm) : ∀ ds H Q E, c_around_places ds H Q E → wpF G N_around_places b_around_places ds H Q E := by
  rintro ds H Q E ⟨R, hd, hl, q⟩
  cases R with
  | nil => rcases hd with rfl | rfl <;> walk_at "go"
  | cons r R =>
    rcases hd with rfl | rfl
    · repeat first | (refine br_neg nz_len ?_) | (refine And.intro (len_ok hl) ?_) | (refine lcL_mapg (R := (r :: R)) pl (fun r => .int (r.1)) trivial ?_ ?_) | (refine ⟨_, _, intsD_mapk _ _, ?_⟩) | walk_at "stepN"
      · rintro a - Q q; repeat' first | assumption | (refine ⟨_, pl0, ?_⟩) | (refine ⟨_, pl1, ?_⟩) | walk_at "stepN"
      repeat first | (refine br_neg nz_len ?_) | (refine And.intro (len_ok hl) ?_) | (refine lcL_mapg (R := (r :: R)) pl (fun r => .int (r.2.1)) trivial ?_ ?_) | (refine ⟨_, _, intsD_mapk _ _, ?_⟩) | walk_at "stepN"
      · rintro a - Q q; repeat' first | assumption | (refine ⟨_, pl0, ?_⟩) | (refine ⟨_, pl1, ?_⟩) | walk_at "stepN"
      repeat' first | assumption | (refine And.intro (len_ok hl) ?_) | (refine ⟨_, _, intsD_mapk _ _, ?_⟩) | walk_at "stepN"
      exact Rt.now q
    · repeat first | (refine br_neg nz_len ?_) | (refine And.intro (len_ok hl) ?_) | (refine lcL_mapg (R := (r :: R)) pl (fun r => .int (r.1)) trivial ?_ ?_) | (refine ⟨_, _, intsD_mapk _ _, ?_⟩) | walk_at "stepN"
      · rintro a - Q q; repeat' first | assumption | (refine ⟨_, pl0, ?_⟩) | (refine ⟨_, pl1, ?_⟩) | walk_at "stepN"
      repeat first | (refine br_neg nz_len ?_) | (refine And.intro (len_ok hl) ?_) | (refine lcL_mapg (R := (r :: R)) pl (fun r => .int (r.2.1)) trivial ?_ ?_) | (refine ⟨_, _, intsD_mapk _ _, ?_⟩) | walk_at "stepN"
      · rintro a - Q q; repeat' first | assumption | (refine ⟨_, pl0, ?_⟩) | (refine ⟨_, pl1, ?_⟩) | walk_at "stepN"
      repeat' first | assumption | (refine And.intro (len_ok hl) ?_) | (refine ⟨_, _, intsD_mapk _ _, ?_⟩) | walk_at "stepN"
      exact Rt.now q
theorem k_holds (G : Gm) : ∀ ds H Q E, c_holds ds H Q E → wpF G N_holds b_holds ds H Q E := by
  rintro ds H Q E ⟨a, x, y, rfl, q⟩
  walk_at "go"
  all_goals walk_at "fin"
theorem k__law_hull (G : Gm) : ∀ ds H Q E, c__law_hull ds H Q E → wpF G N__law_hull b__law_hull ds H Q E := by
  rintro ds H Q E ⟨R, rfl, q⟩
  repeat' first | assumption | (refine loopL_ix (fun i σ H2 => ∃ v x y z : Option D, σ = [some (.rol (R.map Rc.d)), some (hullD (R.take i)), v, x, y, z] ∧ H2 = H) 0 (fun _ _ _ _ => trivial) ?_ ⟨_, _, _, _, rfl, rfl⟩ ?_) | walk_at "stepN"
  · rintro i x hx σ H2 Q' ⟨v1, v2, v3, v4, rfl, rfl⟩ hq
    rw [Nat.zero_add] at hq ⊢
    rw [List.getElem?_map, Option.map_eq_some_iff] at hx
    obtain ⟨r, hr, rfl⟩ := hx
    have inv : ∀ (d : D) (v x y z : Option D), hullD (R.take (i + 1)) = d → Q' [some (.rol (R.map Rc.d)), some d, v, x, y, z] H2 := fun d v x y z e => hq _ _ ⟨v, x, y, z, by rw [e], rfl⟩
    have e1 : R.take (i + 1) = R.take i ++ [r] := by rw [List.take_add_one, hr]; rfl
    rw [e1] at inv
    rcases List.eq_nil_or_concat (R.take i) with h0 | ⟨T, z, hT⟩
    · rw [h0] at inv ⊢
      repeat' first | assumption | (exact inv _ _ _ _ _ rfl) | walk_at "stepN"
      all_goals (exfalso; omega)
    · have hne : R.take i ≠ [] := by rw [hT]; simp
      obtain ⟨x0, y0, x1, y1, h1, h2⟩ := hull_snoc (R.take i) r hne
      rw [h1]
      rw [h2] at inv
      repeat' first | assumption | walk_at "stepN"
      all_goals (refine inv _ _ _ _ _ ?_; simp only [*, if_true, if_false])
  · rintro σ H2 ⟨v1, v2, v3, v4, rfl, rfl⟩
    rw [List.length_map, Nat.zero_add, List.take_length]
    walk_at "goN"
    exact Rt.now q
theorem k_cut (G : Gm) : ∀ ds H Q E, c_cut ds H Q E → wpF G N_cut b_cut ds H Q E := by
  rintro ds H Q E ⟨f, r, p, rfl, ⟨i1, i2, i3, i4⟩, ⟨o1, o2⟩, ⟨z1, z2⟩, q⟩
  have hs1 := cut_map (n := (r.y1 - r.y0).toNat) (g := fun j => blkRow f r (r.y0 + (j : Int))) (lo := p.y0 - r.y0) (hi := p.y1 - r.y0) (by omega) (by omega) (by omega)
  have hs2 := fun y => cut_map (n := (r.x1 - r.x0).toNat) (g := fun i => f (r.x0 + (i : Int)) y) (lo := p.x0 - r.x0) (hi := p.x1 - r.x0) (by omega) (by omega) (by omega)
  have e0 : (p.y1 - r.y0 - (p.y0 - r.y0)).toNat = (p.y1 - p.y0).toNat := by omega
  have e1 : (p.x1 - r.x0 - (p.x0 - r.x0)).toNat = (p.x1 - p.x0).toNat := by omega
  rw [e0] at hs1
  rw [e1] at hs2
  unfold blk
  walk_at "goN"
  · rw [hs1, List.length_map, List.length_range, sizeLine_eq]; omega
  · rw [hs1]
    refine lcL_mapg (R := List.range (p.y1 - p.y0).toNat) (fun k => blkRow f r (r.y0 + (((p.y0 - r.y0).toNat + k : Nat) : Int))) (fun k => blkRow f p (p.y0 + (k : Int))) trivial ?_ ?_
    · rintro k - Q q
      unfold blkRow
      walk_at "goN"
      rw [hs2]
      have e2 : r.y0 + (((p.y0 - r.y0).toNat + k : Nat) : Int) = p.y0 + (k : Int) := by omega
      rw [e2]
      unfold blkRow at q
      have e3 : (List.map (fun k_1 => f (r.x0 + (((p.x0 - r.x0).toNat + k_1 : Nat) : Int)) (p.y0 + (k : Int))) (List.range (p.x1 - p.x0).toNat)) = (List.range (p.x1 - p.x0).toNat).map fun (i : Nat) => f (p.x0 + (i : Int)) (p.y0 + (k : Int)) := by
        refine List.map_congr_left fun i _ => ?_
        congr 1
        omega
      rw [e3]
      exact q
    · walk_at "goN"
      · rw [List.length_map, List.length_range, sizeLine_eq]; omega
      · exact Rt.now q
theorem k__law_block (G : Gm) : ∀ ds H Q E, c__law_block ds H Q E → wpF G N__law_block b__law_block ds H Q E := by
  rintro ds H Q E ⟨p, kvs, f, r, rfl, hp, hb, ⟨z1, z2⟩, q⟩
  walk_at "goN"
  intro t ht
  have hne : p ≠ t := ne_at hp ht
  repeat' first | assumption | (refine loopL_ix (fun i σ H2 => ∃ v x : Option D, σ = [some (.ref p), some r.d, some (.ref t), v, x] ∧ H2 = updM H t (.lst ((List.range i).map fun (j : Nat) => blkRow f r (r.y0 + (j : Int))))) 0 (fun _ _ _ _ => trivial) ?_ ⟨_, _, rfl, rfl⟩ ?_) | walk_at "stepN"
  · rintro i x hx σ H2 Q' ⟨v, x', rfl, rfl⟩ hq
    rw [Nat.zero_add] at hq ⊢
    obtain ⟨hi, rfl⟩ := rng_at hx
    have hp2 : updM H t (.lst ((List.range i).map fun (j : Nat) => blkRow f r (r.y0 + (j : Int)))) p = some (.dt kvs) := (updM_ne hne).trans hp
    repeat first | (refine lcL_mapg (R := List.range (r.x1 - r.x0).toNat) (fun (n : Nat) => D.int (r.x0 + (n : Int))) (fun (n : Nat) => f (r.x0 + (n : Int)) (r.y0 + (i : Int))) trivial ?_ ?_) | walk_at "stepN"
    · rw [List.length_map, List.length_range, sizeLine_eq]; omega
    · refine lcL_mapg (R := List.range (r.x1 - r.x0).toNat) (fun (n : Nat) => D.int (r.x0 + (n : Int))) (fun (n : Nat) => f (r.x0 + (n : Int)) (r.y0 + (i : Int))) trivial ?_ ?_
      · rintro n hn Q q
        have hn := List.mem_range.1 hn
        repeat' first | assumption | (refine ⟨p, kvs, _, _, rfl, hp2, rfl, hb _ _ (by omega) (by omega) (by omega) (by omega), ?_⟩) | walk_at "stepN"
      · repeat' first | (exact hq _ _ ⟨_, _, rfl, by rw [updM_idem, List.range_succ, List.map_append]; rfl⟩) | assumption | walk_at "stepN"
        · rw [List.length_map, List.length_range, sizeLine_eq]; omega
        · rw [List.length_map, List.length_range, sizeLine_eq]; omega
  · rintro σ H2 ⟨v, x', rfl, rfl⟩
    rw [List.length_map, List.length_range, Nat.zero_add]
    repeat' first | assumption | (refine ⟨_, seqAt_ref updM_same, ?_⟩) | walk_at "stepN"
    exact Rt.less (Less.upd .refl ht) q
theorem same_inp {n : Nat} {P : Prop} [Decidable P] (h : P) : sameD (n + 1) (.bl (decide P)) (.bl true) = some true := by rw [decide_eq_true h]; rfl
theorem same_out {n : Nat} {P : Prop} [Decidable P] (h : ¬ P) : sameD (n + 1) (.bl (decide P)) (.bl false) = some true := by rw [decide_eq_false h]; rfl
theorem same_bl {n : Nat} {a b : Bool} (h : a = b) : sameD (n + 1) (.bl a) (.bl b) = some true := by subst h; simp [sameD]
theorem k__law_inside (G : Gm) (g1 : G.fn "_law_same" = some (2, c__law_same 4)) (g2 : G.fn "holds" = some (3, c_holds)) : ∀ ds H Q E, c__law_inside ds H Q E → wpF G N__law_inside b__law_inside ds H Q E := by
  rintro ds H Q E ⟨a, x, y, rfl, ⟨o1, o2⟩, q⟩
  have tail : ∀ due : Bool, due = decide (a.x0 ≤ x ∧ x < a.x1 ∧ a.y0 ≤ y ∧ y < a.y1) →
      wpSs G (fun _ => Ex E) (Ss.tl b__law_inside) { nx := fun _ H1 => Rt Q .non H1, rt := Rt Q } [some a.d, some (.int x), some (.int y), some (.bl due)] H := by
    intro due hdue
    repeat' first | assumption | (refine ⟨_, _, true, rfl, same_bl hdue.symm, ?_⟩) | (refine ⟨_, _, true, rfl, same_inp (by omega), ?_⟩) | (refine ⟨_, _, true, rfl, same_out (by omega), ?_⟩) | walk_at "step"
  have fin : ∀ P : Prop, [Decidable P] → (P ↔ (a.x0 ≤ x ∧ x < a.x1 ∧ a.y0 ≤ y ∧ y < a.y1)) → decide P = decide (a.x0 ≤ x ∧ x < a.x1 ∧ a.y0 ≤ y ∧ y < a.y1) := fun P _ h => by simp only [h]
  repeat' first | assumption | (refine tail _ (fin _ ?_)) | walk_at "step"
  all_goals omega
theorem k__law_common (G : Gm) : ∀ ds H Q E, c__law_common ds H Q E → wpF G N__law_common b__law_common ds H Q E := by
  rintro ds H Q E ⟨a, b, rfl, ⟨o1, o2⟩, ⟨o3, o4⟩, q⟩
  by_cases hc : a.x0 < b.x1 ∧ b.x0 < a.x1 ∧ a.y0 < b.y1 ∧ b.y0 < a.y1
  · obtain ⟨c1, c2, c3, c4⟩ := hc
    have e : ovl a b = .tup [.int (mx2 a.x0 b.x0), .int (mx2 a.y0 b.y0), .int (mn2 a.x1 b.x1), .int (mn2 a.y1 b.y1)] := by
      unfold ovl
      rw [if_pos]
      unfold mx2 mn2
      constructor <;> (repeat' split) <;> omega
    rw [e] at q
    walk_at "goN"
    intro ms hp hs
    rw [four_is o1 o3 c1 c2 hp hs]
    walk_at "goN"
    intro ms hp hs
    rw [four_is o2 o4 c3 c4 hp hs]
    walk_at "goN"
    exact Rt.now q
  · have e : ovl a b = .non := ovl_non (fun z => hc (by
      obtain ⟨z1, z2⟩ := z
      unfold mx2 mn2 at z1 z2
      refine ⟨?_, ?_, ?_, ?_⟩ <;> (repeat' split at z1) <;> (repeat' split at z2) <;> omega))
    rw [e] at q
    walk_at "go"
    all_goals (exfalso; omega)
theorem k__law_pairs (G : Gm) (g1 : G.fn "_law_same" = some (2, c__law_same 4)) (g2 : G.fn "overlap" = some (2, c_overlap)) (g3 : G.fn "widened" = some (5, c_widened)) (g4 : G.fn "_law_common" = some (2, c__law_common)) : ∀ ds H Q E, c__law_pairs ds H Q E → wpF G N__law_pairs b__law_pairs ds H Q E := by
  rintro ds H Q E ⟨a, b, l, u, r, w, rfl, ha, hb, ⟨n1, n2, n3, n4⟩, q⟩
  have e1 : sameD 4 (ovl a b) (ovl a b) = some true := same_ovl 2 a b
  have e2 : sameD 4 (ovl b a) (ovl a b) = some true := by rw [ovl_comm]; exact same_ovl 2 a b
  have e3 : sameD 4 (ovl a a) a.d = some true := by rw [ovl_in ha ⟨by omega, by omega, by omega, by omega⟩]; exact same_rc 2 _ _ _ _
  have e4 : sameD 4 (ovl (⟨a.x0 - l, a.y0 - u, a.x1 + r, a.y1 + w⟩ : Rc) a) a.d = some true := by rw [ovl_in ha ⟨by show a.x0 - l ≤ a.x0; omega, by show a.y0 - u ≤ a.y0; omega, by show a.x1 ≤ a.x1 + r; omega, by show a.y1 ≤ a.y1 + w; omega⟩]; exact same_rc 2 _ _ _ _
  have e5 : sameD 4 (Rc.d ⟨a.x0 - l, a.y0 - u, a.x1 + r, a.y1 + w⟩) (Rc.d ⟨a.x0 - l, a.y0 - u, a.x1 + r, a.y1 + w⟩) = some true := same_rc 2 _ _ _ _
  repeat' first | assumption | (refine ⟨a, b, rfl, ha, hb, ?_⟩) | (refine ⟨_, _, true, rfl, e1, ?_⟩) | (refine ⟨_, _, true, rfl, e2, ?_⟩) | (refine ⟨_, _, true, rfl, e3, ?_⟩) | (refine ⟨_, _, true, rfl, e4, ?_⟩) | (refine ⟨_, _, true, rfl, e5, ?_⟩) | (refine ⟨a, b, rfl, ?_⟩) | (refine ⟨b, a, rfl, ?_⟩) | (refine ⟨a, a, rfl, ?_⟩) | (refine ⟨⟨a.x0 - l, a.y0 - u, a.x1 + r, a.y1 + w⟩, a, rfl, ?_⟩) | (refine ⟨a, l, u, r, w, rfl, ?_⟩) | walk_at "step"
theorem k__law_second (G : Gm) : ∀ ds H Q E, c__law_second ds H Q E → wpF G N__law_second b__law_second ds H Q E := by
  rintro ds H Q E ⟨⟨a0, a1, a2, a3⟩, ⟨b0, b1, b2, b3⟩, w, rfl, ⟨o1, o2⟩, ⟨o3, o4⟩, q⟩
  change wpF G N__law_second b__law_second [.tup [.int a0, .int a1, .int a2, .int a3], .tup [.int b0, .int b1, .int b2, .int b3], .int w] H Q E
  dsimp only at o1 o2 o3 o4
  have p1 : 0 < a2 - a0 := by omega
  have p2 : 0 < a3 - a1 := by omega
  have m1 := Int.emod_nonneg (b2 - b0) (b := a2 - a0) (by omega)
  have m2 := Int.emod_lt_of_pos (b2 - b0) p1
  have m3 := Int.emod_nonneg (b3 - b1) (b := a3 - a1) (by omega)
  have m4 := Int.emod_lt_of_pos (b3 - b1) p2
  have q2 : ∀ (x y z u : Int) (H' : MH), H' = H → x < z → y < u → Q (.tup [.int x, .int y, .int z, .int u]) H' := fun x y z u H' e h1 h2 => by rw [e]; exact q ⟨x, y, z, u⟩ ⟨h1, h2⟩
  repeat' first | (refine Rt.now (q2 _ _ _ _ _ rfl ?_ ?_)) | walk_at "stepN"
  all_goals omega
theorem k__law_part (G : Gm) : ∀ ds H Q E, c__law_part ds H Q E → wpF G N__law_part b__law_part ds H Q E := by
  rintro ds H Q E ⟨⟨r0, r1, r2, r3⟩, a, b, c, d, rfl, ⟨o1, o2⟩, q⟩
  change wpF G N__law_part b__law_part [.tup [.int r0, .int r1, .int r2, .int r3], .rol [.int a, .int b, .int c, .int d]] H Q E
  dsimp only at o1 o2
  have p1 : 0 < r2 - r0 := by omega
  have p2 : 0 < r3 - r1 := by omega
  have m1 := Int.emod_nonneg a (b := r2 - r0) (by omega)
  have m2 := Int.emod_lt_of_pos a p1
  have m3 := Int.emod_nonneg b (b := r3 - r1) (by omega)
  have m4 := Int.emod_lt_of_pos b p2
  have p3 : 0 < r2 - (r0 + a % (r2 - r0)) := by omega
  have p4 : 0 < r3 - (r1 + b % (r3 - r1)) := by omega
  have m5 := Int.emod_nonneg c (b := r2 - (r0 + a % (r2 - r0))) (by omega)
  have m6 := Int.emod_lt_of_pos c p3
  have m7 := Int.emod_nonneg d (b := r3 - (r1 + b % (r3 - r1))) (by omega)
  have m8 := Int.emod_lt_of_pos d p4
  have q2 : ∀ (x y z u : Int) (H' : MH), H' = H → x < z → y < u → r0 ≤ x → r1 ≤ y → z ≤ r2 → u ≤ r3 → Q (.tup [.int x, .int y, .int z, .int u]) H' := fun x y z u H' e h1 h2 h3 h4 h5 h6 => by rw [e]; exact q ⟨x, y, z, u⟩ ⟨h1, h2⟩ ⟨h3, h4, h5, h6⟩
  repeat' first | (refine Rt.now (q2 _ _ _ _ _ rfl ?_ ?_ ?_ ?_ ?_ ?_)) | walk_at "stepN"
  all_goals omega
theorem rc_snoc {H : MH} {t : Addr} {o : MO} {R : List Rc} {a b c d : Int} : updM (updM H t o) t (.lst (R.map Rc.d ++ [.tup [.int a, .int b, .int c, .int d]])) = updM H t (.lst ((R ++ [(⟨a, b, c, d⟩ : Rc)]).map Rc.d)) := by rw [updM_idem, List.map_append]; rfl
theorem int_snoc {H : MH} {t : Addr} {o : MO} {R : List Int} {a : Int} : updM (updM H t o) t (.lst (R.map D.int ++ [.int a])) = updM H t (.lst ((R ++ [a]).map D.int)) := by rw [updM_idem, List.map_append]; rfl
theorem k__law_rects (G : Gm) : ∀ ds H Q E, c__law_rects ds H Q E → wpF G N__law_rects b__law_rects ds H Q E := by
  rintro ds H Q E ⟨ns, many, rfl, h0, h1, h2, q⟩
  walk_at "goN"
  intro t ht
  repeat' first | assumption | (refine loopL_ix (fun i σ H2 => ∃ (v x y : Option D) (R : List Rc), σ = [some (.rol (ns.map .int)), some (.int many), some (.ref t), v, x, y] ∧ H2 = updM H t (.lst (R.map Rc.d)) ∧ R.length = i ∧ ∀ r ∈ R, r.Ok) 0 (fun _ _ _ _ => trivial) ?_ ⟨_, _, _, [], rfl, rfl, rfl, fun _ h => by cases h⟩ ?_) | walk_at "stepN"
  · rintro i x hx σ H2 Q' ⟨v, x', y, R, rfl, rfl, hl, hR⟩ hq
    rw [Nat.zero_add] at hq hl
    obtain ⟨hi, rfl⟩ := rng_at hx
    have hlen : R.length < sizeLine := by rw [sizeLine_eq]; omega
    repeat' first | assumption | (refine ⟨_, ix_ro (by omega) (by omega), ?_⟩) | (refine ⟨_, updM_same, ?_⟩) | (refine And.intro (by rw [List.length_map]; exact hlen) ?_) | walk_at "stepN"
    exact hq _ _ ⟨_, _, _, _, rfl, rc_snoc, by rw [List.length_append, hl]; rfl, mem_snoc hR ⟨by dsimp only; split <;> omega, by dsimp only; split <;> omega⟩⟩
  · rintro σ H2 ⟨v, x', y, R, rfl, rfl, hl, hR⟩
    rw [List.length_map, List.length_range, Nat.zero_add] at hl
    walk_at "goN"
    exact Rt.rol updM_same (Less.upd .refl ht) ht (q R hl hR)
theorem k__law_comb (G : Gm) : ∀ ds H Q E, c__law_comb ds H Q E → wpF G N__law_comb b__law_comb ds H Q E := by
  rintro ds H Q E ⟨ns, rfl, h0, q⟩
  repeat first | (refine ⟨_, ix_ro (by omega) (by omega), ?_⟩) | walk_at "stepN"
  intro t ht
  repeat first | (refine loopL_ix (fun i σ H2 => ∃ (v x y z w : Option D) (R : List Rc), σ = [some (.rol (ns.map .int)), some (.int (1 + if ns.getD (Int.toNat 2) 0 < 0 then -ns.getD (Int.toNat 2) 0 else ns.getD (Int.toNat 2) 0)), some (.int (1 + if ns.getD (Int.toNat 3) 0 < 0 then -ns.getD (Int.toNat 3) 0 else ns.getD (Int.toNat 3) 0)), some (.ref t), v, x, y, z, w] ∧ H2 = updM H t (.lst (R.map Rc.d)) ∧ R.length = i ∧ ∀ r ∈ R, r.Ok) 0 (fun _ _ _ _ => trivial) ?_ ⟨_, _, _, _, _, [], rfl, rfl, rfl, fun _ h => by cases h⟩ ?_) | (refine ⟨_, ix_ro (by omega) (by omega), ?_⟩) | walk_at "stepN"
  · rintro i x hx σ H2 Q' ⟨v, x', y, z, w, R, rfl, rfl, hl, hR⟩ hq
    rw [Nat.zero_add] at hq hl
    obtain ⟨hi, rfl⟩ := rng_at hx
    have hlen : R.length < sizeLine := by rw [sizeLine_eq]; omega
    have mo : ∀ x : Int, mulOk x (0 + (i : Int)) := fun x => mulOk_r (by omega)
    repeat' first | assumption | (refine And.intro (mo _) ?_) | (refine ⟨_, ix_ro (by omega) (by omega), ?_⟩) | (refine ⟨_, updM_same, ?_⟩) | (refine And.intro (by rw [List.length_map]; exact hlen) ?_) | (exact hq _ _ ⟨_, _, _, _, _, _, rfl, rc_snoc, by rw [List.length_append, hl]; rfl, mem_snoc hR ⟨by dsimp only; split <;> omega, by dsimp only; split <;> omega⟩⟩) | walk_at "stepN"
  · rintro σ H2 ⟨v, x', y, z, w, R, rfl, rfl, hl, hR⟩
    rw [List.length_map, List.length_range, Nat.zero_add] at hl
    walk_at "goN"
    exact Rt.rol updM_same (Less.upd .refl ht) ht (q R (by omega) hR)
theorem k__law_numbers (G : Gm) (g1 : G.fn "_law_draws" = some (3, c__law_draws)) : ∀ ds H Q E, c__law_numbers ds H Q E → wpF G N__law_numbers b__law_numbers ds H Q E := by
  rintro ds H Q E ⟨ns, at', many, seed, small, rfl, ⟨a0, a1⟩, ⟨m0, m1⟩, ⟨s0, s1⟩, q⟩
  walk_at "goN"
  intro ms hm hml
  walk_at "goN"
  intro t ht
  repeat' first | assumption | (refine loopL_ix (fun i σ H2 => ∃ (v x : Option D) (R : List Int), σ = [some (.rol (ns.map .int)), some (.int at'), some (.int many), some (.int seed), some (.bl small), some (.rol (ms.map .int)), some (.ref t), v, x] ∧ H2 = updM H t (.lst (R.map D.int)) ∧ R.length = i) 0 (fun _ _ _ _ => trivial) ?_ ⟨_, _, [], rfl, rfl, rfl⟩ ?_) | walk_at "stepN"
  · rintro i x hx σ H2 Q' ⟨v, x', R, rfl, rfl, hl⟩ hq
    rw [Nat.zero_add] at hq hl
    obtain ⟨hi, rfl⟩ := rng_at hx
    have hlen : R.length < sizeLine := by rw [sizeLine_eq]; omega
    have lt : ∀ {h : Int}, h < ((ns.map D.int).length : Nat) → h < ns.length := fun h => by rw [List.length_map] at h; exact h
    repeat' first | assumption | (refine ⟨_, ix_ro (by omega) (by omega), ?_⟩) | (refine ⟨_, ix_ro (by omega) (lt (by assumption)), ?_⟩) | (refine ⟨_, updM_same, ?_⟩) | (refine And.intro (by rw [List.length_map]; exact hlen) ?_) | (exact hq _ _ ⟨_, _, _, rfl, int_snoc, by rw [List.length_append, hl]; rfl⟩) | walk_at "stepN"
  · rintro σ H2 ⟨v, x', R, rfl, rfl, hl⟩
    rw [List.length_map, List.length_range, Nat.zero_add] at hl
    walk_at "goN"
    exact Rt.rol updM_same (Less.upd .refl ht) ht (q R hl)
theorem k__law_cuts (G : Gm) (g1 : G.fn "_law_same" = some (2, c__law_same 4)) (g2 : G.fn "_law_block" = some (2, c__law_block)) (g3 : G.fn "cut" = some (3, c_cut)) : ∀ ds H Q E, c__law_cuts ds H Q E → wpF G N__law_cuts b__law_cuts ds H Q E := by
  rintro ds H Q E ⟨p, kvs, f, r, a, b, rfl, hp, hb, hf, ⟨z1, z2⟩, or', oa, ob, ia, ib, q⟩
  have ib2 : b.In r := ⟨Int.le_trans ia.1 ib.1, Int.le_trans ia.2.1 ib.2.1, Int.le_trans ib.2.2.1 ia.2.2.1, Int.le_trans ib.2.2.2 ia.2.2.2⟩
  have ir : r.In r := ⟨Int.le_refl _, Int.le_refl _, Int.le_refl _, Int.le_refl _⟩
  have hba : HasB kvs f a := fun x y h1 h2 h3 h4 => hb x y (Int.le_trans ia.1 h1) (Int.lt_of_lt_of_le h2 ia.2.2.1) (Int.le_trans ia.2.1 h3) (Int.lt_of_lt_of_le h4 ia.2.2.2)
  have hbb : HasB kvs f b := fun x y h1 h2 h3 h4 => hb x y (Int.le_trans ib2.1 h1) (Int.lt_of_lt_of_le h2 ib2.2.2.1) (Int.le_trans ib2.2.1 h3) (Int.lt_of_lt_of_le h4 ib2.2.2.2)
  have za : a.x1 - a.x0 ≤ 100 ∧ a.y1 - a.y0 ≤ 100 := by have := ia.1; have := ia.2.1; have := ia.2.2.1; have := ia.2.2.2; omega
  have zb : b.x1 - b.x0 ≤ 100 ∧ b.y1 - b.y0 ≤ 100 := by have := ib2.1; have := ib2.2.1; have := ib2.2.2.1; have := ib2.2.2.2; omega
  have sr : sameD 4 (blk f r) (blk f r) = some true := same_blk hf
  have sa : sameD 4 (blk f a) (blk f a) = some true := same_blk fun x y h1 h2 h3 h4 => hf x y (Int.le_trans ia.1 h1) (Int.lt_of_lt_of_le h2 ia.2.2.1) (Int.le_trans ia.2.1 h3) (Int.lt_of_lt_of_le h4 ia.2.2.2)
  have sb : sameD 4 (blk f b) (blk f b) = some true := same_blk fun x y h1 h2 h3 h4 => hf x y (Int.le_trans ib2.1 h1) (Int.lt_of_lt_of_le h2 ib2.2.2.1) (Int.le_trans ib2.2.1 h3) (Int.lt_of_lt_of_le h4 ib2.2.2.2)
  repeat' first | assumption | (refine ⟨_, _, true, rfl, sr, ?_⟩) | (refine ⟨_, _, true, rfl, sa, ?_⟩) | (refine ⟨_, _, true, rfl, sb, ?_⟩) | (refine ⟨p, kvs, f, r, rfl, hp, hb, ⟨z1, z2⟩, ?_⟩) | (refine ⟨p, kvs, f, a, rfl, hp, hba, za, ?_⟩) | (refine ⟨p, kvs, f, b, rfl, hp, hbb, zb, ?_⟩) | (refine ⟨f, r, a, rfl, ia, oa, ⟨z1, z2⟩, ?_⟩) | (refine ⟨f, r, r, rfl, ir, or', ⟨z1, z2⟩, ?_⟩) | (refine ⟨f, a, b, rfl, ib, ob, za, ?_⟩) | (refine ⟨f, r, b, rfl, ib2, ob, ⟨z1, z2⟩, ?_⟩) | walk_at "step"
theorem k__law_arounds (G : Gm) (g1 : G.fn "_law_same" = some (2, c__law_same 4)) (g2 : G.fn "around" = some (1, c_around)) (g3 : G.fn "around_places" = some (1, c_around_places)) (g4 : G.fn "_law_hull" = some (1, c__law_hull)) : ∀ ds H Q E, c__law_arounds ds H Q E → wpF G N__law_arounds b__law_arounds ds H Q E := by
  rintro ds H Q E ⟨R, P, rfl, ⟨l1, l2⟩, hm, q⟩
  have z1 : (R.map Rc.d).length ≤ sizeLine := by rw [List.length_map, sizeLine_eq]; omega
  have z2 : (P.map pl).length ≤ sizeLine := by rw [List.length_map, sizeLine_eq]; omega
  have z3 : (P.map fun p => (one p).d).length ≤ sizeLine := by rw [List.length_map, sizeLine_eq]; omega
  have s1 : sameD 4 (hullD R) (hullD R) = some true := same_hull 2 R
  have s2 : sameD 4 (hullP P) (hullD (P.map one)) = some true := by rw [hull_one]; exact same_hullP 2 P
  have c1 : eqD (rdL H (.rol (R.map Rc.d))) (rdL H (.rol (R.map Rc.d))) = some true := eq_rol (k := 1) (fun d hd => by
    obtain ⟨r, _, rfl⟩ := List.mem_map.1 hd
    refine Pl.tup fun e he => ?_
    simp only [List.mem_cons, List.not_mem_nil, or_false] at he
    rcases he with rfl | rfl | rfl | rfl <;> exact Pl.int _ _) (by decide)
  have c2 : eqD (rdL H (.rol (P.map pl))) (rdL H (.rol (P.map pl))) = some true := eq_rol (k := 2) (fun d hd => by
    obtain ⟨r, hr, rfl⟩ := List.mem_map.1 hd
    refine Pl.tup fun e he => ?_
    rcases List.mem_cons.1 he with rfl | he
    · exact Pl.int _ _
    rcases List.mem_cons.1 he with rfl | he
    · exact Pl.int _ _
    · exact hm r hr e he) (by decide)
  have fin : wpSs G (fun _ => Ex E) (Ss.tl (Ss.tl (Ss.tl b__law_arounds))) { nx := fun _ H1 => Rt Q .non H1, rt := Rt Q } [some (.rol (R.map Rc.d)), some (.rol (P.map pl)), some (.rol (R.map Rc.d)), some (.rol (P.map pl)), some (.rol ((P.map one).map Rc.d)), none] H := by
    repeat' first | assumption | (refine ⟨_, _, true, rfl, s1, ?_⟩) | (refine ⟨_, _, true, rfl, s2, ?_⟩) | (refine ⟨R, rfl, ?_⟩) | (refine ⟨P.map one, rfl, ?_⟩) | (refine ⟨R, .inl rfl, by omega, ?_⟩) | (refine ⟨R, .inr rfl, by omega, ?_⟩) | (refine ⟨P, .inl rfl, by omega, ?_⟩) | (refine ⟨P, .inr rfl, by omega, ?_⟩) | (refine ⟨true, c1, ?_⟩) | (refine ⟨true, c2, ?_⟩) | walk_at "step"
  repeat first | (refine And.intro z1 ?_) | (refine And.intro z2 ?_) | (refine lcL_mapg (R := P) pl (fun p => (one p).d) trivial ?_ ?_) | walk_at "stepN"
  · rintro a - Q q
    repeat' first | assumption | (refine ⟨_, pl0, ?_⟩) | (refine ⟨_, pl1, ?_⟩) | walk_at "stepN"
  · refine And.intro z3 ?_
    have e : (P.map fun p => (one p).d) = (P.map one).map Rc.d := by rw [List.map_map]; rfl
    rw [e]
    exact fin
def Good (kvs : List (List Key × D)) (S : Int → Int → Prop) : Prop := ∀ x y, S x y → ∃ d, valD kvs [.inl x, .inl y] = some d ∧ okT d
theorem Good.put {kvs : List (List Key × D)} {S S' : Int → Int → Prop} {x y : Int} {d : D} (h : Good kvs S) (hd : okT d) (hs : ∀ a b, S' a b → S a b ∨ (a = x ∧ b = y)) : Good (putD kvs [.inl x, .inl y] d) S' := fun a b s => by
  rw [valD_put]
  by_cases e : ([.inl a, .inl b] : List Key) = [.inl x, .inl y]
  · rw [if_pos e]; exact ⟨d, rfl, hd⟩
  · rw [if_neg e]
    rcases hs a b s with z | ⟨rfl, rfl⟩
    · exact h a b z
    · exact absurd rfl e
theorem okT_tup {a b c d : Int} : okT (.tup [.int a, .int b, .int c, .int d]) := by simp [okT, sameD, allS]
theorem okT_flat (i : Int) (z : Str) (b : Bool) : okT (.int i) ∧ okT (.str z) ∧ okT .non ∧ okT (.bl b) := by simp [okT, sameD]
theorem k__law_things (G : Gm) : ∀ ds H Q E, c__law_things ds H Q E → wpF G N__law_things b__law_things ds H Q E := by
  rintro ds H Q E ⟨ms, r, rfl, hms, ⟨o1, o2⟩, ⟨z1, z2, z3⟩, q⟩
  obtain ⟨w, hw⟩ : ∃ w : Nat, (r.x1 - r.x0).toNat = w := ⟨_, rfl⟩
  walk_at "goN"
  intro t ht
  repeat' first | assumption | (refine loopL_ix (fun i σ H2 => ∃ (y x k : Option D) (kvs : List (List Key × D)), σ = [some (.rol (ms.map .int)), some r.d, some (.ref t), y, x, k] ∧ H2 = updM H t (.dt kvs) ∧ kvs.length ≤ i * w ∧ Good kvs fun a b => r.x0 ≤ a ∧ a < r.x1 ∧ r.y0 ≤ b ∧ b < r.y0 + i) 0 (fun _ _ _ _ => trivial) ?_ ⟨_, _, _, [], rfl, rfl, Nat.zero_le _, fun a b s => by omega⟩ ?_) | walk_at "stepN"
  · rintro i x hx σ H2 Q' ⟨y, x', k, kvs, rfl, rfl, hl, hg⟩ hq
    rw [Nat.zero_add] at hq hl hg
    obtain ⟨hi, rfl⟩ := rng_at hx
    repeat' first | assumption | (refine loopL_ix (fun j σ H2 => ∃ (x k : Option D) (kvs : List (List Key × D)), σ = [some (.rol (ms.map .int)), some r.d, some (.ref t), some (.int (r.y0 + (i : Int))), x, k] ∧ H2 = updM H t (.dt kvs) ∧ kvs.length ≤ i * w + j ∧ Good kvs fun a b => r.x0 ≤ a ∧ a < r.x1 ∧ r.y0 ≤ b ∧ (b < r.y0 + i ∨ (b = r.y0 + i ∧ a < r.x0 + j))) 0 (fun _ _ _ _ => trivial) ?_ ⟨_, _, kvs, rfl, rfl, hl, fun a b s => hg a b (by omega)⟩ ?_) | walk_at "stepN"
    · rintro j x hx σ H2 Q2 ⟨x', k, kvs, rfl, rfl, hl, hg⟩ hq
      rw [Nat.zero_add] at hq hl hg
      obtain ⟨hj, rfl⟩ := rng_at hx
      rw [hw] at hj
      have hk : kvs.length < 300 := by
        rcases z3 with z3 | z3
        · have := Nat.mul_le_mul (show i ≤ 6 by omega) (show w ≤ 9 by omega)
          omega
        · have := Nat.mul_le_mul (show i ≤ 2 by omega) (show w ≤ 70 by omega)
          omega
      have hks : kvs.length < sizeLine := by rw [sizeLine_eq]; omega
      have hlog : (((kvs.length : Nat) : Int)).natAbs.log2 < 1920 := Nat.lt_of_le_of_lt (Nat.log2_le_self _) (by omega)
      have hstr := len_str hk
      have hcat : (Str.ofString "t").length + (Str.ofString (toString ((kvs.length : Nat) : Int))).length ≤ sizeLine := by
        have e1 : (Str.ofString "t").length = 1 := by decide +kernel
        rw [e1, sizeLine_eq]; omega
      have tt : updM H t (.dt kvs) t = some (.dt kvs) := updM_same
      have hln : dlenAt (updM H t (.dt kvs)) (.ref t) = some kvs.length := by
        show (match updM H t (.dt kvs) t with | some (.dk kvs) => some kvs.length | some (.dt kvs) => some kvs.length | _ => none) = some kvs.length
        rw [tt]
      repeat first | (refine ⟨_, hln, ?_⟩) | (refine ⟨_, ix_ro (by omega) (by omega), ?_⟩) | (refine And.intro hlog ?_) | (refine And.intro hcat ?_) | walk_at "stepN"
      obtain ⟨n, hn⟩ : ∃ n : Int, n = ms.getD (((kvs.length : Nat) : Int) % 63).toNat 0 % 6 := ⟨_, rfl⟩
      obtain ⟨d, hd, hok⟩ : ∃ d, [D.int ((kvs.length : Nat) : Int), D.str (Str.ofString "t" ++ Str.ofString (toString ((kvs.length : Nat) : Int))), D.non, D.tup [.int 0, .int ((kvs.length : Nat) : Int), .int 0, .int 255], D.int (-((kvs.length : Nat) : Int)), D.bl true][n.toNat]? = some d ∧ okT d := by
        have : n = 0 ∨ n = 1 ∨ n = 2 ∨ n = 3 ∨ n = 4 ∨ n = 5 := by omega
        rcases this with h | h | h | h | h | h <;> rw [h]
        · exact ⟨_, rfl, (okT_flat _ "" true).1⟩
        · exact ⟨_, rfl, (okT_flat 0 _ true).2.1⟩
        · exact ⟨_, rfl, (okT_flat 0 "" true).2.2.1⟩
        · exact ⟨_, rfl, okT_tup⟩
        · exact ⟨_, rfl, (okT_flat _ "" true).1⟩
        · exact ⟨_, rfl, (okT_flat 0 "" true).2.2.2⟩
      have hn0 : 0 ≤ n := by omega
      rw [hn] at hn0 hd
      repeat' first | (exact hq _ _ ⟨_, _, _, rfl, updM_idem, Nat.le_trans (putD_len _ _ _) (Nat.succ_le_succ hl), hg.put hok fun a b s => by omega⟩) | (refine ⟨_, ix_ro (by omega) (by omega), ?_⟩) | (refine ⟨_, ix_tup hn0 hd, ?_⟩) | (refine ⟨t, kvs, [.inl (r.x0 + (j : Int)), .inl (r.y0 + (i : Int))], rfl, rfl, tt, hks, ?_⟩) | walk_at "stepN"
    · rintro σ H2 ⟨x', k, kvs, rfl, rfl, hl, hg⟩
      rw [List.length_map, List.length_range, Nat.zero_add, hw] at hl hg
      repeat' first | (exact hq _ _ ⟨_, _, _, kvs, rfl, rfl, by rw [Nat.succ_mul]; exact hl, fun a b s => hg a b (by omega)⟩) | walk_at "stepN"
  · rintro σ H2 ⟨y, x', k, kvs, rfl, rfl, hl, hg⟩
    rw [List.length_map, List.length_range, Nat.zero_add] at hg
    walk_at "goN"
    have hg2 : ∀ x y, r.x0 ≤ x → x < r.x1 → r.y0 ≤ y → y < r.y1 → ∃ d, valD kvs [.inl x, .inl y] = some d ∧ okT d := fun x y h1 h2 h3 h4 => hg x y (by omega)
    refine Rt.now (q t kvs (fun x y => (valD kvs [.inl x, .inl y]).getD .non) ht (fun x y h1 h2 h3 h4 => ?_) fun x y h1 h2 h3 h4 => ?_)
    · obtain ⟨d, e, _⟩ := hg2 x y h1 h2 h3 h4
      show _ = some ((valD kvs [.inl x, .inl y]).getD .non)
      rw [e]; rfl
    · obtain ⟨d, e, hd⟩ := hg2 x y h1 h2 h3 h4
      show okT ((valD kvs [.inl x, .inl y]).getD .non)
      rw [e]; exact hd
theorem len2 {α : Type} {rs : List α} (h : rs.length = 2) : ∃ a b, rs = [a, b] := by
  match rs, h with
  | [a, b], _ => exact ⟨a, b, rfl⟩
theorem len6 {α : Type} {rs : List α} (h : rs.length = 6) : ∃ a b c d e f, rs = [a, b, c, d, e, f] := by
  match rs, h with
  | [a, b, c, d, e, f], _ => exact ⟨a, b, c, d, e, f, rfl⟩
theorem len10 {α : Type} {rs : List α} (h : rs.length = 10) : ∃ a b c d e f g i j k, rs = [a, b, c, d, e, f, g, i, j, k] := by
  match rs, h with
  | [a, b, c, d, e, f, g, i, j, k], _ => exact ⟨a, b, c, d, e, f, g, i, j, k, rfl⟩
abbrev cd (c : Int × Int) : D := .tup [.int c.1, .int c.2]
def more3 (k : Nat) : List D := if k % 3 = 0 then [] else if k % 3 = 1 then [.int 7] else [.int 0, .tup [.int 0, .int 0, .int 0, .int 9]]
theorem more3_ix (k : Nat) : [D.tup [], D.tup [.int 7], D.tup [.int 0, .tup [.int 0, .int 0, .int 0, .int 9]]][((0 + (k : Int)) % 3).toNat]? = some (.tup (more3 k)) := by
  have h : k % 3 = 0 ∨ k % 3 = 1 ∨ k % 3 = 2 := by omega
  unfold more3
  rcases h with h | h | h
  · rw [show ((0 + (k : Int)) % 3).toNat = 0 by omega, if_pos h]; rfl
  · rw [show ((0 + (k : Int)) % 3).toNat = 1 by omega, if_neg (by omega), if_pos h]; rfl
  · rw [show ((0 + (k : Int)) % 3).toNat = 2 by omega, if_neg (by omega), if_neg (by omega)]; rfl
theorem more3_len (k : Nat) : (more3 k).length ≤ 2 := by
  unfold more3
  repeat' split
  all_goals simp
theorem more3_pl (k : Nat) : ∀ d ∈ more3 k, Pl d 1 := by
  intro d hd
  unfold more3 at hd
  split at hd
  · cases hd
  · split at hd
    · simp only [List.mem_cons, List.not_mem_nil, or_false] at hd
      subst hd; exact Pl.int _ _
    · simp only [List.mem_cons, List.not_mem_nil, or_false] at hd
      rcases hd with rfl | rfl
      · exact Pl.int _ _
      · refine Pl.tup (k := 0) fun e he => ?_
        simp only [List.mem_cons, List.not_mem_nil, or_false] at he
        rcases he with rfl | rfl | rfl | rfl <;> exact Pl.int _ _
def plc (C : List (Int × Int)) (k : Nat) : Pc := ((C.getD k (0, 0)).1, (C.getD k (0, 0)).2, more3 k)
theorem ix_cd {C : List (Int × Int)} {k : Nat} {H : MH} (h : k < C.length) : ixD (.rol (C.map cd)) (.int (0 + (k : Int))) H = some (cd (C.getD k (0, 0))) := by
  refine ix_rol (by omega) ?_
  rw [show (0 + (k : Int)).toNat = k by omega, List.getElem?_map, List.getD_eq_getElem?_getD, List.getElem?_eq_getElem h]
  rfl
section
variable (G : Gm) (g1 : G.fn "_law_cell" = some (2, c__law_cell)) (g2 : G.fn "_law_rects" = some (2, c__law_rects)) (g3 : G.fn "_law_numbers" = some (5, c__law_numbers)) (g4 : G.fn "_law_second" = some (3, c__law_second)) (g5 : G.fn "_law_comb" = some (1, c__law_comb)) (g6 : G.fn "_law_part" = some (2, c__law_part)) (g7 : G.fn "_law_things" = some (2, c__law_things)) (g8 : G.fn "_law_draws" = some (3, c__law_draws)) (g9 : G.fn "_law_pairs" = some (3, c__law_pairs)) (g10 : G.fn "_law_arounds" = some (2, c__law_arounds)) (g11 : G.fn "_law_inside" = some (3, c__law_inside)) (g12 : G.fn "_law_cuts" = some (4, c__law_cuts))
include g1 g2 g3 g4 g5 g6 g7 g8 g9 g10 g11 g12
theorem law_t14 {Q : DK} {E : XDK} {H : MH} {ns : List Int} {small : Bool} {a b : Rc} {n0 n1 n2 n3 n4 n5 l u r w : Int} {R : List Rc} {P : List Pc} {s0 s1 s2 s3 s4 s5 s6 s7 s8 s9 m0 m1 : Int} {d1 d8 d10 : D} (q : Q (.bl true) H) (ha : a.Ok) (hb : b.Ok) (hf : 0 ≤ l ∧ 0 ≤ u ∧ 0 ≤ r ∧ 0 ≤ w) (hR : R.length ≤ 100) (hP : P.length ≤ 100) (hp : ∀ p ∈ P, ∀ d ∈ p.2.2, Pl d 1) (hm : (m0 = 9 ∧ m1 = 7) ∨ (m0 = 70 ∧ m1 = 3)) :
    wpSs G (fun _ => Ex E) (Ss.tl (Ss.tl (Ss.tl (Ss.tl (Ss.tl (Ss.tl (Ss.tl (Ss.tl (Ss.tl (Ss.tl (Ss.tl (Ss.tl (Ss.tl (Ss.tl b_law)))))))))))))) { nx := fun _ H1 => Rt Q .non H1, rt := Rt Q }
      [some (.rol (ns.map .int)), some (.bl small), some d1, some a.d, some b.d, some (.rol [.int n0, .int n1, .int n2, .int n3, .int n4, .int n5]), some (.rol [.int l, .int u, .int r, .int w]), none, some d8, some (.rol (R.map Rc.d)), some d10, none, none, some (.rol (P.map pl)), some (.rol [.int s0, .int s1, .int s2, .int s3, .int s4, .int s5, .int s6, .int s7, .int s8, .int s9]), some (.tup [.int m0, .int m1]), none, none, none] H := by
  have hm0 : 0 < m0 := by omega
  have hm1 : 0 < m1 := by omega
  have e1 := Int.emod_nonneg s0 (b := m0) (by omega)
  have e2 := Int.emod_lt_of_pos s0 hm0
  have e3 := Int.emod_nonneg s1 (b := m1) (by omega)
  have e4 := Int.emod_lt_of_pos s1 hm1
  obtain ⟨rc, hrc⟩ : ∃ rc : Rc, rc = ⟨a.x0, a.y0, a.x0 + 1 + s0 % m0, a.y0 + 1 + s1 % m1⟩ := ⟨_, rfl⟩
  have hrd : D.tup [.int a.x0, .int a.y0, .int (a.x0 + 1 + s0 % m0), .int (a.y0 + 1 + s1 % m1)] = rc.d := by rw [hrc]
  have f0 : rc.x0 = a.x0 := by rw [hrc]
  have f1 : rc.y0 = a.y0 := by rw [hrc]
  have f2 : rc.x1 = a.x0 + 1 + s0 % m0 := by rw [hrc]
  have f3 : rc.y1 = a.y0 + 1 + s1 % m1 := by rw [hrc]
  clear hrc
  have hok : rc.Ok := ⟨by omega, by omega⟩
  have hz : rc.x1 - rc.x0 ≤ 70 ∧ rc.y1 - rc.y0 ≤ 7 ∧ (rc.x1 - rc.x0 ≤ 9 ∨ rc.y1 - rc.y0 ≤ 3) := by omega
  walk_at "goN"
  rw [hrd]
  walk_at "goN"
  refine ⟨rc, s2, s3, s4, s5, rfl, hok, fun pt hpo hpi => ?_⟩
  walk_at "goN"
  intro ms hms hml
  walk_at "goN"
  intro t kvs f ht hkb hkf
  have fin : Rt Q (.bl true) (updM H t (.dt kvs)) := Rt.less (Less.upd .refl ht) q
  repeat' first | assumption | (refine ⟨a, b, l, u, r, w, rfl, ha, hb, hf, ?_⟩) | (refine ⟨R, P, rfl, ⟨hR, hP⟩, hp, ?_⟩) | (refine ⟨a, n4, n5, rfl, ha, ?_⟩) | (refine ⟨b, n4, n5, rfl, hb, ?_⟩) | (refine ⟨pt, s6, s7, s8, s9, rfl, hpo, fun inner hio hii => ?_⟩) | walk_at "stepN"
  refine ⟨t, kvs, f, rc, pt, _, rfl, updM_same, hkb, hkf, ⟨by omega, by omega⟩, hok, hpo, by assumption, hpi, by assumption, ?_⟩
  exact fin
theorem law_t11 {Q : DK} {E : XDK} {H : MH} {ns : List Int} {small : Bool} {a b : Rc} {n0 n1 n2 n3 n4 n5 l u r w : Int} {R : List Rc} {C : List (Int × Int)} {d1 d8 : D} (q : Q (.bl true) H) (ha : a.Ok) (hb : b.Ok) (hf : 0 ≤ l ∧ 0 ≤ u ∧ 0 ≤ r ∧ 0 ≤ w) (hR : R.length ≤ 100) (hC : C.length ≤ 40) :
    wpSs G (fun _ => Ex E) (Ss.tl (Ss.tl (Ss.tl (Ss.tl (Ss.tl (Ss.tl (Ss.tl (Ss.tl (Ss.tl (Ss.tl (Ss.tl b_law))))))))))) { nx := fun _ H1 => Rt Q .non H1, rt := Rt Q }
      [some (.rol (ns.map .int)), some (.bl small), some d1, some a.d, some b.d, some (.rol [.int n0, .int n1, .int n2, .int n3, .int n4, .int n5]), some (.rol [.int l, .int u, .int r, .int w]), none, some d8, some (.rol (R.map Rc.d)), some (.rol (C.map cd)), none, none, none, none, none, none, none, none] H := by
  have hcl : (C.map cd).length ≤ sizeLine := by rw [List.length_map, sizeLine_eq]; omega
  have hpm : ∀ p ∈ (List.range C.length).map (plc C), ∀ d ∈ p.2.2, Pl d 1 := by
    intro p hp d hd
    obtain ⟨k, -, rfl⟩ := List.mem_map.1 hp
    exact more3_pl k d hd
  have hpl : ((List.range C.length).map (plc C)).length ≤ 100 := by rw [List.length_map, List.length_range]; omega
  have ec : (((C.map cd).length : Nat) : Int).toNat = C.length := by rw [List.length_map]; omega
  have e3 : ((List.range C.length).map fun k => pl (plc C k)) = ((List.range C.length).map (plc C)).map pl := by rw [List.map_map]; rfl
  walk_at "goN"
  · rw [List.length_map, List.length_range, ec, sizeLine_eq]; omega
  · rw [ec]
    refine lcL_mapg (R := List.range C.length) (fun (n : Nat) => D.int (0 + (n : Int))) (fun k => pl (plc C k)) trivial ?_ ?_
    · rintro k hk Q q
      have hk := List.mem_range.1 hk
      have hml := more3_len k
      have hsz : ([D.int (C.getD k (0, 0)).1, D.int (C.getD k (0, 0)).2] : List D).length + (more3 k).length ≤ sizeLine := by rw [sizeLine_eq]; show 2 + (more3 k).length ≤ _; omega
      repeat' first | assumption | (refine ⟨_, ix_cd hk, ?_⟩) | (refine ⟨_, ix_tup (by omega) (more3_ix k), ?_⟩) | (intro e; cases e; done) | (refine And.intro hsz ?_) | walk_at "stepN"
    · rw [e3]
      refine And.intro (by rw [List.length_map, sizeLine_eq]; omega) ?_
      walk_at "goN"
      refine ⟨ns, 48, 10, 4, false, rfl, ⟨by omega, by omega⟩, ⟨by omega, by omega⟩, ⟨by omega, by omega⟩, fun rs hrs => ?_⟩
      obtain ⟨s0, s1, s2, s3, s4, s5, s6, s7, s8, s9, rfl⟩ := len10 hrs
      repeat' first | (refine law_t14 G g1 g2 g3 g4 g5 g6 g7 g8 g9 g10 g11 g12 q ha hb hf hR hpl hpm (.inl ⟨rfl, rfl⟩)) | (refine law_t14 G g1 g2 g3 g4 g5 g6 g7 g8 g9 g10 g11 g12 q ha hb hf hR hpl hpm (.inr ⟨rfl, rfl⟩)) | walk_at "stepN"
theorem law_t8 {Q : DK} {E : XDK} {H : MH} {ns : List Int} {small : Bool} {a b : Rc} {n0 n1 n2 n3 n4 n5 l u r w : Int} {R : List Rc} {d1 d8 : D} (q : Q (.bl true) H) (ha : a.Ok) (hb : b.Ok) (hf : 0 ≤ l ∧ 0 ≤ u ∧ 0 ≤ r ∧ 0 ≤ w) (hR : R.length ≤ 100) :
    wpSs G (fun _ => Ex E) (Ss.tl (Ss.tl (Ss.tl (Ss.tl (Ss.tl (Ss.tl (Ss.tl (Ss.tl b_law)))))))) { nx := fun _ H1 => Rt Q .non H1, rt := Rt Q }
      [some (.rol (ns.map .int)), some (.bl small), some d1, some a.d, some b.d, some (.rol [.int n0, .int n1, .int n2, .int n3, .int n4, .int n5]), some (.rol [.int l, .int u, .int r, .int w]), none, some d8, some (.rol (R.map Rc.d)), none, none, none, none, none, none, none, none, none] H := by
  walk_at "goN"
  refine ⟨ns, 38, 10, 3, small, rfl, ⟨by omega, by omega⟩, ⟨by omega, by omega⟩, ⟨by omega, by omega⟩, fun rs hrs => ?_⟩
  have hrs : rs.length = 10 := hrs
  obtain ⟨m, hm⟩ : ∃ m : Nat, m = (if ns.getD 2 0 % 7 < 5 then ns.getD 2 0 % 7 else (5 : Int)).toNat := ⟨_, rfl⟩
  have hm5 : m ≤ 5 := by rw [hm]; split <;> omega
  have e4 : ((List.range m).map fun k => cd (rs.getD (2 * k) 0, rs.getD (2 * k + 1) 0)) = ((List.range m).map fun k => (rs.getD (2 * k) 0, rs.getD (2 * k + 1) 0)).map cd := by rw [List.map_map]; rfl
  walk_at "goN"
  · rw [← hm, List.length_map, List.length_range, sizeLine_eq]; omega
  · rw [← hm]
    refine lcL_mapg (R := List.range m) (fun (n : Nat) => D.int (0 + (n : Int))) (fun k => cd (rs.getD (2 * k) 0, rs.getD (2 * k + 1) 0)) trivial ?_ ?_
    · rintro k hk Q q
      have hk := List.mem_range.1 hk
      have i1 : ∀ H, ixD (.rol (rs.map D.int)) (.int (2 * (0 + (k : Int)))) H = some (.int (rs.getD (2 * k) 0)) := fun H => by
        rw [ix_ro (by omega) (by omega), show (2 * (0 + (k : Int))).toNat = 2 * k by omega]
      have i2 : ∀ H, ixD (.rol (rs.map D.int)) (.int (2 * (0 + (k : Int)) + 1)) H = some (.int (rs.getD (2 * k + 1) 0)) := fun H => by
        rw [ix_ro (by omega) (by omega), show (2 * (0 + (k : Int)) + 1).toNat = 2 * k + 1 by omega]
      repeat' first | assumption | (refine ⟨_, i1 _, ?_⟩) | (refine ⟨_, i2 _, ?_⟩) | walk_at "stepN"
    · rw [e4]
      refine And.intro (by rw [List.length_map, List.length_map, List.length_range, sizeLine_eq]; omega) ?_
      repeat' first | (refine law_t11 G g1 g2 g3 g4 g5 g6 g7 g8 g9 g10 g11 g12 q ha hb hf hR (by rw [List.length_map, List.length_range]; omega)) | walk_at "stepN"
      · intro R2 hl2 _
        have e5 : (R2.map fun r => cd (r.x0, r.y0)) = (R2.map fun r => (r.x0, r.y0)).map cd := by rw [List.map_map]; rfl
        walk_at "goN"
        refine lcL_mapg (R := R2) Rc.d (fun r => cd (r.x0, r.y0)) trivial ?_ ?_
        · rintro r - Q q
          walk_at "goN"
        · rw [e5]
          refine And.intro (by rw [List.length_map, List.length_map, sizeLine_eq]; omega) ?_
          repeat' first | (refine law_t11 G g1 g2 g3 g4 g5 g6 g7 g8 g9 g10 g11 g12 q ha hb hf hR (by rw [List.length_map]; exact hl2)) | walk_at "stepN"
theorem k_law_ : ∀ ds H Q E, lawC ds H Q E → wpF G N_law b_law ds H Q E := by
  rintro ds H Q E ⟨ns, rfl, hlen, hbits, q⟩
  have tail4 : ∀ (small : Bool) (d1 : D) (a b : Rc), a.Ok → b.Ok →
      wpSs G (fun _ => Ex E) (Ss.tl (Ss.tl (Ss.tl (Ss.tl b_law)))) { nx := fun _ H1 => Rt Q .non H1, rt := Rt Q }
      [some (.rol (ns.map .int)), some (.bl small), some d1, some a.d, some b.d, none, none, none, none, none, none, none, none, none, none, none, none, none, none] H := by
    intro small d1 a b ha hb
    walk_at "goN"
    refine ⟨ns, 12, 6, 1, small, rfl, ⟨by omega, by omega⟩, ⟨by omega, by omega⟩, ⟨by omega, by omega⟩, fun rs hrs => ?_⟩
    obtain ⟨n0, n1, n2, n3, n4, n5, rfl⟩ := len6 hrs
    walk_at "goN"
    refine ⟨ns, 18, 20, 2, small, rfl, ⟨by omega, by omega⟩, ⟨by omega, by omega⟩, ⟨by omega, by omega⟩, fun rs hrs => ?_⟩
    have hrs : rs.length = 20 := hrs
    walk_at "goN"
    · intro R hR _
      repeat' first | (refine law_t8 G g1 g2 g3 g4 g5 g6 g7 g8 g9 g10 g11 g12 q ha hb ⟨by split <;> omega, by split <;> omega, by split <;> omega, by split <;> omega⟩ (by omega)) | walk_at "stepN"
    · intro R hR _
      repeat' first | (refine law_t8 G g1 g2 g3 g4 g5 g6 g7 g8 g9 g10 g11 g12 q ha hb ⟨by split <;> omega, by split <;> omega, by split <;> omega, by split <;> omega⟩ (by omega)) | walk_at "stepN"
  walk_at "goN"
  refine ⟨ns, 4, 8, 0, _, rfl, ⟨by omega, by omega⟩, ⟨by omega, by omega⟩, ⟨by omega, by omega⟩, fun rs hrs => ?_⟩
  have hrs : rs.length = 8 := hrs
  walk_at "goN"
  intro R hR hok
  obtain ⟨a, b, rfl⟩ := len2 hR
  have ha := hok a (by simp)
  have hb := hok b (by simp)
  repeat' first | (refine ⟨a, b, _, rfl, ha, hb, fun c hc => ?_⟩; exact tail4 _ _ a c ha hc) | walk_at "stepN"
end
theorem k_law (G : Gm) (g1 : G.fn "_law_cell" = some (2, c__law_cell)) (g2 : G.fn "_law_rects" = some (2, c__law_rects)) (g3 : G.fn "_law_numbers" = some (5, c__law_numbers)) (g4 : G.fn "_law_second" = some (3, c__law_second)) (g5 : G.fn "_law_comb" = some (1, c__law_comb)) (g6 : G.fn "_law_part" = some (2, c__law_part)) (g7 : G.fn "_law_things" = some (2, c__law_things)) (g8 : G.fn "_law_draws" = some (3, c__law_draws)) (g9 : G.fn "_law_pairs" = some (3, c__law_pairs)) (g10 : G.fn "_law_arounds" = some (2, c__law_arounds)) (g11 : G.fn "_law_inside" = some (3, c__law_inside)) (g12 : G.fn "_law_cuts" = some (4, c__law_cuts)) : ∀ ds H Q E, lawC ds H Q E → wpF G N_law b_law ds H Q E := k_law_ G g1 g2 g3 g4 g5 g6 g7 g8 g9 g10 g11 g12
def topS (i : Nat) : Stmt := PySem.Challenge.pw_easelwork_k07_rects_and_blocks.main.body.getD i (.Pass ⟨0, 0, 0, 0⟩)
abbrev s__law_whole : Stmt := topS 12
abbrev s__law_same : Stmt := topS 13
abbrev s_cut : Stmt := topS 6
abbrev s__law_block : Stmt := topS 22
abbrev s__law_cuts : Stmt := topS 24
abbrev s__law_part : Stmt := topS 23
abbrev s_holds : Stmt := topS 5
abbrev s__law_inside : Stmt := topS 20
abbrev s__law_hull : Stmt := topS 17
abbrev s_around_places : Stmt := topS 4
abbrev s_around : Stmt := topS 3
abbrev s__law_arounds : Stmt := topS 19
abbrev s_overlap : Stmt := topS 1
abbrev s_widened : Stmt := topS 2
abbrev s__law_common : Stmt := topS 16
abbrev s__law_pairs : Stmt := topS 18
abbrev s__law_things : Stmt := topS 21
abbrev s__law_draws : Stmt := topS 9
abbrev s__law_cell : Stmt := topS 8
abbrev s__law_numbers : Stmt := topS 10
abbrev s__law_comb : Stmt := topS 14
abbrev s__law_rects : Stmt := topS 11
abbrev s__law_second : Stmt := topS 15
abbrev s_law : Stmt := topS 25
def Bn : List Str := ["abs", "bool", "int", "isinstance", "len", "list", "max", "min", "range", "sorted", "str", "tuple"]
theorem sc__law_whole : scopeC N__law_whole ["got"] (defScope s__law_whole) = true := by decide +kernel
theorem cp__law_whole : compSs ⟨N__law_whole, Bn, [], []⟩ 200 (defScope s__law_whole) (defBody s__law_whole) = some b__law_whole := by kernel_rfl
theorem sc__law_same : scopeC N__law_same ["got", "due"] (defScope s__law_same) = true := by decide +kernel
theorem cp__law_same : compSs ⟨N__law_same, Bn, ["_law_same", "_law_whole"], []⟩ 200 (defScope s__law_same) (defBody s__law_same) = some b__law_same := by kernel_rfl
theorem sc_cut : scopeC N_cut ["block", "rect", "part"] (defScope s_cut) = true := by decide +kernel
theorem cp_cut : compSs ⟨N_cut, Bn, ["_law_same", "_law_whole"], []⟩ 200 (defScope s_cut) (defBody s_cut) = some b_cut := by kernel_rfl
theorem sc__law_block : scopeC N__law_block ["things", "rect"] (defScope s__law_block) = true := by decide +kernel
theorem cp__law_block : compSs ⟨N__law_block, Bn, ["cut", "_law_same", "_law_whole"], [(180, 11)]⟩ 200 (defScope s__law_block) (defBody s__law_block) = some b__law_block := by kernel_rfl
theorem sc__law_cuts : scopeC N__law_cuts ["things", "rect", "part", "inner"] (defScope s__law_cuts) = true := by decide +kernel
theorem cp__law_cuts : compSs ⟨N__law_cuts, Bn, ["_law_block", "cut", "_law_same", "_law_whole"], []⟩ 200 (defScope s__law_cuts) (defBody s__law_cuts) = some b__law_cuts := by kernel_rfl
theorem sc__law_part : scopeC N__law_part ["rect", "numbers"] (defScope s__law_part) = true := by decide +kernel
theorem cp__law_part : compSs ⟨N__law_part, Bn, ["_law_cuts", "_law_block", "cut", "_law_same", "_law_whole"], []⟩ 200 (defScope s__law_part) (defBody s__law_part) = some b__law_part := by kernel_rfl
theorem sc_holds : scopeC N_holds ["rect", "x", "y"] (defScope s_holds) = true := by decide +kernel
theorem cp_holds : compSs ⟨N_holds, Bn, ["_law_part", "_law_cuts", "_law_block", "cut", "_law_same", "_law_whole"], []⟩ 200 (defScope s_holds) (defBody s_holds) = some b_holds := by kernel_rfl
theorem sc__law_inside : scopeC N__law_inside ["a", "x", "y"] (defScope s__law_inside) = true := by decide +kernel
theorem cp__law_inside : compSs ⟨N__law_inside, Bn, ["holds", "_law_part", "_law_cuts", "_law_block", "cut", "_law_same", "_law_whole"], []⟩ 200 (defScope s__law_inside) (defBody s__law_inside) = some b__law_inside := by kernel_rfl
theorem sc__law_hull : scopeC N__law_hull ["rows"] (defScope s__law_hull) = true := by decide +kernel
theorem cp__law_hull : compSs ⟨N__law_hull, Bn, ["_law_inside", "holds", "_law_part", "_law_cuts", "_law_block", "cut", "_law_same", "_law_whole"], []⟩ 200 (defScope s__law_hull) (defBody s__law_hull) = some b__law_hull := by kernel_rfl
theorem sc_around_places : scopeC N_around_places ["places"] (defScope s_around_places) = true := by decide +kernel
theorem cp_around_places : compSs ⟨N_around_places, Bn, ["_law_hull", "_law_inside", "holds", "_law_part", "_law_cuts", "_law_block", "cut", "_law_same", "_law_whole"], []⟩ 200 (defScope s_around_places) (defBody s_around_places) = some b_around_places := by kernel_rfl
theorem sc_around : scopeC N_around ["rects"] (defScope s_around) = true := by decide +kernel
theorem cp_around : compSs ⟨N_around, Bn, ["around_places", "_law_hull", "_law_inside", "holds", "_law_part", "_law_cuts", "_law_block", "cut", "_law_same", "_law_whole"], []⟩ 200 (defScope s_around) (defBody s_around) = some b_around := by kernel_rfl
theorem sc__law_arounds : scopeC N__law_arounds ["rects", "places"] (defScope s__law_arounds) = true := by decide +kernel
theorem cp__law_arounds : compSs ⟨N__law_arounds, Bn, ["around", "around_places", "_law_hull", "_law_inside", "holds", "_law_part", "_law_cuts", "_law_block", "cut", "_law_same", "_law_whole"], []⟩ 200 (defScope s__law_arounds) (defBody s__law_arounds) = some b__law_arounds := by kernel_rfl
theorem sc_overlap : scopeC N_overlap ["a", "b"] (defScope s_overlap) = true := by decide +kernel
theorem cp_overlap : compSs ⟨N_overlap, Bn, ["_law_arounds", "around", "around_places", "_law_hull", "_law_inside", "holds", "_law_part", "_law_cuts", "_law_block", "cut", "_law_same", "_law_whole"], []⟩ 200 (defScope s_overlap) (defBody s_overlap) = some b_overlap := by kernel_rfl
theorem sc_widened : scopeC N_widened ["rect", "left", "up", "right", "down"] (defScope s_widened) = true := by decide +kernel
theorem cp_widened : compSs ⟨N_widened, Bn, ["overlap", "_law_arounds", "around", "around_places", "_law_hull", "_law_inside", "holds", "_law_part", "_law_cuts", "_law_block", "cut", "_law_same", "_law_whole"], []⟩ 200 (defScope s_widened) (defBody s_widened) = some b_widened := by kernel_rfl
theorem sc__law_common : scopeC N__law_common ["a", "b"] (defScope s__law_common) = true := by decide +kernel
theorem cp__law_common : compSs ⟨N__law_common, Bn, ["widened", "overlap", "_law_arounds", "around", "around_places", "_law_hull", "_law_inside", "holds", "_law_part", "_law_cuts", "_law_block", "cut", "_law_same", "_law_whole"], []⟩ 200 (defScope s__law_common) (defBody s__law_common) = some b__law_common := by kernel_rfl
theorem sc__law_pairs : scopeC N__law_pairs ["a", "b", "four"] (defScope s__law_pairs) = true := by decide +kernel
theorem cp__law_pairs : compSs ⟨N__law_pairs, Bn, ["_law_common", "widened", "overlap", "_law_arounds", "around", "around_places", "_law_hull", "_law_inside", "holds", "_law_part", "_law_cuts", "_law_block", "cut", "_law_same", "_law_whole"], []⟩ 200 (defScope s__law_pairs) (defBody s__law_pairs) = some b__law_pairs := by kernel_rfl
theorem sc__law_things : scopeC N__law_things ["mixed", "rect"] (defScope s__law_things) = true := by decide +kernel
theorem cp__law_things : compSs ⟨N__law_things, Bn, ["_law_pairs", "_law_common", "widened", "overlap", "_law_arounds", "around", "around_places", "_law_hull", "_law_inside", "holds", "_law_part", "_law_cuts", "_law_block", "cut", "_law_same", "_law_whole"], [(173, 13), (176, 16)]⟩ 200 (defScope s__law_things) (defBody s__law_things) = some b__law_things := by kernel_rfl
theorem sc__law_draws : scopeC N__law_draws ["script", "at", "count"] (defScope s__law_draws) = true := by decide +kernel
theorem cp__law_draws : compSs ⟨N__law_draws, Bn, ["_law_things", "_law_pairs", "_law_common", "widened", "overlap", "_law_arounds", "around", "around_places", "_law_hull", "_law_inside", "holds", "_law_part", "_law_cuts", "_law_block", "cut", "_law_same", "_law_whole"], [(43, 11)]⟩ 200 (defScope s__law_draws) (defBody s__law_draws) = some b__law_draws := by kernel_rfl
theorem sc__law_cell : scopeC N__law_cell ["script", "k"] (defScope s__law_cell) = true := by decide +kernel
theorem cp__law_cell : compSs ⟨N__law_cell, Bn, ["_law_draws", "_law_things", "_law_pairs", "_law_common", "widened", "overlap", "_law_arounds", "around", "around_places", "_law_hull", "_law_inside", "holds", "_law_part", "_law_cuts", "_law_block", "cut", "_law_same", "_law_whole"], []⟩ 200 (defScope s__law_cell) (defBody s__law_cell) = some b__law_cell := by kernel_rfl
theorem sc__law_numbers : scopeC N__law_numbers ["script", "at", "many", "seed", "small"] (defScope s__law_numbers) = true := by decide +kernel
theorem cp__law_numbers : compSs ⟨N__law_numbers, Bn, ["_law_cell", "_law_draws", "_law_things", "_law_pairs", "_law_common", "widened", "overlap", "_law_arounds", "around", "around_places", "_law_hull", "_law_inside", "holds", "_law_part", "_law_cuts", "_law_block", "cut", "_law_same", "_law_whole"], [(58, 11)]⟩ 200 (defScope s__law_numbers) (defBody s__law_numbers) = some b__law_numbers := by kernel_rfl
theorem sc__law_comb : scopeC N__law_comb ["numbers"] (defScope s__law_comb) = true := by decide +kernel
theorem cp__law_comb : compSs ⟨N__law_comb, Bn, ["_law_numbers", "_law_cell", "_law_draws", "_law_things", "_law_pairs", "_law_common", "widened", "overlap", "_law_arounds", "around", "around_places", "_law_hull", "_law_inside", "holds", "_law_part", "_law_cuts", "_law_block", "cut", "_law_same", "_law_whole"], [(98, 11)]⟩ 200 (defScope s__law_comb) (defBody s__law_comb) = some b__law_comb := by kernel_rfl
theorem sc__law_rects : scopeC N__law_rects ["numbers", "many"] (defScope s__law_rects) = true := by decide +kernel
theorem cp__law_rects : compSs ⟨N__law_rects, Bn, ["_law_comb", "_law_numbers", "_law_cell", "_law_draws", "_law_things", "_law_pairs", "_law_common", "widened", "overlap", "_law_arounds", "around", "around_places", "_law_hull", "_law_inside", "holds", "_law_part", "_law_cuts", "_law_block", "cut", "_law_same", "_law_whole"], [(68, 11)]⟩ 200 (defScope s__law_rects) (defBody s__law_rects) = some b__law_rects := by kernel_rfl
theorem sc__law_second : scopeC N__law_second ["a", "b", "way"] (defScope s__law_second) = true := by decide +kernel
theorem cp__law_second : compSs ⟨N__law_second, Bn, ["_law_rects", "_law_comb", "_law_numbers", "_law_cell", "_law_draws", "_law_things", "_law_pairs", "_law_common", "widened", "overlap", "_law_arounds", "around", "around_places", "_law_hull", "_law_inside", "holds", "_law_part", "_law_cuts", "_law_block", "cut", "_law_same", "_law_whole"], []⟩ 200 (defScope s__law_second) (defBody s__law_second) = some b__law_second := by kernel_rfl
theorem sc_law : scopeC N_law ["script"] (defScope s_law) = true := by decide +kernel
theorem cp_law : compSs ⟨N_law, Bn, ["_law_second", "_law_rects", "_law_comb", "_law_numbers", "_law_cell", "_law_draws", "_law_things", "_law_pairs", "_law_common", "widened", "overlap", "_law_arounds", "around", "around_places", "_law_hull", "_law_inside", "holds", "_law_part", "_law_cuts", "_law_block", "cut", "_law_same", "_law_whole"], []⟩ 200 (defScope s_law) (defBody s_law) = some b_law := by kernel_rfl
def tab : List (Str × Nat × Ctr) := [("_law_whole", 1, c__law_whole), ("_law_same", 2, c__law_same 4), ("cut", 3, c_cut), ("_law_block", 2, c__law_block), ("_law_cuts", 4, c__law_cuts), ("_law_part", 2, c__law_part), ("holds", 3, c_holds), ("_law_inside", 3, c__law_inside), ("_law_hull", 1, c__law_hull), ("around_places", 1, c_around_places), ("around", 1, c_around), ("_law_arounds", 2, c__law_arounds), ("overlap", 2, c_overlap), ("widened", 5, c_widened), ("_law_common", 2, c__law_common), ("_law_pairs", 3, c__law_pairs), ("_law_things", 2, c__law_things), ("_law_draws", 3, c__law_draws), ("_law_cell", 2, c__law_cell), ("_law_numbers", 5, c__law_numbers), ("_law_comb", 1, c__law_comb), ("_law_rects", 2, c__law_rects), ("_law_second", 3, c__law_second), ("law", 1, c_law)]
def gtab : List (Str × D) := []
def gvs : Str → Option D := fun x => gtab.lookup x
def Gl0 : Gm := ⟨fun x => tab.lookup x, gvs⟩
theorem g__law_whole : Gl0.fn "_law_whole" = some (1, c__law_whole) := by rfl
theorem g__law_same : Gl0.fn "_law_same" = some (2, c__law_same 4) := by rfl
theorem g_cut : Gl0.fn "cut" = some (3, c_cut) := by rfl
theorem g__law_block : Gl0.fn "_law_block" = some (2, c__law_block) := by rfl
theorem g__law_cuts : Gl0.fn "_law_cuts" = some (4, c__law_cuts) := by rfl
theorem g__law_part : Gl0.fn "_law_part" = some (2, c__law_part) := by rfl
theorem g_holds : Gl0.fn "holds" = some (3, c_holds) := by rfl
theorem g__law_inside : Gl0.fn "_law_inside" = some (3, c__law_inside) := by rfl
theorem g__law_hull : Gl0.fn "_law_hull" = some (1, c__law_hull) := by rfl
theorem g_around_places : Gl0.fn "around_places" = some (1, c_around_places) := by rfl
theorem g_around : Gl0.fn "around" = some (1, c_around) := by rfl
theorem g__law_arounds : Gl0.fn "_law_arounds" = some (2, c__law_arounds) := by rfl
theorem g_overlap : Gl0.fn "overlap" = some (2, c_overlap) := by rfl
theorem g_widened : Gl0.fn "widened" = some (5, c_widened) := by rfl
theorem g__law_common : Gl0.fn "_law_common" = some (2, c__law_common) := by rfl
theorem g__law_pairs : Gl0.fn "_law_pairs" = some (3, c__law_pairs) := by rfl
theorem g__law_things : Gl0.fn "_law_things" = some (2, c__law_things) := by rfl
theorem g__law_draws : Gl0.fn "_law_draws" = some (3, c__law_draws) := by rfl
theorem g__law_cell : Gl0.fn "_law_cell" = some (2, c__law_cell) := by rfl
theorem g__law_numbers : Gl0.fn "_law_numbers" = some (5, c__law_numbers) := by rfl
theorem g__law_comb : Gl0.fn "_law_comb" = some (1, c__law_comb) := by rfl
theorem g__law_rects : Gl0.fn "_law_rects" = some (2, c__law_rects) := by rfl
theorem g__law_second : Gl0.fn "_law_second" = some (3, c__law_second) := by rfl
theorem g_law : Gl0.fn "law" = some (1, c_law) := by rfl
theorem all_fn {P : Program} {w : World} {K : PySem.W.Frag} {mg : Str → Option Value} {base : Heap} (X : K.In base) (hns : base.Ns mainGlobals mg) (M : Mo P w K mg base Bn gvs) (f__law_whole : FnK K "_law_whole" s__law_whole) (f__law_same : FnK K "_law_same" s__law_same) (f_cut : FnK K "cut" s_cut) (f__law_block : FnK K "_law_block" s__law_block) (f__law_cuts : FnK K "_law_cuts" s__law_cuts) (f__law_part : FnK K "_law_part" s__law_part) (f_holds : FnK K "holds" s_holds) (f__law_inside : FnK K "_law_inside" s__law_inside) (f__law_hull : FnK K "_law_hull" s__law_hull) (f_around_places : FnK K "around_places" s_around_places) (f_around : FnK K "around" s_around) (f__law_arounds : FnK K "_law_arounds" s__law_arounds) (f_overlap : FnK K "overlap" s_overlap) (f_widened : FnK K "widened" s_widened) (f__law_common : FnK K "_law_common" s__law_common) (f__law_pairs : FnK K "_law_pairs" s__law_pairs) (f__law_things : FnK K "_law_things" s__law_things) (f__law_draws : FnK K "_law_draws" s__law_draws) (f__law_cell : FnK K "_law_cell" s__law_cell) (f__law_numbers : FnK K "_law_numbers" s__law_numbers) (f__law_comb : FnK K "_law_comb" s__law_comb) (f__law_rects : FnK K "_law_rects" s__law_rects) (f__law_second : FnK K "_law_second" s__law_second) : Prev P w K mg base Gl0 67 ["_law_second", "_law_rects", "_law_comb", "_law_numbers", "_law_cell", "_law_draws", "_law_things", "_law_pairs", "_law_common", "widened", "overlap", "_law_arounds", "around", "around_places", "_law_hull", "_law_inside", "holds", "_law_part", "_law_cuts", "_law_block", "cut", "_law_same", "_law_whole"] := by
  have p0 : Prev P w K mg base Gl0 40 [] := prev_nil
  have n1 : FnAt P w K mg base 41 "_law_whole" 1 c__law_whole := fn_step (G := Gl0) (N := N__law_whole) (B := Bn) (F := []) (mu := []) (ps := ["got"]) (n := 200) (body := b__law_whole) X hns M f__law_whole (fun _ _ _ _ _ _ us hl => match us, hl with | [_], _ => rfl) sc__law_whole cp__law_whole (by decide) p0 (k__law_whole Gl0)
  have p1 := prev_add p0 (by decide) g__law_whole n1
  have n2 : FnAt P w K mg base 46 "_law_same" 2 (c__law_same 4) := (fn_rec (G := Gl0) (N := N__law_same) (B := Bn) (F := ["_law_whole"]) (mu := []) (ps := ["got", "due"]) (n := 200) (body := b__law_same) (c := c__law_same) X hns M f__law_same (fun _ _ _ _ _ _ us hl => match us, hl with | [_, _], _ => rfl) sc__law_same cp__law_same (by decide) p1 (by decide) c__law_same_0 (fun d => k__law_same d (Gl0.ovr "_law_same" 2 (c__law_same d)) (by first | exact Gm.ovr_same | exact (Gm.ovr_ne (by decide)).trans g__law_whole) (by first | exact Gm.ovr_same | exact (Gm.ovr_ne (by decide)).trans g__law_whole)) 4)
  have p2 := prev_add p1 (by decide) g__law_same n2
  have n3 : FnAt P w K mg base 47 "cut" 3 c_cut := fn_step (G := Gl0) (N := N_cut) (B := Bn) (F := ["_law_same", "_law_whole"]) (mu := []) (ps := ["block", "rect", "part"]) (n := 200) (body := b_cut) X hns M f_cut (fun _ _ _ _ _ _ us hl => match us, hl with | [_, _, _], _ => rfl) sc_cut cp_cut (by decide) p2 (k_cut Gl0)
  have p3 := prev_add p2 (by decide) g_cut n3
  have n4 : FnAt P w K mg base 48 "_law_block" 2 c__law_block := fn_step (G := Gl0) (N := N__law_block) (B := Bn) (F := ["cut", "_law_same", "_law_whole"]) (mu := [(180, 11)]) (ps := ["things", "rect"]) (n := 200) (body := b__law_block) X hns M f__law_block (fun _ _ _ _ _ _ us hl => match us, hl with | [_, _], _ => rfl) sc__law_block cp__law_block (by decide) p3 (k__law_block Gl0)
  have p4 := prev_add p3 (by decide) g__law_block n4
  have n5 : FnAt P w K mg base 49 "_law_cuts" 4 c__law_cuts := fn_step (G := Gl0) (N := N__law_cuts) (B := Bn) (F := ["_law_block", "cut", "_law_same", "_law_whole"]) (mu := []) (ps := ["things", "rect", "part", "inner"]) (n := 200) (body := b__law_cuts) X hns M f__law_cuts (fun _ _ _ _ _ _ us hl => match us, hl with | [_, _, _, _], _ => rfl) sc__law_cuts cp__law_cuts (by decide) p4 (k__law_cuts Gl0 (by first | exact g__law_same | exact g_cut | exact g__law_block) (by first | exact g__law_same | exact g_cut | exact g__law_block) (by first | exact g__law_same | exact g_cut | exact g__law_block))
  have p5 := prev_add p4 (by decide) g__law_cuts n5
  have n6 : FnAt P w K mg base 50 "_law_part" 2 c__law_part := fn_step (G := Gl0) (N := N__law_part) (B := Bn) (F := ["_law_cuts", "_law_block", "cut", "_law_same", "_law_whole"]) (mu := []) (ps := ["rect", "numbers"]) (n := 200) (body := b__law_part) X hns M f__law_part (fun _ _ _ _ _ _ us hl => match us, hl with | [_, _], _ => rfl) sc__law_part cp__law_part (by decide) p5 (k__law_part Gl0)
  have p6 := prev_add p5 (by decide) g__law_part n6
  have n7 : FnAt P w K mg base 51 "holds" 3 c_holds := fn_step (G := Gl0) (N := N_holds) (B := Bn) (F := ["_law_part", "_law_cuts", "_law_block", "cut", "_law_same", "_law_whole"]) (mu := []) (ps := ["rect", "x", "y"]) (n := 200) (body := b_holds) X hns M f_holds (fun _ _ _ _ _ _ us hl => match us, hl with | [_, _, _], _ => rfl) sc_holds cp_holds (by decide) p6 (k_holds Gl0)
  have p7 := prev_add p6 (by decide) g_holds n7
  have n8 : FnAt P w K mg base 52 "_law_inside" 3 c__law_inside := fn_step (G := Gl0) (N := N__law_inside) (B := Bn) (F := ["holds", "_law_part", "_law_cuts", "_law_block", "cut", "_law_same", "_law_whole"]) (mu := []) (ps := ["a", "x", "y"]) (n := 200) (body := b__law_inside) X hns M f__law_inside (fun _ _ _ _ _ _ us hl => match us, hl with | [_, _, _], _ => rfl) sc__law_inside cp__law_inside (by decide) p7 (k__law_inside Gl0 (by first | exact g__law_same | exact g_holds) (by first | exact g__law_same | exact g_holds))
  have p8 := prev_add p7 (by decide) g__law_inside n8
  have n9 : FnAt P w K mg base 53 "_law_hull" 1 c__law_hull := fn_step (G := Gl0) (N := N__law_hull) (B := Bn) (F := ["_law_inside", "holds", "_law_part", "_law_cuts", "_law_block", "cut", "_law_same", "_law_whole"]) (mu := []) (ps := ["rows"]) (n := 200) (body := b__law_hull) X hns M f__law_hull (fun _ _ _ _ _ _ us hl => match us, hl with | [_], _ => rfl) sc__law_hull cp__law_hull (by decide) p8 (k__law_hull Gl0)
  have p9 := prev_add p8 (by decide) g__law_hull n9
  have n10 : FnAt P w K mg base 54 "around_places" 1 c_around_places := fn_step (G := Gl0) (N := N_around_places) (B := Bn) (F := ["_law_hull", "_law_inside", "holds", "_law_part", "_law_cuts", "_law_block", "cut", "_law_same", "_law_whole"]) (mu := []) (ps := ["places"]) (n := 200) (body := b_around_places) X hns M f_around_places (fun _ _ _ _ _ _ us hl => match us, hl with | [_], _ => rfl) sc_around_places cp_around_places (by decide) p9 (k_around_places Gl0)
  have p10 := prev_add p9 (by decide) g_around_places n10
  have n11 : FnAt P w K mg base 55 "around" 1 c_around := fn_step (G := Gl0) (N := N_around) (B := Bn) (F := ["around_places", "_law_hull", "_law_inside", "holds", "_law_part", "_law_cuts", "_law_block", "cut", "_law_same", "_law_whole"]) (mu := []) (ps := ["rects"]) (n := 200) (body := b_around) X hns M f_around (fun _ _ _ _ _ _ us hl => match us, hl with | [_], _ => rfl) sc_around cp_around (by decide) p10 (k_around Gl0)
  have p11 := prev_add p10 (by decide) g_around n11
  have n12 : FnAt P w K mg base 56 "_law_arounds" 2 c__law_arounds := fn_step (G := Gl0) (N := N__law_arounds) (B := Bn) (F := ["around", "around_places", "_law_hull", "_law_inside", "holds", "_law_part", "_law_cuts", "_law_block", "cut", "_law_same", "_law_whole"]) (mu := []) (ps := ["rects", "places"]) (n := 200) (body := b__law_arounds) X hns M f__law_arounds (fun _ _ _ _ _ _ us hl => match us, hl with | [_, _], _ => rfl) sc__law_arounds cp__law_arounds (by decide) p11 (k__law_arounds Gl0 (by first | exact g__law_same | exact g__law_hull | exact g_around_places | exact g_around) (by first | exact g__law_same | exact g__law_hull | exact g_around_places | exact g_around) (by first | exact g__law_same | exact g__law_hull | exact g_around_places | exact g_around) (by first | exact g__law_same | exact g__law_hull | exact g_around_places | exact g_around))
  have p12 := prev_add p11 (by decide) g__law_arounds n12
  have n13 : FnAt P w K mg base 57 "overlap" 2 c_overlap := fn_step (G := Gl0) (N := N_overlap) (B := Bn) (F := ["_law_arounds", "around", "around_places", "_law_hull", "_law_inside", "holds", "_law_part", "_law_cuts", "_law_block", "cut", "_law_same", "_law_whole"]) (mu := []) (ps := ["a", "b"]) (n := 200) (body := b_overlap) X hns M f_overlap (fun _ _ _ _ _ _ us hl => match us, hl with | [_, _], _ => rfl) sc_overlap cp_overlap (by decide) p12 (k_overlap Gl0)
  have p13 := prev_add p12 (by decide) g_overlap n13
  have n14 : FnAt P w K mg base 58 "widened" 5 c_widened := fn_step (G := Gl0) (N := N_widened) (B := Bn) (F := ["overlap", "_law_arounds", "around", "around_places", "_law_hull", "_law_inside", "holds", "_law_part", "_law_cuts", "_law_block", "cut", "_law_same", "_law_whole"]) (mu := []) (ps := ["rect", "left", "up", "right", "down"]) (n := 200) (body := b_widened) X hns M f_widened (fun _ _ _ _ _ _ us hl => match us, hl with | [_, _, _, _, _], _ => rfl) sc_widened cp_widened (by decide) p13 (k_widened Gl0)
  have p14 := prev_add p13 (by decide) g_widened n14
  have n15 : FnAt P w K mg base 59 "_law_common" 2 c__law_common := fn_step (G := Gl0) (N := N__law_common) (B := Bn) (F := ["widened", "overlap", "_law_arounds", "around", "around_places", "_law_hull", "_law_inside", "holds", "_law_part", "_law_cuts", "_law_block", "cut", "_law_same", "_law_whole"]) (mu := []) (ps := ["a", "b"]) (n := 200) (body := b__law_common) X hns M f__law_common (fun _ _ _ _ _ _ us hl => match us, hl with | [_, _], _ => rfl) sc__law_common cp__law_common (by decide) p14 (k__law_common Gl0)
  have p15 := prev_add p14 (by decide) g__law_common n15
  have n16 : FnAt P w K mg base 60 "_law_pairs" 3 c__law_pairs := fn_step (G := Gl0) (N := N__law_pairs) (B := Bn) (F := ["_law_common", "widened", "overlap", "_law_arounds", "around", "around_places", "_law_hull", "_law_inside", "holds", "_law_part", "_law_cuts", "_law_block", "cut", "_law_same", "_law_whole"]) (mu := []) (ps := ["a", "b", "four"]) (n := 200) (body := b__law_pairs) X hns M f__law_pairs (fun _ _ _ _ _ _ us hl => match us, hl with | [_, _, _], _ => rfl) sc__law_pairs cp__law_pairs (by decide) p15 (k__law_pairs Gl0 (by first | exact g__law_same | exact g_overlap | exact g_widened | exact g__law_common) (by first | exact g__law_same | exact g_overlap | exact g_widened | exact g__law_common) (by first | exact g__law_same | exact g_overlap | exact g_widened | exact g__law_common) (by first | exact g__law_same | exact g_overlap | exact g_widened | exact g__law_common))
  have p16 := prev_add p15 (by decide) g__law_pairs n16
  have n17 : FnAt P w K mg base 61 "_law_things" 2 c__law_things := fn_step (G := Gl0) (N := N__law_things) (B := Bn) (F := ["_law_pairs", "_law_common", "widened", "overlap", "_law_arounds", "around", "around_places", "_law_hull", "_law_inside", "holds", "_law_part", "_law_cuts", "_law_block", "cut", "_law_same", "_law_whole"]) (mu := [(173, 13), (176, 16)]) (ps := ["mixed", "rect"]) (n := 200) (body := b__law_things) X hns M f__law_things (fun _ _ _ _ _ _ us hl => match us, hl with | [_, _], _ => rfl) sc__law_things cp__law_things (by decide) p16 (k__law_things Gl0)
  have p17 := prev_add p16 (by decide) g__law_things n17
  have n18 : FnAt P w K mg base 62 "_law_draws" 3 c__law_draws := fn_step (G := Gl0) (N := N__law_draws) (B := Bn) (F := ["_law_things", "_law_pairs", "_law_common", "widened", "overlap", "_law_arounds", "around", "around_places", "_law_hull", "_law_inside", "holds", "_law_part", "_law_cuts", "_law_block", "cut", "_law_same", "_law_whole"]) (mu := [(43, 11)]) (ps := ["script", "at", "count"]) (n := 200) (body := b__law_draws) X hns M f__law_draws (fun _ _ _ _ _ _ us hl => match us, hl with | [_, _, _], _ => rfl) sc__law_draws cp__law_draws (by decide) p17 (k__law_draws Gl0)
  have p18 := prev_add p17 (by decide) g__law_draws n18
  have n19 : FnAt P w K mg base 63 "_law_cell" 2 c__law_cell := fn_step (G := Gl0) (N := N__law_cell) (B := Bn) (F := ["_law_draws", "_law_things", "_law_pairs", "_law_common", "widened", "overlap", "_law_arounds", "around", "around_places", "_law_hull", "_law_inside", "holds", "_law_part", "_law_cuts", "_law_block", "cut", "_law_same", "_law_whole"]) (mu := []) (ps := ["script", "k"]) (n := 200) (body := b__law_cell) X hns M f__law_cell (fun _ _ _ _ _ _ us hl => match us, hl with | [_, _], _ => rfl) sc__law_cell cp__law_cell (by decide) p18 (k__law_cell Gl0)
  have p19 := prev_add p18 (by decide) g__law_cell n19
  have n20 : FnAt P w K mg base 64 "_law_numbers" 5 c__law_numbers := fn_step (G := Gl0) (N := N__law_numbers) (B := Bn) (F := ["_law_cell", "_law_draws", "_law_things", "_law_pairs", "_law_common", "widened", "overlap", "_law_arounds", "around", "around_places", "_law_hull", "_law_inside", "holds", "_law_part", "_law_cuts", "_law_block", "cut", "_law_same", "_law_whole"]) (mu := [(58, 11)]) (ps := ["script", "at", "many", "seed", "small"]) (n := 200) (body := b__law_numbers) X hns M f__law_numbers (fun _ _ _ _ _ _ us hl => match us, hl with | [_, _, _, _, _], _ => rfl) sc__law_numbers cp__law_numbers (by decide) p19 (k__law_numbers Gl0 (by first | exact g__law_draws))
  have p20 := prev_add p19 (by decide) g__law_numbers n20
  have n21 : FnAt P w K mg base 65 "_law_comb" 1 c__law_comb := fn_step (G := Gl0) (N := N__law_comb) (B := Bn) (F := ["_law_numbers", "_law_cell", "_law_draws", "_law_things", "_law_pairs", "_law_common", "widened", "overlap", "_law_arounds", "around", "around_places", "_law_hull", "_law_inside", "holds", "_law_part", "_law_cuts", "_law_block", "cut", "_law_same", "_law_whole"]) (mu := [(98, 11)]) (ps := ["numbers"]) (n := 200) (body := b__law_comb) X hns M f__law_comb (fun _ _ _ _ _ _ us hl => match us, hl with | [_], _ => rfl) sc__law_comb cp__law_comb (by decide) p20 (k__law_comb Gl0)
  have p21 := prev_add p20 (by decide) g__law_comb n21
  have n22 : FnAt P w K mg base 66 "_law_rects" 2 c__law_rects := fn_step (G := Gl0) (N := N__law_rects) (B := Bn) (F := ["_law_comb", "_law_numbers", "_law_cell", "_law_draws", "_law_things", "_law_pairs", "_law_common", "widened", "overlap", "_law_arounds", "around", "around_places", "_law_hull", "_law_inside", "holds", "_law_part", "_law_cuts", "_law_block", "cut", "_law_same", "_law_whole"]) (mu := [(68, 11)]) (ps := ["numbers", "many"]) (n := 200) (body := b__law_rects) X hns M f__law_rects (fun _ _ _ _ _ _ us hl => match us, hl with | [_, _], _ => rfl) sc__law_rects cp__law_rects (by decide) p21 (k__law_rects Gl0)
  have p22 := prev_add p21 (by decide) g__law_rects n22
  have n23 : FnAt P w K mg base 67 "_law_second" 3 c__law_second := fn_step (G := Gl0) (N := N__law_second) (B := Bn) (F := ["_law_rects", "_law_comb", "_law_numbers", "_law_cell", "_law_draws", "_law_things", "_law_pairs", "_law_common", "widened", "overlap", "_law_arounds", "around", "around_places", "_law_hull", "_law_inside", "holds", "_law_part", "_law_cuts", "_law_block", "cut", "_law_same", "_law_whole"]) (mu := []) (ps := ["a", "b", "way"]) (n := 200) (body := b__law_second) X hns M f__law_second (fun _ _ _ _ _ _ us hl => match us, hl with | [_, _, _], _ => rfl) sc__law_second cp__law_second (by decide) p22 (k__law_second Gl0)
  have p23 := prev_add p22 (by decide) g__law_second n23
  exact p23
theorem bl_of {K : PySem.W.Frag} {mg : Str → Option Value} {h : Heap} (X : K.In h) (hns : h.Ns mainGlobals mg) (z0 : PySem.W.nsIn K mainGlobals "abs" = some none) (z1 : PySem.W.nsIn K mainGlobals "bool" = some none) (z2 : PySem.W.nsIn K mainGlobals "int" = some none) (z3 : PySem.W.nsIn K mainGlobals "isinstance" = some none) (z4 : PySem.W.nsIn K mainGlobals "len" = some none) (z5 : PySem.W.nsIn K mainGlobals "list" = some none) (z6 : PySem.W.nsIn K mainGlobals "max" = some none) (z7 : PySem.W.nsIn K mainGlobals "min" = some none) (z8 : PySem.W.nsIn K mainGlobals "range" = some none) (z9 : PySem.W.nsIn K mainGlobals "sorted" = some none) (z10 : PySem.W.nsIn K mainGlobals "str" = some none) (z11 : PySem.W.nsIn K mainGlobals "tuple" = some none) : ∀ x, Bn.contains x = true → mg x = none := by
  intro x hx
  have hx : x ∈ Bn := by simpa using hx
  simp only [Bn, List.mem_cons, List.not_mem_nil, or_false] at hx
  rcases hx with rfl | rfl | rfl | rfl | rfl | rfl | rfl | rfl | rfl | rfl | rfl | rfl
  · exact PySem.W.mg_none_of X hns z0
  · exact PySem.W.mg_none_of X hns z1
  · exact PySem.W.mg_none_of X hns z2
  · exact PySem.W.mg_none_of X hns z3
  · exact PySem.W.mg_none_of X hns z4
  · exact PySem.W.mg_none_of X hns z5
  · exact PySem.W.mg_none_of X hns z6
  · exact PySem.W.mg_none_of X hns z7
  · exact PySem.W.mg_none_of X hns z8
  · exact PySem.W.mg_none_of X hns z9
  · exact PySem.W.mg_none_of X hns z10
  · exact PySem.W.mg_none_of X hns z11
theorem finish {P : Program} {w : World} {K : PySem.W.Frag} {mg : Str → Option Value} {h : Heap} {fa : Addr} (ht : P.given.tree = none)  (X : K.In h) (hns : h.Ns mainGlobals mg) (hmg : mg "law" = some (.ref fa)) (f__law_whole : FnK K "_law_whole" s__law_whole) (f__law_same : FnK K "_law_same" s__law_same) (f_cut : FnK K "cut" s_cut) (f__law_block : FnK K "_law_block" s__law_block) (f__law_cuts : FnK K "_law_cuts" s__law_cuts) (f__law_part : FnK K "_law_part" s__law_part) (f_holds : FnK K "holds" s_holds) (f__law_inside : FnK K "_law_inside" s__law_inside) (f__law_hull : FnK K "_law_hull" s__law_hull) (f_around_places : FnK K "around_places" s_around_places) (f_around : FnK K "around" s_around) (f__law_arounds : FnK K "_law_arounds" s__law_arounds) (f_overlap : FnK K "overlap" s_overlap) (f_widened : FnK K "widened" s_widened) (f__law_common : FnK K "_law_common" s__law_common) (f__law_pairs : FnK K "_law_pairs" s__law_pairs) (f__law_things : FnK K "_law_things" s__law_things) (f__law_draws : FnK K "_law_draws" s__law_draws) (f__law_cell : FnK K "_law_cell" s__law_cell) (f__law_numbers : FnK K "_law_numbers" s__law_numbers) (f__law_comb : FnK K "_law_comb" s__law_comb) (f__law_rects : FnK K "_law_rects" s__law_rects) (f__law_second : FnK K "_law_second" s__law_second) (f_law : FnK K "law" s_law) (z0 : PySem.W.nsIn K mainGlobals "abs" = some none) (z1 : PySem.W.nsIn K mainGlobals "bool" = some none) (z2 : PySem.W.nsIn K mainGlobals "int" = some none) (z3 : PySem.W.nsIn K mainGlobals "isinstance" = some none) (z4 : PySem.W.nsIn K mainGlobals "len" = some none) (z5 : PySem.W.nsIn K mainGlobals "list" = some none) (z6 : PySem.W.nsIn K mainGlobals "max" = some none) (z7 : PySem.W.nsIn K mainGlobals "min" = some none) (z8 : PySem.W.nsIn K mainGlobals "range" = some none) (z9 : PySem.W.nsIn K mainGlobals "sorted" = some none) (z10 : PySem.W.nsIn K mainGlobals "str" = some none) (z11 : PySem.W.nsIn K mainGlobals "tuple" = some none) : ∃ fd : FuncData, (∀ (s : Shared) (u : Value), BindsTo s fd ⟨[u], []⟩ [("script", u)]) ∧ ∀ base : Heap, K.In base → base.Ns mainGlobals mg → base.NoSeer → FnOk P w K mg base (L2.CX P w) 68 fa fd ["script"] (Cl K 1 lawC) :=
  law_fin (G := Gl0) (N := N_law) (B := Bn) (mu := []) (n := 200) (body := b_law) X hns hmg f_law (fun _ _ _ _ _ _ _ => rfl) sc_law cp_law (by decide) (k_law Gl0 (by first | exact g__law_cuts | exact g__law_part | exact g__law_inside | exact g__law_arounds | exact g__law_pairs | exact g__law_things | exact g__law_draws | exact g__law_cell | exact g__law_numbers | exact g__law_comb | exact g__law_rects | exact g__law_second) (by first | exact g__law_cuts | exact g__law_part | exact g__law_inside | exact g__law_arounds | exact g__law_pairs | exact g__law_things | exact g__law_draws | exact g__law_cell | exact g__law_numbers | exact g__law_comb | exact g__law_rects | exact g__law_second) (by first | exact g__law_cuts | exact g__law_part | exact g__law_inside | exact g__law_arounds | exact g__law_pairs | exact g__law_things | exact g__law_draws | exact g__law_cell | exact g__law_numbers | exact g__law_comb | exact g__law_rects | exact g__law_second) (by first | exact g__law_cuts | exact g__law_part | exact g__law_inside | exact g__law_arounds | exact g__law_pairs | exact g__law_things | exact g__law_draws | exact g__law_cell | exact g__law_numbers | exact g__law_comb | exact g__law_rects | exact g__law_second) (by first | exact g__law_cuts | exact g__law_part | exact g__law_inside | exact g__law_arounds | exact g__law_pairs | exact g__law_things | exact g__law_draws | exact g__law_cell | exact g__law_numbers | exact g__law_comb | exact g__law_rects | exact g__law_second) (by first | exact g__law_cuts | exact g__law_part | exact g__law_inside | exact g__law_arounds | exact g__law_pairs | exact g__law_things | exact g__law_draws | exact g__law_cell | exact g__law_numbers | exact g__law_comb | exact g__law_rects | exact g__law_second) (by first | exact g__law_cuts | exact g__law_part | exact g__law_inside | exact g__law_arounds | exact g__law_pairs | exact g__law_things | exact g__law_draws | exact g__law_cell | exact g__law_numbers | exact g__law_comb | exact g__law_rects | exact g__law_second) (by first | exact g__law_cuts | exact g__law_part | exact g__law_inside | exact g__law_arounds | exact g__law_pairs | exact g__law_things | exact g__law_draws | exact g__law_cell | exact g__law_numbers | exact g__law_comb | exact g__law_rects | exact g__law_second) (by first | exact g__law_cuts | exact g__law_part | exact g__law_inside | exact g__law_arounds | exact g__law_pairs | exact g__law_things | exact g__law_draws | exact g__law_cell | exact g__law_numbers | exact g__law_comb | exact g__law_rects | exact g__law_second) (by first | exact g__law_cuts | exact g__law_part | exact g__law_inside | exact g__law_arounds | exact g__law_pairs | exact g__law_things | exact g__law_draws | exact g__law_cell | exact g__law_numbers | exact g__law_comb | exact g__law_rects | exact g__law_second) (by first | exact g__law_cuts | exact g__law_part | exact g__law_inside | exact g__law_arounds | exact g__law_pairs | exact g__law_things | exact g__law_draws | exact g__law_cell | exact g__law_numbers | exact g__law_comb | exact g__law_rects | exact g__law_second) (by first | exact g__law_cuts | exact g__law_part | exact g__law_inside | exact g__law_arounds | exact g__law_pairs | exact g__law_things | exact g__law_draws | exact g__law_cell | exact g__law_numbers | exact g__law_comb | exact g__law_rects | exact g__law_second)) fun base hX hN hS =>
    have M : Mo P w K mg base Bn gvs := ⟨hS, ht, bl_of hX hN z0 z1 z2 z3 z4 z5 z6 z7 z8 z9 z10 z11, gvs_nil⟩
    ⟨M, all_fn hX hN M f__law_whole f__law_same f_cut f__law_block f__law_cuts f__law_part f_holds f__law_inside f__law_hull f_around_places f_around f__law_arounds f_overlap f_widened f__law_common f__law_pairs f__law_things f__law_draws f__law_cell f__law_numbers f__law_comb f__law_rects f__law_second⟩
end DL
section
open PySem PySem.W PyProof.Rows L2
set_option maxRecDepth 100000 in
set_option maxHeartbeats 0 in
theorem PySem.Challenge.cw_easelwork_k07_rects_and_blocks_holds : PySem.Challenge.rw_easelwork_k07_rects_and_blocks.Holds := by
  w_on; o_law; k_head; (case hw => w_witness2)
  k_fill
  refine DL.law_end (l := PySem.Challenge.rw_easelwork_k07_rects_and_blocks) (k := 68) (x := "script") rfl (by decide +kernel) rfl ⟨rfl, by decide, by decide⟩ (fun w h Y => PySem.W.kIn_of Y) ?F
  case F =>
    intro w mg fa h KX GX hmg
    have f__law_whole := by
      refine' DL.fnk_mk (x := "_law_whole") (st := DL.s__law_whole) KX ?a ?l ?c ?k
      (case a => k_is); (case l => k_is); (case c => k_is); (case k => k_is)
    have f__law_same := by
      refine' DL.fnk_mk (x := "_law_same") (st := DL.s__law_same) KX ?a ?l ?c ?k
      (case a => k_is); (case l => k_is); (case c => k_is); (case k => k_is)
    have f_cut := by
      refine' DL.fnk_mk (x := "cut") (st := DL.s_cut) KX ?a ?l ?c ?k
      (case a => k_is); (case l => k_is); (case c => k_is); (case k => k_is)
    have f__law_block := by
      refine' DL.fnk_mk (x := "_law_block") (st := DL.s__law_block) KX ?a ?l ?c ?k
      (case a => k_is); (case l => k_is); (case c => k_is); (case k => k_is)
    have f__law_cuts := by
      refine' DL.fnk_mk (x := "_law_cuts") (st := DL.s__law_cuts) KX ?a ?l ?c ?k
      (case a => k_is); (case l => k_is); (case c => k_is); (case k => k_is)
    have f__law_part := by
      refine' DL.fnk_mk (x := "_law_part") (st := DL.s__law_part) KX ?a ?l ?c ?k
      (case a => k_is); (case l => k_is); (case c => k_is); (case k => k_is)
    have f_holds := by
      refine' DL.fnk_mk (x := "holds") (st := DL.s_holds) KX ?a ?l ?c ?k
      (case a => k_is); (case l => k_is); (case c => k_is); (case k => k_is)
    have f__law_inside := by
      refine' DL.fnk_mk (x := "_law_inside") (st := DL.s__law_inside) KX ?a ?l ?c ?k
      (case a => k_is); (case l => k_is); (case c => k_is); (case k => k_is)
    have f__law_hull := by
      refine' DL.fnk_mk (x := "_law_hull") (st := DL.s__law_hull) KX ?a ?l ?c ?k
      (case a => k_is); (case l => k_is); (case c => k_is); (case k => k_is)
    have f_around_places := by
      refine' DL.fnk_mk (x := "around_places") (st := DL.s_around_places) KX ?a ?l ?c ?k
      (case a => k_is); (case l => k_is); (case c => k_is); (case k => k_is)
    have f_around := by
      refine' DL.fnk_mk (x := "around") (st := DL.s_around) KX ?a ?l ?c ?k
      (case a => k_is); (case l => k_is); (case c => k_is); (case k => k_is)
    have f__law_arounds := by
      refine' DL.fnk_mk (x := "_law_arounds") (st := DL.s__law_arounds) KX ?a ?l ?c ?k
      (case a => k_is); (case l => k_is); (case c => k_is); (case k => k_is)
    have f_overlap := by
      refine' DL.fnk_mk (x := "overlap") (st := DL.s_overlap) KX ?a ?l ?c ?k
      (case a => k_is); (case l => k_is); (case c => k_is); (case k => k_is)
    have f_widened := by
      refine' DL.fnk_mk (x := "widened") (st := DL.s_widened) KX ?a ?l ?c ?k
      (case a => k_is); (case l => k_is); (case c => k_is); (case k => k_is)
    have f__law_common := by
      refine' DL.fnk_mk (x := "_law_common") (st := DL.s__law_common) KX ?a ?l ?c ?k
      (case a => k_is); (case l => k_is); (case c => k_is); (case k => k_is)
    have f__law_pairs := by
      refine' DL.fnk_mk (x := "_law_pairs") (st := DL.s__law_pairs) KX ?a ?l ?c ?k
      (case a => k_is); (case l => k_is); (case c => k_is); (case k => k_is)
    have f__law_things := by
      refine' DL.fnk_mk (x := "_law_things") (st := DL.s__law_things) KX ?a ?l ?c ?k
      (case a => k_is); (case l => k_is); (case c => k_is); (case k => k_is)
    have f__law_draws := by
      refine' DL.fnk_mk (x := "_law_draws") (st := DL.s__law_draws) KX ?a ?l ?c ?k
      (case a => k_is); (case l => k_is); (case c => k_is); (case k => k_is)
    have f__law_cell := by
      refine' DL.fnk_mk (x := "_law_cell") (st := DL.s__law_cell) KX ?a ?l ?c ?k
      (case a => k_is); (case l => k_is); (case c => k_is); (case k => k_is)
    have f__law_numbers := by
      refine' DL.fnk_mk (x := "_law_numbers") (st := DL.s__law_numbers) KX ?a ?l ?c ?k
      (case a => k_is); (case l => k_is); (case c => k_is); (case k => k_is)
    have f__law_comb := by
      refine' DL.fnk_mk (x := "_law_comb") (st := DL.s__law_comb) KX ?a ?l ?c ?k
      (case a => k_is); (case l => k_is); (case c => k_is); (case k => k_is)
    have f__law_rects := by
      refine' DL.fnk_mk (x := "_law_rects") (st := DL.s__law_rects) KX ?a ?l ?c ?k
      (case a => k_is); (case l => k_is); (case c => k_is); (case k => k_is)
    have f__law_second := by
      refine' DL.fnk_mk (x := "_law_second") (st := DL.s__law_second) KX ?a ?l ?c ?k
      (case a => k_is); (case l => k_is); (case c => k_is); (case k => k_is)
    have f_law := by
      refine' DL.fnk_mk (x := "law") (st := DL.s_law) KX ?a ?l ?c ?k
      (case a => k_is); (case l => k_is); (case c => k_is); (case k => k_is)
    have z0 := DL.nsk KX (x := "abs") (by k_is)
    have z1 := DL.nsk KX (x := "bool") (by k_is)
    have z2 := DL.nsk KX (x := "int") (by k_is)
    have z3 := DL.nsk KX (x := "isinstance") (by k_is)
    have z4 := DL.nsk KX (x := "len") (by k_is)
    have z5 := DL.nsk KX (x := "list") (by k_is)
    have z6 := DL.nsk KX (x := "max") (by k_is)
    have z7 := DL.nsk KX (x := "min") (by k_is)
    have z8 := DL.nsk KX (x := "range") (by k_is)
    have z9 := DL.nsk KX (x := "sorted") (by k_is)
    have z10 := DL.nsk KX (x := "str") (by k_is)
    have z11 := DL.nsk KX (x := "tuple") (by k_is)
    exact DL.finish rfl  KX GX hmg f__law_whole f__law_same f_cut f__law_block f__law_cuts f__law_part f_holds f__law_inside f__law_hull f_around_places f_around f__law_arounds f_overlap f_widened f__law_common f__law_pairs f__law_things f__law_draws f__law_cell f__law_numbers f__law_comb f__law_rects f__law_second f_law z0 z1 z2 z3 z4 z5 z6 z7 z8 z9 z10 z11
end
