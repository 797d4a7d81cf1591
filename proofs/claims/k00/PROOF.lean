import PyProof.Rows.All
import Wide.All
import OpenK.AllK
import Wide.FinOn
import HandS.ForMost
import HandS.TupAny
import HandS.IsInst
import HandS.Wide
import HandS.Flow
import HandS.WordsExc
import HandS.Exc
import HandS.SortInts
import KE.DatumOrd
import HandS.CallSlots
import HandS.ExcOwn
import HandS.Comp
import HandS.EndBits
import Flt.Len
import PySem.Challenge.RW_easelwork_k00_nearest_whole_numbers
set_option Elab.async false
set_option linter.all false
set_option maxRecDepth 100000
namespace DL
open PySem PySem.Spec PyProof.Rows L2

/-! ### data -/
inductive D where
  | non | bl (b : Bool) | int (i : Int) | str (x : Str) | ty (n : String) | ref (a : Addr)
  | tup (xs : List D) | rol (xs : List D) | obj (C : Addr) (ns : List Str) (xs : List D)

inductive MO where
  | lst (xs : List D) | ins (C : Addr) (ns : List Str) (xs : List D)
abbrev MH := Addr → Option MO
abbrev DK := D → MH → Prop
abbrev En := List (Option D)
def updM (H : MH) (a : Addr) (o : MO) : MH := fun b => if b = a then some o else H b
theorem updM_same {H : MH} {a : Addr} {o : MO} : updM H a o a = some o := by unfold updM; rw [if_pos rfl]
theorem updM_ne {H : MH} {a b : Addr} {o : MO} (h : b ≠ a) : updM H a o b = H b := by unfold updM; rw [if_neg h]

/-- a list of the written part -/
structure Kz where
  K : PySem.W.Frag
  Z : Addr → Prop
def WL (K : PySem.W.Frag) (a : Addr) (xs : List V) : Prop :=
  ∃ (o : Obj) (its : Array Value) (n : Nat), K.lookup a = some o ∧ o.cls = .type "list" ∧ o.dict = none ∧ o.data = .seq its n ∧ its.size ≤ sizeLine ∧ Vals xs its.toList
def FrzL (K : Kz) (H : Hp) (Hm : MH) (a : Addr) (xs : List V) : Prop := (Rd H a (.lst xs) ∧ Hm a = none ∧ ¬ K.Z a) ∨ WL K.K a xs
theorem FrzL.sq {K : Kz} {H : Hp} {Hm : MH} {a : Addr} {xs : List V} (h : FrzL K H Hm a xs) : SqL K.K H a xs := by
  rcases h with h | h
  · exact .inl h.1
  · exact .inr h

mutual
def Is (K : Kz) (H : Hp) (Hm : MH) : D → V → Prop
  | .non, v => v = .non
  | .bl b, v => v = .bl b
  | .int i, v => v = .int i
  | .str x, v => v = .str x
  | .ty n, v => v = .ty n
  | .ref a, v => v = .ref a
  | .tup ds, v => ∃ a vs, v = .ref a ∧ SqT K.K H a vs ∧ Iss K H Hm ds vs
  | .rol ds, v => ∃ a vs, v = .ref a ∧ FrzL K H Hm a vs ∧ Iss K H Hm ds vs
  | .obj C ns ds, v => ∃ a dx fs, v = .ref a ∧ H a = some (.ins C dx fs) ∧ (Hm a = none ∧ ¬ K.Z a) ∧ fs.map (·.1) = ns ∧ Iss K H Hm ds (fs.map (·.2))
def Iss (K : Kz) (H : Hp) (Hm : MH) : List D → List V → Prop
  | [], vs => vs = []
  | d :: ds, vs => ∃ v r, vs = v :: r ∧ Is K H Hm d v ∧ Iss K H Hm ds r
end

section
variable {K : Kz} {H H' H'' : Hp} {Hm Hm' Hm'' : MH} {d : D} {v : V} {ds : List D} {vs : List V}
theorem Iss.nil : Iss K H Hm [] [] := by unfold Iss; rfl
theorem Iss.cons (h : Is K H Hm d v) (t : Iss K H Hm ds vs) : Iss K H Hm (d :: ds) (v :: vs) := by unfold Iss; exact ⟨v, vs, rfl, h, t⟩
theorem Iss.nil_of (h : Iss K H Hm [] vs) : vs = [] := by unfold Iss at h; exact h
theorem Iss.cons_of (h : Iss K H Hm (d :: ds) vs) : ∃ v r, vs = v :: r ∧ Is K H Hm d v ∧ Iss K H Hm ds r := by unfold Iss at h; exact h
theorem Iss.length : ∀ {ds : List D} {vs : List V}, Iss K H Hm ds vs → vs.length = ds.length
  | [], vs, h => by rw [h.nil_of]; rfl
  | d :: ds, vs, h => by
    obtain ⟨v, r, rfl, _, t⟩ := h.cons_of
    rw [List.length_cons, List.length_cons, t.length]
theorem Iss.get : ∀ {ds : List D} {vs : List V} {i : Nat} {d : D}, Iss K H Hm ds vs → ds[i]? = some d → ∃ v, vs[i]? = some v ∧ Is K H Hm d v
  | [], _, _, _, _, e => by simp at e
  | d :: ds, vs, 0, d', h, e => by
    obtain ⟨v, r, rfl, q, _⟩ := h.cons_of
    have e : d = d' := by simpa using e
    exact ⟨v, rfl, e ▸ q⟩
  | d :: ds, vs, i + 1, d', h, e => by
    obtain ⟨v, r, rfl, _, t⟩ := h.cons_of
    exact t.get (by simpa using e)
theorem Iss.get' : ∀ {ds : List D} {vs : List V} {i : Nat} {v : V}, Iss K H Hm ds vs → vs[i]? = some v → ∃ d, ds[i]? = some d ∧ Is K H Hm d v
  | [], vs, _, _, h, e => by rw [h.nil_of] at e; simp at e
  | d :: ds, vs, 0, v', h, e => by
    obtain ⟨v, r, rfl, q, _⟩ := h.cons_of
    have e : v = v' := by simpa using e
    exact ⟨d, rfl, e ▸ q⟩
  | d :: ds, vs, i + 1, v', h, e => by
    obtain ⟨v, r, rfl, _, t⟩ := h.cons_of
    exact t.get' (by simpa using e)
theorem Iss.append : ∀ {ds : List D} {vs : List V} {es : List D} {ws : List V}, Iss K H Hm ds vs → Iss K H Hm es ws → Iss K H Hm (ds ++ es) (vs ++ ws)
  | [], vs, _, _, h, g => by rw [h.nil_of]; exact g
  | d :: ds, vs, _, _, h, g => by
    obtain ⟨v, r, rfl, q, t⟩ := h.cons_of
    exact .cons q (t.append g)
theorem Iss.take : ∀ {ds : List D} {vs : List V} (n : Nat), Iss K H Hm ds vs → Iss K H Hm (ds.take n) (vs.take n)
  | _, _, 0, _ => .nil
  | [], vs, n + 1, h => by rw [h.nil_of]; exact .nil
  | d :: ds, vs, n + 1, h => by
    obtain ⟨v, r, rfl, q, t⟩ := h.cons_of
    exact .cons q (t.take n)
theorem Iss.drop : ∀ {ds : List D} {vs : List V} (n : Nat), Iss K H Hm ds vs → Iss K H Hm (ds.drop n) (vs.drop n)
  | _, _, 0, h => h
  | [], vs, n + 1, h => by rw [h.nil_of]; exact .nil
  | d :: ds, vs, n + 1, h => by
    obtain ⟨v, r, rfl, q, t⟩ := h.cons_of
    exact t.drop n
theorem Iss.set : ∀ {ds : List D} {vs : List V} (i : Nat) {d : D} {v : V}, Iss K H Hm ds vs → Is K H Hm d v → Iss K H Hm (ds.set i d) (vs.set i v)
  | [], vs, _, _, _, h, _ => by rw [h.nil_of]; exact .nil
  | e :: ds, vs, 0, d, v, h, g => by
    obtain ⟨u, r, rfl, q, t⟩ := h.cons_of
    exact .cons g t
  | e :: ds, vs, i + 1, d, v, h, g => by
    obtain ⟨u, r, rfl, q, t⟩ := h.cons_of
    exact .cons q (t.set i g)
theorem Iss.reverse : ∀ {ds : List D} {vs : List V}, Iss K H Hm ds vs → Iss K H Hm ds.reverse vs.reverse
  | [], vs, h => by rw [h.nil_of]; exact .nil
  | d :: ds, vs, h => by
    obtain ⟨v, r, rfl, q, t⟩ := h.cons_of
    rw [List.reverse_cons, List.reverse_cons]
    exact t.reverse.append (.cons q .nil)
theorem Iss.ints : ∀ {ns : List Int} {vs : List V}, Iss K H Hm (ns.map D.int) vs → vs = ns.map V.int
  | [], vs, h => h.nil_of
  | n :: ns, vs, h => by
    obtain ⟨v, r, rfl, q, t⟩ := h.cons_of
    unfold Is at q
    rw [q, t.ints]; rfl
theorem Iss.of_ints : ∀ (ns : List Int), Iss K H Hm (ns.map D.int) (ns.map V.int)
  | [] => .nil
  | n :: ns => .cons (by unfold Is; rfl) (Iss.of_ints ns)

/-! ### the mutable part, what is left alone -/
def RepO (K : Kz) (H : Hp) (Hm : MH) (a : Addr) : MO → Prop
  | .lst ds => ∃ vs, H a = some (.lst vs) ∧ Iss K H Hm ds vs
  | .ins C ns ds => ∃ dx fs, H a = some (.ins C dx fs) ∧ fs.map (·.1) = ns ∧ Iss K H Hm ds (fs.map (·.2))
structure Rep (K : Kz) (H : Hp) (Hm : MH) : Prop where
  obj : ∀ a o, Hm a = some o → RepO K H Hm a o
  hid : ∀ a, K.Z a → ∃ o, H a = some o ∧ Hm a = none
def NT (Hm : MH) (H : Hp) (Hm' : MH) (H' : Hp) : Prop := ∀ a o, H a = some o → Hm a = none → H' a = some o ∧ Hm' a = none
theorem NT.refl : NT Hm H Hm H := fun _ _ e n => ⟨e, n⟩
theorem NT.trans (a : NT Hm H Hm' H') (b : NT Hm' H' Hm'' H'') : NT Hm H Hm'' H'' := fun x o e n => by
  obtain ⟨e1, n1⟩ := a x o e n
  exact b x o e1 n1
theorem Rep.hit (r : Rep K H Hm) {a : Addr} {o : MO} (h : Hm a = some o) : ∃ u, H a = some u ∧ ((∃ vs, u = .lst vs) ∨ ∃ C dx fs, u = .ins C dx fs) := by
  have := r.obj a o h
  cases o with
  | lst ds => obtain ⟨vs, e, _⟩ := this; exact ⟨_, e, .inl ⟨_, rfl⟩⟩
  | ins C ns ds => obtain ⟨dx, vs, e, _⟩ := this; exact ⟨_, e, .inr ⟨_, _, _, rfl⟩⟩
theorem Rep.free (r : Rep K H Hm) {a : Addr} (h : H a = none) : Hm a = none := by
  cases q : Hm a with
  | none => rfl
  | some o =>
    obtain ⟨u, e, _⟩ := r.hit q
    rw [h] at e; cases e
theorem Rep.tup (r : Rep K H Hm) {a : Addr} {xs : List V} (h : H a = some (.tup xs)) : Hm a = none := by
  cases q : Hm a with
  | none => rfl
  | some o =>
    obtain ⟨u, e, z⟩ := r.hit q
    rw [h] at e; cases e
    rcases z with ⟨_, z⟩ | ⟨_, _, _, z⟩ <;> cases z
theorem Rep.frz (r : Rep K H Hm) {a : Addr} {o : Obj} {u : HO} (h : H a = some (.frz o u)) : Hm a = none := by
  cases q : Hm a with
  | none => rfl
  | some o =>
    obtain ⟨u, e, z⟩ := r.hit q
    rw [h] at e; cases e
    rcases z with ⟨_, z⟩ | ⟨_, _, _, z⟩ <;> cases z
theorem sqT_nt (r : Rep K H Hm) (n : NT Hm H Hm' H') {a : Addr} {xs : List V} (h : SqT K.K H a xs) : SqT K.K H' a xs := by
  rcases h with (h | ⟨o, h⟩) | h
  · exact .inl (.inl (n _ _ h (r.tup h)).1)
  · exact .inl (.inr ⟨o, (n _ _ h (r.frz h)).1⟩)
  · exact .inr h
theorem frzL_nt (n : NT Hm H Hm' H') {a : Addr} {xs : List V} (h : FrzL K H Hm a xs) : FrzL K H' Hm' a xs := by
  rcases h with ⟨h | ⟨o, h⟩, m, z⟩ | h
  · obtain ⟨e, q⟩ := n _ _ h m
    exact .inl ⟨.inl e, q, z⟩
  · obtain ⟨e, q⟩ := n _ _ h m
    exact .inl ⟨.inr ⟨o, e⟩, q, z⟩
  · exact .inr h
mutual
theorem Is.nt (r : Rep K H Hm) (n : NT Hm H Hm' H') : ∀ (d : D) (v : V), Is K H Hm d v → Is K H' Hm' d v
  | .non, v, h => h
  | .bl b, v, h => h
  | .int i, v, h => h
  | .str x, v, h => h
  | .ty n, v, h => h
  | .ref a, v, h => h
  | .tup ds, v, h => by
    unfold Is at h ⊢
    obtain ⟨a, vs, e, s, t⟩ := h
    exact ⟨a, vs, e, sqT_nt r n s, Iss.nt r n ds vs t⟩
  | .rol ds, v, h => by
    unfold Is at h ⊢
    obtain ⟨a, vs, e, s, t⟩ := h
    exact ⟨a, vs, e, frzL_nt n s, Iss.nt r n ds vs t⟩
  | .obj C ns ds, v, h => by
    unfold Is at h ⊢
    obtain ⟨a, dx, fs, e, s, ⟨m, z⟩, l, t⟩ := h
    obtain ⟨s', m'⟩ := n _ _ s m
    exact ⟨a, dx, fs, e, s', ⟨m', z⟩, l, Iss.nt r n ds _ t⟩
theorem Iss.nt (r : Rep K H Hm) (n : NT Hm H Hm' H') : ∀ (ds : List D) (vs : List V), Iss K H Hm ds vs → Iss K H' Hm' ds vs
  | [], vs, h => by unfold Iss at h ⊢; exact h
  | d :: ds, vs, h => by
    obtain ⟨v, t, e, q, z⟩ := h.cons_of
    rw [e]
    exact .cons (Is.nt r n d v q) (Iss.nt r n ds t z)
end
/-- forgetting what is tracked -/
def Sub (Hm' Hm : MH) : Prop := ∀ a, Hm a = none → Hm' a = none
mutual
theorem Is.sub (s : Sub Hm' Hm) : ∀ (d : D) (v : V), Is K H Hm d v → Is K H Hm' d v
  | .non, v, h => h
  | .bl b, v, h => h
  | .int i, v, h => h
  | .str x, v, h => h
  | .ty n, v, h => h
  | .ref a, v, h => h
  | .tup ds, v, h => by
    unfold Is at h ⊢
    obtain ⟨a, vs, e, q, t⟩ := h
    exact ⟨a, vs, e, q, Iss.sub s ds vs t⟩
  | .rol ds, v, h => by
    unfold Is at h ⊢
    obtain ⟨a, vs, e, q, t⟩ := h
    refine ⟨a, vs, e, ?_, Iss.sub s ds vs t⟩
    rcases q with ⟨q, m, z⟩ | q
    · exact .inl ⟨q, s _ m, z⟩
    · exact .inr q
  | .obj C ns ds, v, h => by
    unfold Is at h ⊢
    obtain ⟨a, dx, fs, e, q, ⟨m, z⟩, l, t⟩ := h
    exact ⟨a, dx, fs, e, q, ⟨s _ m, z⟩, l, Iss.sub s ds _ t⟩
theorem Iss.sub (s : Sub Hm' Hm) : ∀ (ds : List D) (vs : List V), Iss K H Hm ds vs → Iss K H Hm' ds vs
  | [], vs, h => by unfold Iss at h ⊢; exact h
  | d :: ds, vs, h => by
    obtain ⟨v, t, e, q, z⟩ := h.cons_of
    rw [e]
    exact .cons (Is.sub s d v q) (Iss.sub s ds t z)
end
/-! from one state and hidden set to another -/
mutual
theorem Is.tr {K K' : Kz} (t : ∀ a xs, SqT K.K H a xs → SqT K'.K H' a xs) (f : ∀ a xs, FrzL K H Hm a xs → FrzL K' H' Hm' a xs)
    (o : ∀ a C dx fs, H a = some (.ins C dx fs) → (Hm a = none ∧ ¬ K.Z a) → H' a = some (.ins C dx fs) ∧ (Hm' a = none ∧ ¬ K'.Z a)) : ∀ (d : D) (v : V), Is K H Hm d v → Is K' H' Hm' d v
  | .non, v, h => h
  | .bl b, v, h => h
  | .int i, v, h => h
  | .str x, v, h => h
  | .ty n, v, h => h
  | .ref a, v, h => h
  | .tup ds, v, h => by
    unfold Is at h ⊢
    obtain ⟨a, vs, e, q, z⟩ := h
    exact ⟨a, vs, e, t _ _ q, Iss.tr t f o ds vs z⟩
  | .rol ds, v, h => by
    unfold Is at h ⊢
    obtain ⟨a, vs, e, q, z⟩ := h
    exact ⟨a, vs, e, f _ _ q, Iss.tr t f o ds vs z⟩
  | .obj C ns ds, v, h => by
    unfold Is at h ⊢
    obtain ⟨a, dx, fs, e, q, m, l, z⟩ := h
    obtain ⟨q', m'⟩ := o _ _ _ _ q m
    exact ⟨a, dx, fs, e, q', m', l, Iss.tr t f o ds _ z⟩
theorem Iss.tr {K K' : Kz} (t : ∀ a xs, SqT K.K H a xs → SqT K'.K H' a xs) (f : ∀ a xs, FrzL K H Hm a xs → FrzL K' H' Hm' a xs)
    (o : ∀ a C dx fs, H a = some (.ins C dx fs) → (Hm a = none ∧ ¬ K.Z a) → H' a = some (.ins C dx fs) ∧ (Hm' a = none ∧ ¬ K'.Z a)) : ∀ (ds : List D) (vs : List V), Iss K H Hm ds vs → Iss K' H' Hm' ds vs
  | [], vs, h => by unfold Iss at h ⊢; exact h
  | d :: ds, vs, h => by
    obtain ⟨v, r, e, q, z⟩ := h.cons_of
    rw [e]
    exact .cons (Is.tr t f o d v q) (Iss.tr t f o ds r z)
end
end
end DL

namespace DL
open PySem PySem.Spec PyProof.Rows L2

inductive Bi where
  | len | min | max | abs | int | bool | str | sorted | list | tuple | sum | isi
inductive Mt where
  | append | pop | upper
mutual
inductive E where
  | k (d : D) | v (i : Nat) | g (x : Str) | ty (n : String)
  | bin (m : Bool) (o : Operator) (a b : E) | neg (a : E) | not (a : E) | and (a b : E) | or (a b : E)
  | cmp (o : CmpOp) (a b : E) | ch (a : E) (o : CmpOp) (b : E) (o' : CmpOp) (c : E)
  | ite (t a b : E) | tup (es : Es) | lst (m : Bool) (es : Es)
  | ix (a b : E) | sl (m : Bool) (a : E) (lo hi : Oe)
  | call (x : Str) (es : Es) | bi (m : Bool) (f : Bi) (es : Es) | mth (m : Bool) (a : E) (f : Mt) (es : Es)
  | lc (m : Bool) (e : E) (t : T) (i : It) (c : Es) (own : List Nat)
inductive Oe where
  | no | so (e : E)
inductive Es where
  | nil | cons (e : E) (es : Es)
inductive T where
  | nm (i : Nat) | tup (ts : Ts) | sub (a b : E)
inductive Ts where
  | nil | cons (t : T) (ts : Ts)
inductive It where
  | seq (e : E) | rng1 (a : E) | rng2 (a b : E)
end
mutual
inductive S where
  | asg (t : T) (e : E) | aug (i : Nat) (o : Operator) (e : E) | ex (e : E) | ret (e : E) | retN
  | cond (c : E) (a b : Ss) | loop (t : T) (i : It) (b : Ss) | whl (c : E) (b : Ss) | brk | ct | pass
inductive Ss where
  | nil | cons (s : S) (ss : Ss)
end

/-! ### values -/
@[simp] def lstAt (H : MH) : D → Option (List D)
  | .rol xs => some xs
  | .ref a => match H a with
    | some (.lst xs) => some xs
    | _ => none
  | _ => none
@[simp] def seqAt (H : MH) : D → Option (List D)
  | .tup xs => some xs
  | d => lstAt H d
mutual
@[simp] def pyD : D → Option PyData
  | .non => some .none
  | .bl b => some (.bool b)
  | .int i => some (.int i)
  | .str x => some (.str x)
  | .tup xs => (pyDs xs).map .tuple
  | .rol xs => (pyDs xs).map .list
  | _ => none
@[simp] def pyDs : List D → Option (List PyData)
  | [] => some []
  | x :: xs => (pyD x).bind fun d => (pyDs xs).map (d :: ·)
end
@[simp] def eqD : D → D → Option Bool
  | .int a, .int b => some (decide (a = b))
  | .bl a, .bl b => some (decide (a = b))
  | .str a, .str b => some (decide (a = b))
  | .non, .non => some true
  | x, y => (pyD x).bind fun d => (pyD y).bind fun e => if SeqAt.shaped d && SeqAt.shaped e then some (PyData.eqv d e) else none
@[simp] def rdL (H : MH) (d : D) : D := match lstAt H d with
  | some xs => .rol xs
  | none => d
def flatD : D → Bool
  | .non => true | .bl _ => true | .int _ => true | .str _ => true | _ => false
/-- x in xs, flat things -/
def eqF : D → D → Bool
  | .non, .non => true
  | .bl a, .bl b => a == b
  | .int a, .int b => a == b
  | .str a, .str b => a == b
  | .bl a, .int b => (if a then 1 else 0) == b
  | .int a, .bl b => a == (if b then 1 else 0)
  | _, _ => false
def inD (x : D) (xs : List D) : Option Bool := if flatD x && xs.all flatD then some (xs.any fun y => eqF y x) else none
@[simp] def isNonD : D → Bool
  | .non => true | _ => false
@[simp] def cmpD (o : CmpOp) (x y : D) (H : MH) : Option Bool :=
  match o, x, y with
  | .Lt, .int i, .int j => some (decide (i < j))
  | .LtE, .int i, .int j => some (decide (i ≤ j))
  | .Gt, .int i, .int j => some (decide (j < i))
  | .GtE, .int i, .int j => some (decide (j ≤ i))
  | .Eq, x, y => eqD (rdL H x) (rdL H y)
  | .NotEq, x, y => (eqD (rdL H x) (rdL H y)).map (!·)
  | .Is, x, .non => some (isNonD x)
  | .IsNot, x, .non => some (!isNonD x)
  | .In, x, y => (seqAt H y).bind fun xs => inD x xs
  | .NotIn, x, y => (seqAt H y).bind fun xs => (inD x xs).map (!·)
  | _, _, _ => none
@[simp] def truD (H : MH) : D → Option Bool
  | .non => some false
  | .bl b => some b
  | .int i => some (i != 0)
  | d => (seqAt H d).map (!·.isEmpty)
@[simp] def freshL (m : Bool) (ys : List D) (H : MH) (Q : DK) : Prop := ys.length ≤ sizeLine ∧
  match m with
  | true => ∀ p, H p = none → Q (.ref p) (updM H p (.lst ys))
  | false => Q (.rol ys) H
def mulOk (i j : Int) : Prop := (-(2 ^ 64) < i ∧ i < 2 ^ 64) ∨ (-(2 ^ 64) < j ∧ j < 2 ^ 64) ∨ i.natAbs.log2 + j.natAbs.log2 < 100000000
@[simp] def binD (m : Bool) (o : Operator) (x y : D) (H : MH) (Q : DK) : Prop :=
  match o, x, y with
  | .Add, .int i, .int j => Q (.int (i + j)) H
  | .Sub, .int i, .int j => Q (.int (i - j)) H
  | .Mult, .int i, .int j => mulOk i j ∧ Q (.int (i * j)) H
  | .FloorDiv, .int i, .int j => 0 < j ∧ Q (.int (i / j)) H
  | .Mod, .int i, .int j => 0 < j ∧ Q (.int (i % j)) H
  | .Add, .str a, .str b => a.length + b.length ≤ sizeLine ∧ Q (.str (a ++ b)) H
  | .Add, .tup xs, .tup ys => xs ≠ [] ∧ xs.length + ys.length ≤ sizeLine ∧ Q (.tup (xs ++ ys)) H
  | .Add, x, y => ∃ xs ys, lstAt H x = some xs ∧ lstAt H y = some ys ∧ freshL m (xs ++ ys) H Q
  | _, _, _ => False
@[simp] def augD (o : Operator) (x y : D) (H : MH) (Q : DK) : Prop :=
  match o, x, y with
  | .Add, .int i, .int j => Q (.int (i + j)) H
  | .Sub, .int i, .int j => Q (.int (i - j)) H
  | .Add, .str a, .str b => a.length + b.length ≤ sizeLine ∧ Q (.str (a ++ b)) H
  | _, _, _ => False
@[simp] def ixD (x y : D) (H : MH) : Option D :=
  match y with
  | .int i => match x with
    | .str z => if z.length ≤ sizeLine then (atI z.cps.toList i).map fun c => .str ⟨#[c]⟩ else none
    | d => (seqAt H d).bind fun xs => atI xs i
  | _ => none
def cutD (xs : List D) (lo hi : Option Int) : List D := (xs.drop (HT.sIx xs.length 0 lo)).take (HT.sIx xs.length xs.length hi - HT.sIx xs.length 0 lo)
@[simp] def slD (m : Bool) (x : D) (lo hi : Option Int) (H : MH) (Q : DK) : Prop :=
  match x with
  | .tup xs => Q (.tup (cutD xs lo hi)) H
  | .str z => z.length ≤ sizeLine ∧ Q (.str (cutS z lo hi)) H
  | d => ∃ xs, lstAt H d = some xs ∧ freshL m (cutD xs lo hi) H Q
def tyNames : List String := ["int", "bool", "str", "tuple", "list", "dict"]
@[simp] def isTy0 : D → String → MH → Option Bool
  | .non, n, _ => some false
  | .bl _, n, _ => some (n == "bool" || n == "int")
  | .int _, n, _ => some (n == "int")
  | .str _, n, _ => some (n == "str")
  | .tup _, n, _ => some (n == "tuple")
  | .rol _, n, _ => some (n == "list")
  | .ref a, n, H => match H a with
    | some (.lst _) => some (n == "list")
    | _ => none
  | _, _, _ => none
def isTy (d : D) (n : String) (H : MH) : Option Bool := if tyNames.contains n then isTy0 d n H else none
@[simp] def intsD : List D → Option (List Int)
  | [] => some []
  | .int i :: r => (intsD r).map (i :: ·)
  | _ => none
def leastI (n : Int) : List Int → Int
  | [] => n
  | m :: r => leastI (if m < n then m else n) r
def mostI (n : Int) : List Int → Int
  | [] => n
  | m :: r => mostI (if m > n then m else n) r
@[simp] def biD (m : Bool) (f : Bi) (ds : List D) (H : MH) (Q : DK) : Prop :=
  match f, ds with
  | .len, [.str z] => z.length ≤ sizeLine ∧ Q (.int z.length) H
  | .len, [d] => ∃ xs, seqAt H d = some xs ∧ Q (.int xs.length) H
  | .min, [.int i, .int j] => Q (.int (if j < i then j else i)) H
  | .max, [.int i, .int j] => Q (.int (if j > i then j else i)) H
  | .min, [d] => ∃ n ns, (seqAt H d).bind intsD = some (n :: ns) ∧ Q (.int (leastI n ns)) H
  | .max, [d] => ∃ n ns, (seqAt H d).bind intsD = some (n :: ns) ∧ Q (.int (mostI n ns)) H
  | .abs, [.int i] => Q (.int (if i < 0 then -i else i)) H
  | .int, [.int i] => Q (.int i) H
  | .int, [.bl b] => Q (.int (if b then 1 else 0)) H
  | .bool, [.bl b] => Q (.bl b) H
  | .str, [.int i] => i.natAbs.log2 < 1920 ∧ Q (.str (toString i)) H
  | .sum, [d] => ∃ ns, (lstAt H d).bind intsD = some ns ∧ Q (.int ns.sum) H
  | .sorted, [d] => ∃ ns, (lstAt H d).bind intsD = some ns ∧ ∀ ms : List Int, ms.Perm ns → ms.Pairwise (· ≤ ·) → freshL m (ms.map .int) H Q
  | .list, [d] => ∃ xs, seqAt H d = some xs ∧ freshL m xs H Q
  | .tuple, [d] => ∃ xs, seqAt H d = some xs ∧ Q (.tup xs) H
  | .isi, [d, .ty n] => ∃ b, isTy d n H = some b ∧ Q (.bl b) H
  | _, _ => False
@[simp] def mtTy (f : Mt) (x : D) (H : MH) : Prop :=
  match f with
  | .append => ∃ a xs, x = .ref a ∧ H a = some (.lst xs)
  | .pop => ∃ a xs, x = .ref a ∧ H a = some (.lst xs)
  | .upper => ∃ z, x = .str z
@[simp] def mtD (m : Bool) (f : Mt) (x : D) (ds : List D) (H : MH) (Q : DK) : Prop :=
  match f, x, ds with
  | .append, .ref a, [d] => ∃ xs, H a = some (.lst xs) ∧ xs.length < sizeLine ∧ Q .non (updM H a (.lst (xs ++ [d])))
  | .pop, .ref a, [] => ∃ xs d, H a = some (.lst (xs ++ [d])) ∧ Q d (updM H a (.lst xs))
  | .upper, .str a, [] => a.length ≤ 5592405 ∧ Q (.str (Txt.upper a)) H
  | _, _, _ => False

mutual
@[simp] def T.slots : T → List Nat
  | .nm i => [i]
  | .tup ts => ts.slots
  | .sub _ _ => []
@[simp] def Ts.slots : Ts → List Nat
  | .nil => []
  | .cons t ts => t.slots ++ ts.slots
end
@[simp] def Ts.len : Ts → Nat
  | .nil => 0
  | .cons _ ts => ts.len + 1
/-! ### the reading of a term -/
abbrev XDK := Value → Option (List Str × List D) → MH → Prop
abbrev Ctr := List D → MH → DK → XDK → Prop
structure Gm where
  fn : Str → Option (Nat × Ctr)
  gv : Str → Option D
structure Ends' where
  nx : En → MH → Prop
  rt : DK
  bk : En → MH → Prop := fun _ _ => False
  ct : En → MH → Prop := fun _ _ => False
def br : Bool → Prop → Prop → Prop
  | true, a, _ => a
  | false, _, b => b
@[simp] theorem br_t {a b : Prop} : br true a b = a := rfl
@[simp] theorem br_f {a b : Prop} : br false a b = b := rfl
@[simp] def wipeD (σ : En) : List Nat → En
  | [] => σ
  | v :: vs => (wipeD σ vs).set v none
/-- what is walked: the items, and what must stay -/
@[simp] def forL (step : D → MH → (MH → Prop) → Prop) (keep : MH → Prop) : List D → MH → (MH → Prop) → Prop
  | [], H, Q => keep H ∧ Q H
  | x :: r, H, Q => keep H ∧ step x H fun H1 => forL step keep r H1 Q
@[simp] def lcL (step : D → MH → (Option D → MH → Prop) → Prop) (keep : MH → Prop) : List D → MH → (List D → MH → Prop) → Prop
  | [], H, Q => keep H ∧ Q [] H
  | x :: r, H, Q => keep H ∧ step x H fun o H1 => lcL step keep r H1 fun ys H2 => Q (match o with | some y => y :: ys | none => ys) H2
@[simp] def keepOf (H : MH) : D → MH → Prop
  | .ref a => fun H' => H' a = H a
  | _ => fun _ => True
abbrev TDv := En → MH → DK → Prop
abbrev TCv := En → MH → (Bool → MH → Prop) → Prop
structure VC where
  v : TDv
  c : TCv
@[simp] def VC.of (v : TDv) : VC := ⟨v, fun σ H Q => v σ H fun x H1 => ∃ c, truD H1 x = some c ∧ Q c H1⟩
abbrev X0 : En → XDK := fun _ _ _ _ => False
mutual
@[simp] def wpB (G : Gm) (X : En → XDK) : E → VC
  | .k d => .of fun _ H Q => Q d H
  | .v i => .of fun σ H Q => ∃ d, σ[i]? = some (some d) ∧ Q d H
  | .g x => .of fun _ H Q => ∃ d, G.gv x = some d ∧ Q d H
  | .ty n => .of fun _ H Q => Q (.ty n) H
  | .bin m o a b => .of fun σ H Q => (wpB G X a).v σ H fun x H1 => (wpB G X b).v σ H1 fun y H2 => binD m o x y H2 Q
  | .neg a => .of fun σ H Q => (wpB G X a).v σ H fun x H1 => ∃ i, x = .int i ∧ Q (.int (-i)) H1
  | .not a => ⟨fun σ H Q => (wpB G X a).v σ H fun x H1 => ∃ c, truD H1 x = some c ∧ Q (.bl (!c)) H1, fun σ H Q => (wpB G X a).c σ H fun b H1 => Q (!b) H1⟩
  | .and a b => ⟨fun σ H Q => (wpB G X a).v σ H fun x H1 => ∃ c, truD H1 x = some c ∧ br c ((wpB G X b).v σ H1 Q) (Q x H1),
      fun σ H Q => (wpB G X a).c σ H fun c H1 => br c ((wpB G X b).c σ H1 Q) (Q false H1)⟩
  | .or a b => ⟨fun σ H Q => (wpB G X a).v σ H fun x H1 => ∃ c, truD H1 x = some c ∧ br c (Q x H1) ((wpB G X b).v σ H1 Q),
      fun σ H Q => (wpB G X a).c σ H fun c H1 => br c (Q true H1) ((wpB G X b).c σ H1 Q)⟩
  | .cmp o a b => ⟨fun σ H Q => (wpB G X a).v σ H fun x H1 => (wpB G X b).v σ H1 fun y H2 => ∃ c, cmpD o x y H2 = some c ∧ Q (.bl c) H2,
      fun σ H Q => (wpB G X a).v σ H fun x H1 => (wpB G X b).v σ H1 fun y H2 => ∃ c, cmpD o x y H2 = some c ∧ Q c H2⟩
  | .ch a o b o' c => ⟨fun σ H Q => (wpB G X a).v σ H fun x H1 => (wpB G X b).v σ H1 fun y H2 => ∃ c1, cmpD o x y H2 = some c1 ∧
        br c1 ((wpB G X c).v σ H2 fun z H3 => ∃ c2, cmpD o' y z H3 = some c2 ∧ Q (.bl c2) H3) (Q (.bl false) H2),
      fun σ H Q => (wpB G X a).v σ H fun x H1 => (wpB G X b).v σ H1 fun y H2 => ∃ c1, cmpD o x y H2 = some c1 ∧
        br c1 ((wpB G X c).v σ H2 fun z H3 => ∃ c2, cmpD o' y z H3 = some c2 ∧ Q c2 H3) (Q false H2)⟩
  | .ite t a b => ⟨fun σ H Q => (wpB G X t).c σ H fun c H1 => br c ((wpB G X a).v σ H1 Q) ((wpB G X b).v σ H1 Q),
      fun σ H Q => (wpB G X t).c σ H fun c H1 => br c ((wpB G X a).c σ H1 Q) ((wpB G X b).c σ H1 Q)⟩
  | .tup es => .of fun σ H Q => wpEs G X es σ H fun ds H1 => ds.length ≤ sizeLine ∧ Q (.tup ds) H1
  | .lst m es => .of fun σ H Q => wpEs G X es σ H fun ds H1 => freshL m ds H1 Q
  | .ix a b => .of fun σ H Q => (wpB G X a).v σ H fun x H1 => (wpB G X b).v σ H1 fun y H2 => ∃ d, ixD x y H2 = some d ∧ Q d H2
  | .sl m a lo hi => .of fun σ H Q => (wpB G X a).v σ H fun x H1 => wpO G X lo σ H1 fun l H2 => wpO G X hi σ H2 fun h H3 => slD m x l h H3 Q
  | .call x es => .of fun σ H Q => wpEs G X es σ H fun ds H1 => ∃ n c, G.fn x = some (n, c) ∧ ds.length = n ∧ c ds H1 Q (X σ)
  | .bi m f es => .of fun σ H Q => wpEs G X es σ H fun ds H1 => biD m f ds H1 Q
  | .mth m a f es => .of fun σ H Q => (wpB G X a).v σ H fun x H1 => mtTy f x H1 ∧ wpEs G X es σ H1 fun ds H2 => mtD m f x ds H2 Q
  | .lc m e t i c own => .of fun σ H Q => wpI G X i σ H fun xs keep H1 => xs.length ≤ sizeLine ∧
      lcL (fun x H Q => wpT G X0 t x (wipeD σ own) H fun σ1 H1 => wpCs G X0 c σ1 H1 fun b H2 =>
        br b ((wpB G X0 e).v σ1 H2 fun y H3 => Q (some y) H3) (Q none H2)) keep xs H1 fun ys H2 => freshL m ys H2 Q
termination_by structural x => x
@[simp] def wpO (G : Gm) (X : En → XDK) : Oe → En → MH → (Option Int → MH → Prop) → Prop
  | .no, _, H, Q => Q none H
  | .so e, σ, H, Q => (wpB G X e).v σ H fun x H1 => ∃ i, x = .int i ∧ Q (some i) H1
termination_by structural x => x
@[simp] def wpCs (G : Gm) (X : En → XDK) : Es → En → MH → (Bool → MH → Prop) → Prop
  | .nil, _, H, Q => Q true H
  | .cons e es, σ, H, Q => (wpB G X e).c σ H fun b H1 => br b (wpCs G X es σ H1 Q) (Q false H1)
termination_by structural x => x
@[simp] def wpEs (G : Gm) (X : En → XDK) : Es → En → MH → (List D → MH → Prop) → Prop
  | .nil, _, H, Q => Q [] H
  | .cons e es, σ, H, Q => (wpB G X e).v σ H fun x H1 => wpEs G X es σ H1 fun xs H2 => Q (x :: xs) H2
termination_by structural x => x
@[simp] def wpT (G : Gm) (X : En → XDK) : T → D → En → MH → (En → MH → Prop) → Prop
  | .nm i, d, σ, H, Q => Q (σ.set i (some d)) H
  | .tup ts, d, σ, H, Q => ∃ ds, d = .tup ds ∧ ds.length = ts.len ∧ wpTs G X ts ds σ H Q
  | .sub a b, d, σ, H, Q => (wpB G X a).v σ H fun x H1 => (wpB G X b).v σ H1 fun y H2 => ∃ p xs i j, x = .ref p ∧ y = .int i ∧ H2 p = some (.lst xs) ∧ ixN xs.length i = some j ∧ Q σ (updM H2 p (.lst (xs.set j d)))
termination_by structural x => x
@[simp] def wpTs (G : Gm) (X : En → XDK) : Ts → List D → En → MH → (En → MH → Prop) → Prop
  | .nil, ds, σ, H, Q => ds = [] ∧ Q σ H
  | .cons t ts, ds, σ, H, Q => ∃ d r, ds = d :: r ∧ wpT G X t d σ H fun σ1 H1 => wpTs G X ts r σ1 H1 Q
termination_by structural x => x
@[simp] def wpI (G : Gm) (X : En → XDK) : It → En → MH → (List D → (MH → Prop) → MH → Prop) → Prop
  | .seq e, σ, H, Q => (wpB G X e).v σ H fun x H1 => ∃ xs, seqAt H1 x = some xs ∧ Q xs (keepOf H1 x) H1
  | .rng1 e, σ, H, Q => (wpB G X e).v σ H fun x H1 => ∃ j : Int, x = .int j ∧ -(2 ^ 62) ≤ j ∧ j < 2 ^ 62 ∧ Q ((List.range j.toNat).map fun (n : Nat) => D.int (0 + (n : Int))) (fun _ => True) H1
  | .rng2 a b, σ, H, Q => (wpB G X a).v σ H fun x H1 => (wpB G X b).v σ H1 fun y H2 => ∃ i j : Int, x = .int i ∧ y = .int j ∧ (-(2 ^ 62) ≤ i ∧ i < 2 ^ 62 ∧ -(2 ^ 62) ≤ j ∧ j < 2 ^ 62) ∧
      Q ((List.range (j - i).toNat).map fun (n : Nat) => D.int (i + (n : Int))) (fun _ => True) H2
termination_by structural x => x
end
@[simp] abbrev wpE (G : Gm) (X : En → XDK) (e : E) : TDv := (wpB G X e).v
@[simp] abbrev wpC (G : Gm) (X : En → XDK) (e : E) : TCv := (wpB G X e).c
/-- a for: the body from item to item -/
@[simp] def loopL (turn : D → En → MH → (En → MH → Prop) → Prop) (keep : MH → Prop) : List D → En → MH → (En → MH → Prop) → Prop
  | [], σ, H, Q => keep H ∧ Q σ H
  | x :: r, σ, H, Q => keep H ∧ turn x σ H fun σ1 H1 => loopL turn keep r σ1 H1 Q
def whileN (cond : En → MH → (Bool → MH → Prop) → Prop) (body : En → MH → (En → MH → Prop) → Prop) : Nat → En → MH → (En → MH → Prop) → Prop
  | 0, _, _, _ => False
  | n + 1, σ, H, Q => cond σ H fun b H1 => br b (body σ H1 fun σ2 H2 => whileN cond body n σ2 H2 Q) (Q σ H1)
mutual
@[simp] def wpS (G : Gm) (X : En → XDK) : S → Ends' → En → MH → Prop
  | .asg t e, D, σ, H => wpE G X e σ H fun x H1 => wpT G X t x σ H1 D.nx
  | .aug i o e, D, σ, H => ∃ x, σ[i]? = some (some x) ∧ wpE G X e σ H fun y H1 => augD o x y H1 fun z H2 => D.nx (σ.set i (some z)) H2
  | .ex e, D, σ, H => wpE G X e σ H fun _ H1 => D.nx σ H1
  | .ret e, D, σ, H => wpE G X e σ H D.rt
  | .retN, D, _, H => D.rt .non H
  | .cond c a b, D, σ, H => wpC G X c σ H fun b' H1 => br b' (wpSs G X a D σ H1) (wpSs G X b D σ H1)
  | .loop t i b, D, σ, H => wpI G X i σ H fun xs keep H1 => loopL (fun x σ H Q => wpT G X t x σ H fun σ1 H1 => wpSs G X b { D with nx := Q, ct := Q, bk := D.nx } σ1 H1) keep xs σ H1 D.nx
  | .whl c b, D, σ, H => ∃ n, whileN (wpC G X c) (fun σ H Q => wpSs G X b { D with nx := Q, ct := Q, bk := D.nx } σ H) n σ H D.nx
  | .brk, D, σ, H => D.bk σ H
  | .ct, D, σ, H => D.ct σ H
  | .pass, D, σ, H => D.nx σ H
termination_by structural x => x
@[simp] def wpSs (G : Gm) (X : En → XDK) : Ss → Ends' → En → MH → Prop
  | .nil, D, σ, H => D.nx σ H
  | .cons s ss, D, σ, H => wpS G X s { D with nx := fun σ1 H1 => wpSs G X ss D σ1 H1 } σ H
termination_by structural x => x
end
end DL

set_option maxHeartbeats 4000000
namespace DL
open PySem PySem.Spec PyProof.Rows L2

section
variable {K : Kz} {H H' H'' : Hp} {Hm Hm' Hm'' : MH} {d : D} {v : V} {ds : List D} {vs : List V} {p : Addr} {o : HO}
theorem ext_nt (hp : H p = none) : NT Hm H Hm (upd H p o) := fun a u e n => ⟨by rw [upd_ne (ne_of_none e hp)]; exact e, n⟩
theorem RepO.nt (r : Rep K H Hm) (n : NT Hm H Hm' H') {a : Addr} {u : MO} (h : RepO K H Hm a u) (e : H' a = H a) : RepO K H' Hm' a u := by
  cases u with
  | lst ds => obtain ⟨vs, q, t⟩ := h; exact ⟨vs, by rw [e]; exact q, Iss.nt r n _ _ t⟩
  | ins C ns ds => obtain ⟨dx, fs, q, l, t⟩ := h; exact ⟨dx, fs, by rw [e]; exact q, l, Iss.nt r n _ _ t⟩
theorem Rep.step (r : Rep K H Hm) (n : NT Hm H Hm' H') (h : ∀ a u, Hm' a = some u → (Hm a = some u ∧ H' a = H a) ∨ RepO K H' Hm' a u) : Rep K H' Hm' := by
  refine ⟨fun a u e => ?_, fun a z => ?_⟩
  · rcases h a u e with ⟨q, z⟩ | q
    · exact (r.obj a u q).nt r n z
    · exact q
  · obtain ⟨o, q, m⟩ := r.hid a z
    exact ⟨o, n a o q m⟩
theorem Rep.ext (r : Rep K H Hm) (hp : H p = none) : Rep K (upd H p o) Hm := r.step (ext_nt hp) fun a u e => .inl ⟨e, by
  obtain ⟨w, q, _⟩ := r.hit e
  rw [upd_ne (ne_of_none q hp)]⟩
theorem new_nt (r : Rep K H Hm) (hp : H p = none) {u : MO} : NT Hm H (updM Hm p u) (upd H p o) := fun a w e n => by
  have hne := ne_of_none e hp
  exact ⟨by rw [upd_ne hne]; exact e, by rw [updM_ne hne]; exact n⟩
theorem new_rep (r : Rep K H Hm) (hp : H p = none) (t : Iss K H Hm ds vs) : Rep K (upd H p (.lst vs)) (updM Hm p (.lst ds)) := by
  refine r.step (new_nt r hp) fun a u e => ?_
  by_cases h : a = p
  · subst h
    rw [updM_same] at e; cases e
    exact .inr ⟨vs, upd_same, Iss.nt r (new_nt r hp) _ _ t⟩
  · rw [updM_ne h] at e
    exact .inl ⟨e, upd_ne h⟩
theorem wr_nt (hm : Hm p ≠ none) {u : MO} : NT Hm H (updM Hm p u) (upd H p o) := fun a w e n => by
  have hne : a ≠ p := fun z => hm (z ▸ n)
  exact ⟨by rw [upd_ne hne]; exact e, by rw [updM_ne hne]; exact n⟩
theorem wr_rep (r : Rep K H Hm) (hm : Hm p ≠ none) (t : Iss K H Hm ds vs) : Rep K (upd H p (.lst vs)) (updM Hm p (.lst ds)) := by
  refine r.step (wr_nt hm) fun a u e => ?_
  by_cases h : a = p
  · subst h
    rw [updM_same] at e; cases e
    exact .inr ⟨vs, upd_same, Iss.nt r (wr_nt hm) _ _ t⟩
  · rw [updM_ne h] at e
    exact .inl ⟨e, upd_ne h⟩
/-- what is wanted behind a step -/
def Bh (K : Kz) (Hm : MH) (H : Hp) (Qd : DK) (Q : VK) : Prop := ∀ v H' d Hm', NT Hm H Hm' H' → Rep K H' Hm' → Is K H' Hm' d v → Qd d Hm' → Q v H'
theorem Bh.here {Qd : DK} {Q : VK} (k : Bh K Hm H Qd Q) (r : Rep K H Hm) (i : Is K H Hm d v) (q : Qd d Hm) : Q v H := k v H d Hm .refl r i q
theorem Bh.tup {Qd : DK} {Q : VK} (k : Bh K Hm H Qd Q) (r : Rep K H Hm) (t : Iss K H Hm ds vs) (q : Qd (.tup ds) Hm) : ∀ p, H p = none → Q (.ref p) (upd H p (.tup vs)) := fun p hp =>
  k _ _ (.tup ds) Hm (ext_nt hp) (r.ext hp) (by unfold Is; exact ⟨p, vs, rfl, .inl (.inl upd_same), Iss.nt r (ext_nt hp) _ _ t⟩) q
theorem Bh.lst {m : Bool} {Qd : DK} {Q : VK} (k : Bh K Hm H Qd Q) (r : Rep K H Hm) (t : Iss K H Hm ds vs) (q : freshL m ds Hm Qd) : ∀ p, H p = none → Q (.ref p) (upd H p (.lst vs)) := fun p hp => by
  obtain ⟨_, q⟩ := q
  cases m with
  | true => exact k _ _ (.ref p) _ (new_nt r hp) (new_rep r hp t) (by unfold Is; rfl) (q p (r.free hp))
  | false => exact k _ _ (.rol ds) Hm (ext_nt hp) (r.ext hp) (by unfold Is; exact ⟨p, vs, rfl, .inl ⟨.inl upd_same, r.free hp, fun z => by
    obtain ⟨o, q, _⟩ := r.hid _ z
    rw [hp] at q; cases q⟩, Iss.nt r (ext_nt hp) _ _ t⟩) q
theorem Is.int (h : Is K H Hm (.int i) v) : v = .int i := by unfold Is at h; exact h
theorem Is.bl (h : Is K H Hm (.bl i) v) : v = .bl i := by unfold Is at h; exact h
theorem Is.str (h : Is K H Hm (.str i) v) : v = .str i := by unfold Is at h; exact h
theorem Is.non (h : Is K H Hm .non v) : v = .non := by unfold Is at h; exact h
theorem Is.ref (h : Is K H Hm (.ref a) v) : v = .ref a := by unfold Is at h; exact h
theorem Is.ty (h : Is K H Hm (.ty a) v) : v = .ty a := by unfold Is at h; exact h
theorem is_int {i : Int} : Is K H Hm (.int i) (.int i) := by unfold Is; rfl
theorem is_bl {i : Bool} : Is K H Hm (.bl i) (.bl i) := by unfold Is; rfl
theorem is_str {i : Str} : Is K H Hm (.str i) (.str i) := by unfold Is; rfl
theorem is_non : Is K H Hm .non .non := by unfold Is; rfl
theorem is_ref {a : Addr} : Is K H Hm (.ref a) (.ref a) := by unfold Is; rfl
theorem is_ty {n : String} : Is K H Hm (.ty n) (.ty n) := by unfold Is; rfl
theorem Is.tup (h : Is K H Hm (.tup ds) v) : ∃ a vs, v = .ref a ∧ SqT K.K H a vs ∧ Iss K H Hm ds vs := by unfold Is at h; exact h
theorem lst_of (r : Rep K H Hm) (h : Is K H Hm d v) (e : lstAt Hm d = some ds) : ∃ a vs, v = .ref a ∧ SqL K.K H a vs ∧ Iss K H Hm ds vs := by
  cases d with
  | rol xs =>
    unfold lstAt at e; cases e
    unfold Is at h
    obtain ⟨a, vs, e, f, t⟩ := h
    exact ⟨a, vs, e, f.sq, t⟩
  | ref a =>
    have e1 := h.ref
    unfold lstAt at e
    simp only at e
    cases q : Hm a with
    | none => rw [q] at e; cases e
    | some u =>
      rw [q] at e
      cases u with
      | lst xs =>
        cases e
        obtain ⟨vs, z, t⟩ := r.obj _ _ q
        exact ⟨a, vs, e1, .inl (.inl z), t⟩
      | ins C ns xs => cases e
  | _ => unfold lstAt at e; cases e
theorem seq_of (r : Rep K H Hm) (h : Is K H Hm d v) (e : seqAt Hm d = some ds) : ∃ a vs, v = .ref a ∧ (SqL K.K H a vs ∨ SqT K.K H a vs) ∧ Iss K H Hm ds vs := by
  cases d with
  | tup xs =>
    unfold seqAt at e; cases e
    obtain ⟨a, vs, e, f, t⟩ := h.tup
    exact ⟨a, vs, e, .inr f, t⟩
  | _ =>
    obtain ⟨a, vs, e, f, t⟩ := lst_of (ds := ds) r h (by unfold seqAt at e; exact e)
    exact ⟨a, vs, e, .inl f, t⟩
end

/-! ### operations by values -/
abbrev RD := D → D → MH → DK → Prop
def OpD (X : Cx) (f : Value → Value → Sem Value) (r : RD) : Prop :=
  OpR X f fun x y H Q => ∃ Z dx dy Hm Qd, Rep ⟨X.K, Z⟩ H Hm ∧ Is ⟨X.K, Z⟩ H Hm dx x ∧ Is ⟨X.K, Z⟩ H Hm dy y ∧ r dx dy Hm Qd ∧ Bh ⟨X.K, Z⟩ Hm H Qd Q
section
variable {X : Cx}
theorem mulOk.ok {i j : Int} (h : mulOk i j) : IntMulOk i j := by
  rcases h with h | h | h
  · exact CMul.ok (.inl h)
  · exact CMul.ok (.inr h)
  · have b : ∀ x : Int, Builtin.Int.intBits x ≤ x.natAbs.log2 + 1 := fun x => by
      unfold Builtin.Int.intBits
      split <;> omega
    have h1 := b i
    have h2 := b j
    have e : bitsLine = 134217728 := by decide
    unfold IntMulOk
    intro z
    rw [Bool.and_eq_true] at z
    have z2 := z.2
    unfold Builtin.Int.intTooBig at z2
    have z3 := of_decide_eq_true z2
    rw [e] at z3
    omega
theorem op_mulD : OpR X (binaryOp .Mult) (rI mulOk fun i j => .int (i * j)) := opI fun _ _ _ _ _ _ _ hc q => mul_int q hc.ok
theorem op_modD : OpR X (binaryOp .Mod) (rI (fun _ j => 0 < j) fun i j => .int (i % j)) := op_mod
/-- list + list, any two -/
theorem op_catL : OpR X (binaryOp .Add) (fun x y H Q => ∃ l b xs zs, x = .ref l ∧ y = .ref b ∧ SqL X.K H l xs ∧ SqL X.K H b zs ∧ xs.length + zs.length ≤ sizeLine ∧ ∀ p, H p = none → Q (.ref p) (upd H p (.lst (xs ++ zs)))) := by
  intro pins s σ H x y v u Q I rx ry h
  obtain ⟨l, b, xs, zs, rfl, rfl, hH, hB, hz, q⟩ := h
  cases rx
  cases ry
  obtain ⟨its, r, pl, _⟩ := I.list hH
  obtain ⟨its2, r2, pl2, _⟩ := I.list hB
  obtain ⟨⟨cls, dd, data, sl⟩, n, ho, hc, _, hd⟩ := pl
  obtain ⟨⟨cls2, dd2, data2, sl2⟩, n2, ho2, hc2, _, hd2⟩ := pl2
  simp only at hc hd hc2 hd2
  subst hc hd hc2 hd2
  have hl := r.length
  have hl2 := r2.length
  have e : its.toArray ++ its2.toArray = (its ++ its2).toArray := by simp
  refine concat_meets ⟨_, ho, rfl⟩ ⟨_, ho2, rfl⟩ noFill_list_add seq_list_add PySem.F.slot_list_add PySem.F.entry_list_add (PySem.F.args_list_add_2 _ _) (list_addW l b its.toArray its2.toArray n n2 dd dd2 sl sl2 (by simp only [List.size_toArray]; omega)) ⟨ho, ho2, ?_⟩
  rw [e]
  exact ⟨.ref _, _, I.lnew (t' := s.toks) (r.append r2) (by rw [List.length_append]; omega), rfl, q _ I.fresh⟩
end
end DL

set_option maxHeartbeats 400000
namespace DL
open PySem PySem.Spec PyProof.Rows L2

/-- room for a division of any size -/
structure Big (X : Cx) : Prop where
  seer : X.base.NoSeer
  tree : X.prog.given.tree = none
  dp : X.A.depth + 100 < recursionLimit
  fr : ∃ env l, X.stack = env :: l ∧ env.scope.isGenerator = false ∧ env.scope.isCoroutine = false ∧ env.builtins = builtinsNs ∧ env.globals = mainGlobals
structure Cok (X : Cx) : Prop where
  calm : X.calm = true
  nd : X.N.Nodup
  room : Room 40 X.A
  big : Big X
section
variable {X : Cx}
theorem Big.room (b : Big X) {pins : List (Addr × Obj)} {σ : L2.St} {H : Hp} {s : Shared} (I : Inv X pins σ H s) : PylongRoom (model X.prog X.w) X.A s := by
  obtain ⟨env, l, h1, h2, h3, h4, h5⟩ := b.fr
  exact PylongRoom.of I.nolimit b.dp (SeerAt.of (b.seer.keeps I.bk) b.tree (I.ok.frames.trans (by rw [h1])) h2 h3 h4 h5)
theorem op_fdivD (b : Big X) : OpR X (binaryOp .FloorDiv) (rI (fun _ j => 0 < j) fun i j => .int (i / j)) := by
  intro pins s σ H x y v u Q I rx ry h
  obtain ⟨i, j, rfl, rfl, hc, q⟩ := h
  obtain ⟨t, rfl⟩ := rx
  obtain ⟨t', rfl⟩ := ry
  have hr := b.room I
  exact floordiv_int (by omega) (by rw [Int.fdiv_eq_ediv_of_nonneg i (by omega)]; exact ⟨.int (i / j), H, I.tok _, ⟨_, rfl⟩, q⟩) (.inr hr)
theorem op_binD (C : Cok X) (m : Bool) (o : Operator) : OpD X (binaryOp o) (binD m o) := by
  intro pins s σ H x y v u Q I rx ry h
  obtain ⟨Z, dx, dy, Hm, Qd, rep, ix, iy, hr, k⟩ := h
  unfold binD at hr
  split at hr
  · exact op_add pins s σ H x y v u Q I rx ry ⟨_, _, ix.int, iy.int, k.here rep is_int hr⟩
  · exact op_sub pins s σ H x y v u Q I rx ry ⟨_, _, ix.int, iy.int, k.here rep is_int hr⟩
  · exact op_mulD pins s σ H x y v u Q I rx ry ⟨_, _, ix.int, iy.int, hr.1, k.here rep is_int hr.2⟩
  · exact op_fdivD C.big pins s σ H x y v u Q I rx ry ⟨_, _, ix.int, iy.int, hr.1, k.here rep is_int hr.2⟩
  · exact op_modD pins s σ H x y v u Q I rx ry ⟨_, _, ix.int, iy.int, hr.1, k.here rep is_int hr.2⟩
  · exact op_add_str pins s σ H x y v u Q I rx ry ⟨_, _, ix.str, iy.str, hr.1, k.here rep is_str hr.2⟩
  · obtain ⟨a, vs, e1, s1, t1⟩ := ix.tup
    obtain ⟨b, ws, e2, s2, t2⟩ := iy.tup
    obtain ⟨_, hz, q⟩ := hr
    have is2 : ∀ {es : List D} {zs : List V} {c : Addr}, SqT X.K H c zs → Iss ⟨X.K, Z⟩ H Hm es zs → Is ⟨X.K, Z⟩ H Hm (.tup es) (.ref c) := fun q t => by unfold Is; exact ⟨_, _, rfl, q, t⟩
    refine op_catA pins s σ H x y v u Q I rx ry ⟨a, b, vs, ws, e1, e2, s1, s2, by rw [t1.length, t2.length]; exact hz, fun z => ?_, fun _ z => ?_, fun _ _ => k.tup rep (t1.append t2) q⟩
    · exact k.here rep (is2 s2 (by have := t1.append t2; rw [z, List.nil_append] at this; exact this)) q
    · exact k.here rep (is2 s1 (by have := t1.append t2; rw [z, List.append_nil] at this; exact this)) q
  · obtain ⟨xs, ys, e1, e2, q⟩ := hr
    obtain ⟨a, vs, z1, s1, t1⟩ := lst_of rep ix e1
    obtain ⟨b, ws, z2, s2, t2⟩ := lst_of rep iy e2
    exact op_catL pins s σ H x y v u Q I rx ry ⟨a, b, vs, ws, z1, z2, s1, s2, by rw [t1.length, t2.length, ← List.length_append]; exact q.1, k.lst rep (t1.append t2) q⟩
  · exact hr.elim
theorem op_augD (C : Cok X) (o : Operator) : PIp X o fun x y H Q => ∃ Z dx dy Hm Qd, Rep ⟨X.K, Z⟩ H Hm ∧ Is ⟨X.K, Z⟩ H Hm dx x ∧ Is ⟨X.K, Z⟩ H Hm dy y ∧ augD o dx dy Hm Qd ∧ Bh ⟨X.K, Z⟩ Hm H Qd Q := by
  intro pins s σ H x y v u Q I rx ry h
  obtain ⟨Z, dx, dy, Hm, Qd, rep, ix, iy, hr, k⟩ := h
  unfold augD at hr
  split at hr
  · exact iop_add pins s σ H x y v u Q I rx ry ⟨_, _, ix.int, iy.int, k.here rep is_int hr⟩
  · exact iop_sub pins s σ H x y v u Q I rx ry ⟨_, _, ix.int, iy.int, k.here rep is_int hr⟩
  · exact iop_add_str pins s σ H x y v u Q I rx ry ⟨_, _, ix.str, iy.str, hr.1, k.here rep is_str hr.2⟩
  · exact hr.elim

/-! ### comparisons -/
section
variable {K : Kz} {H : Hp} {Hm : MH} {d : D} {v : V} {ds : List D} {vs : List V}
mutual
theorem dp_of : ∀ (d : D) (v : V) (p : PyData), Is K H Hm d v → pyD d = some p → Dp K.K H v p
  | .non, v, p, h, e => by rw [h.non]; unfold pyD at e; cases e; exact .non
  | .bl b, v, p, h, e => by rw [h.bl]; unfold pyD at e; cases e; exact .bl b
  | .int b, v, p, h, e => by rw [h.int]; unfold pyD at e; cases e; exact .int b
  | .str b, v, p, h, e => by rw [h.str]; unfold pyD at e; cases e; exact .str b
  | .tup ds, v, p, h, e => by
    obtain ⟨a, vs, rfl, s, t⟩ := h.tup
    unfold pyD at e
    cases q : pyDs ds with
    | none => rw [q] at e; cases e
    | some ps =>
      rw [q] at e; cases e
      exact .tup s (dp_all ds vs ps t q)
  | .rol ds, v, p, h, e => by
    unfold Is at h
    obtain ⟨a, vs, rfl, s, t⟩ := h
    unfold pyD at e
    cases q : pyDs ds with
    | none => rw [q] at e; cases e
    | some ps =>
      rw [q] at e; cases e
      exact .lst s.sq (dp_all ds vs ps t q)
  | .ty n, v, p, h, e => by unfold pyD at e; cases e
  | .ref n, v, p, h, e => by unfold pyD at e; cases e
  | .obj _ _ _, v, p, h, e => by unfold pyD at e; cases e
theorem dp_all : ∀ (ds : List D) (vs : List V) (ps : List PyData), Iss K H Hm ds vs → pyDs ds = some ps → DpAll K.K H vs ps
  | [], vs, ps, h, e => by rw [h.nil_of]; unfold pyDs at e; cases e; exact .nil
  | d :: ds, vs, ps, h, e => by
    obtain ⟨v, r, rfl, q, t⟩ := h.cons_of
    unfold pyDs at e
    cases q1 : pyD d with
    | none => rw [q1] at e; cases e
    | some p =>
      cases q2 : pyDs ds with
      | none => rw [q1, q2] at e; cases e
      | some ps' =>
        rw [q1, q2] at e; cases e
        exact .cons (dp_of d v p q q1) (dp_all ds r ps' t q2)
end
theorem dp_rd {p : PyData} (r : Rep K H Hm) (h : Is K H Hm d v) (e : pyD (rdL Hm d) = some p) : Dp K.K H v p := by
  unfold rdL at e
  cases q : lstAt Hm d with
  | none => rw [q] at e; exact dp_of d v p h e
  | some ds =>
    rw [q] at e
    obtain ⟨a, vs, rfl, s, t⟩ := lst_of r h q
    unfold pyD at e
    cases q2 : pyDs ds with
    | none => simp only [q2] at e; cases e
    | some ps =>
      simp only [q2] at e; cases e
      exact .lst s (dp_all ds vs ps t q2)
/-- what eqD says: scalars, or data of one shape -/
theorem eqD_of {dx dy : D} {x y : V} {c : Bool} (r : Rep K H Hm) (ix : Is K H Hm dx x) (iy : Is K H Hm dy y) (e : eqD (rdL Hm dx) (rdL Hm dy) = some c) :
    (scal x y = true ∧ decide (x = y) = c) ∨ ∃ p q, Dp K.K H x p ∧ Dp K.K H y q ∧ SeqAt.shaped p = true ∧ SeqAt.shaped q = true ∧ PyData.eqv p q = c := by
  have sc : ∀ {d : D} {w : V}, Is K H Hm d w → (∀ i, rdL Hm d = .int i → w = .int i) ∧ (∀ i, rdL Hm d = .bl i → w = .bl i) ∧ (∀ i, rdL Hm d = .str i → w = .str i) ∧ (rdL Hm d = .non → w = .non) := fun {d w} h => by
    have nl : ∀ z, rdL Hm d = z → (∀ l, z ≠ .rol l) → d = z := fun z e n => by
      unfold rdL at e
      cases q : lstAt Hm d with
      | none => rw [q] at e; exact e
      | some l => rw [q] at e; exact absurd e.symm (n l)
    refine ⟨fun i e => ?_, fun i e => ?_, fun i e => ?_, fun e => ?_⟩
    · exact (nl _ e (by intro l z; cases z) ▸ h : Is K H Hm (.int i) w).int
    · exact (nl _ e (by intro l z; cases z) ▸ h : Is K H Hm (.bl i) w).bl
    · exact (nl _ e (by intro l z; cases z) ▸ h : Is K H Hm (.str i) w).str
    · exact (nl _ e (by intro l z; cases z) ▸ h : Is K H Hm .non w).non
  have sx := sc ix
  have sy := sc iy
  unfold eqD at e
  split at e
  · rename_i a b ea eb
    rw [sx.1 _ ea, sy.1 _ eb]
    refine .inl ⟨rfl, ?_⟩
    cases e
    rw [dec_int, Bool.beq_eq_decide_eq]
  · rename_i a b ea eb
    rw [sx.2.1 _ ea, sy.2.1 _ eb]
    refine .inl ⟨rfl, ?_⟩
    cases e
    rw [dec_bl, Bool.beq_eq_decide_eq]
  · rename_i a b ea eb
    rw [sx.2.2.1 _ ea, sy.2.2.1 _ eb]
    refine .inl ⟨rfl, ?_⟩
    cases e
    rw [dec_str, Bool.eq_iff_iff]
    simp
  · rename_i ea eb
    rw [sx.2.2.2 ea, sy.2.2.2 eb]
    exact .inl ⟨rfl, by cases e; simp⟩
  · cases q1 : pyD (rdL Hm dx) with
    | none => rw [q1] at e; cases e
    | some p =>
      cases q2 : pyD (rdL Hm dy) with
      | none => rw [q1, q2] at e; cases e
      | some p' =>
        rw [q1, q2] at e
        simp only [Option.bind_some] at e
        split at e
        · rename_i hs
          rw [Bool.and_eq_true] at hs
          cases e
          exact .inr ⟨p, p', dp_rd r ix q1, dp_rd r iy q2, hs.1, hs.2, rfl⟩
        · cases e
theorem flat_of (h : Is K H Hm d v) (f : flatD d = true) : flatV v = true := by
  cases d <;> first | cases f | skip
  · rw [h.non]; rfl
  · rw [h.bl]; rfl
  · rw [h.int]; rfl
  · rw [h.str]; rfl
theorem flats_of : ∀ {ds : List D} {vs : List V}, Iss K H Hm ds vs → ds.all flatD = true → vs.all flatV = true
  | [], vs, h, _ => by rw [h.nil_of]; rfl
  | d :: ds, vs, h, f => by
    obtain ⟨v, r, rfl, q, t⟩ := h.cons_of
    rw [List.all_cons, Bool.and_eq_true] at f ⊢
    exact ⟨flat_of q f.1, flats_of t f.2⟩
theorem eqF_of {d e : D} {v w : V} (h : Is K H Hm d v) (g : Is K H Hm e w) (f : flatD d = true) (f' : flatD e = true) : eqV v w = eqF d e := by
  cases d <;> first | cases f | skip
  all_goals (cases e <;> first | cases f' | skip)
  all_goals (unfold Is at h g; subst h g; rfl)
theorem inV_of {x : D} {y : V} (h : Is K H Hm x y) (f : flatD x = true) : ∀ {ds : List D} {vs : List V}, Iss K H Hm ds vs → ds.all flatD = true → inV y vs = ds.any fun z => eqF z x
  | [], vs, t, _ => by rw [t.nil_of]; rfl
  | d :: ds, vs, t, g => by
    obtain ⟨v, r, rfl, q, t⟩ := t.cons_of
    rw [List.all_cons, Bool.and_eq_true] at g
    have ih := inV_of h f t g.2
    unfold inV at ih ⊢
    rw [List.any_cons, List.any_cons, ih, eqF_of q h g.1 f]
theorem isnon_of (h : Is K H Hm d v) : isNonD d = decide (v = .non) := by
  cases d with
  | non => rw [h.non]; rfl
  | bl b => rw [h.bl]; rfl
  | int b => rw [h.int]; rfl
  | str b => rw [h.str]; rfl
  | ty b => rw [h.ty]; rfl
  | ref b => rw [h.ref]; rfl
  | tup ds => obtain ⟨a, vs, rfl, _⟩ := h.tup; rfl
  | rol ds => unfold Is at h; obtain ⟨a, vs, rfl, _⟩ := h; rfl
  | obj C ns ds => unfold Is at h; obtain ⟨a, dx, vs, rfl, _⟩ := h; rfl
end
theorem op_cmpD (C : Cok X) (o : CmpOp) : OpD X (compareOp o) (fun x y H Q => ∃ c, cmpD o x y H = some c ∧ Q (.bl c) H) := by
  intro pins s σ H x y v u Q I rx ry h
  obtain ⟨Z, dx, dy, Hm, Qd, rep, ix, iy, ⟨c, hc, q⟩, k⟩ := h
  have fin : Q (.bl c) H := k.here rep is_bl q
  have hu := C.room.units
  unfold cmpD at hc
  split at hc
  · cases hc
    exact op_lt pins s σ H x y v u Q I rx ry ⟨_, _, ix.int, iy.int, fin⟩
  · cases hc
    exact op_le pins s σ H x y v u Q I rx ry ⟨_, _, ix.int, iy.int, fin⟩
  · cases hc
    exact op_gt pins s σ H x y v u Q I rx ry ⟨_, _, ix.int, iy.int, fin⟩
  · cases hc
    exact op_ge pins s σ H x y v u Q I rx ry ⟨_, _, ix.int, iy.int, fin⟩
  · rcases eqD_of rep ix iy hc with ⟨h1, h2⟩ | ⟨p, p', h1, h2, h3, h4, h5⟩
    · exact op_eq pins s σ H x y v u Q I rx ry ⟨h1, by rw [h2]; exact fin⟩
    · exact op_eqD hu pins s σ H x y v u Q I rx ry ⟨p, p', h1, h2, h3, h4, by rw [h5]; exact fin⟩
  · cases e : eqD (rdL Hm dx) (rdL Hm dy) with
    | none => rw [e] at hc; cases hc
    | some b =>
      rw [e] at hc
      have hc : (!b) = c := Option.some.inj hc
      rcases eqD_of rep ix iy e with ⟨h1, h2⟩ | ⟨p, p', h1, h2, h3, h4, h5⟩
      · exact op_ne pins s σ H x y v u Q I rx ry ⟨h1, by rw [h2, hc]; exact fin⟩
      · exact op_neD hu pins s σ H x y v u Q I rx ry ⟨p, p', h1, h2, h3, h4, by rw [h5, hc]; exact fin⟩
  · have hc := Option.some.inj hc
    exact op_isN pins s σ H x y v u Q I rx ry ⟨iy.non, by rw [← isnon_of ix, hc]; exact fin⟩
  · have hc := Option.some.inj hc
    refine op_notN pins s σ H x y v u Q I rx ry ⟨iy.non, ?_⟩
    rw [← isnon_of ix, hc]; exact fin
  · cases e : seqAt Hm dy with
    | none => rw [e] at hc; cases hc
    | some xs =>
      rw [e] at hc
      obtain ⟨a, vs, rfl, sq, t⟩ := seq_of rep iy e
      have hc : inD dx xs = some c := hc
      unfold inD at hc
      split at hc
      · rename_i hf
        rw [Bool.and_eq_true] at hf
        cases hc
        exact op_in_seq pins s σ H x _ v u Q I rx ry ⟨a, vs, rfl, sq, flat_of ix hf.1, flats_of t hf.2, by rw [inV_of ix hf.1 t hf.2]; exact fin⟩
      · cases hc
  · cases e : seqAt Hm dy with
    | none => rw [e] at hc; cases hc
    | some xs =>
      rw [e] at hc
      obtain ⟨a, vs, rfl, sq, t⟩ := seq_of rep iy e
      have hc : (inD dx xs).map (!·) = some c := hc
      unfold inD at hc
      split at hc
      · rename_i hf
        rw [Bool.and_eq_true] at hf
        cases hc
        exact op_notIn_seq pins s σ H x _ v u Q I rx ry ⟨a, vs, rfl, sq, flat_of ix hf.1, flats_of t hf.2, by rw [inV_of ix hf.1 t hf.2]; exact fin⟩
      · cases hc
  · cases hc
theorem tru_of {K : Kz} {H : Hp} {Hm : MH} {d : D} {x : V} {c : Bool} (rep : Rep K H Hm) (ix : Is K H Hm d x) (hc : truD Hm d = some c) : TruV K.K x H c := by
  unfold truD at hc
  split at hc
  · cases hc; rw [ix.non]; rfl
  · cases hc; rw [ix.bl]; rfl
  · cases hc; rw [ix.int]; rfl
  · cases e : seqAt Hm d with
    | none => rw [e] at hc; cases hc
    | some xs =>
      rw [e] at hc
      obtain ⟨a, vs, rfl, sq, t⟩ := seq_of rep ix e
      have hc : (!xs.isEmpty) = c := Option.some.inj hc
      have e2 : (!vs.isEmpty) = c := by
        rw [← hc]
        cases xs with
        | nil => rw [t.nil_of]; rfl
        | cons z r => obtain ⟨v, w, rfl, _⟩ := t.cons_of; rfl
      rcases sq with sq | sq
      · exact .inl ⟨vs, sq, e2.symm⟩
      · exact .inr (.inl ⟨vs, sq, e2.symm⟩)
end
end DL

set_option maxHeartbeats 400000
namespace DL
open PySem PySem.Spec PyProof.Rows L2

/-! ### the judgements over data -/
structure EnvIs (K : Kz) (H : Hp) (Hm : MH) (σd : En) (σ : L2.St) : Prop where
  len : σd.length = σ.length
  get : ∀ (i : Nat) (d : D), σd[i]? = some (some d) → ∃ v : V, σ[i]? = some (some v) ∧ Is K H Hm d v
/-- an exception's own fields -/
def XIs (K : Kz) (H : Hp) (Hm : MH) : Option Addr → Option (List Str × List D) → Prop
  | none, none => True
  | some a, some (ns, ds) => ∃ fs : List (Str × V), H a = some (.xd fs) ∧ (Hm a = none ∧ ¬ K.Z a) ∧ fs.map (·.1) = ns ∧ Iss K H Hm ds (fs.map (·.2))
  | _, _ => False
/-- the code's place: the context, the state at the entry, what is wanted of exceptions -/
structure Co where
  X : Cx
  Z : Addr → Prop
  M0 : MH
  H0 : Hp
  Ed : En → XDK
  W : WX
abbrev Co.K (C : Co) : Kz := ⟨C.X.K, C.Z⟩
structure Rs0 (K : Kz) (M0 : MH) (H0 : Hp) (σd : En) (Hm : MH) (σ : L2.St) (H : Hp) : Prop where
  env : EnvIs K H Hm σd σ
  rep : Rep K H Hm
  nt : NT M0 H0 Hm H
abbrev Rs (C : Co) (σd : En) (Hm : MH) (σ : L2.St) (H : Hp) : Prop := Rs0 C.K C.M0 C.H0 σd Hm σ H
structure Co.Ok (C : Co) : Prop where
  x : Cok C.X
  tk : Takes C.X C.W
  w : ∀ σ H σd Hm cls a fo, Rs C σd Hm σ H → XIs C.K H Hm a fo → C.Ed σd cls fo Hm → C.W cls a σ H
theorem EnvIs.nt {K : Kz} {H H' : Hp} {Hm Hm' : MH} {σd : En} {σ : L2.St} (e : EnvIs K H Hm σd σ) (r : Rep K H Hm) (n : NT Hm H Hm' H') : EnvIs K H' Hm' σd σ :=
  ⟨e.len, fun i d q => let ⟨v, a, b⟩ := e.get i d q; ⟨v, a, Is.nt r n d v b⟩⟩
theorem Rs0.nxt {C : Co} {σd : En} {Hm Hm' : MH} {σ : L2.St} {H H' : Hp} (s : Rs C σd Hm σ H) (n : NT Hm H Hm' H') (r : Rep C.K H' Hm') : Rs C σd Hm' σ H' := ⟨s.env.nt s.rep n, r, s.nt.trans n⟩
theorem EnvIs.set {K : Kz} {H : Hp} {Hm : MH} {σd : En} {σ : L2.St} {d : D} {v : V} (e : EnvIs K H Hm σd σ) (i : Nat) (h : Is K H Hm d v) : EnvIs K H Hm (σd.set i (some d)) (σ.set i (some v)) :=
  ⟨by rw [List.length_set, List.length_set, e.len], fun j d' q => by
    by_cases hj : i = j
    · subst hj
      by_cases hl : i < σd.length
      · rw [List.getElem?_set_self hl] at q
        cases q
        exact ⟨v, by rw [List.getElem?_set_self (e.len ▸ hl)], h⟩
      · rw [List.getElem?_eq_none (by rw [List.length_set]; omega)] at q
        cases q
    · rw [List.getElem?_set_ne hj] at q ⊢
      exact e.get j d' q⟩
theorem EnvIs.wiped {K : Kz} {H : Hp} {Hm : MH} {σd : En} {σ : L2.St} (e : EnvIs K H Hm σd σ) : ∀ vs : List Nat, EnvIs K H Hm (wipeD σd vs) (wipe σ vs)
  | [] => e
  | v :: vs => by
    have ih := e.wiped vs
    unfold wipeD wipe
    refine ⟨by rw [List.length_set, List.length_set, ih.len], fun j d' q => ?_⟩
    by_cases hj : v = j
    · subst hj
      by_cases hl : v < (wipeD σd vs).length
      · rw [List.getElem?_set_self hl] at q; cases q
      · rw [List.getElem?_eq_none (by rw [List.length_set]; omega)] at q; cases q
    · rw [List.getElem?_set_ne hj] at q ⊢
      exact ih.get j d' q
theorem Rs0.set {C : Co} {σd : En} {Hm : MH} {σ : L2.St} {H : Hp} {d : D} {v : V} (s : Rs C σd Hm σ H) (i : Nat) (h : Is C.K H Hm d v) : Rs C (σd.set i (some d)) Hm (σ.set i (some v)) H := ⟨s.env.set i h, s.rep, s.nt⟩

abbrev TD := En → MH → DK → Prop
def Lf (C : Co) (T : TD) : TE := fun σ H Q => ∃ σd Hm Qd, Rs C σd Hm σ H ∧ T σd Hm Qd ∧ Bh C.K Hm H Qd Q
def DE (C : Co) (e : Expr) (T : TD) : Prop := PE C.X e (Lf C T)
abbrev TCd := En → MH → (Bool → MH → Prop) → Prop
def LfC (C : Co) (T : TCd) : TT := fun σ H Q => ∃ σd Hm Qd, Rs C σd Hm σ H ∧ T σd Hm Qd ∧ ∀ b H' Hm', NT Hm H Hm' H' → Rep C.K H' Hm' → Qd b Hm' → Q b H'
def DC (C : Co) (e : Expr) (T : TCd) : Prop := PT C.X e (LfC C T)
abbrev TAd := En → MH → (List D → MH → Prop) → Prop
def LfA (C : Co) (T : TAd) : TA := fun σ H Q => ∃ σd Hm Qd, Rs C σd Hm σ H ∧ T σd Hm Qd ∧ ∀ vs H' ds Hm', NT Hm H Hm' H' → Rep C.K H' Hm' → Iss C.K H' Hm' ds vs → Qd ds Hm' → Q vs H'
def DA (C : Co) (es : List Expr) (T : TAd) : Prop := PA C.X es (LfA C T)
theorem PE.weak {X : Cx} {e : Expr} {t t' : TE} (h : PE X e t) (k : ∀ σ H Q, t' σ H Q → t σ H Q) : PE X e t' := ⟨fun pins s σ H Q I q => h.run pins s σ H Q I (k σ H Q q)⟩
theorem PT.weak {X : Cx} {e : Expr} {t t' : TT} (h : PT X e t) (k : ∀ σ H Q, t' σ H Q → t σ H Q) : PT X e t' := ⟨fun pins s σ H Q I q => h.run pins s σ H Q I (k σ H Q q)⟩
theorem PA.weak {X : Cx} {e : List Expr} {t t' : TA} (h : PA X e t) (k : ∀ σ H Q, t' σ H Q → t σ H Q) : PA X e t' := ⟨fun pos pins s σ H Q I q => h.run pos pins s σ H Q I (k σ H Q q)⟩
theorem Bh.cut {K : Kz} {Hm Hm1 : MH} {H H1 : Hp} {Qd : DK} {Q : VK} (k : Bh K Hm H Qd Q) (n : NT Hm H Hm1 H1) : Bh K Hm1 H1 Qd Q := fun v H' d Hm' n' r i q => k v H' d Hm' (n.trans n') r i q
section
variable {C : Co} {a b c e : Expr} {ta tb tc te : TD} {pos : Pos}
theorem Lf.seq {C : Co} {T : TD} {σd : En} {Hm : MH} {σ : L2.St} {H : Hp} {F : D → MH → Prop} {Q : VK} (s : Rs C σd Hm σ H) (h : T σd Hm F)
    (k : ∀ v H' d Hm', NT Hm H Hm' H' → Rs C σd Hm' σ H' → Is C.K H' Hm' d v → F d Hm' → Q v H') : Lf C T σ H Q :=
  ⟨σd, Hm, F, s, h, fun v H' d Hm' n r i q => k v H' d Hm' n (s.nxt n r) i q⟩
theorem LfC.seq {C : Co} {T : TCd} {σd : En} {Hm : MH} {σ : L2.St} {H : Hp} {F : Bool → MH → Prop} {Q : Bool → Hp → Prop} (s : Rs C σd Hm σ H) (h : T σd Hm F)
    (k : ∀ b H' Hm', NT Hm H Hm' H' → Rs C σd Hm' σ H' → F b Hm' → Q b H') : LfC C T σ H Q :=
  ⟨σd, Hm, F, s, h, fun v H' Hm' n r q => k v H' Hm' n (s.nxt n r) q⟩
theorem LfA.seq {C : Co} {T : TAd} {σd : En} {Hm : MH} {σ : L2.St} {H : Hp} {F : List D → MH → Prop} {Q : List V → Hp → Prop} (s : Rs C σd Hm σ H) (h : T σd Hm F)
    (k : ∀ vs H' ds Hm', NT Hm H Hm' H' → Rs C σd Hm' σ H' → Iss C.K H' Hm' ds vs → F ds Hm' → Q vs H') : LfA C T σ H Q :=
  ⟨σd, Hm, F, s, h, fun v H' d Hm' n r i q => k v H' d Hm' n (s.nxt n r) i q⟩

theorem de_const {d : D} {v : V} (h : PE C.X e (tC v)) (hi : ∀ H Hm, Is C.K H Hm d v) : DE C e (fun _ H Q => Q d H) := PE.weak h fun σ H Q => by
  rintro ⟨σd, Hm, Qd, s, q, k⟩
  exact k.here s.rep (hi H Hm) q
theorem de_var {i : Nat} {x : Str} (hN : C.X.N[i]? = some x) (hv : Vis C.X.env.scope x) (hd : (x == ("__debug__" : Str)) = false) (hcd : (x == ("__classdict__" : Str)) = false) :
    DE C (.Name x pos) (fun σ H Q => ∃ d, σ[i]? = some (some d) ∧ Q d H) := PE.weak (pe_var hN hv hd hcd) fun σ H Q => by
  rintro ⟨σd, Hm, Qd, s, ⟨d, hd, q⟩, k⟩
  obtain ⟨v, hv, i⟩ := s.env.get _ _ hd
  exact ⟨v, hv, k.here s.rep i q⟩
theorem de_bin (ok : C.Ok) {o : Operator} {m : Bool} (ha : DE C a ta) (hb : DE C b tb) : DE C (.BinOp a o b pos) (fun σ H Q => ta σ H fun x H1 => tb σ H1 fun y H2 => binD m o x y H2 Q) :=
  PE.weak (pe_op (op_binD ok.x m o) ha hb) fun σ H Q => by
    rintro ⟨σd, Hm, Qd, s, q, k⟩
    refine Lf.seq s q fun x H1 dx Hm1 n1 s1 ix q => ?_
    refine Lf.seq s1 q fun y H2 dy Hm2 n2 s2 iy q => ?_
    exact ⟨C.Z, dx, dy, Hm2, Qd, s2.rep, Is.nt s1.rep n2 dx x ix, iy, q, (k.cut n1).cut n2⟩
theorem de_neg (ha : DE C a ta) : DE C (.UnaryOp .USub a pos) (fun σ H Q => ta σ H fun x H1 => ∃ i, x = .int i ∧ Q (.int (-i)) H1) :=
  PE.weak (pe_un un_neg ha) fun σ H Q => by
    rintro ⟨σd, Hm, Qd, s, q, k⟩
    refine Lf.seq s q fun x H1 dx Hm1 n1 s1 ix q => ?_
    obtain ⟨i, rfl, q⟩ := q
    exact ⟨i, ix.int, (k.cut n1).here s1.rep is_int q⟩
theorem de_not (ha : DE C a ta) : DE C (.UnaryOp .Not a pos) (fun σ H Q => ta σ H fun x H1 => ∃ c, truD H1 x = some c ∧ Q (.bl (!c)) H1) :=
  PE.weak (pe_notT ha) fun σ H Q => by
    rintro ⟨σd, Hm, Qd, s, q, k⟩
    refine Lf.seq s q fun x H1 dx Hm1 n1 s1 ix q => ?_
    obtain ⟨c, hc, q⟩ := q
    exact ⟨c, tru_of s1.rep ix hc, (k.cut n1).here s1.rep is_bl q⟩
theorem de_and {rest : List Expr} (ha : DE C a ta) (hb : DE C (.BoolOp .And (b :: rest) pos) tb) :
    DE C (.BoolOp .And (a :: b :: rest) pos) (fun σ H Q => ta σ H fun x H1 => ∃ c, truD H1 x = some c ∧ br c (tb σ H1 Q) (Q x H1)) :=
  PE.weak (pe_andT ha hb) fun σ H Q => by
    rintro ⟨σd, Hm, Qd, s, q, k⟩
    refine Lf.seq s q fun x H1 dx Hm1 n1 s1 ix q => ?_
    obtain ⟨c, hc, q⟩ := q
    refine ⟨c, tru_of s1.rep ix hc, ?_⟩
    cases c with
    | true => exact Lf.seq s1 q fun y H2 dy Hm2 n2 s2 iy q => ((k.cut n1).cut n2).here s2.rep iy q
    | false => exact (k.cut n1).here s1.rep ix q
theorem de_or {rest : List Expr} (ha : DE C a ta) (hb : DE C (.BoolOp .Or (b :: rest) pos) tb) :
    DE C (.BoolOp .Or (a :: b :: rest) pos) (fun σ H Q => ta σ H fun x H1 => ∃ c, truD H1 x = some c ∧ br c (Q x H1) (tb σ H1 Q)) :=
  PE.weak (pe_orT ha hb) fun σ H Q => by
    rintro ⟨σd, Hm, Qd, s, q, k⟩
    refine Lf.seq s q fun x H1 dx Hm1 n1 s1 ix q => ?_
    obtain ⟨c, hc, q⟩ := q
    refine ⟨c, tru_of s1.rep ix hc, ?_⟩
    cases c with
    | false => exact Lf.seq s1 q fun y H2 dy Hm2 n2 s2 iy q => ((k.cut n1).cut n2).here s2.rep iy q
    | true => exact (k.cut n1).here s1.rep ix q
theorem de_cmp (ok : C.Ok) {o : CmpOp} (ha : DE C a ta) (hb : DE C b tb) (hm : behindInMarks o b = false) :
    DE C (.Compare a [o] [b] pos) (fun σ H Q => ta σ H fun x H1 => tb σ H1 fun y H2 => ∃ c, cmpD o x y H2 = some c ∧ Q (.bl c) H2) :=
  PE.weak (pe_cmpR (op_cmpD ok.x o) ha hb hm) fun σ H Q => by
    rintro ⟨σd, Hm, Qd, s, q, k⟩
    refine Lf.seq s q fun x H1 dx Hm1 n1 s1 ix q => ?_
    refine Lf.seq s1 q fun y H2 dy Hm2 n2 s2 iy q => ?_
    exact ⟨C.Z, dx, dy, Hm2, Qd, s2.rep, Is.nt s1.rep n2 dx x ix, iy, q, (k.cut n1).cut n2⟩
theorem dc_cmp (ok : C.Ok) {o : CmpOp} (ha : DE C a ta) (hb : DE C b tb) (hm : behindInMarks o b = false) :
    DC C (.Compare a [o] [b] pos) (fun σ H Q => ta σ H fun x H1 => tb σ H1 fun y H2 => ∃ c, cmpD o x y H2 = some c ∧ Q c H2) :=
  PT.weak (pt_cmpR (op_cmpD ok.x o) ha hb hm) fun σ H Q => by
    rintro ⟨σd, Hm, Qd, s, q, k⟩
    refine Lf.seq s q fun x H1 dx Hm1 n1 s1 ix q => ?_
    refine Lf.seq s1 q fun y H2 dy Hm2 n2 s2 iy q => ?_
    obtain ⟨c, hc, q⟩ := q
    refine ⟨C.Z, dx, dy, Hm2, fun z Hz => z = .bl c ∧ Qd c Hz, s2.rep, Is.nt s1.rep n2 dx x ix, iy, ⟨c, hc, rfl, q⟩, fun v H' d Hm' n r i z => ?_⟩
    obtain ⟨rfl, z⟩ := z
    exact ⟨c, i.bl, k c H' Hm' ((n1.trans n2).trans n) r z⟩
theorem de_ch (ok : C.Ok) {o o' : CmpOp} (ha : DE C a ta) (hb : DE C b tb) (hc : DE C c tc) (hm : lastMarks [o, o'] [b, c] = false) :
    DE C (.Compare a [o, o'] [b, c] pos) (fun σ H Q => ta σ H fun x H1 => tb σ H1 fun y H2 => ∃ c1, cmpD o x y H2 = some c1 ∧
      br c1 (tc σ H2 fun z H3 => ∃ c2, cmpD o' y z H3 = some c2 ∧ Q (.bl c2) H3) (Q (.bl false) H2)) :=
  PE.weak (pe_chain (op_cmpD ok.x o) (op_cmpD ok.x o') ha hb hc hm) fun σ H Q => by
    rintro ⟨σd, Hm, Qd, s, q, k⟩
    refine Lf.seq s q fun x H1 dx Hm1 n1 s1 ix q => ?_
    refine Lf.seq s1 q fun y H2 dy Hm2 n2 s2 iy q => ?_
    obtain ⟨c1, hc1, q⟩ := q
    refine ⟨C.Z, dx, dy, Hm2, fun z Hz => z = .bl c1 ∧ Hz = Hm2, s2.rep, Is.nt s1.rep n2 dx x ix, iy, ⟨c1, hc1, rfl, rfl⟩, fun v H3 d Hm3 n3 r3 i z => ?_⟩
    obtain ⟨rfl, rfl⟩ := z
    have s3 := s2.nxt n3 r3
    refine ⟨c1, i.bl, ?_⟩
    cases c1 with
    | false => exact (((k.cut n1).cut n2).cut n3).here s3.rep is_bl q
    | true =>
      refine Lf.seq s3 q fun z H4 dz Hm4 n4 s4 iz q => ?_
      exact ⟨C.Z, dy, dz, Hm4, Qd, s4.rep, Is.nt s3.rep n4 dy y (Is.nt s2.rep n3 dy y iy), iz, q, ((k.cut n1).cut n2).cut (n3.trans n4)⟩
theorem dc_ch (ok : C.Ok) {o o' : CmpOp} (ha : DE C a ta) (hb : DE C b tb) (hc : DE C c tc) (hm : lastMarks [o, o'] [b, c] = false) :
    DC C (.Compare a [o, o'] [b, c] pos) (fun σ H Q => ta σ H fun x H1 => tb σ H1 fun y H2 => ∃ c1, cmpD o x y H2 = some c1 ∧
      br c1 (tc σ H2 fun z H3 => ∃ c2, cmpD o' y z H3 = some c2 ∧ Q c2 H3) (Q false H2)) :=
  PT.weak (pt_chain (op_cmpD ok.x o) (op_cmpD ok.x o') ha hb hc hm) fun σ H Q => by
    rintro ⟨σd, Hm, Qd, s, q, k⟩
    refine Lf.seq s q fun x H1 dx Hm1 n1 s1 ix q => ?_
    refine Lf.seq s1 q fun y H2 dy Hm2 n2 s2 iy q => ?_
    obtain ⟨c1, hc1, q⟩ := q
    refine ⟨C.Z, dx, dy, Hm2, fun z Hz => z = .bl c1 ∧ Hz = Hm2, s2.rep, Is.nt s1.rep n2 dx x ix, iy, ⟨c1, hc1, rfl, rfl⟩, fun v H3 d Hm3 n3 r3 i z => ?_⟩
    obtain ⟨rfl, rfl⟩ := z
    have s3 := s2.nxt n3 r3
    refine ⟨c1, i.bl, ?_⟩
    cases c1 with
    | false => exact ⟨false, rfl, k false H3 _ ((n1.trans n2).trans n3) r3 q⟩
    | true =>
      refine Lf.seq s3 q fun z H4 dz Hm4 n4 s4 iz q => ?_
      obtain ⟨c2, hc2, q⟩ := q
      refine ⟨C.Z, dy, dz, Hm4, fun z Hz => z = .bl c2 ∧ Qd c2 Hz, s4.rep, Is.nt s3.rep n4 dy y (Is.nt s2.rep n3 dy y iy), iz, ⟨c2, hc2, rfl, q⟩, fun v H' d Hm' n r i z => ?_⟩
      obtain ⟨rfl, z⟩ := z
      exact ⟨c2, i.bl, k c2 H' Hm' (((n1.trans n2).trans (n3.trans n4)).trans n) r z⟩
theorem de_ite {t : Expr} {tt : TCd} (ht : DC C t tt) (ha : DE C a ta) (hb : DE C b tb) : DE C (.IfExp t a b pos) (fun σ H Q => tt σ H fun c H1 => br c (ta σ H1 Q) (tb σ H1 Q)) :=
  PE.weak (pe_ifExp ht ha hb) fun σ H Q => by
    rintro ⟨σd, Hm, Qd, s, q, k⟩
    refine LfC.seq s q fun c H1 Hm1 n1 s1 q => ?_
    cases c with
    | true => exact Lf.seq s1 q fun y H2 dy Hm2 n2 s2 iy q => ((k.cut n1).cut n2).here s2.rep iy q
    | false => exact Lf.seq s1 q fun y H2 dy Hm2 n2 s2 iy q => ((k.cut n1).cut n2).here s2.rep iy q
theorem dc_val (ha : DE C a ta) (he : ∀ whole, isTrue a C.X.env whole = (do let v ← whole; standAt a.pos; holding [v] (truthy v))) :
    DC C a (fun σ H Q => ta σ H fun x H1 => ∃ c, truD H1 x = some c ∧ Q c H1) :=
  PT.weak (pt_truth ha he) fun σ H Q => by
    rintro ⟨σd, Hm, Qd, s, q, k⟩
    refine Lf.seq s q fun x H1 dx Hm1 n1 s1 ix q => ?_
    obtain ⟨c, hc, q⟩ := q
    exact ⟨c, tru_of s1.rep ix hc, k c H1 Hm1 n1 s1.rep q⟩
theorem dc_not {t : TCd} (ha : DC C a t) : DC C (.UnaryOp .Not a pos) (fun σ H Q => t σ H fun b H1 => Q (!b) H1) :=
  PT.weak (pt_not ha) fun σ H Q => by
    rintro ⟨σd, Hm, Qd, s, q, k⟩
    exact LfC.seq s q fun c H1 Hm1 n1 s1 q => k (!c) H1 Hm1 n1 s1.rep q
/-- tests whatever the whole is -/
def DW (C : Co) (e : Expr) (T : TCd) : Prop := PW C.X e (LfC C T)
theorem PW.weak {X : Cx} {e : Expr} {t t' : TT} (h : PW X e t) (k : ∀ σ H Q, t' σ H Q → t σ H Q) : PW X e t' := ⟨fun wh pins s σ H Q I q => h.run wh pins s σ H Q I (k σ H Q q)⟩
theorem dw_and1 {t : TCd} (ha : DC C a t) : DW C (.BoolOp .And [a] pos) t := pw_and1 ha
theorem dw_or1 {t : TCd} (ha : DC C a t) : DW C (.BoolOp .Or [a] pos) t := pw_or1 ha
theorem dw_and {t u : TCd} {rest : List Expr} (ha : DC C a t) (hb : DW C (.BoolOp .And (b :: rest) pos) u) :
    DW C (.BoolOp .And (a :: b :: rest) pos) (fun σ H Q => t σ H fun c H1 => br c (u σ H1 Q) (Q false H1)) :=
  PW.weak (pw_and ha hb) fun σ H Q => by
    rintro ⟨σd, Hm, Qd, s, q, k⟩
    refine LfC.seq s q fun c H1 Hm1 n1 s1 q => ?_
    cases c with
    | true => exact LfC.seq s1 q fun y H2 Hm2 n2 s2 q => k y H2 Hm2 (n1.trans n2) s2.rep q
    | false => exact k false H1 Hm1 n1 s1.rep q
theorem dw_or {t u : TCd} {rest : List Expr} (ha : DC C a t) (hb : DW C (.BoolOp .Or (b :: rest) pos) u) :
    DW C (.BoolOp .Or (a :: b :: rest) pos) (fun σ H Q => t σ H fun c H1 => br c (Q true H1) (u σ H1 Q)) :=
  PW.weak (pw_or ha hb) fun σ H Q => by
    rintro ⟨σd, Hm, Qd, s, q, k⟩
    refine LfC.seq s q fun c H1 Hm1 n1 s1 q => ?_
    cases c with
    | false => exact LfC.seq s1 q fun y H2 Hm2 n2 s2 q => k y H2 Hm2 (n1.trans n2) s2.rep q
    | true => exact k true H1 Hm1 n1 s1.rep q
/-! ### arguments, displays, subscripts -/
theorem da_nil : DA C [] (fun _ H Q => Q [] H) := PA.weak pa_nil fun σ H Q => by
  rintro ⟨σd, Hm, Qd, s, q, k⟩
  exact k [] H [] Hm .refl s.rep .nil q
theorem da_cons {es : List Expr} {t : TAd} (ha : DE C e te) (hr : DA C es t) (hs : starEach (e :: es) C.X.env = (false, eval e C.X.env) :: starEach es C.X.env) :
    DA C (e :: es) (fun σ H Q => te σ H fun x H1 => t σ H1 fun xs H2 => Q (x :: xs) H2) := PA.weak (pa_cons ha hr hs) fun σ H Q => by
  rintro ⟨σd, Hm, Qd, s, q, k⟩
  refine Lf.seq s q fun x H1 dx Hm1 n1 s1 ix q => ?_
  refine LfA.seq s1 q fun vs H2 ds Hm2 n2 s2 is q => ?_
  exact k (x :: vs) H2 (dx :: ds) Hm2 (n1.trans n2) s2.rep (.cons (Is.nt s1.rep n2 dx x ix) is) q
theorem de_tup {es : List Expr} {t : TAd} {x1} (h : DA C es t) : DE C (.Tuple es x1 pos) (fun σ H Q => t σ H fun ds H1 => ds.length ≤ sizeLine ∧ Q (.tup ds) H1) :=
  PE.weak (pe_tup h) fun σ H Q => by
    rintro ⟨σd, Hm, Qd, s, q, k⟩
    refine LfA.seq s q fun vs H1 ds Hm1 n1 s1 is q => ?_
    exact ⟨by rw [is.length]; exact q.1, (k.cut n1).tup s1.rep is q.2⟩
theorem de_lst {es : List Expr} {t : TAd} {m : Bool} (h : DA C es t) : DE C (.List es pos) (fun σ H Q => t σ H fun ds H1 => freshL m ds H1 Q) :=
  PE.weak (pe_lst h) fun σ H Q => by
    rintro ⟨σd, Hm, Qd, s, q, k⟩
    refine LfA.seq s q fun vs H1 ds Hm1 n1 s1 is q => ?_
    exact ⟨by rw [is.length]; exact q.1, (k.cut n1).lst s1.rep is q⟩
theorem atI_of {K : Kz} {H : Hp} {Hm : MH} {ds : List D} {vs : List V} {i : Int} {d : D} (t : Iss K H Hm ds vs) (h : atI ds i = some d) : ∃ v, atI vs i = some v ∧ Is K H Hm d v := by
  unfold atI at h ⊢
  rw [t.length]
  cases e : ixN ds.length i with
  | none => rw [e] at h; cases h
  | some j =>
    rw [e] at h
    exact t.get h
theorem ix_okD {X : Cx} : IxR X (fun x y H Q => ∃ Z dx dy Hm Qd, Rep ⟨X.K, Z⟩ H Hm ∧ Is ⟨X.K, Z⟩ H Hm dx x ∧ Is ⟨X.K, Z⟩ H Hm dy y ∧ (∃ d, ixD dx dy Hm = some d ∧ Qd d Hm) ∧ Bh ⟨X.K, Z⟩ Hm H Qd Q) := by
  intro value slice pins s σ H x y v u Q I rx ry h hs
  obtain ⟨Z, dx, dy, Hm, Qd, rep, ix, iy, ⟨d, hd, q⟩, k⟩ := h
  unfold ixD at hd
  split at hd
  · split at hd
    · split at hd
      · rename_i i _ z hz
        cases e : atI z.cps.toList i with
        | none => rw [e] at hd; cases hd
        | some c =>
          rw [e] at hd; cases hd
          exact ix_seq value slice pins s σ H x y v u Q I rx ry (.inr (.inr ⟨_, _, c, ix.str, iy.int, hz, e, k.here rep is_str q⟩)) hs
      · cases hd
    · cases e : seqAt Hm dx with
      | none => rw [e] at hd; cases hd
      | some xs =>
        rw [e] at hd
        obtain ⟨a, vs, rfl, sq, t⟩ := seq_of rep ix e
        obtain ⟨w, hw, iw⟩ := atI_of t hd
        have fin := k.here rep iw q
        rcases sq with sq | sq
        · exact ix_seq value slice pins s σ H _ y v u Q I rx ry (.inl ⟨a, vs, _, w, rfl, iy.int, sq, hw, fin⟩) hs
        · exact ix_seq value slice pins s σ H _ y v u Q I rx ry (.inr (.inl ⟨a, vs, _, w, rfl, iy.int, sq, hw, fin⟩)) hs
  · cases hd
theorem de_ix (ha : DE C a ta) (hb : DE C b tb) (hs : PlainIx b) : DE C (.Subscript a b pos) (fun σ H Q => ta σ H fun x H1 => tb σ H1 fun y H2 => ∃ d, ixD x y H2 = some d ∧ Q d H2) :=
  PE.weak (pe_ix ix_okD ha hb hs) fun σ H Q => by
    rintro ⟨σd, Hm, Qd, s, q, k⟩
    refine Lf.seq s q fun x H1 dx Hm1 n1 s1 ix q => ?_
    refine Lf.seq s1 q fun y H2 dy Hm2 n2 s2 iy q => ?_
    exact ⟨C.Z, dx, dy, Hm2, Qd, s2.rep, Is.nt s1.rep n2 dx x ix, iy, q, (k.cut n1).cut n2⟩
theorem cut_of {K : Kz} {H : Hp} {Hm : MH} {ds : List D} {vs : List V} (lo hi : Option Int) (t : Iss K H Hm ds vs) : Iss K H Hm (cutD ds lo hi) (cutV vs lo hi) := by
  unfold cutD cutV
  rw [t.length]
  exact (t.drop _).take _
abbrev TOd := En → MH → (Option Int → MH → Prop) → Prop
def LfO (C : Co) (T : TOd) : TO := fun σ H Q => ∃ σd Hm Qd, Rs C σd Hm σ H ∧ T σd Hm Qd ∧ ∀ o H' Hm', NT Hm H Hm' H' → Rep C.K H' Hm' → Qd o Hm' → Q o H'
def DO (C : Co) (e : Option Expr) (T : TOd) : Prop := PO C.X e (LfO C T)
theorem PO.weak {X : Cx} {e : Option Expr} {t t' : TO} (h : PO X e t) (k : ∀ σ H Q, t' σ H Q → t σ H Q) : PO X e t' := ⟨fun pins s σ H Q I q => h.run pins s σ H Q I (k σ H Q q)⟩
theorem do_none : DO C none (fun _ H Q => Q none H) := PO.weak po_none fun σ H Q => by
  rintro ⟨σd, Hm, Qd, s, q, k⟩
  exact k none H Hm .refl s.rep q
theorem do_some (h : DE C e te) : DO C (some e) (fun σ H Q => te σ H fun x H1 => ∃ i, x = .int i ∧ Q (some i) H1) := PO.weak (po_some h) fun σ H Q => by
  rintro ⟨σd, Hm, Qd, s, q, k⟩
  refine Lf.seq s q fun x H1 dx Hm1 n1 s1 ix q => ?_
  obtain ⟨i, rfl, q⟩ := q
  exact ⟨i, ix.int, k (some i) H1 Hm1 n1 s1.rep q⟩
theorem sl_okD {X : Cx} {m : Bool} : SlR X (fun x lo hi H Q => ∃ Z dx Hm Qd, Rep ⟨X.K, Z⟩ H Hm ∧ Is ⟨X.K, Z⟩ H Hm dx x ∧ slD m dx lo hi Hm Qd ∧ Bh ⟨X.K, Z⟩ Hm H Qd Q) := by
  intro pins s σ H x v vl vu lo hi sl Q I rx hsl pl pu h
  obtain ⟨Z, dx, Hm, Qd, rep, ix, hr, k⟩ := h
  unfold slD at hr
  split at hr
  · obtain ⟨a, vs, e, sq, t⟩ := ix.tup
    refine sl_tupA pins s σ H x v vl vu lo hi sl Q I rx hsl pl pu ⟨a, vs, e, sq, fun z => ?_, fun _ => k.tup rep (cut_of lo hi t) hr⟩
    refine k.here rep (d := .tup _) ?_ hr
    unfold Is
    refine ⟨a, vs, rfl, sq, ?_⟩
    have e2 : cutV vs lo hi = vs := by
      unfold cutV
      rw [z.1, z.2, List.drop_zero, Nat.sub_zero, List.take_length]
    have := cut_of lo hi t
    rw [e2] at this
    exact this
  · exact sl_str pins s σ H x v vl vu lo hi sl Q I rx hsl pl pu ⟨_, ix.str, hr.1, k.here rep is_str hr.2⟩
  · obtain ⟨xs, e1, q⟩ := hr
    obtain ⟨a, vs, z1, s1, t1⟩ := lst_of rep ix e1
    exact sl_list pins s σ H x v vl vu lo hi sl Q I rx hsl pl pu ⟨a, vs, z1, s1, k.lst rep (cut_of lo hi t1) q⟩
theorem de_sl {m : Bool} {lo hi : Option Expr} {tl th : TOd} {p2 : Pos} (ha : DE C a ta) (hl : DO C lo tl) (hh : DO C hi th) :
    DE C (.Subscript a (.Slice lo hi none p2) pos) (fun σ H Q => ta σ H fun x H1 => tl σ H1 fun l H2 => th σ H2 fun h H3 => slD m x l h H3 Q) :=
  PE.weak (pe_slice (sl_okD (m := m)) ha hl hh) fun σ H Q => by
    rintro ⟨σd, Hm, Qd, s, q, k⟩
    refine Lf.seq s q fun x H1 dx Hm1 n1 s1 ix q => ?_
    refine ⟨σd, Hm1, _, s1, q, fun l H2 Hm2 n2 r2 q => ?_⟩
    have s2 := s1.nxt n2 r2
    refine ⟨σd, Hm2, _, s2, q, fun h H3 Hm3 n3 r3 q => ?_⟩
    exact ⟨C.Z, dx, Hm3, Qd, r3, Is.nt r2 n3 dx x (Is.nt s1.rep n2 dx x ix), q, (k.cut n1).cut (n2.trans n3)⟩
end
end DL

set_option maxHeartbeats 400000
namespace DL
open PySem PySem.Spec PyProof.Rows L2

def Bi.val : Bi → Value
  | .len => .builtin "len" | .min => .builtin "min" | .max => .builtin "max" | .abs => .builtin "abs" | .int => .type "int" | .bool => .type "bool" | .str => .type "str"
  | .sorted => .builtin "sorted" | .list => .type "list" | .tuple => .type "tuple" | .sum => .builtin "sum" | .isi => .builtin "isinstance"
def CD0 (X : Cx) (f : Value) (r : List D → MH → DK → Prop) : Prop :=
  True
theorem intsD_of {K : Kz} {H : Hp} {Hm : MH} : ∀ {ds : List D} {vs : List V} {ns : List Int}, Iss K H Hm ds vs → intsD ds = some ns → vs = ns.map V.int
  | [], vs, ns, h, e => by unfold intsD at e; cases e; exact h.nil_of
  | d :: ds, vs, ns, h, e => by
    obtain ⟨v, r, rfl, q, t⟩ := h.cons_of
    cases d with
    | int i =>
      unfold intsD at e
      cases z : intsD ds with
      | none => rw [z] at e; cases e
      | some ms =>
        rw [z] at e; cases e
        rw [q.int, intsD_of t z]; rfl
    | _ => unfold intsD at e; cases e
theorem leastI_mem : ∀ (ns : List Int) (n : Int), leastI n ns ∈ n :: ns
  | [], n => List.mem_cons_self
  | m :: r, n => by
    unfold leastI
    have := leastI_mem r (if m < n then m else n)
    rcases List.mem_cons.mp this with e | e
    · rw [e]
      split
      · exact List.mem_cons_of_mem _ List.mem_cons_self
      · exact List.mem_cons_self
    · exact List.mem_cons_of_mem _ (List.mem_cons_of_mem _ e)
theorem leastI_le : ∀ (ns : List Int) (n : Int), ∀ y ∈ n :: ns, leastI n ns ≤ y
  | [], n, y, h => by
    have : y = n := by simpa using h
    rw [this]; exact Int.le_refl _
  | m :: r, n, y, h => by
    unfold leastI
    have ih := leastI_le r (if m < n then m else n)
    have h0 := ih _ List.mem_cons_self
    rcases List.mem_cons.mp h with e | e
    · subst e; split at h0 <;> (split <;> omega)
    · rcases List.mem_cons.mp e with e | e
      · subst e; split at h0 <;> (split <;> omega)
      · exact ih y (List.mem_cons_of_mem _ e)
theorem mostI_mem : ∀ (ns : List Int) (n : Int), mostI n ns ∈ n :: ns
  | [], n => List.mem_cons_self
  | m :: r, n => by
    unfold mostI
    have := mostI_mem r (if m > n then m else n)
    rcases List.mem_cons.mp this with e | e
    · rw [e]
      split
      · exact List.mem_cons_of_mem _ List.mem_cons_self
      · exact List.mem_cons_self
    · exact List.mem_cons_of_mem _ (List.mem_cons_of_mem _ e)
theorem mostI_ge : ∀ (ns : List Int) (n : Int), ∀ y ∈ n :: ns, y ≤ mostI n ns
  | [], n, y, h => by
    have : y = n := by simpa using h
    rw [this]; exact Int.le_refl _
  | m :: r, n, y, h => by
    unfold mostI
    have ih := mostI_ge r (if m > n then m else n)
    have h0 := ih _ List.mem_cons_self
    rcases List.mem_cons.mp h with e | e
    · subst e; split at h0 <;> (split <;> omega)
    · rcases List.mem_cons.mp e with e | e
      · subst e; split at h0 <;> (split <;> omega)
      · exact ih y (List.mem_cons_of_mem _ e)
theorem leastI_is {ns : List Int} {n m : Int} (h1 : m ∈ n :: ns) (h2 : ∀ y ∈ n :: ns, m ≤ y) : m = leastI n ns := by
  have a := leastI_le ns n m h1
  have b := h2 _ (leastI_mem ns n)
  omega
theorem mostI_is {ns : List Int} {n m : Int} (h1 : m ∈ n :: ns) (h2 : ∀ y ∈ n :: ns, y ≤ m) : m = mostI n ns := by
  have a := mostI_ge ns n m h1
  have b := h2 _ (mostI_mem ns n)
  omega
section
variable {X : Cx}
theorem hold_ints {h : Heap} : ∀ {us : List Value} {ns : List Int}, IntsAre us ns → PySem.W.HoldAll h us ns
  | _, _, .nil => PySem.W.HoldAll.nil
  | _, _, .cons n t r => PySem.W.HoldAll.cons ⟨_, .int _ _⟩ (hold_ints r)
theorem minOf_is : ∀ (ns : List Int) (n : Int), PySem.W.minOf n ns = leastI n ns
  | [], n => rfl
  | m :: r, n => by
    have ih := minOf_is r (if m < n then m else n)
    have e : leastI n (m :: r) = leastI (if m < n then m else n) r := rfl
    rw [e, ← ih]
    unfold PySem.W.minOf
    rw [List.foldl_cons]
    congr 1
    show (if (decide (m < n)) = true then m else n) = _
    by_cases h : m < n <;> simp [h]
theorem maxOf_is : ∀ (ns : List Int) (n : Int), PySem.W.maxOf n ns = mostI n ns
  | [], n => rfl
  | m :: r, n => by
    have ih := maxOf_is r (if m > n then m else n)
    have e : mostI n (m :: r) = mostI (if m > n then m else n) r := rfl
    rw [e, ← ih]
    unfold PySem.W.maxOf
    rw [List.foldl_cons]
    congr 1
    show (if (decide (n < m)) = true then m else n) = _
    by_cases h : n < m <;> simp [h]
theorem holds_int_of {h : Heap} {v : Value} {n : Int} (H : PySem.W.Holds h v n) : ∃ t, v = .int n t := by
  obtain ⟨as, r⟩ := H
  cases r
  exact ⟨_, rfl⟩
/-- min, max of a tuple of ints -/
theorem cr_minT (hc : X.calm = true) (hr : Room 40 X.A) : CallR X (.builtin "min") (fun vs H Q => ∃ (a : Addr) (n : Int) (ns : List Int), vs = [V.ref a] ∧ SqT X.K H a ((n :: ns).map V.int) ∧ Q (.int (leastI n ns)) H) := by
  intro pins s σ H vs us Q I r h
  obtain ⟨a, n, ns, rfl, hs, q⟩ := h
  obtain ⟨its, rv, hl, _⟩ := I.tuple hs
  rw [Vals.ref1 r]
  refine PySem.W.min_tuple_datum (I.ok.hd hc) hl (hold_ints rv.ints) (by have := hr.un; show X.A.units + 1 + 0 < cLine; omega) fun i v h' tk _ hv hk => ?_
  obtain ⟨t, rfl⟩ := holds_int_of hv
  exact ⟨.int _, H, I.kept hk, ⟨_, rfl⟩, by rw [minOf_is]; exact q⟩
theorem cr_maxT (hc : X.calm = true) (hr : Room 40 X.A) : CallR X (.builtin "max") (fun vs H Q => ∃ (a : Addr) (n : Int) (ns : List Int), vs = [V.ref a] ∧ SqT X.K H a ((n :: ns).map V.int) ∧ Q (.int (mostI n ns)) H) := by
  intro pins s σ H vs us Q I r h
  obtain ⟨a, n, ns, rfl, hs, q⟩ := h
  obtain ⟨its, rv, hl, _⟩ := I.tuple hs
  rw [Vals.ref1 r]
  refine PySem.W.max_tuple_datum (I.ok.hd hc) hl (hold_ints rv.ints) (by have := hr.un; show X.A.units + 1 + 0 < cLine; omega) fun i v h' tk _ hv hk => ?_
  obtain ⟨t, rfl⟩ := holds_int_of hv
  exact ⟨.int _, H, I.kept hk, ⟨_, rfl⟩, by rw [maxOf_is]; exact q⟩
theorem Iss.one {K : Kz} {H : Hp} {Hm : MH} {d : D} {vs : List V} (h : Iss K H Hm [d] vs) : ∃ v, vs = [v] ∧ Is K H Hm d v := by
  obtain ⟨v, r, rfl, q, t⟩ := h.cons_of
  rw [t.nil_of]
  exact ⟨v, rfl, q⟩
theorem Iss.two {K : Kz} {H : Hp} {Hm : MH} {d e : D} {vs : List V} (h : Iss K H Hm [d, e] vs) : ∃ v w, vs = [v, w] ∧ Is K H Hm d v ∧ Is K H Hm e w := by
  obtain ⟨v, r, rfl, q, t⟩ := h.cons_of
  obtain ⟨w, rfl, p⟩ := t.one
  exact ⟨v, w, rfl, q, p⟩
theorem map_ints {K : Kz} {H : Hp} {Hm : MH} (ns : List Int) : Iss K H Hm (ns.map D.int) (ns.map V.int) := Iss.of_ints ns
theorem isTy_of {K : Kz} {H : Hp} {Hm : MH} {d : D} {v : V} {n : String} {b : Bool} (r : Rep K H Hm) (h : Is K H Hm d v) (e : isTy d n Hm = some b) : ∃ t, TyX K.K H v (.type t) ∧ PySem.W.kitOne K.K (.type t) (.type n) = some b := by
  unfold isTy at e
  split at e
  · rename_i hn
    have hn : n ∈ tyNames := by simpa using hn
    have go : ∀ (t : String) (f : String → Bool), (∀ m ∈ tyNames, PySem.W.kitOne K.K (.type t) (.type m) = some (f m)) → f n = b → PySem.W.kitOne K.K (.type t) (.type n) = some b := fun t f h1 h2 => by rw [← h2]; exact h1 n hn
    have all : ∀ {p : String → Prop}, (p "int" ∧ p "bool" ∧ p "str" ∧ p "tuple" ∧ p "list" ∧ p "dict") → ∀ m ∈ tyNames, p m := fun h m hm => by
      simp only [tyNames, List.mem_cons, List.not_mem_nil, or_false] at hm
      rcases hm with rfl | rfl | rfl | rfl | rfl | rfl
      · exact h.1
      · exact h.2.1
      · exact h.2.2.1
      · exact h.2.2.2.1
      · exact h.2.2.2.2.1
      · exact h.2.2.2.2.2
    unfold isTy0 at e
    split at e
    · rw [h.non]; exact ⟨"NoneType", .base .non, go _ (fun _ => false) (all ⟨kit_ty (by decide +kernel), kit_ty (by decide +kernel), kit_ty (by decide +kernel), kit_ty (by decide +kernel), kit_ty (by decide +kernel), kit_ty (by decide +kernel)⟩) (Option.some.inj e)⟩
    · rw [h.bl]; exact ⟨"bool", .base (.bl _), go _ (fun m => m == "bool" || m == "int") (all ⟨kit_ty (by decide +kernel), kit_ty (by decide +kernel), kit_ty (by decide +kernel), kit_ty (by decide +kernel), kit_ty (by decide +kernel), kit_ty (by decide +kernel)⟩) (Option.some.inj e)⟩
    · rw [h.int]; exact ⟨"int", .base (.int _), go _ (fun m => m == "int") (all ⟨kit_ty (by decide +kernel), kit_ty (by decide +kernel), kit_ty (by decide +kernel), kit_ty (by decide +kernel), kit_ty (by decide +kernel), kit_ty (by decide +kernel)⟩) (Option.some.inj e)⟩
    · rw [h.str]; exact ⟨"str", .base (.str _), go _ (fun m => m == "str") (all ⟨kit_ty (by decide +kernel), kit_ty (by decide +kernel), kit_ty (by decide +kernel), kit_ty (by decide +kernel), kit_ty (by decide +kernel), kit_ty (by decide +kernel)⟩) (Option.some.inj e)⟩
    · obtain ⟨a, vs, rfl, s, _⟩ := h.tup
      refine ⟨"tuple", ?_, go _ (fun m => m == "tuple") (all ⟨kit_ty (by decide +kernel), kit_ty (by decide +kernel), kit_ty (by decide +kernel), kit_ty (by decide +kernel), kit_ty (by decide +kernel), kit_ty (by decide +kernel)⟩) (Option.some.inj e)⟩
      rcases s with (s | ⟨o, s⟩) | ⟨o, its, n, k, c, _⟩
      · exact .base (.tup s)
      · exact .fTuple s
      · exact .kTuple k c
    · unfold Is at h
      obtain ⟨a, vs, rfl, s, _⟩ := h
      refine ⟨"list", ?_, go _ (fun m => m == "list") (all ⟨kit_ty (by decide +kernel), kit_ty (by decide +kernel), kit_ty (by decide +kernel), kit_ty (by decide +kernel), kit_ty (by decide +kernel), kit_ty (by decide +kernel)⟩) (Option.some.inj e)⟩
      rcases s with ⟨s | ⟨o, s⟩, _⟩ | ⟨o, its, n, k, c, _⟩
      · exact .base (.lst s)
      · exact .base (.frz s)
      · exact .kList k c
    · rename_i a _
      rw [h.ref]
      split at e
      · rename_i xs hx
        obtain ⟨vs, s, _⟩ := r.obj _ _ hx
        exact ⟨"list", .base (.lst s), go _ (fun m => m == "list") (all ⟨kit_ty (by decide +kernel), kit_ty (by decide +kernel), kit_ty (by decide +kernel), kit_ty (by decide +kernel), kit_ty (by decide +kernel), kit_ty (by decide +kernel)⟩) (Option.some.inj e)⟩
      · cases e
    · cases e
  · cases e
theorem call_biD (C : Cok X) (m : Bool) (f : Bi) : CallR X f.val fun xs H Q => ∃ Z ds Hm Qd, Rep ⟨X.K, Z⟩ H Hm ∧ Iss ⟨X.K, Z⟩ H Hm ds xs ∧ biD m f ds Hm Qd ∧ Bh ⟨X.K, Z⟩ Hm H Qd Q := by
  intro pins s σ H xs us Q I r h
  obtain ⟨Z, ds, Hm, Qd, rep, is, hr, k⟩ := h
  unfold biD at hr
  split at hr
  · obtain ⟨v, rfl, i⟩ := is.one
    exact call_len_str pins s σ H _ us Q I r ⟨_, by rw [i.str], hr.1, k.here rep is_int hr.2⟩
  · obtain ⟨v, rfl, i⟩ := is.one
    obtain ⟨ys, e, q⟩ := hr
    obtain ⟨a, vs, rfl, sq, t⟩ := seq_of rep i e
    exact call_len_seq pins s σ H _ us Q I r ⟨a, vs, rfl, sq, by rw [t.length]; exact k.here rep is_int q⟩
  · obtain ⟨v, w, rfl, i, j⟩ := is.two
    exact call_min2 C.calm pins s σ H _ us Q I r ⟨_, _, by rw [i.int, j.int], k.here rep is_int hr⟩
  · obtain ⟨v, w, rfl, i, j⟩ := is.two
    exact call_max2 C.calm pins s σ H _ us Q I r ⟨_, _, by rw [i.int, j.int], k.here rep is_int hr⟩
  · obtain ⟨v, rfl, i⟩ := is.one
    obtain ⟨n, ns, e, q⟩ := hr
    cases z : seqAt Hm _ with
    | none => rw [z] at e; cases e
    | some ys =>
      rw [z] at e
      obtain ⟨a, vs, rfl, sq, t⟩ := seq_of rep i z
      have e2 := intsD_of t e
      subst e2
      rcases sq with sq | sq
      · exact cr_min C.calm pins s σ H _ us Q I r ⟨a, n :: ns, rfl, sq, by simp, fun m h1 h2 => by rw [leastI_is h1 h2]; exact k.here rep is_int q⟩
      · exact cr_minT C.calm C.room pins s σ H _ us Q I r ⟨a, n, ns, rfl, sq, k.here rep is_int q⟩
  · obtain ⟨v, rfl, i⟩ := is.one
    obtain ⟨n, ns, e, q⟩ := hr
    cases z : seqAt Hm _ with
    | none => rw [z] at e; cases e
    | some ys =>
      rw [z] at e
      obtain ⟨a, vs, rfl, sq, t⟩ := seq_of rep i z
      have e2 := intsD_of t e
      subst e2
      rcases sq with sq | sq
      · exact cr_max C.calm pins s σ H _ us Q I r ⟨a, n :: ns, rfl, sq, by simp, fun m h1 h2 => by rw [mostI_is h1 h2]; exact k.here rep is_int q⟩
      · exact cr_maxT C.calm C.room pins s σ H _ us Q I r ⟨a, n, ns, rfl, sq, k.here rep is_int q⟩
  · obtain ⟨v, rfl, i⟩ := is.one
    exact call_abs pins s σ H _ us Q I r ⟨_, by rw [i.int], k.here rep is_int hr⟩
  · obtain ⟨v, rfl, i⟩ := is.one
    exact call_int1 pins s σ H _ us Q I r (.inl ⟨_, by rw [i.int], k.here rep is_int hr⟩)
  · obtain ⟨v, rfl, i⟩ := is.one
    exact call_int1 pins s σ H _ us Q I r (.inr ⟨_, by rw [i.bl], k.here rep is_int hr⟩)
  · obtain ⟨v, rfl, i⟩ := is.one
    exact call_bool1 pins s σ H _ us Q I r (.inr ⟨_, by rw [i.bl], k.here rep is_bl hr⟩)
  · obtain ⟨v, rfl, i⟩ := is.one
    exact call_str_int pins s σ H _ us Q I r ⟨_, by rw [i.int], hr.1, k.here rep is_str hr.2⟩
  · obtain ⟨v, rfl, i⟩ := is.one
    obtain ⟨ns, e, q⟩ := hr
    cases z : lstAt Hm _ with
    | none => rw [z] at e; cases e
    | some ys =>
      rw [z] at e
      obtain ⟨a, vs, rfl, sq, t⟩ := lst_of rep i z
      have e2 := intsD_of t e
      subst e2
      exact cr_sum C.calm pins s σ H _ us Q I r ⟨a, ns, rfl, sq, k.here rep is_int q⟩
  · obtain ⟨v, rfl, i⟩ := is.one
    obtain ⟨ns, e, q⟩ := hr
    cases z : lstAt Hm _ with
    | none => rw [z] at e; cases e
    | some ys =>
      rw [z] at e
      obtain ⟨a, vs, rfl, sq, t⟩ := lst_of rep i z
      have e2 := intsD_of t e
      subst e2
      exact cr_sortedI pins s σ H _ us Q I r ⟨a, ns, rfl, sq, fun ms p h1 h2 hp => k.lst rep (map_ints ms) (q ms h1 h2) p hp⟩
  · obtain ⟨v, rfl, i⟩ := is.one
    obtain ⟨ys, e, q⟩ := hr
    obtain ⟨a, vs, rfl, sq, t⟩ := seq_of rep i e
    exact call_list_of pins s σ H _ us Q I r ⟨a, vs, rfl, sq, k.lst rep t q⟩
  · obtain ⟨v, rfl, i⟩ := is.one
    obtain ⟨ys, e, q⟩ := hr
    obtain ⟨a, vs, rfl, sq, t⟩ := seq_of rep i e
    refine call_tuple_of pins s σ H _ us Q I r ⟨a, vs, rfl, ?_⟩
    rcases sq with sq | sq
    · exact .inl ⟨sq, k.tup rep t q⟩
    · exact .inr ⟨sq, k.here rep (by unfold Is; exact ⟨a, vs, rfl, sq, t⟩) q⟩
  · obtain ⟨v, w, rfl, i, j⟩ := is.two
    obtain ⟨b, e, q⟩ := hr
    obtain ⟨t, h1, h2⟩ := isTy_of rep i e
    exact call_isi pins s σ H _ us Q I r ⟨v, _, _, _, b, by rw [j.ty], .ty _, h1, h2, k.here rep is_bl q⟩
  · exact hr.elim
end
end DL

set_option maxHeartbeats 400000
namespace DL
open PySem PySem.Spec PyProof.Rows L2

/-! ### calls -/
section
variable {C : Co} {a e : Expr} {es : List Expr} {ta te : TD} {t : TAd} {pos p : Pos} {x : Str}
theorem de_bi (ok : C.Ok) {m : Bool} {f : Bi} (hg : Gl C.X x) (hm : C.X.mg x = none) (hv : bootBuiltins x = some f.val) (ha : DA C (e :: es) t) (hn : x ≠ "__name__") (hdb : (x == ("__debug__" : Str)) = false)
    (he : starEach (e :: es) C.X.env = (false, eval e C.X.env) :: starEach es C.X.env) (hpl : (backTo pos (starEach es C.X.env)).any (·.1) = false) :
    DE C (.Call (.Name x p) (e :: es) [] pos) (fun σ H Q => t σ H fun ds H1 => biD m f ds H1 Q) := by
  have key : PE C.X (.Call (.Name x p) (e :: es) [] pos) (tCB (fun xs H Q => ∃ Z ds Hm Qd, Rep ⟨C.X.K, Z⟩ H Hm ∧ Iss ⟨C.X.K, Z⟩ H Hm ds xs ∧ biD m f ds Hm Qd ∧ Bh ⟨C.X.K, Z⟩ Hm H Qd Q) (LfA C t)) := by
    cases hf : f.val with
    | builtin id => exact pe_callB (hf ▸ call_biD ok.x m f) hg hm (by rw [hv, hf]) ha hn hdb he hpl
    | type id => exact pe_callTy (hf ▸ call_biD ok.x m f) hg hm (by rw [hv, hf]) ha hn hdb he hpl
    | _ => cases f <;> cases hf
  refine PE.weak key fun σ H Q => ?_
  rintro ⟨σd, Hm, Qd, s, q, k⟩
  exact LfA.seq s q fun vs H1 ds Hm1 n1 s1 is q => ⟨C.Z, ds, Hm1, Qd, s1.rep, is, q, k.cut n1⟩
def Mt.ty : Mt → String
  | .append => "list" | .pop => "list" | .upper => "str"
def Mt.id : Mt → String
  | .append => "list.append" | .pop => "list.pop" | .upper => "str.upper"
theorem mt_okD {X : Cx} {m : Bool} {f : Mt} : MtR X f.id fun x xs H Q => ∃ Z dx ds Hm Qd, Rep ⟨X.K, Z⟩ H Hm ∧ Is ⟨X.K, Z⟩ H Hm dx x ∧ Iss ⟨X.K, Z⟩ H Hm ds xs ∧ mtD m f dx ds Hm Qd ∧ Bh ⟨X.K, Z⟩ Hm H Qd Q := by
  intro pins s σ H x xs v us Q I rx r h
  obtain ⟨Z, dx, ds, Hm, Qd, rep, ix, is, hr, k⟩ := h
  unfold mtD at hr
  split at hr
  · rename_i a d
    obtain ⟨w, rfl, iw⟩ := is.one
    obtain ⟨ys, hy, hz, q⟩ := hr
    obtain ⟨vs, e, t⟩ := rep.obj _ _ hy
    have nn : Hm a ≠ none := by rw [hy]; simp
    refine mt_append pins s σ H x _ v us Q I rx r ⟨a, vs, w, ix.ref, rfl, e, by rw [t.length]; exact hz, ?_⟩
    exact k _ _ .non _ (wr_nt nn) (wr_rep rep nn (t.append (.cons iw .nil))) is_non q
  · rename_i a
    have e0 := is.nil_of
    subst e0
    obtain ⟨ys, d, hy, q⟩ := hr
    obtain ⟨vs, e, t⟩ := rep.obj _ _ hy
    have nn : Hm a ≠ none := by rw [hy]; simp
    obtain ⟨w, hw, iw⟩ := t.get (i := ys.length) (d := d) (by simp)
    have hl : vs.length = ys.length + 1 := by rw [t.length]; simp
    have hd : vs.dropLast = vs.take ys.length := by rw [List.dropLast_eq_take, hl]; rfl
    refine mt_pop pins s σ H x _ v us Q I rx r ⟨a, vs, w, ix.ref, rfl, e, by rw [hl]; exact hw, ?_⟩
    have t2 : Iss ⟨X.K, Z⟩ H Hm ys vs.dropLast := by
      rw [hd]
      have := t.take ys.length
      rw [List.take_left] at this
      exact this
    have n1 : NT Hm H (updM Hm a (.lst ys)) (upd H a (.lst vs.dropLast)) := wr_nt nn
    exact k _ _ d _ n1 (wr_rep rep nn t2) (Is.nt rep n1 d w iw) q
  · have e0 := is.nil_of
    subst e0
    exact mt_upper pins s σ H x _ v us Q I rx r ⟨_, ix.str, rfl, hr.1, k.here rep is_str hr.2⟩
  · exact hr.elim
theorem mtTy_of {K : Kz} {H : Hp} {Hm : MH} {f : Mt} {d : D} {v : V} (r : Rep K H Hm) (i : Is K H Hm d v) (h : mtTy f d Hm) : tyV K.K f.ty v H := by
  unfold mtTy at h
  split at h
  · obtain ⟨a, xs, rfl, e⟩ := h
    obtain ⟨vs, q, _⟩ := r.obj _ _ e
    rw [i.ref]
    exact .inl ⟨rfl, vs, .inl (.inl q)⟩
  · obtain ⟨a, xs, rfl, e⟩ := h
    obtain ⟨vs, q, _⟩ := r.obj _ _ e
    rw [i.ref]
    exact .inl ⟨rfl, vs, .inl (.inl q)⟩
  · obtain ⟨z, rfl⟩ := h
    rw [i.str]
    exact rfl
theorem de_mth {m : Bool} {f : Mt} {apos : Pos} (pa : PlainAttrs f.ty) (slot : Slot f.ty x f.id) (hty : typeOf (.builtin f.id) = pure (.type "method_descriptor")) (ho : DE C a ta) (ha : DA C (e :: es) t)
    (hbase : attributeBase a x C.X.env (eval a C.X.env) = eval a C.X.env)
    (hfew : ((backTo pos (starEach (e :: es) C.X.env)).all (fun x => !x.1) && (backToKw pos (keywordEach [] C.X.env)).all (fun x => x.1.isSome)
      && decide ((e :: es).length + ([] : List Keyword).length + (if ([] : List Keyword).isEmpty then 0 else 1) < 30)) = true)
    (hline : (apos.endLine == pos.line) = true) (hs : starEach (e :: es) C.X.env = (false, eval e C.X.env) :: starEach es C.X.env) (hplain : (backTo pos (starEach es C.X.env)).any (·.1) = false) :
    DE C (.Call (.Attribute a x apos) (e :: es) [] pos) (fun σ H Q => ta σ H fun x H1 => mtTy f x H1 ∧ t σ H1 fun ds H2 => mtD m f x ds H2 Q) :=
  PE.weak (pe_bm pa slot hty (mt_okD (m := m) (f := f)) ho ha hbase hfew hline hs hplain) fun σ H Q => by
    rintro ⟨σd, Hm, Qd, s, q, k⟩
    refine Lf.seq s q fun x H1 dx Hm1 n1 s1 ix q => ⟨mtTy_of s1.rep ix q.1, ?_⟩
    exact LfA.seq s1 q.2 fun vs H2 ds Hm2 n2 s2 is q => ⟨C.Z, dx, ds, Hm2, Qd, s2.rep, Is.nt s1.rep n2 dx x ix, is, q, (k.cut n1).cut n2⟩
theorem de_mth0 {m : Bool} {f : Mt} {apos : Pos} (pa : PlainAttrs f.ty) (slot : Slot f.ty x f.id) (hty : typeOf (.builtin f.id) = pure (.type "method_descriptor")) (ho : DE C a ta)
    (hbase : attributeBase a x C.X.env (eval a C.X.env) = eval a C.X.env) (hline : (apos.endLine == pos.line) = true) :
    DE C (.Call (.Attribute a x apos) [] [] pos) (fun σ H Q => ta σ H fun x H1 => mtTy f x H1 ∧ mtD m f x [] H1 Q) :=
  PE.weak (pe_bm0 pa slot hty (mt_okD (m := m) (f := f)) ho hbase hline) fun σ H Q => by
    rintro ⟨σd, Hm, Qd, s, q, k⟩
    exact Lf.seq s q fun x H1 dx Hm1 n1 s1 ix q => ⟨mtTy_of s1.rep ix q.1, C.Z, dx, [], Hm1, Qd, s1.rep, ix, .nil, q.2, k.cut n1⟩
/-- the promise of a def, closed -/
def Cl (K : PySem.W.Frag) (n : Nat) (c : Ctr) : Sp := fun vs H Q E => ∃ Z ds Hm Qd Ed, ds.length = n ∧ Rep ⟨K, Z⟩ H Hm ∧ Iss ⟨K, Z⟩ H Hm ds vs ∧ c ds Hm Qd Ed ∧ Bh ⟨K, Z⟩ Hm H Qd Q ∧
  ∀ cls a fo H' Hm', NT Hm H Hm' H' → Rep ⟨K, Z⟩ H' Hm' → XIs ⟨K, Z⟩ H' Hm' a fo → Ed cls fo Hm' → E cls a H'
/-- a def of the module that keeps its promise -/
def Has (X : Cx) (x : Str) (n : Nat) (c : Ctr) : Prop := ∃ f fd ps k, ps.length = n ∧ X.mg x = some (.ref f) ∧ PySem.W.keepIn X.K (.ref f) = true ∧ Binds X.K fd ps [] ∧ FnOk X.prog X.w X.K X.mg X.base (L2.CX X.prog X.w) k f fd ps (Cl X.K n c) ∧ Room k X.A
theorem de_call (ok : C.Ok) {n : Nat} {c : Ctr} (hF : Has C.X x n c) (hg : Gl C.X x) (ha : DA C (e :: es) t) (hdb : (x == ("__debug__" : Str)) = false)
    (he : starEach (e :: es) C.X.env = (false, eval e C.X.env) :: starEach es C.X.env) (hpl : (backTo pos (starEach es C.X.env)).any (·.1) = false) :
    DE C (.Call (.Name x p) (e :: es) [] pos) (fun σ H Q => t σ H fun ds H1 => ds.length = n ∧ c ds H1 Q (C.Ed σ)) := by
  obtain ⟨f, fd, ps, k, hl, hm, hk, hb, F, hr⟩ := hF
  refine PE.weak (pe_callSD F hr hg hm hk hb .nil (fun σ => passAt ok.tk σ) ha hdb he hpl) fun σ H Q => ?_
  rintro ⟨σd, Hm, Qd, s, q, k⟩
  refine LfA.seq s q fun vs H1 ds Hm1 n1 s1 is q => ?_
  rw [List.append_nil]
  exact ⟨C.Z, ds, Hm1, Qd, C.Ed σd, q.1, s1.rep, is, q.2, k.cut n1, fun cls a fo H' Hm' n' r' x' h => ok.w σ H' σd Hm' cls a fo (s1.nxt n' r') x' h⟩
theorem de_call0 (ok : C.Ok) {n : Nat} {c : Ctr} (hF : Has C.X x n c) (hg : Gl C.X x) (hdb : (x == ("__debug__" : Str)) = false) :
    DE C (.Call (.Name x p) [] [] pos) (fun σ H Q => 0 = n ∧ c [] H Q (C.Ed σ)) := by
  obtain ⟨f, fd, ps, k, hl, hm, hk, hb, F, hr⟩ := hF
  refine ⟨fun pins s σ H Q I h => ?_⟩
  refine wpAny_Call_Name_kw (ld_glob I hg hm ?_ hdb)
  obtain ⟨σd, Hm, Qd, s0, q, k⟩ := h
  refine PySem.W.callWith_K0 I.kIn hk (run_fnSD (us := []) (vs := []) (E := fun σ => WE C.W σ) F hr hb .nil (passAt ok.tk σ) I .nil ?_)
  exact ⟨C.Z, [], Hm, Qd, C.Ed σd, q.1, s0.rep, .nil, q.2, k, fun cls a fo H' Hm' n' r' x' h => ok.w σ H' σd Hm' cls a fo (s0.nxt n' r') x' h⟩

/-! ### targets -/
def Out (ts : List Nat) (σ σ' : L2.St) : Prop := σ'.length = σ.length ∧ ∀ i, i ∉ ts → σ'[i]? = σ[i]?
theorem Out.refl {ts : List Nat} {σ : L2.St} : Out ts σ σ := ⟨rfl, fun _ _ => rfl⟩
theorem Out.trans {ts us : List Nat} {σ σ1 σ2 : L2.St} (a : Out ts σ σ1) (b : Out us σ1 σ2) : Out (ts ++ us) σ σ2 := ⟨b.1.trans a.1, fun i h => by
  rw [List.mem_append, not_or] at h
  rw [b.2 i h.2, a.2 i h.1]⟩
theorem Out.wiped {ts vs : List Nat} {σ σ' : L2.St} (o : Out ts (wipe σ vs) σ') (h : ∀ i ∈ ts, i ∈ vs) : wipe σ' vs = wipe σ vs := by
  apply List.ext_getElem?
  intro i
  have l1 : σ'.length = σ.length := by rw [o.1, wipe_length]
  have g : ∀ (τ : L2.St) (vs : List Nat) (j : Nat), j ∈ vs → j < τ.length → (wipe τ vs)[j]? = some none := fun τ vs j => by
    induction vs with
    | nil => intro h; cases h
    | cons v vs ih =>
      intro h hl
      unfold L2.wipe
      by_cases e : v = j
      · subst e
        rw [List.getElem?_set_self (by rw [wipe_length]; exact hl)]
      · rw [List.getElem?_set_ne e]
        exact ih ((List.mem_cons.mp h).resolve_left fun z => e z.symm) hl
  by_cases hi : i ∈ vs
  · by_cases hl : i < σ.length
    · rw [g σ' vs i hi (l1 ▸ hl), g σ vs i hi hl]
    · rw [List.getElem?_eq_none (by rw [wipe_length, l1]; omega), List.getElem?_eq_none (by rw [wipe_length]; omega)]
  · rw [wipe_out hi, o.2 i fun z => hi (h i z)]
abbrev TGd := D → En → MH → (En → MH → Prop) → Prop
def LfG (C : Co) (ts : List Nat) (T : TGd) : TG := fun v σ H Q => ∃ d σd Hm Qd, Is C.K H Hm d v ∧ Rs C σd Hm σ H ∧ T d σd Hm Qd ∧ ∀ σ' H' σd' Hm', NT Hm H Hm' H' → Rs C σd' Hm' σ' H' → Out ts σ σ' → Qd σd' Hm' → Q σ' H'
def DG (C : Co) (ts : List Nat) (e : Expr) (T : TGd) : Prop := PG C.X e (LfG C ts T)
theorem PG.weak {X : Cx} {e : Expr} {t t' : TG} (h : PG X e t) (k : ∀ v σ H Q, t' v σ H Q → t v σ H Q) : PG X e t' := ⟨fun pins s σ H v u Q I r q => h.run pins s σ H v u Q I r (k v σ H Q q)⟩
abbrev TGsd := List D → En → MH → (En → MH → Prop) → Prop
def LfGs (C : Co) (ts : List Nat) (T : TGsd) : TGs := fun vs σ H Q => ∃ ds σd Hm Qd, Iss C.K H Hm ds vs ∧ Rs C σd Hm σ H ∧ T ds σd Hm Qd ∧ ∀ σ' H' σd' Hm', NT Hm H Hm' H' → Rs C σd' Hm' σ' H' → Out ts σ σ' → Qd σd' Hm' → Q σ' H'
def DGs (C : Co) (ts : List Nat) (es : List Expr) (T : TGsd) : Prop := PGs C.X es (LfGs C ts T)
theorem PGs.weak {X : Cx} {e : List Expr} {t t' : TGs} (h : PGs X e t) (k : ∀ v σ H Q, t' v σ H Q → t v σ H Q) : PGs X e t' := ⟨fun pins s σ H v u Q I r q => h.run pins s σ H v u Q I r (k v σ H Q q)⟩
theorem dg_name (ok : C.Ok) {i : Nat} (hi : C.X.N[i]? = some x) (hx : Loc C.X.env.scope x) (hf : C.X.fn x = true ∨ C.X.env.scope.names.lookup x = some .local) :
    DG C [i] (.Name x pos) (fun d σ H Q => Q (σ.set i (some d)) H) := PG.weak (pg_name ok.x.nd hi hx hf) fun v σ H Q => by
  rintro ⟨d, σd, Hm, Qd, iv, s, q, k⟩
  refine k _ H _ Hm .refl (s.set i iv) ⟨by rw [List.length_set], fun j hj => ?_⟩ q
  rw [List.getElem?_set_ne (fun z => hj (by rw [z]; exact List.mem_cons_self))]
theorem dgs_nil : DGs C [] [] (fun ds σ H Q => ds = [] ∧ Q σ H) := PGs.weak pgs_nil fun v σ H Q => by
  rintro ⟨ds, σd, Hm, Qd, iv, s, ⟨rfl, q⟩, k⟩
  exact ⟨iv.nil_of, k σ H σd Hm .refl s .refl q⟩
theorem dgs_cons {ts us : List Nat} {t : TGd} {u : TGsd} (h1 : DG C ts e t) (h2 : DGs C us es u) (hs : (assignEach (e :: es) C.X.env).map (·.2) = assign e C.X.env :: (assignEach es C.X.env).map (·.2)) :
    DGs C (ts ++ us) (e :: es) (fun ds σ H Q => ∃ d r, ds = d :: r ∧ t d σ H fun σ1 H1 => u r σ1 H1 Q) := PGs.weak (pgs_cons h1 h2 hs) fun v σ H Q => by
  rintro ⟨ds, σd, Hm, Qd, iv, s, ⟨d, r, rfl, q⟩, k⟩
  obtain ⟨w, vr, rfl, i1, i2⟩ := iv.cons_of
  refine ⟨w, vr, rfl, d, σd, Hm, _, i1, s, q, fun σ1 H1 σd1 Hm1 n1 s1 o1 q => ?_⟩
  exact ⟨r, σd1, Hm1, Qd, Iss.nt s.rep n1 _ _ i2, s1, q, fun σ2 H2 σd2 Hm2 n2 s2 o2 q => k σ2 H2 σd2 Hm2 (n1.trans n2) s2 (o1.trans o2) q⟩
theorem dg_tup (ok : C.Ok) {ts : List Nat} {u : TGsd} {k0 l : Nat} (h : DGs C ts es u) (hst : (assignEach es C.X.env).findIdx? (·.1) = none)
    (hn : (assignEach es C.X.env).length = l) : DG C ts (.Tuple es k0 pos) (fun d σ H Q => ∃ ds, d = .tup ds ∧ ds.length = l ∧ u ds σ H Q) :=
  PG.weak (pg_tup (n := l) ok.x.calm h hn hst) fun v σ H Q => by
    rintro ⟨d, σd, Hm, Qd, iv, s, ⟨ds, rfl, hl, q⟩, k⟩
    obtain ⟨a, vs, rfl, sq, t⟩ := iv.tup
    exact ⟨a, vs, rfl, sq, by rw [t.length]; exact hl, ds, σd, Hm, Qd, t, s, q, k⟩
/-- a[i] = d of a list that is tracked -/
theorem set_okD {X : Cx} : PSet X fun o i v H Q => ∃ (Z : Addr → Prop) (dx dy dv : D) (Hm : MH) (Qd : MH → Prop), Rep ⟨X.K, Z⟩ H Hm ∧ Is ⟨X.K, Z⟩ H Hm dx o ∧ Is ⟨X.K, Z⟩ H Hm dy i ∧ Is ⟨X.K, Z⟩ H Hm dv v ∧
    (∃ p xs i j, dx = .ref p ∧ dy = .int i ∧ Hm p = some (.lst xs) ∧ ixN xs.length i = some j ∧ Qd (updM Hm p (.lst (xs.set j dv)))) ∧ ∀ H' Hm', NT Hm H Hm' H' → Rep ⟨X.K, Z⟩ H' Hm' → Qd Hm' → Q H' := by
  intro pins s σ H o i v ov iv u Q I ro ri rv h
  obtain ⟨Z, dx, dy, dv, Hm, Qd, rep, ix, iy, id, ⟨p, xs, n, j, rfl, rfl, hp, hj, q⟩, k⟩ := h
  obtain ⟨vs, e, t⟩ := rep.obj _ _ hp
  have nn : Hm p ≠ none := by rw [hp]; simp
  exact set_list pins s σ H o i v ov iv u Q I ro ri rv ⟨p, vs, n, j, ix.ref, iy.int, e, by rw [t.length]; exact hj, k _ _ (wr_nt nn) (wr_rep rep nn (t.set j id)) q⟩
theorem dg_sub {b : Expr} {tb : TD} (ho : DE C a ta) (hi : DE C b tb)
    (hs : ∀ v, assign (.Subscript a b pos) C.X.env v = (do
      let ov ← holding [v] (eval a C.X.env)
      let iv ← holding [v, ov] (eval b C.X.env)
      standAt pos
      holding [v, ov, iv] (setItem ov iv v)
      release [v, ov, iv] [])) :
    DG C [] (.Subscript a b pos) (fun d σ H Q => ta σ H fun x H1 => tb σ H1 fun y H2 => ∃ p xs i j, x = .ref p ∧ y = .int i ∧ H2 p = some (.lst xs) ∧ ixN xs.length i = some j ∧ Q σ (updM H2 p (.lst (xs.set j d)))) :=
  PG.weak (pg_sub ho hi set_okD hs) fun v σ H Q => by
    rintro ⟨d, σd, Hm, Qd, iv, s, q, k⟩
    refine Lf.seq s q fun x H1 dx Hm1 n1 s1 ix q => ?_
    refine Lf.seq s1 q fun y H2 dy Hm2 n2 s2 iy q => ?_
    exact ⟨C.Z, dx, dy, d, Hm2, fun Hm' => Qd σd Hm', s2.rep, Is.nt s1.rep n2 dx x ix, iy, Is.nt s.rep (n1.trans n2) d v iv, q, fun H' Hm' n r q => k σ H' σd Hm' ((n1.trans n2).trans n) (s2.nxt n r) .refl q⟩
end
end DL

set_option maxHeartbeats 400000
namespace DL
open PySem PySem.Spec PyProof.Rows L2

/-! ### what is walked -/
/-- from the state (Hm1, H1) on, where keep stands: J yields the items ds, then stops -/
structure ItIs (K : Kz) (J : L2.It) (ds : List D) (keep : MH → Prop) (Hm1 : MH) (H1 : Hp) : Prop where
  go : ∀ Hm H i d, NT Hm1 H1 Hm H → Rep K H Hm → keep Hm → ds[i]? = some d → J.go i H
  yld : ∀ Hm H i d x H', NT Hm1 H1 Hm H → Rep K H Hm → keep Hm → ds[i]? = some d → J.yld i H x H' → NT Hm H Hm H' ∧ Rep K H' Hm ∧ Is K H' Hm d x
  stop : ∀ Hm H i, NT Hm1 H1 Hm H → Rep K H Hm → keep Hm → ds.length ≤ i → J.stop i H
abbrev TId := En → MH → (List D → (MH → Prop) → MH → Prop) → Prop
def LfI (C : Co) (T : TId) : TI := fun σ H R => ∃ σd Hm Qd, Rs C σd Hm σ H ∧ T σd Hm Qd ∧ ∀ J H' ds keep Hm', NT Hm H Hm' H' → Rep C.K H' Hm' → (∀ Z' : Addr → Prop, (∀ a, Z' a → C.Z a ∨ H' a = none) → ItIs ⟨C.X.K, Z'⟩ J ds keep Hm' H') → Qd ds keep Hm' → R J H'
def DI (C : Co) (tg e : Expr) (T : TId) : Prop := PI C.X tg e (LfI C T)
theorem PI.weak {X : Cx} {tg e : Expr} {t t' : TI} (h : PI X tg e t) (k : ∀ σ H Q, t' σ H Q → t σ H Q) : PI X tg e t' := ⟨fun pins s σ H Q I q => h.run pins s σ H Q I (k σ H Q q)⟩
section
variable {C : Co} {tg e a b : Expr} {te ta tb : TD} {pos p : Pos}
theorem pi_or {X : Cx} {l : Expr} {tl : TE} (hl : PE X l tl) : PI X tg l (fun σ H R => tl σ H fun x H1 => (∃ a, x = .ref a ∧ (∃ xs, SqL X.K H1 a xs) ∧ R (Itl X.K a) H1) ∨ ∃ a, x = .ref a ∧ (∃ xs, SqT X.K H1 a xs) ∧ R (Itt X.K a) H1) := by
  refine ⟨fun pins s σ H R I h => ?_⟩
  refine thn (hl.run pins s σ H _ I h) fun v s1 ⟨x, H1, I1, r1, q1⟩ => ?_
  rcases q1 with ⟨a, e, ⟨xs, hq⟩, q⟩ | ⟨a, e, ⟨xs, hq⟩, q⟩
  · subst e
    cases r1
    obtain ⟨its, rv, p, hz⟩ := I1.list hq
    refine wpAny_pyIter_list p.isList ?_
    refine ⟨s1.heap.objs.size, [s1.heap.objs.size], _, _, H1, rfl, I1.kept (t' := s1.toks) fun b o e => Heap.get?_push_of_some _ e, turn_list a _, ⟨_, Heap.get?_push_size _ rfl, rfl, rfl⟩, fun b hb => ?_, q⟩
    have e : b = s1.heap.objs.size := by simpa using hb
    subst e
    exact I1.fpOk (Nat.le_refl _) (I1.hok.fresh (Nat.le_refl _))
  · subst e
    cases r1
    obtain ⟨its, rv, p, hz⟩ := I1.tuple hq
    refine wpAny_pyIter_tuple (show s1.heap.IsTuple a its.toArray from p) ?_
    refine ⟨s1.heap.objs.size, [s1.heap.objs.size], _, _, H1, rfl, I1.kept (t' := s1.toks) fun b o e => Heap.get?_push_of_some _ e, turn_tuple a _, ⟨_, Heap.get?_push_size _ rfl, rfl, rfl⟩, fun b hb => ?_, q⟩
    have e : b = s1.heap.objs.size := by simpa using hb
    subst e
    exact I1.fpOk (Nat.le_refl _) (I1.hok.fresh (Nat.le_refl _))
theorem it_list {K : Kz} {a : Addr} {ds : List D} {keep : MH → Prop} {Hm1 : MH} {H1 : Hp} (h : ∀ Hm H, NT Hm1 H1 Hm H → Rep K H Hm → keep Hm → ∃ vs, SqL K.K H a vs ∧ Iss K H Hm ds vs) : ItIs K (Itl K.K a) ds keep Hm1 H1 := by
  refine ⟨fun Hm H i d n r k e => ?_, fun Hm H i d x H' n r k e y => ?_, fun Hm H i n r k e => ?_⟩
  · obtain ⟨vs, s, t⟩ := h Hm H n r k
    obtain ⟨v, hv, _⟩ := t.get e
    exact ⟨vs, v, s, hv⟩
  · obtain ⟨vs, s, t⟩ := h Hm H n r k
    obtain ⟨v, hv, iv⟩ := t.get e
    obtain ⟨rfl, f⟩ := y
    have q := f vs s
    rw [hv] at q; cases q
    exact ⟨.refl, r, iv⟩
  · obtain ⟨vs, s, t⟩ := h Hm H n r k
    exact ⟨vs, s, by rw [t.length]; exact e⟩
theorem it_tup {K : Kz} {a : Addr} {ds : List D} {keep : MH → Prop} {Hm1 : MH} {H1 : Hp} (h : ∀ Hm H, NT Hm1 H1 Hm H → Rep K H Hm → keep Hm → ∃ vs, SqT K.K H a vs ∧ Iss K H Hm ds vs) : ItIs K (Itt K.K a) ds keep Hm1 H1 := by
  refine ⟨fun Hm H i d n r k e => ?_, fun Hm H i d x H' n r k e y => ?_, fun Hm H i n r k e => ?_⟩
  · obtain ⟨vs, s, t⟩ := h Hm H n r k
    obtain ⟨v, hv, _⟩ := t.get e
    exact ⟨vs, v, s, hv⟩
  · obtain ⟨vs, s, t⟩ := h Hm H n r k
    obtain ⟨v, hv, iv⟩ := t.get e
    obtain ⟨rfl, f⟩ := y
    have q := f vs s
    rw [hv] at q; cases q
    exact ⟨.refl, r, iv⟩
  · obtain ⟨vs, s, t⟩ := h Hm H n r k
    exact ⟨vs, s, by rw [t.length]; exact e⟩
theorem it_rng {K : Kz} {lo : Int} {n : Nat} {keep : MH → Prop} {Hm1 : MH} {H1 : Hp} : ItIs K (Itr lo n) ((List.range n).map fun (k : Nat) => D.int (lo + (k : Int))) keep Hm1 H1 := by
  have get : ∀ (i : Nat) (d : D), ((List.range n).map fun (k : Nat) => D.int (lo + (k : Int)))[i]? = some d → i < n ∧ d = .int (lo + i) := fun i d e => by
    rw [List.getElem?_map] at e
    by_cases h : i < n
    · rw [List.getElem?_range h] at e
      cases e
      exact ⟨h, rfl⟩
    · rw [List.getElem?_eq_none (by rw [List.length_range]; omega)] at e; cases e
  refine ⟨fun Hm H i d _ r k e => (get i d e).1, fun Hm H i d x H' _ r k e y => ?_, fun Hm H i _ r k e => ?_⟩
  · obtain ⟨h1, rfl⟩ := get i d e
    obtain ⟨rfl, rfl⟩ := y
    exact ⟨.refl, r, is_int⟩
  · exact (by simpa using e : n ≤ i)
/-- fresh places hidden too -/
theorem Iss.hid {K : PySem.W.Frag} {Z Z' : Addr → Prop} {H : Hp} {Hm : MH} {ds : List D} {vs : List V} (hz : ∀ a, Z' a → Z a ∨ H a = none) (h : Iss ⟨K, Z⟩ H Hm ds vs) : Iss ⟨K, Z'⟩ H Hm ds vs :=
  Iss.tr (K := ⟨K, Z⟩) (K' := ⟨K, Z'⟩) (fun _ _ q => q) (fun a xs q => by
    rcases q with ⟨q, m, z⟩ | q
    · refine .inl ⟨q, m, fun z' => ?_⟩
      rcases hz a z' with w | w
      · exact z w
      · rcases q with q | ⟨_, q⟩ <;> (rw [w] at q; cases q)
    · exact .inr q) (fun a C dx fs q m => ⟨q, m.1, fun z' => by
      rcases hz a z' with w | w
      · exact m.2 w
      · rw [w] at q; cases q⟩) ds vs h
theorem nt_iss {K : PySem.W.Frag} {Z Z' : Addr → Prop} {H H' : Hp} {Hm Hm' : MH} {ds : List D} {vs : List V} (r : Rep ⟨K, Z⟩ H Hm) (n : NT Hm H Hm' H') (h : Iss ⟨K, Z'⟩ H Hm ds vs) : Iss ⟨K, Z'⟩ H' Hm' ds vs :=
  Iss.tr (K := ⟨K, Z'⟩) (K' := ⟨K, Z'⟩) (fun _ _ q => sqT_nt r n q) (fun _ _ q => frzL_nt n q) (fun a C dx fs q m => by
    obtain ⟨e, e'⟩ := n _ _ q m.1
    exact ⟨e, e', m.2⟩) ds vs h
theorem di_seq (h : DE C e te) : DI C tg e (fun σ H Q => te σ H fun x H1 => ∃ xs, seqAt H1 x = some xs ∧ Q xs (keepOf H1 x) H1) := PI.weak (pi_or h) fun σ H R => by
  rintro ⟨σd, Hm, Qd, s, q, k⟩
  refine Lf.seq s q fun x H1 dx Hm1 n1 s1 ix q => ?_
  obtain ⟨ds, e, q⟩ := q
  cases dx with
  | tup xs =>
    unfold seqAt at e; cases e
    obtain ⟨a, vs, rfl, sq, t⟩ := ix.tup
    exact .inr ⟨a, rfl, ⟨vs, sq⟩, k _ H1 _ _ Hm1 n1 s1.rep (fun Z' hz => it_tup (K := ⟨C.X.K, Z'⟩) fun Hm2 H2 n2 r2 _ => ⟨vs, sqT_nt s1.rep n2 sq, nt_iss s1.rep n2 (t.hid hz)⟩) q⟩
  | rol xs =>
    unfold seqAt lstAt at e; cases e
    unfold Is at ix
    obtain ⟨a, vs, rfl, sq, t⟩ := ix
    exact .inl ⟨a, rfl, ⟨vs, sq.sq⟩, k _ H1 _ _ Hm1 n1 s1.rep (fun Z' hz => it_list (K := ⟨C.X.K, Z'⟩) fun Hm2 H2 n2 r2 _ => ⟨vs, (frzL_nt n2 sq).sq, nt_iss s1.rep n2 (t.hid hz)⟩) q⟩
  | ref a =>
    unfold seqAt lstAt at e
    have e1 := ix.ref
    subst e1
    cases z : Hm1 a with
    | none => simp only [z] at e; cases e
    | some o =>
      cases o with
      | ins C ns ds => simp only [z] at e; cases e
      | lst xs =>
        simp only [z] at e; cases e
        obtain ⟨vs, h, t⟩ := s1.rep.obj _ _ z
        refine .inl ⟨a, rfl, ⟨vs, .inl (.inl h)⟩, k _ H1 _ _ Hm1 n1 s1.rep (fun Z' hz => it_list (K := ⟨C.X.K, Z'⟩) fun Hm2 H2 n2 r2 kp => ?_) q⟩
        have kp : Hm2 a = Hm1 a := kp
        rw [z] at kp
        obtain ⟨vs2, h2, t2⟩ := r2.obj _ _ kp
        exact ⟨vs2, .inl (.inl h2), t2⟩
  | _ => unfold seqAt lstAt at e; cases e
theorem di_rng1 (hg : Gl C.X "range") (hm : C.X.mg "range" = none) (ha : DE C a ta) (h1 : starEach [a] C.X.env = [(false, eval a C.X.env)]) :
    DI C tg (.Call (.Name "range" p) [a] [] pos) (fun σ H Q => ta σ H fun x H1 => ∃ j : Int, x = .int j ∧ -(2 ^ 62) ≤ j ∧ j < 2 ^ 62 ∧ Q ((List.range j.toNat).map fun (n : Nat) => D.int (0 + (n : Int))) (fun _ => True) H1) :=
  PI.weak (pi_range1 hg hm (da_cons ha da_nil h1) h1) fun σ H R => by
    rintro ⟨σd, Hm, Qd, s, q, k⟩
    refine LfA.seq s (F := fun ds H1 => ∃ j : Int, ds = [.int j] ∧ -(2 ^ 62) ≤ j ∧ j < 2 ^ 62 ∧ Qd ((List.range j.toNat).map fun (n : Nat) => D.int (0 + (n : Int))) (fun _ => True) H1) (T := fun σ H Q => ta σ H fun x H1 => Q [x] H1) ?_ fun vs H1 ds Hm1 n1 s1 is q => ?_
    · show ta σd Hm fun x H1 => ∃ j : Int, [x] = [.int j] ∧ _
      simp only [List.cons.injEq, and_true]
      exact q
    · obtain ⟨j, rfl, l1, l2, q⟩ := q
      obtain ⟨v, rfl, i⟩ := is.one
      exact ⟨j, by rw [i.int], l1, l2, k _ H1 _ _ Hm1 n1 s1.rep (fun Z' _ => it_rng) q⟩
theorem di_rng2 (hg : Gl C.X "range") (hm : C.X.mg "range" = none) (ha : DE C a ta) (hb : DE C b tb) (h2 : starEach [a, b] C.X.env = [(false, eval a C.X.env), (false, eval b C.X.env)]) (h1 : starEach [b] C.X.env = [(false, eval b C.X.env)]) :
    DI C tg (.Call (.Name "range" p) [a, b] [] pos) (fun σ H Q => ta σ H fun x H1 => tb σ H1 fun y H2 => ∃ i j : Int, x = .int i ∧ y = .int j ∧ (-(2 ^ 62) ≤ i ∧ i < 2 ^ 62 ∧ -(2 ^ 62) ≤ j ∧ j < 2 ^ 62) ∧
      Q ((List.range (j - i).toNat).map fun (n : Nat) => D.int (i + (n : Int))) (fun _ => True) H2) :=
  PI.weak (pi_range2 hg hm (da_cons ha (da_cons hb da_nil h1) (by rw [h2, h1])) h2 h1) fun σ H R => by
    rintro ⟨σd, Hm, Qd, s, q, k⟩
    refine LfA.seq s (F := fun ds H2 => ∃ i j : Int, ds = [.int i, .int j] ∧ (-(2 ^ 62) ≤ i ∧ i < 2 ^ 62 ∧ -(2 ^ 62) ≤ j ∧ j < 2 ^ 62) ∧ Qd ((List.range (j - i).toNat).map fun (n : Nat) => D.int (i + (n : Int))) (fun _ => True) H2) (T := fun σ H Q => ta σ H fun x H1 => tb σ H1 fun y H2 => Q [x, y] H2) ?_ fun vs H1 ds Hm1 n1 s1 is q => ?_
    · show ta σd Hm fun x H1 => tb σd H1 fun y H2 => ∃ i j : Int, [x, y] = [.int i, .int j] ∧ _
      simp only [List.cons.injEq, and_true, and_assoc]
      simp only [and_assoc] at q
      exact q
    · obtain ⟨i, j, rfl, l, q⟩ := q
      obtain ⟨v, w, rfl, iv, iw⟩ := is.two
      exact ⟨i, j, by rw [iv.int, iw.int], l, k _ H1 _ _ Hm1 n1 s1.rep (fun Z' _ => it_rng) q⟩

/-! ### statements -/
structure EndsOk (C : Co) (Hm : MH) (σ : L2.St) (H : Hp) (Dd : Ends') (D : Ends) : Prop where
  nx : ∀ σ' H' σd' Hm', NT Hm H Hm' H' → Rs C σd' Hm' σ' H' → Dd.nx σd' Hm' → D.nx σ' H'
  bk : ∀ σ' H' σd' Hm', NT Hm H Hm' H' → Rs C σd' Hm' σ' H' → Dd.bk σd' Hm' → D.bk σ' H'
  ct : ∀ σ' H' σd' Hm', NT Hm H Hm' H' → Rs C σd' Hm' σ' H' → Dd.ct σd' Hm' → D.ct σ' H'
  rt : Bh C.K Hm H Dd.rt D.rt
abbrev TSd := Ends' → En → MH → Prop
def LfS (C : Co) (T : TSd) : TS := fun D σ H => ∃ σd Hm Dd, Rs C σd Hm σ H ∧ T Dd σd Hm ∧ EndsOk C Hm σ H Dd D
def DS (C : Co) (st : Stmt) (T : TSd) : Prop := PS C.X st (LfS C T)
def DSs (C : Co) (st : List Stmt) (T : TSd) : Prop := PSs C.X st (LfS C T)
theorem PS.weak {X : Cx} {st : Stmt} {t t' : TS} (h : PS X st t) (k : ∀ D σ H, t' D σ H → t D σ H) : PS X st t' := ⟨fun pins s σ H D I q => h.run pins s σ H D I (k D σ H q)⟩
theorem PSs.weak {X : Cx} {st : List Stmt} {t t' : TS} (h : PSs X st t) (k : ∀ D σ H, t' D σ H → t D σ H) : PSs X st t' := ⟨fun pins s σ H D I q => h.run pins s σ H D I (k D σ H q)⟩
theorem EndsOk.cut {Hm Hm1 : MH} {σ σ1 : L2.St} {H H1 : Hp} {Dd : Ends'} {D : Ends} (e : EndsOk C Hm σ H Dd D) (n : NT Hm H Hm1 H1) : EndsOk C Hm1 σ1 H1 Dd D :=
  ⟨fun a b c d n' => e.nx a b c d (n.trans n'), fun a b c d n' => e.bk a b c d (n.trans n'), fun a b c d n' => e.ct a b c d (n.trans n'), e.rt.cut n⟩
theorem dss_nil : DSs C [] (fun D σ H => D.nx σ H) := PSs.weak pss_nil fun D σ H => by
  rintro ⟨σd, Hm, Dd, s, q, k⟩
  exact k.nx σ H σd Hm .refl s q
theorem dss_cons {st : Stmt} {rest : List Stmt} {t u : TSd} (h1 : DS C st t) (h2 : DSs C rest u) : DSs C (st :: rest) (fun D σ H => t { D with nx := fun σ1 H1 => u D σ1 H1 } σ H) :=
  PSs.weak (pss_cons h1 h2) fun D σ H => by
    rintro ⟨σd, Hm, Dd, s, q, k⟩
    exact ⟨σd, Hm, _, s, q, fun σ' H' σd' Hm' n s' q => ⟨σd', Hm', Dd, s', q, k.cut n⟩, k.bk, k.ct, k.rt⟩
theorem ds_asg {ts : List Nat} {t : TGd} (he : DE C e te) (hg : DG C ts tg t) (hs : swapsWithSole [tg] e pos.line C.X.env = pure false) (hw : swappedStores [tg] e C.X.env = pure none) (h1 : (assignEach [tg] C.X.env).map (·.2) = [assign tg C.X.env]) :
    DS C (.Assign [tg] e pos) (fun D σ H => te σ H fun x H1 => t x σ H1 D.nx) := PS.weak (ps_asg he hg hs hw h1) fun D σ H => by
  rintro ⟨σd, Hm, Dd, s, q, k⟩
  refine Lf.seq s q fun x H1 dx Hm1 n1 s1 ix q => ?_
  exact ⟨dx, σd, Hm1, _, ix, s1, q, fun σ' H' σd' Hm' n s' _ q => k.nx σ' H' σd' Hm' (n1.trans n) s' q⟩
theorem ds_aug (ok : C.Ok) {i : Nat} {x : Str} {o : Operator} {pos' : Pos} (hi : C.X.N[i]? = some x) (hx : Loc C.X.env.scope x) (he : DE C e te) (hf : C.X.fn x = true ∨ C.X.env.scope.names.lookup x = some .local) :
    DS C (.AugAssign (.Name x pos') o e pos) (fun D σ H => ∃ x, σ[i]? = some (some x) ∧ te σ H fun y H1 => augD o x y H1 fun z H2 => D.nx (σ.set i (some z)) H2) :=
  PS.weak (ps_aug ok.x.nd hi hx he (op_augD ok.x o) hf) fun D σ H => by
    rintro ⟨σd, Hm, Dd, s, ⟨x, hx, q⟩, k⟩
    obtain ⟨v, hv, iv⟩ := s.env.get _ _ hx
    refine ⟨v, hv, Lf.seq s q fun y H1 dy Hm1 n1 s1 iy q => ?_⟩
    refine ⟨C.Z, x, dy, Hm1, _, s1.rep, Is.nt s.rep n1 x v iv, iy, q, fun z H2 dz Hm2 n2 r2 iz q => ?_⟩
    exact k.nx _ H2 _ Hm2 (n1.trans n2) ((s1.nxt n2 r2).set i iz) q
theorem ds_ex (he : DE C e te) (hs : swapsWith e none pos.line C.X.env = pure false) : DS C (.Expr e pos) (fun D σ H => te σ H fun _ H1 => D.nx σ H1) := PS.weak (ps_expr he hs) fun D σ H => by
  rintro ⟨σd, Hm, Dd, s, q, k⟩
  exact Lf.seq s q fun y H1 dy Hm1 n1 s1 iy q => k.nx σ H1 σd Hm1 n1 s1 q
theorem ds_ret (he : DE C e te) : DS C (.Return (some e) pos) (fun D σ H => te σ H D.rt) := PS.weak (ps_ret he) fun D σ H => by
  rintro ⟨σd, Hm, Dd, s, q, k⟩
  exact Lf.seq s q fun y H1 dy Hm1 n1 s1 iy q => (k.rt.cut n1).here s1.rep iy q
theorem ds_retN : DS C (.Return none pos) (fun D _ H => D.rt .non H) := PS.weak ps_retN fun D σ H => by
  rintro ⟨σd, Hm, Dd, s, q, k⟩
  exact k.rt.here s.rep is_non q
theorem ds_if {c : Expr} {x y : List Stmt} {tc : TCd} {t u : TSd} (hc : DC C c tc) (ha : DSs C x t) (hb : DSs C y u) : DS C (.If c x y pos) (fun D σ H => tc σ H fun b H1 => br b (t D σ H1) (u D σ H1)) :=
  PS.weak (ps_if hc ha hb) fun D σ H => by
    rintro ⟨σd, Hm, Dd, s, q, k⟩
    refine LfC.seq s q fun b H1 Hm1 n1 s1 q => ?_
    cases b with
    | true => exact ⟨σd, Hm1, Dd, s1, q, k.cut n1⟩
    | false => exact ⟨σd, Hm1, Dd, s1, q, k.cut n1⟩
theorem ds_brk : DS C (.Break pos) (fun D σ H => D.bk σ H) := PS.weak ps_break fun D σ H => by
  rintro ⟨σd, Hm, Dd, s, q, k⟩
  exact k.bk σ H σd Hm .refl s q
theorem ds_ct : DS C (.Continue pos) (fun D σ H => D.ct σ H) := PS.weak ps_continue fun D σ H => by
  rintro ⟨σd, Hm, Dd, s, q, k⟩
  exact k.ct σ H σd Hm .refl s q
theorem ds_pass : DS C (.Pass pos) (fun D σ H => D.nx σ H) := PS.weak ps_pass fun D σ H => by
  rintro ⟨σd, Hm, Dd, s, q, k⟩
  exact k.nx σ H σd Hm .refl s q
theorem ds_loop (ok : C.Ok) (po : PassesOwn (model C.X.prog C.X.w) C.X.A C.X.env C.X.xe) {ts : List Nat} {body : List Stmt} {ti : TId} {t : TGd} {tb : TSd} (hi : DI C tg e ti) (hg : DG C ts tg t) (hb : DSs C body tb)
    (hs : ∀ x, foldedSetIterable e C.X.env x = pure x) :
    DS C (.For tg e body [] pos) (fun D σ H => ti σ H fun xs keep H1 => loopL (fun x σ H Q => t x σ H fun σ1 H1 => tb { D with nx := Q, ct := Q, bk := D.nx } σ1 H1) keep xs σ H1 D.nx) :=
  PS.weak (ps_for po ok.x.calm hi hg hb hs) fun D σ H => by
    rintro ⟨σd, Hm, Dd, s, q, k⟩
    refine ⟨σd, Hm, _, s, q, fun J H1 ds keep Hm1 n1 r1 J0 q => ?_⟩
    have J1 := J0 C.Z fun a z => .inl z
    have s1 := s.nxt n1 r1
    refine ⟨fun i m σ H => m = ds.length - i ∧ i ≤ ds.length ∧ ∃ σd Hm, Rs C σd Hm σ H ∧ NT Hm1 H1 Hm H ∧ loopL (fun x σ H Q => t x σ H fun σ1 H1 => tb { Dd with nx := Q, ct := Q, bk := Dd.nx } σ1 H1) keep (ds.drop i) σd Hm Dd.nx,
      ⟨ds.length, rfl, Nat.zero_le _, σd, Hm1, s1, .refl, by rw [List.drop_zero]; exact q⟩, ?_⟩
    rintro i m σ2 H2 ⟨rfl, hi, σd2, Hm2, s2, n2, q⟩
    by_cases hlt : i < ds.length
    · have e1 : ds.drop i = ds[i] :: ds.drop (i + 1) := List.drop_eq_getElem_cons hlt
      rw [e1] at q
      obtain ⟨kp, q⟩ := q
      have g : ds[i]? = some ds[i] := List.getElem?_eq_getElem hlt
      refine .inr ⟨J1.go Hm2 H2 i _ n2 s2.rep kp g, fun σ H => ∃ σd Hm, Rs C σd Hm σ H ∧ NT Hm1 H1 Hm H ∧ loopL (fun x σ H Q => t x σ H fun σ1 H1 => tb { Dd with nx := Q, ct := Q, bk := Dd.nx } σ1 H1) keep (ds.drop (i + 1)) σd Hm Dd.nx,
        fun σ' H' ⟨σd', Hm', a, b, c⟩ => ⟨ds.length - (i + 1), by omega, rfl, hlt, σd', Hm', a, b, c⟩, fun x H3 y => ?_⟩
      obtain ⟨n3, r3, ix⟩ := J1.yld Hm2 H2 i _ x H3 n2 s2.rep kp g y
      have s3 := s2.nxt n3 r3
      refine ⟨_, σd2, Hm2, _, ix, s3, q, fun σ4 H4 σd4 Hm4 n4 s4 _ q => ?_⟩
      have nn := (n2.trans n3).trans n4
      refine ⟨σd4, Hm4, _, s4, q, fun σ' H' σd' Hm' n s' q => ⟨σd', Hm', s', nn.trans n, q⟩, fun σ' H' σd' Hm' n s' q => k.nx σ' H' σd' Hm' (n1.trans (nn.trans n)) s' q, fun σ' H' σd' Hm' n s' q => ⟨σd', Hm', s', nn.trans n, q⟩, (k.rt.cut n1).cut nn⟩
    · have e0 : ds.drop i = [] := List.drop_eq_nil_of_le (by omega)
      rw [e0] at q
      obtain ⟨kp, q⟩ := q
      exact .inl ⟨J1.stop Hm2 H2 i n2 s2.rep kp (by omega), k.nx σ2 H2 σd2 Hm2 (n1.trans n2) s2 q⟩
theorem ds_whl (po : PassesOwn (model C.X.prog C.X.w) C.X.A C.X.env C.X.xe) {c : Expr} {body : List Stmt} {tc : TCd} {tb : TSd} (hc : DC C c tc) (hb : DSs C body tb) :
    DS C (.While c body [] pos) (fun D σ H => ∃ n, whileN tc (fun σ H Q => tb { D with nx := Q, ct := Q, bk := D.nx } σ H) n σ H D.nx) :=
  PS.weak (ps_while po hc hb) fun D σ H => by
    rintro ⟨σd, Hm, Dd, s, ⟨n, q⟩, k⟩
    refine ⟨fun m σ' H' => ∃ σd' Hm', Rs C σd' Hm' σ' H' ∧ NT Hm H Hm' H' ∧ whileN tc (fun σ H Q => tb { Dd with nx := Q, ct := Q, bk := Dd.nx } σ H) m σd' Hm' Dd.nx, ⟨n, σd, Hm, s, .refl, q⟩, ?_⟩
    rintro m σ1 H1 ⟨σd1, Hm1, s1, n1, q⟩
    cases m with
    | zero => exact q.elim
    | succ m =>
      refine LfC.seq s1 q fun b H2 Hm2 n2 s2 q => ?_
      cases b with
      | false => exact k.nx σ1 H2 σd1 Hm2 (n1.trans n2) s2 q
      | true =>
        refine ⟨fun σ' H' => ∃ σd' Hm', Rs C σd' Hm' σ' H' ∧ NT Hm H Hm' H' ∧ whileN tc (fun σ H Q => tb { Dd with nx := Q, ct := Q, bk := Dd.nx } σ H) m σd' Hm' Dd.nx, fun σ' H' z => ⟨m, Nat.lt_succ_self _, z⟩, σd1, Hm2, _, s2, q, ?_⟩
        exact ⟨fun σ' H' σd' Hm' n s' q => ⟨σd', Hm', s', (n1.trans n2).trans n, q⟩, fun σ' H' σd' Hm' n s' q => k.nx σ' H' σd' Hm' ((n1.trans n2).trans n) s' q, fun σ' H' σd' Hm' n s' q => ⟨σd', Hm', s', (n1.trans n2).trans n, q⟩, (k.rt.cut n1).cut n2⟩
end
end DL

set_option maxHeartbeats 400000
namespace DL
open PySem PySem.Spec PyProof.Rows L2

/-- the tests of a comprehension's clause -/
def DCs (C : Co) (es : List Expr) (T : TCd) : Prop := PTs C.X es (LfC C T)
theorem PTs.weak {X : Cx} {es : List Expr} {t t' : TT} (h : PTs X es t) (k : ∀ σ H Q, t' σ H Q → t σ H Q) : PTs X es t' := ⟨fun pins s σ H Q I q => h.run pins s σ H Q I (k σ H Q q)⟩
theorem dcs_nil {C : Co} : DCs C [] (fun _ H Q => Q true H) := PTs.weak pts_nil fun σ H Q => by
  rintro ⟨σd, Hm, Qd, s, q, k⟩
  exact k true H Hm .refl s.rep q
theorem dcs_one {C : Co} {c : Expr} {t : TCd} (h : DC C c t) : DCs C [c] (fun σ H Q => t σ H fun b H1 => br b (Q true H1) (Q false H1)) := PTs.weak (pts_one h) fun σ H Q => by
  rintro ⟨σd, Hm, Qd, s, q, k⟩
  refine LfC.seq s q fun b H1 Hm1 n1 s1 q => ?_
  cases b with
  | true => exact k true H1 Hm1 n1 s1.rep q
  | false => exact k false H1 Hm1 n1 s1.rep q

section
variable {K : PySem.W.Frag} {Z : Addr → Prop} {H : Hp} {Hm : MH} {D0 : Addr} {ds : List D} {vs : List V} {d : D} {v : V}
abbrev hidZ (Z : Addr → Prop) (D0 : Addr) : Addr → Prop := fun a => Z a ∨ a = D0
/-- a hidden list changes -/
theorem hw {K : Kz} (hz : K.Z D0) {xs : List V} (h : H D0 = some (.lst xs)) {o : HO} :
    (∀ a ys, SqT K.K H a ys → SqT K.K (upd H D0 o) a ys) ∧ (∀ a ys, FrzL K H Hm a ys → FrzL K (upd H D0 o) Hm a ys) ∧
      ∀ a C dx fs, H a = some (.ins C dx fs) → (Hm a = none ∧ ¬ K.Z a) → upd H D0 o a = some (.ins C dx fs) ∧ (Hm a = none ∧ ¬ K.Z a) := by
  refine ⟨fun a ys q => ?_, fun a ys q => ?_, fun a C dx fs q m => ?_⟩
  · rcases q with (q | ⟨u, q⟩) | q
    · exact .inl (.inl (by rw [upd_ne (ne_of q h (by intro z; cases z))]; exact q))
    · exact .inl (.inr ⟨u, by rw [upd_ne (ne_of q h (by intro z; cases z))]; exact q⟩)
    · exact .inr q
  · rcases q with ⟨q, m, z⟩ | q
    · have ne : a ≠ D0 := fun e => z (e ▸ hz)
      rcases q with q | ⟨u, q⟩
      · exact .inl ⟨.inl (by rw [upd_ne ne]; exact q), m, z⟩
      · exact .inl ⟨.inr ⟨u, by rw [upd_ne ne]; exact q⟩, m, z⟩
    · exact .inr q
  · have ne : a ≠ D0 := fun e => m.2 (e ▸ hz)
    exact ⟨by rw [upd_ne ne]; exact q, m⟩
theorem Iss.hw {K : Kz} (hz : K.Z D0) {xs : List V} (h : H D0 = some (.lst xs)) {o : HO} (t : Iss K H Hm ds vs) : Iss K (upd H D0 o) Hm ds vs :=
  let ⟨a, b, c⟩ := DL.hw (Hm := Hm) hz h (o := o); Iss.tr a b c ds vs t
theorem Is.hw {K : Kz} (hz : K.Z D0) {xs : List V} (h : H D0 = some (.lst xs)) {o : HO} (t : Is K H Hm d v) : Is K (upd H D0 o) Hm d v :=
  let ⟨a, b, c⟩ := DL.hw (Hm := Hm) hz h (o := o); Is.tr a b c d v t
theorem Rep.hw {K : Kz} (hz : K.Z D0) {xs : List V} (h : H D0 = some (.lst xs)) {o : HO} (r : Rep K H Hm) : Rep K (upd H D0 o) Hm := by
  obtain ⟨_, _, hm⟩ := r.hid D0 hz
  refine ⟨fun a u e => ?_, fun a z => ?_⟩
  · have ne : a ≠ D0 := fun q => by rw [q, hm] at e; cases e
    have := r.obj a u e
    cases u with
    | lst ds => obtain ⟨vs, q, t⟩ := this; exact ⟨vs, by rw [upd_ne ne]; exact q, t.hw hz h⟩
    | ins C ns ds => obtain ⟨dx, fs, q, l, t⟩ := this; exact ⟨dx, fs, by rw [upd_ne ne]; exact q, l, t.hw hz h⟩
  · obtain ⟨u, q, m⟩ := r.hid a z
    by_cases e : a = D0
    · exact ⟨o, by rw [e, upd_same], m⟩
    · exact ⟨u, by rw [upd_ne e]; exact q, m⟩
theorem EnvIs.hw {K : Kz} (hz : K.Z D0) {xs : List V} (h : H D0 = some (.lst xs)) {o : HO} {σd : En} {σ : L2.St} (e : EnvIs K H Hm σd σ) : EnvIs K (upd H D0 o) Hm σd σ :=
  ⟨e.len, fun i d q => let ⟨v, a, b⟩ := e.get i d q; ⟨v, a, b.hw hz h⟩⟩
/-- a new list, hidden -/
theorem is_new (h : H D0 = none) {o : HO} (r : Rep ⟨K, Z⟩ H Hm) : (∀ d v, Is ⟨K, Z⟩ H Hm d v → Is ⟨K, hidZ Z D0⟩ (upd H D0 o) Hm d v) ∧ ∀ ds vs, Iss ⟨K, Z⟩ H Hm ds vs → Iss ⟨K, hidZ Z D0⟩ (upd H D0 o) Hm ds vs := by
  have a1 : ∀ a ys, SqT K H a ys → SqT K (upd H D0 o) a ys := fun a ys q => sqT_nt r (ext_nt h) q
  have a2 : ∀ a ys, FrzL ⟨K, Z⟩ H Hm a ys → FrzL ⟨K, hidZ Z D0⟩ (upd H D0 o) Hm a ys := fun a ys q => by
    rcases q with ⟨q, m, z⟩ | q
    · rcases q with q | ⟨u, q⟩
      · have ne := ne_of_none q h
        exact .inl ⟨.inl (by rw [upd_ne ne]; exact q), m, fun w => w.elim z ne⟩
      · have ne := ne_of_none q h
        exact .inl ⟨.inr ⟨u, by rw [upd_ne ne]; exact q⟩, m, fun w => w.elim z ne⟩
    · exact .inr q
  have a3 : ∀ a C dx fs, H a = some (.ins C dx fs) → (Hm a = none ∧ ¬ Z a) → upd H D0 o a = some (.ins C dx fs) ∧ (Hm a = none ∧ ¬ hidZ Z D0 a) := fun a C dx fs q m => by
    have ne := ne_of_none q h
    exact ⟨by rw [upd_ne ne]; exact q, m.1, fun w => w.elim m.2 ne⟩
  exact ⟨fun d v => Is.tr (K := ⟨K, Z⟩) (K' := ⟨K, hidZ Z D0⟩) a1 a2 a3 d v, fun ds vs => Iss.tr (K := ⟨K, Z⟩) (K' := ⟨K, hidZ Z D0⟩) a1 a2 a3 ds vs⟩
theorem rep_new (h : H D0 = none) {o : HO} (r : Rep ⟨K, Z⟩ H Hm) : Rep ⟨K, hidZ Z D0⟩ (upd H D0 o) Hm := by
  have t := (is_new h (o := o) r).2
  refine ⟨fun a u e => ?_, fun a z => ?_⟩
  · obtain ⟨w, q, _⟩ := r.hit e
    have ne := ne_of_none q h
    have := r.obj a u e
    cases u with
    | lst ds => obtain ⟨vs, q, z⟩ := this; exact ⟨vs, by rw [upd_ne ne]; exact q, t _ _ z⟩
    | ins C ns ds => obtain ⟨dx, fs, q, l, z⟩ := this; exact ⟨dx, fs, by rw [upd_ne ne]; exact q, l, t _ _ z⟩
  · rcases z with z | z
    · obtain ⟨u, q, m⟩ := r.hid a z
      have ne := ne_of_none q h
      exact ⟨u, by rw [upd_ne ne]; exact q, m⟩
    · rw [z]
      exact ⟨o, upd_same, r.free h⟩
/-- hidden no more -/
theorem iss_shown (t : Iss ⟨K, hidZ Z D0⟩ H Hm ds vs) : Iss ⟨K, Z⟩ H Hm ds vs :=
  Iss.tr (K := ⟨K, hidZ Z D0⟩) (K' := ⟨K, Z⟩) (fun _ _ q => q) (fun a ys q => by
    rcases q with ⟨q, m, z⟩ | q
    · exact .inl ⟨q, m, fun w => z (.inl w)⟩
    · exact .inr q) (fun a C dx fs q m => ⟨q, m.1, fun w => m.2 (.inl w)⟩) ds vs t
theorem rep_shown (r : Rep ⟨K, hidZ Z D0⟩ H Hm) : Rep ⟨K, Z⟩ H Hm := by
  refine ⟨fun a u e => ?_, fun a z => r.hid a (.inl z)⟩
  have := r.obj a u e
  cases u with
  | lst ds => obtain ⟨vs, q, z⟩ := this; exact ⟨vs, q, iss_shown z⟩
  | ins C ns ds => obtain ⟨dx, fs, q, l, z⟩ := this; exact ⟨dx, fs, q, l, iss_shown z⟩
/-- .. and tracked -/
theorem iss_tracked (t : Iss ⟨K, hidZ Z D0⟩ H Hm ds vs) {u : MO} : Iss ⟨K, Z⟩ H (updM Hm D0 u) ds vs :=
  Iss.tr (K := ⟨K, hidZ Z D0⟩) (K' := ⟨K, Z⟩) (fun _ _ q => q) (fun a ys q => by
    rcases q with ⟨q, m, z⟩ | q
    · exact .inl ⟨q, by rw [updM_ne fun e => z (.inr e)]; exact m, fun w => z (.inl w)⟩
    · exact .inr q) (fun a C dx fs q m => ⟨q, by rw [updM_ne fun e => m.2 (.inr e)]; exact m.1, fun w => m.2 (.inl w)⟩) ds vs t
theorem rep_tracked (r : Rep ⟨K, hidZ Z D0⟩ H Hm) (hz : ¬ Z D0) {es : List D} {ws : List V} (h : H D0 = some (.lst ws)) (t : Iss ⟨K, hidZ Z D0⟩ H Hm es ws) : Rep ⟨K, Z⟩ H (updM Hm D0 (.lst es)) := by
  refine ⟨fun a u e => ?_, fun a z => ?_⟩
  · by_cases ha : a = D0
    · subst ha
      rw [updM_same] at e; cases e
      exact ⟨ws, h, iss_tracked t⟩
    · rw [updM_ne ha] at e
      have := r.obj a u e
      cases u with
      | lst ds => obtain ⟨vs, q, z⟩ := this; exact ⟨vs, q, iss_tracked z⟩
      | ins C ns ds => obtain ⟨dx, fs, q, l, z⟩ := this; exact ⟨dx, fs, q, l, iss_tracked z⟩
  · obtain ⟨u, q, m⟩ := r.hid a (.inl z)
    have ne : a ≠ D0 := fun e => hz (by rw [← e]; exact z)
    exact ⟨u, q, by rw [updM_ne ne]; exact m⟩
end
/-- a comprehension's own place -/
abbrev inBlk (X : Cx) (s : Shared) (H : Hp) (scope : Scope) (Ca : Addr) (cl : List (Str × Addr)) (fp : List Addr) (Z : Addr → Prop) (M0 : MH) (H0 : Hp) : Co :=
  ⟨X.blk s H scope (compEnvC scope cl Ca X.env) fp, Z, M0, H0, fun _ _ _ _ => False, fun _ _ _ _ => False⟩
theorem inBlk_ok {X : Cx} (x : Cok X) {s : Shared} {H : Hp} {scope : Scope} {Ca : Addr} {cl : List (Str × Addr)} {fp : List Addr} {Z : Addr → Prop} {M0 : MH} {H0 : Hp} : (inBlk X s H scope Ca cl fp Z M0 H0).Ok :=
  ⟨⟨x.calm, x.nd, x.room, ⟨x.big.seer, x.big.tree, x.big.dp, x.big.fr⟩⟩, takes0, fun _ _ _ _ _ _ _ _ _ h => h⟩
section
variable {C : Co} {elt tg iter : Expr} {ifs : List Expr} {scope : Scope} {own : List (Str × Nat)} {pos : Pos} {ti : TId} {ts : List Nat} {t : TGd} {tc : TCd} {te : TD} {m : Bool}
def lcT (ti : TId) (t : TGd) (tc : TCd) (te : TD) (own : List Nat) (m : Bool) : TD := fun σ H Q => ti σ H fun xs keep H1 => xs.length ≤ sizeLine ∧
  lcL (fun x H Q => t x (wipeD σ own) H fun σ1 H1 => tc σ1 H1 fun b H2 => br b (te σ1 H2 fun y H3 => Q (some y) H3) (Q none H2)) keep xs H1 fun ys H2 => freshL m ys H2 Q
theorem lc_read (hts : ∀ i ∈ ts, i ∈ own.map (·.2)) {σ : L2.St} {H : Hp} {Q : VK} (h : Lf C (lcT ti t tc te (own.map (·.2)) m) σ H Q) :
    tLc (LfI C ti) (fun v σ H Q => ∃ Z M0 H0, LfG ⟨C.X, Z, M0, H0, fun _ _ _ _ => False, fun _ _ _ _ => False⟩ ts t v σ H Q) (fun σ H Q => ∃ Z M0 H0, LfC ⟨C.X, Z, M0, H0, fun _ _ _ _ => False, fun _ _ _ _ => False⟩ tc σ H Q)
      (fun σ H Q => ∃ Z M0 H0, Lf ⟨C.X, Z, M0, H0, fun _ _ _ _ => False, fun _ _ _ _ => False⟩ te σ H Q) (own.map (·.2)) σ H Q := by
  obtain ⟨σd, Hm, Qd, s, q, k⟩ := h
  refine ⟨σd, Hm, _, s, q, fun J H1 ds keep Hm1 n1 r1 J0 q D0 hD => ?_⟩
  have s1 := s.nxt n1 r1
  obtain ⟨hsz, q⟩ := q
  have J1 := J0 (hidZ C.Z D0) fun a z => z.imp id fun e => by rw [e]; exact hD
  have hzD : hidZ C.Z D0 D0 := .inr rfl
  have nzD : ¬ C.Z D0 := fun z => by
    obtain ⟨u, e, _⟩ := r1.hid D0 z
    rw [hD] at e; cases e
  have n0 : NT Hm1 H1 Hm1 (upd H1 D0 (.lst [])) := ext_nt hD
  have r0 : Rep ⟨C.X.K, hidZ C.Z D0⟩ (upd H1 D0 (.lst [])) Hm1 := rep_new hD r1
  have e0 : EnvIs ⟨C.X.K, hidZ C.Z D0⟩ (upd H1 D0 (.lst [])) Hm1 (wipeD σd (own.map (·.2))) (wipe σ (own.map (·.2))) := by
    have e1 := s1.env.wiped (own.map (·.2))
    exact ⟨e1.len, fun i d q => let ⟨v, a, b⟩ := e1.get i d q; ⟨v, a, (is_new hD r1).1 d v b⟩⟩
  let step : D → MH → (Option D → MH → Prop) → Prop := fun x H Q => t x (wipeD σd (own.map (·.2))) H fun σ1 H1 => tc σ1 H1 fun b H2 => br b (te σ1 H2 fun y H3 => Q (some y) H3) (Q none H2)
  let Inv' : Nat → Hp → Prop := fun i H => ∃ Hm accd accv, H D0 = some (.lst accv) ∧ Hm D0 = none ∧ EnvIs ⟨C.X.K, hidZ C.Z D0⟩ H Hm (wipeD σd (own.map (·.2))) (wipe σ (own.map (·.2))) ∧ Rep ⟨C.X.K, hidZ C.Z D0⟩ H Hm ∧ NT Hm1 H1 Hm H ∧
    Iss ⟨C.X.K, hidZ C.Z D0⟩ H Hm accd accv ∧ accv.length ≤ i ∧ lcL step keep (ds.drop i) Hm fun ys H2 => freshL m (accd ++ ys) H2 Qd
  refine ⟨fun i m H => m = ds.length - i ∧ i ≤ ds.length ∧ Inv' i H, ⟨ds.length, rfl, Nat.zero_le _, Hm1, [], [], upd_same, r1.free hD, e0, r0, n0, .nil, Nat.le_refl _, q⟩, ?_⟩
  rintro i m' H2 ⟨rfl, hi, Hm2, accd, accv, hA, hN, e2, r2, n2, t2, hl, q⟩
  by_cases hlt : i < ds.length
  · have e1 : ds.drop i = ds[i] :: ds.drop (i + 1) := List.drop_eq_getElem_cons hlt
    rw [e1] at q
    obtain ⟨kp, q⟩ := q
    have g : ds[i]? = some ds[i] := List.getElem?_eq_getElem hlt
    refine .inr ⟨J1.go Hm2 H2 i _ n2 r2 kp g, Inv' (i + 1), fun H' z => ⟨ds.length - (i + 1), by omega, rfl, hlt, z⟩, fun x H3 y => ?_⟩
    obtain ⟨n3, r3, ix⟩ := J1.yld Hm2 H2 i _ x H3 n2 r2 kp g y
    have hA3 := n3 D0 _ hA hN
    have env3 : EnvIs ⟨C.X.K, hidZ C.Z D0⟩ H3 Hm2 (wipeD σd (own.map (·.2))) (wipe σ (own.map (·.2))) := e2.nt r2 n3
    refine ⟨hidZ C.Z D0, Hm2, H3, ds[i], wipeD σd (own.map (·.2)), Hm2, _, ix, ⟨env3, r3, .refl⟩, q, fun σ4 H4 σd4 Hm4 n4 s4 out q => ?_⟩
    refine ⟨out.wiped hts, hidZ C.Z D0, Hm2, H3, σd4, Hm4, _, s4, q, fun b H5 Hm5 n5 r5 q => ?_⟩
    have s5 := s4.nxt n5 r5
    have nn := n4.trans n5
    have hA5 := nn D0 _ hA3.1 hA3.2
    cases b with
    | false => exact ⟨Hm5, accd, accv, hA5.1, hA5.2, env3.nt r3 nn, r5, (n2.trans n3).trans nn, Iss.nt r3 nn _ _ (Iss.nt r2 n3 _ _ t2), by omega, q⟩
    | true =>
      refine ⟨hidZ C.Z D0, Hm2, H3, σd4, Hm5, _, s5, q, fun y H6 dy Hm6 n6 r6 iy q => ?_⟩
      have nn6 := nn.trans n6
      have hA6 := nn6 D0 _ hA3.1 hA3.2
      refine ⟨accv, hA6.1, by omega, Hm6, accd ++ [dy], accv ++ [y], upd_same, hA6.2, (env3.nt r3 nn6).hw hzD hA6.1, r6.hw hzD hA6.1, ?_, ?_, by rw [List.length_append]; simp; omega, ?_⟩
      · refine fun a u e z => ?_
        obtain ⟨e', z'⟩ := ((n2.trans n3).trans nn6) a u e z
        exact ⟨by rw [upd_ne (ne_of_none e hD)]; exact e', z'⟩
      · exact ((Iss.nt r3 nn6 _ _ (Iss.nt r2 n3 _ _ t2)).append (.cons iy .nil)).hw hzD hA6.1
      · simp only [List.append_assoc, List.singleton_append]
        exact q
  · have e1 : ds.drop i = [] := List.drop_eq_nil_of_le (by omega)
    rw [e1] at q
    obtain ⟨kp, q⟩ := q
    have q : freshL m (accd ++ []) Hm2 Qd := q
    rw [List.append_nil] at q
    refine .inl ⟨J1.stop Hm2 H2 i n2 r2 kp (by omega), ?_⟩
    obtain ⟨_, q⟩ := q
    cases m with
    | true =>
      have q : ∀ p, Hm2 p = none → Qd (.ref p) (updM Hm2 p (.lst accd)) := q
      refine k _ H2 (.ref D0) (updM Hm2 D0 (.lst accd)) (fun a u e z => ?_) (rep_tracked r2 nzD hA t2) is_ref (q D0 hN)
      obtain ⟨e3, z3⟩ := n1 a u e z
      obtain ⟨e4, z4⟩ := n2 a u e3 z3
      exact ⟨e4, by rw [updM_ne (ne_of_none e3 hD)]; exact z4⟩
    | false =>
      have q : Qd (.rol accd) Hm2 := q
      exact k _ H2 (.rol accd) Hm2 (n1.trans n2) (rep_shown r2) (by unfold Is; exact ⟨D0, accv, rfl, .inl ⟨.inl hA, hN, nzD⟩, iss_shown t2⟩) q
theorem de_lc (ok : C.Ok) (hi : DI C tg iter ti) (blk : BlkOk C.X.N C.X.env.scope scope own) (hts : ∀ i ∈ ts, i ∈ own.map (·.2))
    (hg : ∀ s H Ca cl fp Z M0 H0, DG (inBlk C.X s H scope Ca cl fp Z M0 H0) ts tg t) (ht : ∀ s H Ca cl fp Z M0 H0, DCs (inBlk C.X s H scope Ca cl fp Z M0 H0) ifs tc)
    (he : ∀ s H Ca cl fp Z M0 H0, DE (inBlk C.X s H scope Ca cl fp Z M0 H0) elt te) (hs : ∀ x, foldedSetIterable iter C.X.env x = pure x) :
    DE C (.ListComp elt [⟨tg, iter, ifs, 0⟩] scope pos) (lcT ti t tc te (own.map (·.2)) m) :=
  PE.weak (pe_lc (own := own) (g := fun v σ H Q => ∃ Z M0 H0, LfG ⟨C.X, Z, M0, H0, fun _ _ _ _ => False, fun _ _ _ _ => False⟩ ts t v σ H Q) (tt := fun σ H Q => ∃ Z M0 H0, LfC ⟨C.X, Z, M0, H0, fun _ _ _ _ => False, fun _ _ _ _ => False⟩ tc σ H Q)
      (te := fun σ H Q => ∃ Z M0 H0, Lf ⟨C.X, Z, M0, H0, fun _ _ _ _ => False, fun _ _ _ _ => False⟩ te σ H Q) ok.x.calm ok.x.nd hi blk
      (fun s H Ca cl fp => ⟨fun pins s' σ H' v u Q I r ⟨Z, M0, H0, q⟩ => (hg s H Ca cl fp Z M0 H0).run pins s' σ H' v u Q I r q⟩)
      (fun s H Ca cl fp => ⟨fun pins s' σ H' Q I ⟨Z, M0, H0, q⟩ => (ht s H Ca cl fp Z M0 H0).run pins s' σ H' Q I q⟩)
      (fun s H Ca cl fp => ⟨fun pins s' σ H' Q I ⟨Z, M0, H0, q⟩ => (he s H Ca cl fp Z M0 H0).run pins s' σ H' Q I q⟩) hs) fun σ H Q h => lc_read hts h
theorem ds_setLc (ok : C.Ok) {i : Nat} {y : Str} {py spos : Pos} (hy : C.X.N[i]? = some y) (hyl : C.X.env.scope.names.lookup y = some .local)
    (hsw : swapsWith (.ListComp elt [⟨tg, iter, ifs, 0⟩] scope pos) (some (.Name y py)) spos.line C.X.env = pure true) (hi : DI C tg iter ti) (blk : BlkOk C.X.N C.X.env.scope scope own) (hts : ∀ i ∈ ts, i ∈ own.map (·.2))
    (hg : ∀ s H Ca cl fp Z M0 H0, DG (inBlk C.X s H scope Ca cl fp Z M0 H0) ts tg t) (ht : ∀ s H Ca cl fp Z M0 H0, DCs (inBlk C.X s H scope Ca cl fp Z M0 H0) ifs tc)
    (he : ∀ s H Ca cl fp Z M0 H0, DE (inBlk C.X s H scope Ca cl fp Z M0 H0) elt te) (hs : ∀ x, foldedSetIterable iter C.X.env x = pure x) :
    DS C (.Assign [.Name y py] (.ListComp elt [⟨tg, iter, ifs, 0⟩] scope pos) spos) (fun D σ H => lcT ti t tc te (own.map (·.2)) m σ H fun x H1 => D.nx (σ.set i (some x)) H1) :=
  PS.weak (ps_setLc (own := own) (g := fun v σ H Q => ∃ Z M0 H0, LfG ⟨C.X, Z, M0, H0, fun _ _ _ _ => False, fun _ _ _ _ => False⟩ ts t v σ H Q) (tt := fun σ H Q => ∃ Z M0 H0, LfC ⟨C.X, Z, M0, H0, fun _ _ _ _ => False, fun _ _ _ _ => False⟩ tc σ H Q)
      (te := fun σ H Q => ∃ Z M0 H0, Lf ⟨C.X, Z, M0, H0, fun _ _ _ _ => False, fun _ _ _ _ => False⟩ te σ H Q) ok.x.calm ok.x.nd hy hyl hsw hi blk
      (fun s H Ca cl fp => ⟨fun pins s' σ H' v u Q I r ⟨Z, M0, H0, q⟩ => (hg s H Ca cl fp Z M0 H0).run pins s' σ H' v u Q I r q⟩)
      (fun s H Ca cl fp => ⟨fun pins s' σ H' Q I ⟨Z, M0, H0, q⟩ => (ht s H Ca cl fp Z M0 H0).run pins s' σ H' Q I q⟩)
      (fun s H Ca cl fp => ⟨fun pins s' σ H' Q I ⟨Z, M0, H0, q⟩ => (he s H Ca cl fp Z M0 H0).run pins s' σ H' Q I q⟩) hs) fun D σ H => by
    rintro ⟨σd, Hm, Dd, s, q, k⟩
    refine lc_read hts ⟨σd, Hm, _, s, q, fun x H1 dx Hm1 n1 r1 ix q => ?_⟩
    exact k.nx _ H1 _ Hm1 n1 ((s.nxt n1 r1).set i ix) q
end
end DL

set_option maxHeartbeats 1000000
namespace DL
open PySem PySem.Spec PyProof.Rows L2

structure Pm where
  N : List Str
  B : List Str
  F : List Str
  mu : List (Nat × Nat)
def Pm.m (p : Pm) (pos : Pos) : Bool := p.mu.contains (pos.line, pos.col)
def slot (N : List Str) (x : Str) : Option Nat := if N[N.idxOf x]? = some x then some (N.idxOf x) else none
def visOk (sc : Scope) (x : Str) : Bool := match sc.names.lookup x with
  | some .local => true | some .cell => true | some .free => true | _ => false
def locOk (blk : Bool) (sc : Scope) (x : Str) : Bool := match sc.names.lookup x with
  | some .local => true | some .cell => !blk | _ => false
def glOk (sc : Scope) (x : Str) : Bool := match sc.names.lookup x with
  | some .globalImplicit => true | _ => false
def plainN (x : Str) : Bool := !(x == ("__debug__" : Str)) && !(x == ("__classdict__" : Str)) && !(x == ("__name__" : Str))
def biTab : List (Str × Bi) := [("len", .len), ("min", .min), ("max", .max), ("abs", .abs), ("int", .int), ("bool", .bool), ("str", .str), ("sorted", .sorted), ("list", .list), ("tuple", .tuple), ("sum", .sum), ("isinstance", .isi)]
def tyTab : List (Str × String) := [("int", "int"), ("bool", "bool"), ("str", "str"), ("tuple", "tuple"), ("list", "list"), ("dict", "dict")]
def mtTab : List (Str × Mt) := [("append", .append), ("pop", .pop), ("upper", .upper)]
def starred : Expr → Bool
  | .Starred .. => true | _ => false
def isComp : Expr → Bool
  | .ListComp .. => true | .SetComp .. => true | .DictComp .. => true | _ => false
def isSet : Expr → Bool
  | .Set .. => true | _ => false
def isSlice : Expr → Bool
  | .Slice .. => true | _ => false
def isCall0 : Expr → Bool
  | .Call (.Name _ _) [] [] _ => true | _ => false
def ownOf (N : List Str) : Expr → List (Str × Nat)
  | .Name x _ => [(x, N.idxOf x)]
  | .Tuple es _ _ => es.flatMap fun
    | .Name x _ => [(x, N.idxOf x)]
    | .Tuple fs _ _ => fs.flatMap fun
      | .Name x _ => [(x, N.idxOf x)]
      | _ => []
    | _ => []
  | _ => []
mutual
def compE (p : Pm) : Nat → Scope → Expr → Option E
  | 0, _, _ => none
  | n + 1, sc, e => match e with
    | .Constant (.int i) _ _ => some (.k (.int i))
    | .Constant (.bool b) _ _ => some (.k (.bl b))
    | .Constant (.str x) _ _ => some (.k (.str x))
    | .Constant .none _ _ => some (.k .non)
    | .Name x _ => if plainN x then
        if visOk sc x then (slot p.N x).map .v else if glOk sc x then
          if p.B.contains x then (tyTab.lookup x).map .ty else some (.g x)
        else none
      else none
    | .BinOp a o b pos => (compE p n sc a).bind fun a' => (compE p n sc b).map fun b' => .bin (p.m pos) o a' b'
    | .UnaryOp .USub a _ => (compE p n sc a).map .neg
    | .UnaryOp .Not a _ => (compE p n sc a).map .not
    | .BoolOp _ [a] _ => compE p n sc a
    | .BoolOp .And (a :: b :: r) pos => (compE p n sc a).bind fun a' => (compE p n sc (.BoolOp .And (b :: r) pos)).map fun b' => .and a' b'
    | .BoolOp .Or (a :: b :: r) pos => (compE p n sc a).bind fun a' => (compE p n sc (.BoolOp .Or (b :: r) pos)).map fun b' => .or a' b'
    | .Compare a [o] [b] _ => if behindInMarks o b then none else (compE p n sc a).bind fun a' => (compE p n sc b).map fun b' => .cmp o a' b'
    | .Compare a [o, o'] [b, c] _ => if lastMarks [o, o'] [b, c] then none else (compE p n sc a).bind fun a' => (compE p n sc b).bind fun b' => (compE p n sc c).map fun c' => .ch a' o b' o' c'
    | .IfExp t a b _ => (compE p n sc t).bind fun t' => (compE p n sc a).bind fun a' => (compE p n sc b).map fun b' => .ite t' a' b'
    | .Tuple es _ _ => (compEs p n sc es).map .tup
    | .List es pos => (compEs p n sc es).map (.lst (p.m pos))
    | .Subscript a (.Slice lo hi none _) pos => (compE p n sc a).bind fun a' => (compO p n sc lo).bind fun l' => (compO p n sc hi).map fun h' => .sl (p.m pos) a' l' h'
    | .Subscript a b _ => if isSlice b then none else (compE p n sc a).bind fun a' => (compE p n sc b).map fun b' => .ix a' b'
    | .Call (.Name x _) (e :: es) [] pos => if plainN x && glOk sc x then
        if p.B.contains x then (biTab.lookup x).bind fun f => (compEs p n sc (e :: es)).map fun es' => .bi (p.m pos) f es'
        else if p.F.contains x then (compEs p n sc (e :: es)).map fun es' => .call x es' else none
      else none
    | .Call (.Name x _) [] [] _ => if plainN x && glOk sc x && p.F.contains x then some (.call x .nil) else none
    | .Call (.Attribute a x apos) [] [] pos => if isCall0 a || !(apos.endLine == pos.line) then none else
        (mtTab.lookup x).bind fun f => (compE p n sc a).map fun a' => .mth (p.m pos) a' f .nil
    | .Call (.Attribute a x apos) (e :: es) [] pos => if isCall0 a || !(apos.endLine == pos.line) || !decide ((e :: es).length < 30) then none else
        (mtTab.lookup x).bind fun f => (compE p n sc a).bind fun a' => (compEs p n sc (e :: es)).map fun es' => .mth (p.m pos) a' f es'
    | .ListComp elt [⟨tg, iter, ifs, 0⟩] scope pos => if isSet iter || !blkC p.N sc scope (ownOf p.N tg) then none else
        (compI p n sc iter).bind fun i' => (compT p n true (relS scope sc) tg).bind fun t' => if !(t'.slots.all ((ownOf p.N tg).map (·.2)).contains) then none else
          (compCs p n (relS scope sc) ifs).bind fun c' => (compE p n (relS scope sc) elt).map fun e' => .lc (p.m pos) e' t' i' c' ((ownOf p.N tg).map (·.2))
    | _ => none
def compEs (p : Pm) : Nat → Scope → List Expr → Option Es
  | 0, _, _ => none
  | n + 1, sc, es => match es with
    | [] => some .nil
    | e :: r => if starred e then none else (compE p n sc e).bind fun e' => (compEs p n sc r).map fun r' => .cons e' r'
def compCs (p : Pm) : Nat → Scope → List Expr → Option Es
  | 0, _, _ => none
  | n + 1, sc, es => match es with
    | [] => some .nil
    | [e] => (compE p n sc e).map fun e' => .cons e' .nil
    | _ => none
def compO (p : Pm) : Nat → Scope → Option Expr → Option Oe
  | 0, _, _ => none
  | n + 1, sc, o => match o with
    | none => some .no
    | some e => (compE p n sc e).map .so
def compT (p : Pm) : Nat → Bool → Scope → Expr → Option T
  | 0, _, _, _ => none
  | n + 1, blk, sc, e => match e with
    | .Name x _ => if locOk blk sc x then (slot p.N x).map .nm else none
    | .Tuple es _ _ => (compTs p n blk sc es).map .tup
    | .Subscript a b _ => if isSlice b then none else (compE p n sc a).bind fun a' => (compE p n sc b).map fun b' => .sub a' b'
    | _ => none
def compTs (p : Pm) : Nat → Bool → Scope → List Expr → Option Ts
  | 0, _, _, _ => none
  | n + 1, blk, sc, es => match es with
    | [] => some .nil
    | e :: r => if starred e then none else (compT p n blk sc e).bind fun e' => (compTs p n blk sc r).map fun r' => .cons e' r'
def compI (p : Pm) : Nat → Scope → Expr → Option It
  | 0, _, _ => none
  | n + 1, sc, e => match e with
    | .Call (.Name x _) [a] [] _ => if x == ("range" : Str) then
        if glOk sc x && p.B.contains x && !starred a then (compE p n sc a).map .rng1 else none
      else (compE p n sc e).map .seq
    | .Call (.Name x _) [a, b] [] _ => if x == ("range" : Str) then
        if glOk sc x && p.B.contains x && !starred a && !starred b then (compE p n sc a).bind fun a' => (compE p n sc b).map fun b' => .rng2 a' b' else none
      else (compE p n sc e).map .seq
    | e => (compE p n sc e).map .seq
end
def parTup : List Expr → Expr → Bool
  | [.Tuple ts _ _], .Tuple _ _ _ => true | [.List _ _], .Tuple _ _ _ => true | _, _ => false
/-- whether the list of a comprehension is stored within its frame -/
def lcUsed (sc : Scope) (tg : Expr) (e : Expr) : Option Bool := match e, tg with
  | .ListComp _ _ scope pos, .Name t tpos => some (decide (sc.names.lookup t = some .local) && (tpos.line == pos.line) && !(scope.names.any fun (n, k) => n == t && (k == .local || k == .cell)))
  | .SetComp .., _ => none | .DictComp .., _ => none
  | _, _ => some false
mutual
def compS (p : Pm) : Nat → Scope → Stmt → Option S
  | 0, _, _ => none
  | n + 1, sc, s => match s with
    | .Assign [tg] e _ => if parTup [tg] e || starred tg then none else (compE p n sc e).bind fun e' => (compT p n false sc tg).bind fun t' => (lcUsed sc tg e).map fun _ => .asg t' e'
    | .AugAssign (.Name x _) o e _ => if locOk false sc x then (slot p.N x).bind fun i => (compE p n sc e).map fun e' => .aug i o e' else none
    | .Expr e _ => if isComp e then none else (compE p n sc e).map .ex
    | .Return (some e) _ => (compE p n sc e).map .ret
    | .Return none _ => some .retN
    | .If c a b _ => (compE p n sc c).bind fun c' => (compSs p n sc a).bind fun a' => (compSs p n sc b).map fun b' => .cond c' a' b'
    | .For tg i b [] _ => if isSet i then none else (compI p n sc i).bind fun i' => (compT p n false sc tg).bind fun t' => (compSs p n sc b).map fun b' => .loop t' i' b'
    | .While c b [] _ => (compE p n sc c).bind fun c' => (compSs p n sc b).map fun b' => .whl c' b'
    | .Break _ => some .brk
    | .Continue _ => some .ct
    | .Pass _ => some .pass
    | _ => none
def compSs (p : Pm) : Nat → Scope → List Stmt → Option Ss
  | 0, _, _ => none
  | n + 1, sc, ss => match ss with
    | [] => some .nil
    | s :: r => (compS p n sc s).bind fun s' => (compSs p n sc r).map fun r' => .cons s' r'
end
end DL

set_option maxHeartbeats 1000000
namespace DL
open PySem PySem.Spec PyProof.Rows L2

structure GOk (p : Pm) (G : Gm) (X : Cx) : Prop where
  fn : ∀ x, p.F.contains x = true → ∃ n c, G.fn x = some (n, c) ∧ Has X x n c
  gv : ∀ x d, G.gv x = some d → ∃ u v, X.mg x = some u ∧ RelV v u ∧ ∀ (Z : Addr → Prop) H Hm, Is ⟨X.K, Z⟩ H Hm d v
  bl : ∀ x, p.B.contains x = true → X.mg x = none
structure At (p : Pm) (G : Gm) (blk : Bool) (sc : Scope) (C : Co) : Prop where
  ok : C.Ok
  N : C.X.N = p.N
  sc : C.X.env.scope = sc
  g : GOk p G C.X
  fn : blk = false → ∀ x, C.X.fn x = true
  kind : C.X.env.scope.kind = .function
theorem At.blk {p : Pm} {G : Gm} {b : Bool} {sc : Scope} {C : Co} (h : At p G b sc C) {s : Shared} {H : Hp} {scope : Scope} {Ca : Addr} {cl : List (Str × Addr)} {fp : List Addr} {Z : Addr → Prop} {M0 : MH} {H0 : Hp} (hk : scope.kind = .function) :
    At p G true (relS scope sc) (inBlk C.X s H scope Ca cl fp Z M0 H0) :=
  ⟨inBlk_ok h.ok.x, h.N, by show relS scope C.X.env.scope = _; rw [h.sc], ⟨h.g.fn, h.g.gv, h.g.bl⟩, (fun z => Bool.noConfusion z), hk⟩
section
variable {p : Pm} {G : Gm} {blk : Bool} {sc : Scope} {C : Co} {pos0 : Pos}
theorem slot_of {N : List Str} {x : Str} {i : Nat} (h : slot N x = some i) : N[i]? = some x := by
  unfold slot at h
  split at h
  · cases h; assumption
  · cases h
theorem vis_of (a : At p G blk sc C) {x : Str} (h : visOk sc x = true) : Vis C.X.env.scope x := by
  rw [a.sc]
  unfold visOk at h
  split at h
  · exact .inl (by assumption)
  · exact .inr (.inl (by assumption))
  · exact .inr (.inr (by assumption))
  · cases h
theorem loc_of (a : At p G blk sc C) {x : Str} (h : locOk blk sc x = true) : Loc C.X.env.scope x ∧ (C.X.fn x = true ∨ C.X.env.scope.names.lookup x = some .local) := by
  rw [a.sc]
  unfold locOk at h
  split at h
  · exact ⟨.inl (by assumption), .inr (by assumption)⟩
  · exact ⟨.inr (by assumption), .inl (a.fn (by simpa using h) x)⟩
  · cases h
theorem gl_of (a : At p G blk sc C) {x : Str} (h : glOk sc x = true) : Gl C.X x := by
  show C.X.env.scope.names.lookup x = _
  rw [a.sc]
  unfold glOk at h
  split at h
  · assumption
  · cases h
theorem plain_of {x : Str} (h : plainN x = true) : (x == ("__debug__" : Str)) = false ∧ (x == ("__classdict__" : Str)) = false ∧ x ≠ "__name__" := by
  unfold plainN at h
  simp only [Bool.and_eq_true, Bool.not_eq_true'] at h
  exact ⟨h.1.1, h.1.2, fun e => by rw [e] at h; simp at h⟩
theorem lookup_memS {α : Type} : ∀ {l : List (Str × α)} {x : Str} {v : α}, l.lookup x = some v → (x, v) ∈ l
  | [], _, _, h => by simp at h
  | (y, w) :: r, x, v, h => by
    rw [List.lookup_cons] at h
    split at h
    · rename_i e
      have : x = y := by simpa using e
      cases h
      rw [this]; exact List.mem_cons_self
    · exact List.mem_cons_of_mem _ (lookup_memS h)
theorem bi_boot {x : Str} {f : Bi} (h : biTab.lookup x = some f) : bootBuiltins x = some f.val := by
  have all : ∀ q ∈ biTab, bootBuiltins q.1 = some q.2.val := by decide +kernel
  exact all _ (lookup_memS h)
theorem ty_boot {x : Str} {n : String} (h : tyTab.lookup x = some n) : bootBuiltins x = some (.type n) := by
  have all : ∀ q ∈ tyTab, bootBuiltins q.1 = some (.type q.2) := by decide +kernel
  exact all _ (lookup_memS h)
theorem mt_facts {x : Str} {f : Mt} (h : mtTab.lookup x = some f) : PlainAttrs f.ty ∧ Slot f.ty x f.id ∧ typeOf (.builtin f.id) = pure (.type "method_descriptor") := by
  have m := lookup_memS h
  simp only [mtTab, List.mem_cons, List.not_mem_nil, or_false, Prod.mk.injEq] at m
  rcases m with ⟨rfl, rfl⟩ | ⟨rfl, rfl⟩ | ⟨rfl, rfl⟩
  · exact ⟨PySem.F.plainAttrs_list, PySem.F.slot_list_append, PySem.F.type_list_append⟩
  · exact ⟨PySem.F.plainAttrs_list, PySem.F.slot_list_pop, PySem.F.type_list_pop⟩
  · exact ⟨PySem.F.plainAttrs_str, PySem.F.slot_str_upper, PySem.F.type_str_upper⟩
theorem star1 {e : Expr} {es : List Expr} {env : Env} (h : starred e = false) : starEach (e :: es) env = (false, eval e env) :: starEach es env := by
  cases e <;> first | rfl | cases h
theorem star_any {es : List Expr} {env : Env} {pos : Pos} (h : es.all (fun e => !starred e) = true) : (backTo pos (starEach es env)).any (·.1) = false := by
  induction es with
  | nil => rfl
  | cons e r ih =>
    rw [List.all_cons, Bool.and_eq_true] at h
    rw [star1 (by simpa using h.1)]
    show (false || (backTo pos (starEach r env)).any (·.1)) = false
    rw [ih h.2]; rfl
theorem star_few {es : List Expr} {env : Env} {pos : Pos} (h : es.all (fun e => !starred e) = true) (hl : decide (es.length < 30) = true) :
    ((backTo pos (starEach es env)).all (fun x => !x.1) && (backToKw pos (keywordEach [] env)).all (fun x => x.1.isSome) && decide (es.length + ([] : List Keyword).length + (if ([] : List Keyword).isEmpty then 0 else 1) < 30)) = true := by
  have h1 : (backTo pos (starEach es env)).all (fun x => !x.1) = true := by
    have := star_any (env := env) (pos := pos) h
    rw [List.any_eq_false] at this
    rw [List.all_eq_true]
    intro x hx
    have := this x hx
    simpa using this
  rw [h1]
  have h2 : (backToKw pos (keywordEach [] env)).all (fun x => x.1.isSome) = true := rfl
  rw [h2]
  have h3 : es.length < 30 := of_decide_eq_true hl
  simp
  omega
theorem assign1 {e : Expr} {es : List Expr} {env : Env} (h : starred e = false) : assignEach (e :: es) env = (false, assign e env) :: assignEach es env := by
  cases e <;> first | rfl | cases h
theorem assign_len {es : List Expr} {env : Env} (h : es.all (fun e => !starred e) = true) : (assignEach es env).length = es.length ∧ (assignEach es env).findIdx? (·.1) = none := by
  induction es with
  | nil => exact ⟨rfl, rfl⟩
  | cons e r ih =>
    rw [List.all_cons, Bool.and_eq_true] at h
    rw [assign1 (by simpa using h.1)]
    obtain ⟨a, b⟩ := ih h.2
    refine ⟨by rw [List.length_cons, List.length_cons, a], ?_⟩
    rw [List.findIdx?_cons]
    simp only [b]
    rfl
theorem set_free {e : Expr} {env : Env} (h : isSet e = false) : ∀ x, foldedSetIterable e env x = pure x := by
  intro x
  cases e <;> first | rfl | cases h
theorem attr_free {a : Expr} {x : Str} {env : Env} (h : isCall0 a = false) : attributeBase a x env (eval a env) = eval a env := by
  unfold attributeBase
  split
  · cases h
  · rfl
theorem plainIx {b : Expr} (h : isSlice b = false) : PlainIx b := by
  intro o i
  cases b <;> first | rfl | cases h
theorem pt_ite {X : Cx} {c a b : Expr} {tc ta tb : TT} {pos : Pos} (hc : PT X c tc) (ha : PT X a ta) (hb : PT X b tb) : PT X (.IfExp c a b pos) (fun σ H Q => tc σ H fun k H1 => if k = true then ta σ H1 Q else tb σ H1 Q) := by
  refine ⟨fun pins s σ H Q I h => ?_⟩
  rw [PySem.isTrue]
  refine wpAny_bind (thn (hc.run pins s σ H _ I h) fun k s1 ⟨H1, I1, q1⟩ => ?_)
  cases k with
  | true => exact ha.run pins s1 σ H1 Q I1 q1
  | false => exact hb.run pins s1 σ H1 Q I1 q1
theorem dc_ite {c a b : Expr} {tc ta tb : TCd} {pos : Pos} (hc : DC C c tc) (ha : DC C a ta) (hb : DC C b tb) : DC C (.IfExp c a b pos) (fun σ H Q => tc σ H fun k H1 => br k (ta σ H1 Q) (tb σ H1 Q)) :=
  PT.weak (pt_ite hc ha hb) fun σ H Q => by
    rintro ⟨σd, Hm, Qd, s, q, k⟩
    refine LfC.seq s q fun c H1 Hm1 n1 s1 q => ?_
    cases c with
    | true => exact LfC.seq s1 q fun y H2 Hm2 n2 s2 q => k y H2 Hm2 (n1.trans n2) s2.rep q
    | false => exact LfC.seq s1 q fun y H2 Hm2 n2 s2 q => k y H2 Hm2 (n1.trans n2) s2.rep q
theorem ts_len : ∀ {n : Nat} {es : List Expr} {ts : Ts} {blk : Bool} {sc : Scope}, compTs p n blk sc es = some ts → ts.len = es.length ∧ es.all (fun e => !starred e) = true := by
  intro n
  induction n with
  | zero => intro es ts blk sc h; unfold compTs at h; cases h
  | succ n ih =>
    intro es ts blk sc h
    unfold compTs at h
    split at h
    · cases h; exact ⟨rfl, rfl⟩
    · split at h
      · cases h
      · rename_i hs
        simp only [Option.bind_eq_some_iff, Option.map_eq_some_iff] at h
        obtain ⟨e', _, r', hr, rfl⟩ := h
        obtain ⟨h1, h2⟩ := ih hr
        refine ⟨by rw [Ts.len, h1, List.length_cons], ?_⟩
        rw [List.all_cons, h2]
        simpa using hs
theorem es_star : ∀ {n : Nat} {es : List Expr} {c : Es} {sc : Scope}, compEs p n sc es = some c → es.all (fun e => !starred e) = true := by
  intro n
  induction n with
  | zero => intro es ts sc h; unfold compEs at h; cases h
  | succ n ih =>
    intro es ts sc h
    unfold compEs at h
    split at h
    · rfl
    · split at h
      · cases h
      · rename_i hs
        simp only [Option.bind_eq_some_iff, Option.map_eq_some_iff] at h
        obtain ⟨e', _, r', hr, rfl⟩ := h
        rw [List.all_cons, ih hr]
        simpa using hs
/-- the call of a def: its promise is told -/
theorem call_fun {t : TAd} {x : Str} {n : Nat} {c : Ctr} {Ed : En → XDK} (h : G.fn x = some (n, c)) :
    (fun (σ : En) (H : MH) (Q : DK) => t σ H fun ds H1 => ∃ n c, G.fn x = some (n, c) ∧ ds.length = n ∧ c ds H1 Q (Ed σ)) = fun σ H Q => t σ H fun ds H1 => ds.length = n ∧ c ds H1 Q (Ed σ) := by
  funext σ H Q
  congr 1
  funext ds H1
  rw [h]
  apply propext
  constructor
  · rintro ⟨n', c', e, a, b⟩
    cases e
    exact ⟨a, b⟩
  · rintro ⟨a, b⟩
    exact ⟨n, c, rfl, a, b⟩
/-- a BoolOp's test does not look at its whole -/
theorem dw_of {e : Expr} {t : TCd} (h : (∃ (l : List Expr), e = .BoolOp .And l pos0) ∨ ∃ (l : List Expr), e = .BoolOp .Or l pos0) (hc : DC C e t) : DW C e t := by
  refine ⟨fun wh pins s σ H Q I q => ?_⟩
  have := hc.run pins s σ H Q I q
  rcases h with ⟨l, rfl⟩ | ⟨l, rfl⟩ <;> (rw [PySem.isTrue] at this ⊢; exact this)
theorem sub_free {a b : Expr} {pos : Pos} {env : Env} (h : isSlice b = false) : ∀ v, assign (.Subscript a b pos) env v = (do
      let ov ← holding [v] (eval a env)
      let iv ← holding [v, ov] (eval b env)
      standAt pos
      holding [v, ov, iv] (setItem ov iv v)
      release [v, ov, iv] []) := by
  intro v
  cases b <;> first | rfl | cases h
set_option maxHeartbeats 4000000 in
theorem sound (n : Nat) :
    (∀ blk sc C e c, At p G blk sc C → compE p n sc e = some c → DE C e (wpE G C.Ed c)) ∧
    (∀ blk sc C e c, At p G blk sc C → compE p n sc e = some c → DC C e (wpC G C.Ed c)) ∧
    (∀ blk sc C es c, At p G blk sc C → compEs p n sc es = some c → DA C es (wpEs G C.Ed c)) ∧
    (∀ blk sc C es c, At p G blk sc C → compCs p n sc es = some c → DCs C es (wpCs G C.Ed c)) ∧
    (∀ blk sc C o c, At p G blk sc C → compO p n sc o = some c → DO C o (wpO G C.Ed c)) ∧
    (∀ blk sc C e c, At p G blk sc C → compT p n blk sc e = some c → DG C c.slots e (wpT G C.Ed c)) ∧
    (∀ blk sc C es c, At p G blk sc C → compTs p n blk sc es = some c → DGs C c.slots es (wpTs G C.Ed c)) ∧
    (∀ blk sc C tg e c, At p G blk sc C → compI p n sc e = some c → DI C tg e (wpI G C.Ed c)) := by
  induction n with
  | zero =>
    refine ⟨?_, ?_, ?_, ?_, ?_, ?_, ?_, ?_⟩
    · intro blk sc C e c a h; unfold compE at h; cases h
    · intro blk sc C e c a h; unfold compE at h; cases h
    · intro blk sc C e c a h; unfold compEs at h; cases h
    · intro blk sc C e c a h; unfold compCs at h; cases h
    · intro blk sc C e c a h; unfold compO at h; cases h
    · intro blk sc C e c a h; unfold compT at h; cases h
    · intro blk sc C e c a h; unfold compTs at h; cases h
    · intro blk sc C tg e c a h; unfold compI at h; cases h
  | succ n ih =>
    obtain ⟨ihE, ihC, ihEs, ihCs, ihO, ihT, ihTs, ihI⟩ := ih
    have main : ∀ blk sc C e c, At p G blk sc C → compE p (n + 1) sc e = some c → DE C e (wpE G C.Ed c) := by
      intro blk sc C e c a h
      unfold compE at h
      split at h
      · cases h; exact de_const pe_int fun _ _ => is_int
      · cases h; exact de_const pe_bl fun _ _ => is_bl
      · cases h; exact de_const pe_str fun _ _ => is_str
      · cases h; exact de_const pe_non fun _ _ => is_non
      · split at h
        · rename_i hp
          obtain ⟨p1, p2, p3⟩ := plain_of hp
          split at h
          · rename_i hv
            simp only [Option.map_eq_some_iff] at h
            obtain ⟨i, hi, rfl⟩ := h
            exact de_var (by rw [a.N]; exact slot_of hi) (vis_of a hv) p1 p2
          · split at h
            · rename_i hg
              split at h
              · rename_i hb
                simp only [Option.map_eq_some_iff] at h
                obtain ⟨m, hm, rfl⟩ := h
                exact de_const (pe_bltn (v := .ty m) (gl_of a hg) (a.g.bl _ hb) (ty_boot hm) rfl p3 p1) fun _ _ => is_ty
              · cases h
                refine ⟨fun pins s σ H Q I h => ?_⟩
                obtain ⟨σd, Hm, Qd, s0, ⟨d, hd, q⟩, k⟩ := id h
                obtain ⟨u, v, hm, r, hi⟩ := a.g.gv _ _ hd
                exact (pe_glob (gl_of a hg) hm r p1).run pins s σ H Q I (k.here s0.rep (hi C.Z H Hm) q)
            · cases h
        · cases h
      · simp only [Option.bind_eq_some_iff, Option.map_eq_some_iff] at h
        obtain ⟨a', ha, b', hb, rfl⟩ := h
        exact de_bin a.ok (ihE _ _ _ _ _ a ha) (ihE _ _ _ _ _ a hb)
      · simp only [Option.map_eq_some_iff] at h
        obtain ⟨a', ha, rfl⟩ := h
        exact de_neg (ihE _ _ _ _ _ a ha)
      · simp only [Option.map_eq_some_iff] at h
        obtain ⟨a', ha, rfl⟩ := h
        exact de_not (ihE _ _ _ _ _ a ha)
      · exact pe_one (ihE _ _ _ _ _ a h)
      · simp only [Option.bind_eq_some_iff, Option.map_eq_some_iff] at h
        obtain ⟨a', ha, b', hb, rfl⟩ := h
        exact de_and (ihE _ _ _ _ _ a ha) (ihE _ _ _ _ _ a hb)
      · simp only [Option.bind_eq_some_iff, Option.map_eq_some_iff] at h
        obtain ⟨a', ha, b', hb, rfl⟩ := h
        exact de_or (ihE _ _ _ _ _ a ha) (ihE _ _ _ _ _ a hb)
      · split at h
        · cases h
        · rename_i hm
          simp only [Option.bind_eq_some_iff, Option.map_eq_some_iff] at h
          obtain ⟨a', ha, b', hb, rfl⟩ := h
          exact de_cmp a.ok (ihE _ _ _ _ _ a ha) (ihE _ _ _ _ _ a hb) (by simpa using hm)
      · split at h
        · cases h
        · rename_i hm
          simp only [Option.bind_eq_some_iff, Option.map_eq_some_iff] at h
          obtain ⟨a', ha, b', hb, c', hc, rfl⟩ := h
          exact de_ch a.ok (ihE _ _ _ _ _ a ha) (ihE _ _ _ _ _ a hb) (ihE _ _ _ _ _ a hc) (by simpa using hm)
      · simp only [Option.bind_eq_some_iff, Option.map_eq_some_iff] at h
        obtain ⟨t', ht, a', ha, b', hb, rfl⟩ := h
        exact de_ite (ihC _ _ _ _ _ a ht) (ihE _ _ _ _ _ a ha) (ihE _ _ _ _ _ a hb)
      · simp only [Option.map_eq_some_iff] at h
        obtain ⟨a', ha, rfl⟩ := h
        exact de_tup (ihEs _ _ _ _ _ a ha)
      · simp only [Option.map_eq_some_iff] at h
        obtain ⟨a', ha, rfl⟩ := h
        exact de_lst (ihEs _ _ _ _ _ a ha)
      · simp only [Option.bind_eq_some_iff, Option.map_eq_some_iff] at h
        obtain ⟨a', ha, l', hl, h', hh, rfl⟩ := h
        exact de_sl (ihE _ _ _ _ _ a ha) (ihO _ _ _ _ _ a hl) (ihO _ _ _ _ _ a hh)
      · split at h
        · cases h
        · rename_i hs
          simp only [Option.bind_eq_some_iff, Option.map_eq_some_iff] at h
          obtain ⟨a', ha, b', hb, rfl⟩ := h
          exact de_ix (ihE _ _ _ _ _ a ha) (ihE _ _ _ _ _ a hb) (plainIx (by simpa using hs))
      · split at h
        · rename_i hp
          rw [Bool.and_eq_true] at hp
          obtain ⟨p1, p2, p3⟩ := plain_of hp.1
          split at h
          · rename_i hb
            simp only [Option.bind_eq_some_iff, Option.map_eq_some_iff] at h
            obtain ⟨f, hf, es', he, rfl⟩ := h
            have st := es_star he
            rw [List.all_cons, Bool.and_eq_true] at st
            exact de_bi a.ok (gl_of a hp.2) (a.g.bl _ hb) (bi_boot hf) (ihEs _ _ _ _ _ a he) p3 p1 (star1 (by simpa using st.1)) (star_any st.2)
          · split at h
            · rename_i hF
              simp only [Option.map_eq_some_iff] at h
              obtain ⟨es', he, rfl⟩ := h
              have st := es_star he
              rw [List.all_cons, Bool.and_eq_true] at st
              obtain ⟨m, c, hG, hH⟩ := a.g.fn _ hF
              have e3 : wpE G C.Ed (.call _ es') = _ := call_fun (t := wpEs G C.Ed es') (Ed := C.Ed) hG
              rw [e3]
              exact de_call a.ok hH (gl_of a hp.2) (ihEs _ _ _ _ _ a he) p1 (star1 (by simpa using st.1)) (star_any st.2)
            · cases h
        · cases h
      · split at h
        · rename_i hp
          rw [Bool.and_eq_true, Bool.and_eq_true] at hp
          obtain ⟨p1, p2, p3⟩ := plain_of hp.1.1
          cases h
          obtain ⟨m, c, hG, hH⟩ := a.g.fn _ hp.2
          have e3 : wpE G C.Ed (.call _ .nil) = _ := call_fun (t := fun _ H Q => Q [] H) (Ed := C.Ed) hG
          rw [e3]
          exact de_call0 a.ok hH (gl_of a hp.1.2) p1
        · cases h
      · split at h
        · cases h
        · rename_i a0 x0 apos0 ps hp
          simp only [Bool.or_eq_true, not_or, Bool.not_eq_true, Bool.not_eq_false'] at hp
          simp only [Option.bind_eq_some_iff, Option.map_eq_some_iff] at h
          obtain ⟨f, hf, a', ha, rfl⟩ := h
          obtain ⟨m1, m2, m3⟩ := mt_facts hf
          exact de_mth0 (m := p.m ps) m1 m2 m3 (ihE _ _ _ _ _ a ha) (attr_free hp.1) (by simpa using hp.2)
      · split at h
        · cases h
        · rename_i hp
          simp only [Bool.or_eq_true, not_or, Bool.not_eq_true, Bool.not_eq_false'] at hp
          simp only [Option.bind_eq_some_iff, Option.map_eq_some_iff] at h
          obtain ⟨f, hf, a', ha, es', he, rfl⟩ := h
          obtain ⟨m1, m2, m3⟩ := mt_facts hf
          have st := es_star he
          have st2 := st
          rw [List.all_cons, Bool.and_eq_true] at st
          exact de_mth m1 m2 m3 (ihE _ _ _ _ _ a ha) (ihEs _ _ _ _ _ a he) (attr_free hp.1.1) (star_few st2 (by simpa using hp.2)) (by simpa using hp.1.2) (star1 (by simpa using st.1)) (star_any st.2)
      · split at h
        · cases h
        · rename_i hp
          simp only [Bool.or_eq_true, not_or, Bool.not_eq_true, Bool.not_eq_false'] at hp
          simp only [Option.bind_eq_some_iff] at h
          obtain ⟨i', hi, t', ht, h⟩ := h
          split at h
          · cases h
          · rename_i hsl
            simp only [Option.bind_eq_some_iff, Option.map_eq_some_iff] at h
            obtain ⟨c', hc, e', he, rfl⟩ := h
            have hk : Scope.kind _ = .function := (blkOk_by hp.2).kind
            refine de_lc a.ok (ihI _ _ _ _ _ _ a hi) (blkOk_by (by rw [a.N, a.sc]; exact hp.2)) (fun i hm => ?_) (fun s H Ca cl fp Z M0 H0 => ihT _ _ _ _ _ (a.blk hk) ht) (fun s H Ca cl fp Z M0 H0 => ihCs _ _ _ _ _ (a.blk hk) hc) (fun s H Ca cl fp Z M0 H0 => ihE _ _ _ _ _ (a.blk hk) he) (set_free hp.1)
            have := hsl
            simp only [Bool.not_eq_true, Bool.not_eq_false', List.all_eq_true] at this
            simpa using this i hm
      · cases h
    refine ⟨main, ?_, ?_, ?_, ?_, ?_, ?_, ?_⟩
    · intro blk sc C e c a h
      have hv := main blk sc C e c a h
      unfold compE at h
      split at h
      · cases h; exact dc_val hv fun _ => rfl
      · cases h; exact dc_val hv fun _ => rfl
      · cases h; exact dc_val hv fun _ => rfl
      · cases h; exact dc_val hv fun _ => rfl
      · split at h
        · split at h
          · simp only [Option.map_eq_some_iff] at h
            obtain ⟨i, hi, rfl⟩ := h
            exact dc_val hv fun _ => rfl
          · split at h
            · split at h
              · simp only [Option.map_eq_some_iff] at h
                obtain ⟨m, hm, rfl⟩ := h
                exact dc_val hv fun _ => rfl
              · cases h
                exact dc_val hv fun _ => rfl
            · cases h
        · cases h
      · simp only [Option.bind_eq_some_iff, Option.map_eq_some_iff] at h
        obtain ⟨a', ha, b', hb, rfl⟩ := h
        exact dc_val hv fun _ => rfl
      · simp only [Option.map_eq_some_iff] at h
        obtain ⟨a', ha, rfl⟩ := h
        exact dc_val hv fun _ => rfl
      · simp only [Option.map_eq_some_iff] at h
        obtain ⟨a', ha, rfl⟩ := h
        exact dc_not (ihC _ _ _ _ _ a ha)
      · rename_i op _ _
        cases op with
        | And => exact (dw_and1 (ihC _ _ _ _ _ a h)).pt
        | Or => exact (dw_or1 (ihC _ _ _ _ _ a h)).pt
      · simp only [Option.bind_eq_some_iff, Option.map_eq_some_iff] at h
        obtain ⟨a', ha, b', hb, rfl⟩ := h
        exact (dw_and (ihC _ _ _ _ _ a ha) (dw_of (.inl ⟨_, rfl⟩) (ihC _ _ _ _ _ a hb))).pt
      · simp only [Option.bind_eq_some_iff, Option.map_eq_some_iff] at h
        obtain ⟨a', ha, b', hb, rfl⟩ := h
        exact (dw_or (ihC _ _ _ _ _ a ha) (dw_of (.inr ⟨_, rfl⟩) (ihC _ _ _ _ _ a hb))).pt
      · split at h
        · cases h
        · rename_i hm
          simp only [Option.bind_eq_some_iff, Option.map_eq_some_iff] at h
          obtain ⟨a', ha, b', hb, rfl⟩ := h
          exact dc_cmp a.ok (ihE _ _ _ _ _ a ha) (ihE _ _ _ _ _ a hb) (by simpa using hm)
      · split at h
        · cases h
        · rename_i hm
          simp only [Option.bind_eq_some_iff, Option.map_eq_some_iff] at h
          obtain ⟨a', ha, b', hb, c', hc, rfl⟩ := h
          exact dc_ch a.ok (ihE _ _ _ _ _ a ha) (ihE _ _ _ _ _ a hb) (ihE _ _ _ _ _ a hc) (by simpa using hm)
      · simp only [Option.bind_eq_some_iff, Option.map_eq_some_iff] at h
        obtain ⟨t', ht, a', ha, b', hb, rfl⟩ := h
        exact dc_ite (ihC _ _ _ _ _ a ht) (ihC _ _ _ _ _ a ha) (ihC _ _ _ _ _ a hb)
      · simp only [Option.map_eq_some_iff] at h
        obtain ⟨a', ha, rfl⟩ := h
        exact dc_val hv fun _ => rfl
      · simp only [Option.map_eq_some_iff] at h
        obtain ⟨a', ha, rfl⟩ := h
        exact dc_val hv fun _ => rfl
      · simp only [Option.bind_eq_some_iff, Option.map_eq_some_iff] at h
        obtain ⟨a', ha, l', hl, h', hh, rfl⟩ := h
        exact dc_val hv fun _ => rfl
      · split at h
        · cases h
        · simp only [Option.bind_eq_some_iff, Option.map_eq_some_iff] at h
          obtain ⟨a', ha, b', hb, rfl⟩ := h
          exact dc_val hv fun _ => rfl
      · split at h
        · split at h
          · simp only [Option.bind_eq_some_iff, Option.map_eq_some_iff] at h
            obtain ⟨f, hf, es', he, rfl⟩ := h
            exact dc_val hv fun _ => rfl
          · split at h
            · simp only [Option.map_eq_some_iff] at h
              obtain ⟨es', he, rfl⟩ := h
              exact dc_val hv fun _ => rfl
            · cases h
        · cases h
      · split at h
        · cases h
          exact dc_val hv fun _ => rfl
        · cases h
      · split at h
        · cases h
        · simp only [Option.bind_eq_some_iff, Option.map_eq_some_iff] at h
          obtain ⟨f, hf, a', ha, rfl⟩ := h
          exact dc_val hv fun _ => rfl
      · split at h
        · cases h
        · simp only [Option.bind_eq_some_iff, Option.map_eq_some_iff] at h
          obtain ⟨f, hf, a', ha, es', he, rfl⟩ := h
          exact dc_val hv fun _ => rfl
      · split at h
        · cases h
        · simp only [Option.bind_eq_some_iff] at h
          obtain ⟨i', hi, t', ht, h⟩ := h
          split at h
          · cases h
          · simp only [Option.bind_eq_some_iff, Option.map_eq_some_iff] at h
            obtain ⟨c', hc, e', he, rfl⟩ := h
            exact dc_val hv fun _ => rfl
      · cases h
    · intro blk sc C es c a h
      unfold compEs at h
      split at h
      · cases h
        exact da_nil
      · split at h
        · cases h
        · rename_i hs
          simp only [Option.bind_eq_some_iff, Option.map_eq_some_iff] at h
          obtain ⟨e', he, r', hr, rfl⟩ := h
          exact da_cons (ihE _ _ _ _ _ a he) (ihEs _ _ _ _ _ a hr) (star1 (by simpa using hs))
    · intro blk sc C es c a h
      unfold compCs at h
      split at h
      · cases h
        exact dcs_nil
      · simp only [Option.map_eq_some_iff] at h
        obtain ⟨e', he, rfl⟩ := h
        exact dcs_one (ihC _ _ _ _ _ a he)
      · cases h
    · intro blk sc C o c a h
      unfold compO at h
      split at h
      · cases h
        exact do_none
      · simp only [Option.map_eq_some_iff] at h
        obtain ⟨e', he, rfl⟩ := h
        exact do_some (ihE _ _ _ _ _ a he)
    · intro blk sc C e c a h
      unfold compT at h
      split at h
      · split at h
        · rename_i hl
          simp only [Option.map_eq_some_iff] at h
          obtain ⟨i, hi, rfl⟩ := h
          obtain ⟨h1, h2⟩ := loc_of a hl
          exact dg_name a.ok (by rw [a.N]; exact slot_of hi) h1 h2
        · cases h
      · simp only [Option.map_eq_some_iff] at h
        obtain ⟨ts, hts, rfl⟩ := h
        obtain ⟨h1, h2⟩ := ts_len hts
        obtain ⟨h3, h4⟩ := assign_len (env := C.X.env) h2
        exact dg_tup a.ok (ihTs _ _ _ _ _ a hts) h4 (by rw [h3, h1])
      · split at h
        · cases h
        · rename_i hs
          simp only [Option.bind_eq_some_iff, Option.map_eq_some_iff] at h
          obtain ⟨a', ha, b', hb, rfl⟩ := h
          exact dg_sub (ihE _ _ _ _ _ a ha) (ihE _ _ _ _ _ a hb) (sub_free (by simpa using hs))
      · cases h
    · intro blk sc C es c a h
      unfold compTs at h
      split at h
      · cases h
        exact dgs_nil
      · split at h
        · cases h
        · rename_i hs
          simp only [Option.bind_eq_some_iff, Option.map_eq_some_iff] at h
          obtain ⟨e', he, r', hr, rfl⟩ := h
          refine dgs_cons (ihT _ _ _ _ _ a he) (ihTs _ _ _ _ _ a hr) ?_
          rw [assign1 (by simpa using hs)]
          rfl
    · intro blk sc C tg e c a h
      unfold compI at h
      split at h
      · split at h
        · rename_i hx
          split at h
          · rename_i hg
            simp only [Option.map_eq_some_iff] at h
            obtain ⟨a', ha, rfl⟩ := h
            simp only [Bool.and_eq_true, Bool.not_eq_true', Bool.not_eq_eq_eq_not, Bool.not_true] at hg
            have ex := eq_of_beq hx
            subst ex
            exact di_rng1 (gl_of a hg.1.1) (a.g.bl _ hg.1.2) (ihE _ _ _ _ _ a ha) (star1 hg.2)
          · cases h
        · simp only [Option.map_eq_some_iff] at h
          obtain ⟨a', ha, rfl⟩ := h
          exact di_seq (ihE _ _ _ _ _ a ha)
      · split at h
        · rename_i hx
          split at h
          · rename_i hg
            simp only [Option.bind_eq_some_iff, Option.map_eq_some_iff] at h
            obtain ⟨a', ha, b', hb, rfl⟩ := h
            simp only [Bool.and_eq_true, Bool.not_eq_true', Bool.not_eq_eq_eq_not, Bool.not_true] at hg
            have ex := eq_of_beq hx
            subst ex
            exact di_rng2 (gl_of a hg.1.1.1) (a.g.bl _ hg.1.1.2) (ihE _ _ _ _ _ a ha) (ihE _ _ _ _ _ a hb) (by rw [star1 hg.1.2, star1 hg.2]; rfl) (star1 hg.2)
          · cases h
        · simp only [Option.map_eq_some_iff] at h
          obtain ⟨a', ha, rfl⟩ := h
          exact di_seq (ihE _ _ _ _ _ a ha)
      · simp only [Option.map_eq_some_iff] at h
        obtain ⟨a', ha, rfl⟩ := h
        exact di_seq (ihE _ _ _ _ _ a ha)
end
end DL

set_option maxHeartbeats 1000000
namespace DL
open PySem PySem.Spec PyProof.Rows L2

section
variable {p : Pm} {G : Gm} {blk : Bool} {sc : Scope} {C : Co} {pos0 : Pos}
theorem swaps_free {tg e : Expr} {line : Nat} {env : Env} (hk : sc.kind = .function) (he : env.scope = sc) (h : lcUsed sc tg e = some false) : swapsWith e (some tg) line env = pure false := by
  unfold lcUsed at h
  split at h
  · rename_i elt gs scope pos t tpos
    have h := Option.some.inj h
    unfold swapsWith
    show (pure _ : Sem Bool) = pure false
    congr 1
    have hb : env.blockKind = .function := by unfold Env.blockKind; rw [he, hk]; rfl
    have ht : (env.kindOf t == some .local) = decide (sc.names.lookup t = some .local) := by
      show (env.scope.names.lookup t == some .local) = _
      rw [he, Bool.beq_eq_decide_eq]
    rw [hb, ht]
    exact h
  · cases h
  · cases h
  · rename_i h1 h2 h3
    unfold swapsWith
    cases e with
    | ListComp a b c d =>
      cases tg with
      | Name t tp => first | exact (h1 _ _ _ _ _ _ rfl rfl).elim | exact (h2 _ _ _ _ _ _ rfl rfl).elim | exact (h3 _ _ _ _ _ _ rfl rfl).elim | (exfalso; simp_all)
      | _ => rfl
    | SetComp a b c d => first | exact (h1 _ _ _ _ rfl).elim | exact (h2 _ _ _ _ rfl).elim
    | DictComp a b c d f => first | exact (h1 _ _ _ _ _ rfl).elim | exact (h2 _ _ _ _ _ rfl).elim | exact (h3 _ _ _ _ _ rfl).elim
    | _ => rfl
theorem swaps_drop {e : Expr} {line : Nat} {env : Env} (h : isComp e = false) : swapsWith e none line env = pure false := by
  cases e <;> first | rfl | cases h
theorem par_free {tg e : Expr} {env : Env} (h : parTup [tg] e = false) : swappedStores [tg] e env = pure none := by
  unfold swappedStores
  cases tg <;> cases e <;> first | rfl | cases h
theorem assign1T {tg : Expr} {env : Env} (h : starred tg = false) : (assignEach [tg] env).map (·.2) = [assign tg env] := by
  rw [assign1 h]; rfl
theorem comp_lc {n : Nat} {e elt : Expr} {gs : List Comprehension} {scope : Scope} {pos : Pos} {c : E} (h : compE p (n + 1) sc e = some c) (he : e = .ListComp elt gs scope pos) :
    ∃ tg iter ifs i' t' c' e', gs = [⟨tg, iter, ifs, 0⟩] ∧ isSet iter = false ∧ blkC p.N sc scope (ownOf p.N tg) = true ∧ compI p n sc iter = some i' ∧ compT p n true (relS scope sc) tg = some t' ∧
      (∀ i ∈ t'.slots, i ∈ (ownOf p.N tg).map (·.2)) ∧ compCs p n (relS scope sc) ifs = some c' ∧ compE p n (relS scope sc) elt = some e' ∧ c = .lc (p.m pos) e' t' i' c' ((ownOf p.N tg).map (·.2)) := by
  unfold compE at h
  split at h
  all_goals first | (cases he; done) | skip
  · split at h
    · cases h
    · rename_i hp
      simp only [Bool.or_eq_true, not_or, Bool.not_eq_true, Bool.not_eq_false'] at hp
      simp only [Option.bind_eq_some_iff] at h
      obtain ⟨i', hi, t', ht, h⟩ := h
      split at h
      · cases h
      · rename_i hsl
        simp only [Option.bind_eq_some_iff, Option.map_eq_some_iff] at h
        obtain ⟨c', hc, e', hE, rfl⟩ := h
        cases he
        refine ⟨_, _, _, i', t', c', e', rfl, hp.1, hp.2, hi, ht, fun i hm => ?_, hc, hE, rfl⟩
        simp only [Bool.not_eq_true, Bool.not_eq_false', List.all_eq_true] at hsl
        simpa using hsl i hm
  · cases h
set_option maxHeartbeats 4000000 in
theorem soundS (n : Nat) :
    (∀ C s c, At p G false sc C → PassesOwn (model C.X.prog C.X.w) C.X.A C.X.env C.X.xe → compS p n sc s = some c → DS C s (wpS G C.Ed c)) ∧
    (∀ C ss c, At p G false sc C → PassesOwn (model C.X.prog C.X.w) C.X.A C.X.env C.X.xe → compSs p n sc ss = some c → DSs C ss (wpSs G C.Ed c)) := by
  induction n with
  | zero =>
    refine ⟨?_, ?_⟩
    · intro C s c a po h; unfold compS at h; cases h
    · intro C s c a po h; unfold compSs at h; cases h
  | succ n ih =>
    obtain ⟨ihS, ihSs⟩ := ih
    obtain ⟨eE, eC, eEs, eCs, eO, eT, eTs, eI⟩ := sound (p := p) (G := G) n
    refine ⟨?_, ?_⟩
    · intro C s c a po h
      have hk := a.kind
      rw [a.sc] at hk
      unfold compS at h
      split at h
      · rename_i tg e ps
        split at h
        · cases h
        · rename_i hp
          simp only [Bool.or_eq_true, not_or, Bool.not_eq_true] at hp
          simp only [Option.bind_eq_some_iff, Option.map_eq_some_iff] at h
          obtain ⟨e', he, t', ht, u, hu, rfl⟩ := h
          cases u with
          | false => exact ds_asg (eE _ _ _ _ _ a he) (eT _ _ _ _ _ a ht) (swaps_free hk a.sc hu) (par_free hp.1) (assign1T hp.2)
          | true =>
            unfold lcUsed at hu
            split at hu
            · rename_i elt gs scope pos t tpos
              have hu := Option.some.inj hu
              simp only [Bool.and_eq_true, decide_eq_true_eq, Bool.not_eq_true'] at hu
              obtain ⟨⟨u1, u2⟩, u3⟩ := hu
              cases n with
              | zero => unfold compE at he; cases he
              | succ m =>
                obtain ⟨tg, iter, ifs, i', t2, c', e2, rfl, h1, h2, h3, h4, h5, h6, h7, rfl⟩ := comp_lc he rfl
                obtain ⟨fE, fC, fEs, fCs, fO, fT, fTs, fI⟩ := sound (p := p) (G := G) m
                have hT : ∃ i, slot p.N t = some i ∧ t' = .nm i := by
                  unfold compT at ht
                  simp only at ht
                  split at ht
                  · simp only [Option.map_eq_some_iff] at ht
                    obtain ⟨i, hi, rfl⟩ := ht
                    exact ⟨i, hi, rfl⟩
                  · cases ht
                obtain ⟨i, hi, rfl⟩ := hT
                have hkb : Scope.kind _ = .function := (blkOk_by h2).kind
                have hsw : swapsWith (.ListComp elt [⟨tg, iter, ifs, 0⟩] scope pos) (some (.Name t tpos)) ps.line C.X.env = pure true := sw_true (by rw [a.sc]; exact hk) (by rw [a.sc]; exact u1) u2 u3
                exact ds_setLc (m := p.m pos) a.ok (by rw [a.N]; exact slot_of hi) (by rw [a.sc]; exact u1) hsw (fI _ _ _ _ _ _ a h3) (blkOk_by (by rw [a.N, a.sc]; exact h2)) h5
                  (fun s H Ca cl fp Z M0 H0 => fT _ _ _ _ _ (a.blk hkb) h4) (fun s H Ca cl fp Z M0 H0 => fCs _ _ _ _ _ (a.blk hkb) h6) (fun s H Ca cl fp Z M0 H0 => fE _ _ _ _ _ (a.blk hkb) h7) (set_free h1)
            · cases hu
            · cases hu
            · cases hu
      · split at h
        · rename_i hl
          simp only [Option.bind_eq_some_iff, Option.map_eq_some_iff] at h
          obtain ⟨i, hi, e', he, rfl⟩ := h
          obtain ⟨h1, h2⟩ := loc_of a hl
          exact ds_aug a.ok (by rw [a.N]; exact slot_of hi) h1 (eE _ _ _ _ _ a he) h2
        · cases h
      · split at h
        · cases h
        · rename_i hp
          simp only [Option.map_eq_some_iff] at h
          obtain ⟨e', he, rfl⟩ := h
          exact ds_ex (eE _ _ _ _ _ a he) (swaps_drop (by simpa using hp))
      · simp only [Option.map_eq_some_iff] at h
        obtain ⟨e', he, rfl⟩ := h
        exact ds_ret (eE _ _ _ _ _ a he)
      · cases h
        exact ds_retN
      · simp only [Option.bind_eq_some_iff, Option.map_eq_some_iff] at h
        obtain ⟨c', hc, a', ha, b', hb, rfl⟩ := h
        exact ds_if (eC _ _ _ _ _ a hc) (ihSs _ _ _ a po ha) (ihSs _ _ _ a po hb)
      · split at h
        · cases h
        · rename_i hp
          simp only [Option.bind_eq_some_iff, Option.map_eq_some_iff] at h
          obtain ⟨i', hi, t', ht, b', hb, rfl⟩ := h
          exact ds_loop a.ok po (eI _ _ _ _ _ _ a hi) (eT _ _ _ _ _ a ht) (ihSs _ _ _ a po hb) (set_free (by simpa using hp))
      · simp only [Option.bind_eq_some_iff, Option.map_eq_some_iff] at h
        obtain ⟨c', hc, b', hb, rfl⟩ := h
        exact ds_whl po (eC _ _ _ _ _ a hc) (ihSs _ _ _ a po hb)
      · cases h
        exact ds_brk
      · cases h
        exact ds_ct
      · cases h
        exact ds_pass
      · cases h
    · intro C s c a po h
      unfold compSs at h
      split at h
      · cases h
        exact dss_nil
      · simp only [Option.bind_eq_some_iff, Option.map_eq_some_iff] at h
        obtain ⟨s', hs, r', hr, rfl⟩ := h
        exact dss_cons (t := wpS G C.Ed s') (u := wpSs G C.Ed r') (ihS _ _ _ a po hs) (ihSs _ _ _ a po hr)
end
end DL

set_option maxHeartbeats 1000000
namespace DL
open PySem PySem.Spec PyProof.Rows L2

/-! ### what is forgotten at a return -/
/-- whatever stands for (d, H) stands for (d', H') -/
def Frz (d : D) (H : MH) (d' : D) (H' : MH) : Prop := ∀ (K : Kz) (h : Hp) (v : V), Is K h H d v → Rep K h H → Is K h H' d' v ∧ Rep K h H' ∧ Sub H' H
/-- H' is H with some places forgotten -/
def Less (H' H : MH) : Prop := ∀ a, H' a = H a ∨ H' a = none
theorem Less.refl {H : MH} : Less H H := fun _ => .inl rfl
theorem Less.upd {H H0 : MH} {p : Addr} {o : MO} (h : Less H0 H) (hp : H0 p = none) : Less H0 (updM H p o) := fun a => by
  by_cases e : a = p
  · rw [e]; exact .inr hp
  · rw [updM_ne e]; exact h a
theorem Less.sub {H' H : MH} (h : Less H' H) : Sub H' H := fun a e => by
  rcases h a with q | q
  · rw [q]; exact e
  · exact q
theorem Less.rep {K : Kz} {h : Hp} {H' H : MH} (l : Less H' H) (r : Rep K h H) : Rep K h H' := by
  refine ⟨fun a o e => ?_, fun a z => ?_⟩
  · have e' : H a = some o := by
      rcases l a with q | q
      · rw [← q]; exact e
      · rw [q] at e; cases e
    have := r.obj a o e'
    cases o with
    | lst ds => obtain ⟨vs, q, t⟩ := this; exact ⟨vs, q, Iss.sub l.sub _ _ t⟩
    | ins C ns ds => obtain ⟨dx, fs, q, n, t⟩ := this; exact ⟨dx, fs, q, n, Iss.sub l.sub _ _ t⟩
  · obtain ⟨o, q, m⟩ := r.hid a z
    exact ⟨o, q, l.sub a m⟩
theorem Frz.less {d : D} {H' H : MH} (l : Less H' H) : Frz d H d H' := fun K h v i r => ⟨Is.sub l.sub d v i, l.rep r, l.sub⟩
theorem Frz.refl {d : D} {H : MH} : Frz d H d H := Frz.less .refl
theorem Frz.rol {p : Addr} {ds : List D} {H' H : MH} (hp : H p = some (.lst ds)) (l : Less H' H) (hn : H' p = none) : Frz (.ref p) H (.rol ds) H' := fun K h v i r => by
  refine ⟨?_, l.rep r, l.sub⟩
  obtain ⟨vs, q, t⟩ := r.obj _ _ hp
  unfold Is
  refine ⟨p, vs, i.ref, .inl ⟨.inl q, hn, fun z => ?_⟩, Iss.sub l.sub _ _ t⟩
  obtain ⟨_, _, m⟩ := r.hid p z
  rw [hp] at m; cases m
/-- the end of a def -/
@[irreducible] def Rt (Q : DK) : DK := fun d H => ∃ d' H', Frz d H d' H' ∧ Q d' H'
@[irreducible] def Ex (E : XDK) : XDK := fun cls fo H => ∃ H', Less H' H ∧ E cls fo H'
@[simp] theorem isTy_ii (i : Int) (H : MH) : isTy (.int i) "int" H = some true := rfl
@[simp] theorem isTy_ib (i : Int) (H : MH) : isTy (.int i) "bool" H = some false := rfl
@[simp] theorem isTy_bi (i : Bool) (H : MH) : isTy (.bl i) "int" H = some true := rfl
@[simp] theorem isTy_bb (i : Bool) (H : MH) : isTy (.bl i) "bool" H = some true := rfl
theorem br_dec {p : Prop} [Decidable p] {A B : Prop} (h1 : p → A) (h2 : ¬ p → B) : br (decide p) A B := by
  by_cases h : p
  · rw [decide_eq_true h]; exact h1 h
  · rw [decide_eq_false h]; exact h2 h
theorem br_b {b : Bool} {A B : Prop} (h1 : b = true → A) (h2 : b = false → B) : br b A B := by
  cases b with
  | true => exact h1 rfl
  | false => exact h2 rfl
theorem Rt.now {Q : DK} {d : D} {H : MH} (q : Q d H) : Rt Q d H := by unfold Rt; exact ⟨d, H, .refl, q⟩
theorem Rt.less {Q : DK} {d : D} {H H' : MH} (l : Less H' H) (q : Q d H') : Rt Q d H := by unfold Rt; exact ⟨d, H', .less l, q⟩
theorem Rt.rol {Q : DK} {p : Addr} {ds : List D} {H H' : MH} (hp : H p = some (.lst ds)) (l : Less H' H) (hn : H' p = none) (q : Q (.rol ds) H') : Rt Q (.ref p) H := by unfold Rt; exact ⟨.rol ds, H', .rol hp l hn, q⟩
@[simp] def startD (N : List Str) (ds : List D) : En := ds.map some ++ List.replicate (N.length - ds.length) none
@[simp] def wpF (G : Gm) (N : List Str) (body : Ss) (ds : List D) (H : MH) (Q : DK) (E : XDK) : Prop := wpSs G (fun _ => Ex E) body { nx := fun _ H1 => Rt Q .non H1, rt := Rt Q } (startD N ds) H

def scopeC (N P : List Str) (sc : Scope) : Bool :=
  (match sc.kind with | .function => true | _ => false) && !sc.isCoroutine && !sc.isGenerator && decide N.Nodup && decide (N.take P.length = P) &&
    P.all (fun x => decide (sc.names.lookup x = some .local) || decide (sc.names.lookup x = some .cell)) && sc.names.all (fun y => decide (y.2 ≠ .free))
theorem scope_of {N P : List Str} {sc : Scope} (h : scopeC N P sc = true) : FnScope N P sc := by
  unfold scopeC at h
  simp only [Bool.and_eq_true, Bool.not_eq_true', decide_eq_true_eq, List.all_eq_true, Bool.or_eq_true] at h
  obtain ⟨⟨⟨⟨⟨⟨h1, h2⟩, h3⟩, h4⟩, h5⟩, h6⟩, h7⟩ := h
  refine ⟨?_, h2, h3, h4, h5, h6, h7⟩
  split at h1
  · assumption
  · cases h1
/-- a def of the module, at a level -/
def FnAt (P : Program) (w : World) (K : PySem.W.Frag) (mg : Str → Option Value) (base : Heap) (k : Nat) (x : Str) (n : Nat) (c : Ctr) : Prop :=
  ∃ f fd ps, ps.length = n ∧ mg x = some (.ref f) ∧ PySem.W.keepIn K (.ref f) = true ∧ Binds K fd ps [] ∧ FnOk P w K mg base (L2.CX P w) k f fd ps (Cl K n c)
theorem FnAt.mono {P : Program} {w : World} {K : PySem.W.Frag} {mg : Str → Option Value} {base : Heap} {j k : Nat} {x : Str} {n : Nat} {c : Ctr} (h : FnAt P w K mg base j x n c) (l : j ≤ k) : FnAt P w K mg base k x n c :=
  let ⟨f, fd, ps, a, b, d, e, F⟩ := h; ⟨f, fd, ps, a, b, d, e, F.mono l⟩
/-- what the head tells of the module -/
structure Mo (P : Program) (w : World) (K : PySem.W.Frag) (mg : Str → Option Value) (base : Heap) (B : List Str) (gv : Str → Option D) : Prop where
  seer : base.NoSeer
  tree : P.given.tree = none
  bl : ∀ x, B.contains x = true → mg x = none
  gv : ∀ x d, gv x = some d → ∃ u v, mg x = some u ∧ RelV v u ∧ ∀ (Z : Addr → Prop) H Hm, Is ⟨K, Z⟩ H Hm d v
section
variable {P : Program} {w : World} {K : PySem.W.Frag} {mg : Str → Option Value} {base : Heap}
theorem fn_sound {x qual : Str} {st : Stmt} {f : Addr} {fd : FuncData} (F : Fun K x qual st f fd) {p : Pm} {ps : List Str} {n k : Nat} {G : Gm} {body : Ss} {c : Ctr}
    (hsc : scopeC p.N ps (defScope st) = true) (hb : compSs p n (defScope st) (defBody st) = some body) (hk : 40 ≤ k) (M : Mo P w K mg base p.B G.gv)
    (hG : ∀ x, p.F.contains x = true → ∃ n c, G.fn x = some (n, c) ∧ FnAt P w K mg base k x n c)
    (hc : ∀ ds H Q E, c ds H Q E → wpF G p.N body ds H Q E) : FnOk P w K mg base (L2.CX P w) (k + 1) f fd ps (Cl K ps.length c) := by
  have S := scope_of hsc
  refine F.okX S (fun vs H Q E h => ?_) (fun cdv A outer s H vs Q E hr h => ?_)
  · obtain ⟨Z, ds, Hm, Qd, Ed, hl, rep, is, _⟩ := h
    rw [is.length, hl]
  · obtain ⟨Z, ds, Hm, Qd, Ed, hl, rep, is, hq, bh, hx⟩ := h
    let C : Co := ⟨cxOf (L2.CX P w) P w K mg base p.N qual (defScope st) f cdv A outer s H E, Z, Hm, H, fun _ => Ex Ed, fun cls d _ H' => E cls d H'⟩
    have hr40 : Room 40 C.X.A := hr.mono hk
    have ok : C.Ok := ⟨⟨rfl, S.nd, hr40, ⟨M.seer, M.tree, by have := hr40.dp; show C.X.A.depth + 100 < _; omega, ⟨_, _, rfl, S.gen, S.co, rfl, rfl⟩⟩⟩, takes_of rfl rfl rfl rfl, fun σ H' σd Hm' cls a fo r xi e => by
      have e : Ex Ed cls fo Hm' := e
      unfold Ex at e
      obtain ⟨H2, l, e⟩ := e
      have n2 : NT Hm H H2 H' := fun b o q m => by
        obtain ⟨e1, m1⟩ := r.nt b o q m
        exact ⟨e1, l.sub b m1⟩
      refine hx cls a fo H' H2 n2 (l.rep r.rep) ?_ e
      cases a with
      | none => cases fo with
        | none => trivial
        | some z => exact xi.elim
      | some a => cases fo with
        | none => exact xi.elim
        | some z =>
          obtain ⟨fs, e1, ⟨m1, z1⟩, nm, t⟩ := xi
          exact ⟨fs, e1, ⟨l.sub a m1, z1⟩, nm, Iss.sub l.sub _ _ t⟩⟩
    have at0 : At p G false (defScope st) C := ⟨ok, rfl, rfl, ⟨fun x hx => by
      obtain ⟨n, c, e, f', fd', ps', a1, a2, a3, a4, a5⟩ := hG x hx
      exact ⟨n, c, e, f', fd', ps', k, a1, a2, a3, a4, a5, hr⟩, M.gv, M.bl⟩, fun _ _ => rfl, S.kind⟩
    refine ⟨_, (soundS (p := p) (G := G) n).2 C _ body at0 PassesOwn.leaving hb, ?_⟩
    refine ⟨startD p.N ds, Hm, _, ⟨⟨?_, fun i d e => ?_⟩, rep, .refl⟩, hc ds Hm Qd Ed hq, ?_⟩
    · unfold startD L2.start
      simp only [List.length_append, List.length_map, List.length_replicate, is.length]
    · unfold startD at e
      unfold L2.start
      by_cases hi : i < ds.length
      · rw [List.getElem?_append_left (by rw [List.length_map]; exact hi), List.getElem?_map] at e
        cases q : ds[i]? with
        | none => rw [q] at e; cases e
        | some d' =>
          rw [q] at e; cases e
          obtain ⟨v, hv, iv⟩ := is.get q
          exact ⟨v, by rw [List.getElem?_append_left (by rw [List.length_map, is.length]; exact hi), List.getElem?_map, hv]; rfl, iv⟩
      · rw [List.getElem?_append_right (by rw [List.length_map]; omega), List.getElem?_replicate] at e
        split at e <;> cases e
    · have fin : Bh ⟨K, Z⟩ Hm H (Rt Qd) Q := fun v H' d Hm' n r i q => by
        unfold Rt at q
        obtain ⟨d', H2, fz, q⟩ := q
        obtain ⟨i2, r2, s2⟩ := fz _ _ _ i r
        exact bh v H' d' H2 (fun b o e m => by
          obtain ⟨e1, m1⟩ := n b o e m
          exact ⟨e1, s2 b m1⟩) r2 i2 q
      exact ⟨fun σ' H' σd' Hm' n s' q => fin .non H' .non Hm' n s'.rep is_non q, fun _ _ _ _ _ _ q => q, fun _ _ _ _ _ _ q => q, fin⟩
end
end DL

set_option maxHeartbeats 1000000
namespace DL
open PySem PySem.Spec PyProof.Rows L2

/-- the law's promise: for a script of whole numbers, True -/
def lawC : Ctr := fun ds H Q _ => ∃ ns : List Int, ds = [.rol (ns.map D.int)] ∧ ns.length ≤ 63 ∧ (∀ z ∈ ns, Builtin.Int.intBits z ≤ 1048576) ∧ Q (.bl true) H
section
variable {P : Program} {w : World} {K : PySem.W.Frag} {mg mb : Str → Option Value} {k : Nat} {fa : Addr} {s₁ : Shared} {vs : List Value} {ns : List Int}
theorem hidden_ns {H : Hp} {h : Heap} {b : Addr} {m : Str → Option Value} (n : h.Ns b m) (free : ∀ o es ep, h.get? b = some o → o.data = .dict es ep → H b = none) : (hidT h H).Ns b m := by
  obtain ⟨o, es, ep, e, d, r⟩ := n
  exact ⟨o, es, ep, hidT_get e (free o es ep e d), d, r⟩
/-- the script as a place: the call of the law from where the head leaves -/
theorem end_at {a : Addr} {fd : FuncData} {x : Str} {H : Hp} (KX : K.In s₁.heap) (hns : s₁.heap.Ns mainGlobals mg) (hb : s₁.heap.Ns builtinsNs mb) (hbb : ∀ x : Str, x ≠ "__name__" → mb x = bootBuiltins x)
    (hlim : s₁.heap.NoLimit) (hse : s₁.heap.NoSeer) (hg : s₁.gens = #[]) (ha : s₁.heap.get? a = some { cls := .type "list", data := .seq vs.toArray })
    (hr : Room k callerA) (hbind : ∀ (s : Shared) (u : Value), BindsTo s fd ⟨[u], []⟩ [(x, u)])
    (F : ∀ base : Heap, K.In base → base.Ns mainGlobals mg → base.NoSeer → FnOk P w K mg base (L2.CX P w) k fa fd [x] (Cl K 1 lawC))
    (hlen : ns.length ≤ 63) (hbits : ∀ z ∈ ns, Builtin.Int.intBits z ≤ 1048576)
    (hS : (∃ o, H a = some (.frz o (.lst (ns.map V.int)))) ∨ WL K a (ns.map V.int)) (hok : HOk P w H s₁.heap) (honly : ∀ b u, H b = some u → b = a ∧ ∃ o xs, u = .frz o (.lst xs)) (hK : H a ≠ none → K.lookup a = none) :
    codeAny (model P w) callerA (.call (.ref fa) ⟨[.ref a], []⟩) (fun r s' => r = .ok (.ret (.bool true)) ∧ OldK s₁.heap s'.heap ∧ s'.os = s₁.os ∧ AllBare s'.gens) s₁ := by
  have notDict : ∀ (b : Addr) (o : Obj) (es : Array DictEntry) (ep : Nat), s₁.heap.get? b = some o → o.data = .dict es ep → H b = none := by
    intro b o es ep e d
    cases q : H b with
    | none => rfl
    | some u =>
      obtain ⟨rfl, _⟩ := honly b u q
      rw [ha] at e
      cases e
      cases d
  have ns' : ∀ {b : Addr} {m : Str → Option Value}, s₁.heap.Ns b m → (hidT s₁.heap H).Ns b m := fun n => hidden_ns n (notDict _)
  have kin : K.In (hidT s₁.heap H) := by
    intro b o e
    refine hidT_get (KX b o e) ?_
    cases q : H b with
    | none => rfl
    | some u =>
      obtain ⟨rfl, _⟩ := honly b u q
      rw [hK (by rw [q]; simp)] at e
      cases e
  have seer : (hidT s₁.heap H).NoSeer := by
    obtain ⟨⟨mc, c1, c2⟩, ⟨mm, m1, m2⟩, ⟨mi, i1, i2⟩, ⟨mq, bm, ob, g1, g2, g3, g4, g5⟩⟩ := hse
    refine ⟨⟨mc, ns' c1, c2⟩, ⟨mm, ns' m1, m2⟩, ⟨mi, ns' i1, i2⟩, ⟨mq, bm, ob, ns' g1, g2, hidT_get g3 ?_, g4, g5⟩⟩
    cases q : H bm with
    | none => rfl
    | some u =>
      obtain ⟨rfl, _⟩ := honly bm u q
      rw [ha] at g3
      have g3 := Option.some.inj g3
      rw [← g3] at g4
      exact absurd (show Value.type "list" = Value.type "module" from g4) (by decide)
  have mod : Mod K mg (hidT s₁.heap H) := by
    obtain ⟨mc, c1, c2⟩ := hlim
    exact ⟨kin, ns' hns, ⟨mb, ns' hb, hbb⟩, ⟨mc, ns' c1, c2⟩⟩
  have start0 : Env0 P w K mg (hidT s₁.heap H) callerA [] s₁ H := by
    refine ⟨rfl, mod, fun b o e => of_hidT e, Nat.le_of_eq (hidT_size _ _), trivial, ?_, hok, .of_eq hg⟩
    intro b hb
    cases hb
  have want : Cl K 1 lawC [.ref a] H (fun v _ => v = .bl true) fun _ _ _ => False := by
    refine ⟨fun _ => False, [.rol (ns.map D.int)], fun _ => none, fun d _ => d = .bl true, fun _ _ _ => False, rfl, ⟨(fun _ _ e => by cases e), (fun _ z => z.elim)⟩, ?_, ⟨ns, rfl, hlen, hbits, rfl⟩, ?_, fun _ _ _ _ _ _ _ _ z => z⟩
    · refine .cons ?_ .nil
      unfold Is
      refine ⟨a, ns.map V.int, rfl, ?_, Iss.of_ints ns⟩
      rcases hS with ⟨o, e⟩ | e
      · exact .inl ⟨.inr ⟨o, e⟩, rfl, fun z => z⟩
      · exact .inr e
    · intro v H' d Hm' _ _ i e
      subst e
      exact i.bl
  have run := (F _ kin (ns' hns) seer).run callerA [] s₁ H ⟨[.ref a], []⟩ [.ref a] [.ref a] _ _ hr start0 (hbind s₁ (.ref a)) (.cons rfl .nil) want
  refine codeAny_mono run fun r s' h => ?_
  rcases r with e | fl
  · obtain ⟨_, _, _, _, _, _, _, _, _, _, _, _, z⟩ := (show L2.CX P w [] H s₁ (fun _ _ _ => False) e s' from h)
    exact z.elim
  · cases fl with
    | ret u =>
      obtain ⟨v, H', os, bare, un, hok', rv, q⟩ := h
      have q : v = .bl true := q
      subst q
      have eu : u = Value.bool true := rv
      refine ⟨by rw [eu], OldK.of_keep fun b o e => ?_, os, bare⟩
      cases q : H b with
      | none => exact un.keep b o e q (fun z => nomatch z) (fun z => nomatch z)
      | some u =>
        obtain ⟨_, o2, xs, rfl⟩ := honly b u q
        have e1 := (hok b _ q).1
        have e2 := (hok' b _ (un.frzs b o2 _ q)).1
        rw [e] at e1
        cases e1
        exact e2
    | next => exact False.elim h
    | brk => exact False.elim h
    | cont => exact False.elim h
theorem end_call {a : Addr} {fd : FuncData} {x : Str} (KX : K.In s₁.heap) (hns : s₁.heap.Ns mainGlobals mg) (hb : s₁.heap.Ns builtinsNs mb) (hbb : ∀ x : Str, x ≠ "__name__" → mb x = bootBuiltins x)
    (hlim : s₁.heap.NoLimit) (hse : s₁.heap.NoSeer) (hg : s₁.gens = #[]) (ha : s₁.heap.get? a = some { cls := .type "list", data := .seq vs.toArray }) (hi : IntsAre vs ns)
    (hr : Room k callerA) (hbind : ∀ (s : Shared) (u : Value), BindsTo s fd ⟨[u], []⟩ [(x, u)])
    (F : ∀ base : Heap, K.In base → base.Ns mainGlobals mg → base.NoSeer → FnOk P w K mg base (L2.CX P w) k fa fd [x] (Cl K 1 lawC))
    (hlen : ns.length ≤ 63) (hbits : ∀ z ∈ ns, Builtin.Int.intBits z ≤ 1048576) :
    codeAny (model P w) callerA (.call (.ref fa) ⟨[.ref a], []⟩) (fun r s' => r = .ok (.ret (.bool true)) ∧ OldK s₁.heap s'.heap ∧ s'.os = s₁.os ∧ AllBare s'.gens) s₁ := by
  have rv : Vals (ns.map V.int) vs := vals_ints hi
  have lv : vs.length = ns.length := hi.length
  have small : ns.length ≤ sizeLine := Nat.le_trans hlen (by decide)
  cases hk : K.lookup a with
  | some o =>
    have e := KX a o hk
    rw [ha] at e
    cases e
    refine end_at (H := fun _ => none) KX hns hb hbb hlim hse hg ha hr hbind F hlen hbits (.inr ?_) (fun _ _ z => by cases z) (fun _ _ z => by cases z) (fun z => (z rfl).elim)
    exact ⟨_, vs.toArray, _, hk, rfl, rfl, rfl, by rw [List.size_toArray, lv]; exact small, rv⟩
  | none =>
    have at1 : ∀ (b : Addr) (u : HO), (if b = a then some (HO.frz { cls := .type "list", data := .seq vs.toArray } (.lst (ns.map V.int))) else none) = some u → b = a ∧ u = .frz { cls := .type "list", data := .seq vs.toArray } (.lst (ns.map V.int)) := by
      intro b u e
      by_cases h : b = a
      · rw [if_pos h] at e
        exact ⟨h, (Option.some.inj e).symm⟩
      · rw [if_neg h] at e
        cases e
    refine end_at (H := fun b => if b = a then some (HO.frz { cls := .type "list", data := .seq vs.toArray } (.lst (ns.map V.int))) else none) KX hns hb hbb hlim hse hg ha hr hbind F hlen hbits (.inl ⟨_, if_pos rfl⟩) ?_ ?_ fun _ => hk
    · intro b u e
      obtain ⟨rfl, rfl⟩ := at1 b u e
      exact ⟨ha, by rw [List.length_map]; exact small, vs, _, rv, ha⟩
    · intro b u e
      obtain ⟨h1, h2⟩ := at1 b u e
      exact ⟨h1, _, _, h2⟩
end
/-- THE END of a law row -/
theorem law_end {l : PySem.W.OpenLaw} {q : Program} {loose : List Str} {XP : (Str → Option Value) → Heap → Prop} {YP : World → Heap → Prop} {d : DefRec} {K : Params → PySem.W.Frag} {k : Nat} {x : Str}
    (hn : l.most = some 63) (hq : importsNone q = true) (hdf : d.params.defaults = []) (hr : Room k callerA) (hY : ∀ (w : World) (h : Heap), YP w h → (K w.params).In h)
    (F : ∀ (w : World) (mg : Str → Option Value) (fa : Addr) (h : Heap), (K w.params).In h → h.Ns mainGlobals mg → mg d.name = some (.ref fa) →
      ∃ fd : FuncData, (∀ (s : Shared) (u : Value), BindsTo s fd ⟨[u], []⟩ [(x, u)]) ∧
        ∀ base : Heap, (K w.params).In base → base.Ns mainGlobals mg → base.NoSeer → FnOk l.prog w (K w.params) mg base (L2.CX l.prog w) k fa fd [x] (Cl (K w.params) 1 lawC)) :
    PySem.W.WalkO q loose XP YP l.row.toRowW d [] (fun f vs => PySem.call f vs) := by
  refine Att.attach_callB hn hdf fun w s₀ s₁ mg mb fa o pm cd doc a vs ns G Y ho hd hcd hmg hobj hints hlen hbits hg => ?_
  have KX := hY w _ Y
  obtain ⟨fd, hb, hF⟩ := F w mg fa _ KX G.T.g hmg
  exact end_call KX G.T.g G.T.b G.T.builtins G.T.nolimit (G.T.seer hq) hg hobj hints hr hb hF hlen hbits
end DL

set_option maxHeartbeats 1000000
namespace DL
open PySem PySem.Spec PyProof.Rows L2

/-- a def of the module's top, as the head leaves it -/
def FnK (K : PySem.W.Frag) (x : Str) (st : Stmt) : Prop := ∃ f fd, PySem.W.nsIn K mainGlobals x = some (some (.ref f)) ∧ Fun K x x st f fd
theorem fnk_mk {K : PySem.W.Frag} {x : Str} {st : Stmt} {f : Addr} {oc : Value} {od an : Option Addr} {osl : Array (Option Value)} {kV doc pm cdv ct : Value}
    {h : Heap} (_X : K.In h) (a : PySem.W.nsIn K mainGlobals x = some (some (.ref f))) (l : K.lookup f = some ⟨oc, od, .func (PySem.W.fnOf x x (defArgs st) (defBody st) (defScope st) .none kV doc pm an cdv ct), osl⟩)
    (c : PySem.W.codeIn K cdv x = true) (k : PySem.W.keepIn K (.ref f) = true) : FnK K x st := ⟨f, _, a, fun_mk l c k⟩
theorem nsk {K : PySem.W.Frag} {h : Heap} (_X : K.In h) {x : Str} (a : PySem.W.nsIn K mainGlobals x = some none) : PySem.W.nsIn K mainGlobals x = some none := a
section
variable {P : Program} {w : World} {K : PySem.W.Frag} {mg : Str → Option Value} {base : Heap} {G : Gm} {k : Nat}
def Prev (P : Program) (w : World) (K : PySem.W.Frag) (mg : Str → Option Value) (base : Heap) (G : Gm) (k : Nat) (F : List Str) : Prop :=
  ∀ y, F.contains y = true → ∃ n c, G.fn y = some (n, c) ∧ FnAt P w K mg base k y n c
theorem prev_nil : Prev P w K mg base G k [] := fun y h => by cases h
theorem prev_cons {x : Str} {F : List Str} {n : Nat} {c : Ctr} (h : Prev P w K mg base G k F) (e : G.fn x = some (n, c)) (f : FnAt P w K mg base (k + 1) x n c) : Prev P w K mg base G (k + 1) (x :: F) := fun y hy => by
  rw [List.contains_cons, Bool.or_eq_true] at hy
  rcases hy with hy | hy
  · have : y = x := by simpa using hy
    rw [this]
    exact ⟨n, c, e, f⟩
  · obtain ⟨m, c', e', f'⟩ := h y hy
    exact ⟨m, c', e', f'.mono (Nat.le_succ k)⟩
theorem fn_step {x : Str} {st : Stmt} {N B F : List Str} {mu : List (Nat × Nat)} {ps : List Str} {n : Nat} {body : Ss} {c : Ctr} (X : K.In base) (hns : base.Ns mainGlobals mg) (M : Mo P w K mg base B G.gv) (hf : FnK K x st)
    (hb : ∀ (kV doc pm : Value) (an : Option Addr) (cdv ct : Value) (us : List Value), us.length = ps.length → bindArgs (PySem.W.fnOf x x (defArgs st) (defBody st) (defScope st) .none kV doc pm an cdv ct) ⟨us, []⟩ = pure (ps.zip us))
    (hsc : scopeC N ps (defScope st) = true) (hcomp : compSs ⟨N, B, F, mu⟩ n (defScope st) (defBody st) = some body) (hk : 40 ≤ k) (hprev : Prev P w K mg base G k F)
    (hc : ∀ ds H Q E, c ds H Q E → wpF G N body ds H Q E) : FnAt P w K mg base (k + 1) x ps.length c := by
  obtain ⟨f, fd, a, F0⟩ := hf
  exact ⟨f, fd, ps, rfl, PySem.W.mg_of X hns a, F0.kp, F0.binds hb, fn_sound F0 (p := ⟨N, B, F, mu⟩) hsc hcomp hk M hprev hc⟩
/-- the law itself -/
theorem law_fin {h : Heap} {fa : Addr} {x : Str} {st : Stmt} {N B F : List Str} {mu : List (Nat × Nat)} {sn : Str} {n : Nat} {body : Ss} (X : K.In h) (hns : h.Ns mainGlobals mg) (hmg : mg x = some (.ref fa)) (hf : FnK K x st)
    (hb : ∀ (kV doc pm : Value) (an : Option Addr) (cdv ct : Value) (u : Value), bindArgs (PySem.W.fnOf x x (defArgs st) (defBody st) (defScope st) .none kV doc pm an cdv ct) ⟨[u], []⟩ = pure [(sn, u)])
    (hsc : scopeC N [sn] (defScope st) = true) (hcomp : compSs ⟨N, B, F, mu⟩ n (defScope st) (defBody st) = some body) (hk : 40 ≤ k) (hc : ∀ ds H Q E, lawC ds H Q E → wpF G N body ds H Q E)
    (hp : ∀ base, K.In base → base.Ns mainGlobals mg → base.NoSeer → Mo P w K mg base B G.gv ∧ Prev P w K mg base G k F) :
    ∃ fd : FuncData, (∀ (s : Shared) (u : Value), BindsTo s fd ⟨[u], []⟩ [(sn, u)]) ∧
      ∀ base : Heap, K.In base → base.Ns mainGlobals mg → base.NoSeer → FnOk P w K mg base (L2.CX P w) (k + 1) fa fd [sn] (Cl K 1 lawC) := by
  obtain ⟨f, fd, a, F0⟩ := hf
  have e := PySem.W.mg_of X hns a
  rw [hmg] at e
  cases e
  refine ⟨fd, fun s u => ?_, fun base hX hN hS => ?_⟩
  · obtain ⟨oc, od, kV, doc, pm, an, cdv, ct, osl, rfl, lk, hcd⟩ := F0.ex
    exact BindsTo.of_eq (hb kV doc pm an cdv ct u)
  · obtain ⟨M, pr⟩ := hp base hX hN hS
    exact fn_sound F0 (p := ⟨N, B, F, mu⟩) hsc hcomp hk M pr hc
end
end DL

set_option maxHeartbeats 1000000
namespace DL
open PySem PySem.Spec PyProof.Rows L2
def N__law_whole : List Str := ["got"]
def b__law_whole : Ss := (.cons (.ret (.and (.bi false .isi (.cons (.v 0) (.cons (.ty "int") .nil))) (.not (.bi false .isi (.cons (.v 0) (.cons (.ty "bool") .nil)))))) .nil)
def N__law_is : List Str := ["got", "due"]
def b__law_is : Ss := (.cons (.ret (.and (.call "_law_whole" (.cons (.v 0) .nil)) (.cmp .Eq (.v 0) (.v 1)))) .nil)
def N_hold : List Str := ["v", "low", "high"]
def b_hold : Ss := (.cons (.cond (.cmp .Lt (.v 0) (.v 1)) (.cons (.ret (.v 1)) .nil) .nil) (.cons (.cond (.cmp .Gt (.v 0) (.v 2)) (.cons (.ret (.v 2)) .nil) .nil) (.cons (.ret (.v 0)) .nil)))
def N__law_holds : List Str := ["v", "low", "high", "at"]
def b__law_holds : Ss := (.cons (.loop (.nm 3) (.seq (.tup (.cons (.v 0) (.cons (.bin false .Sub (.v 1) (.k (.int 1))) (.cons (.v 1) (.cons (.v 2) (.cons (.bin false .Add (.v 2) (.k (.int 1))) .nil))))))) (.cons (.cond (.not (.call "_law_is" (.cons (.call "hold" (.cons (.v 3) (.cons (.v 1) (.cons (.v 2) .nil)))) (.cons (.ix (.bi false .sorted (.cons (.lst false (.cons (.v 1) (.cons (.v 3) (.cons (.v 2) .nil)))) .nil)) (.k (.int 1))) .nil)))) (.cons (.ret (.k (.bl false))) .nil) .nil) .nil)) (.cons (.ret (.k (.bl true))) .nil))
def N_straight : List Str := ["c", "a"]
def b_straight : Ss := (.cons (.cond (.cmp .Gt (.v 1) (.k (.int 0))) (.cons (.ret (.bin false .FloorDiv (.bin false .Add (.bin false .Mult (.k (.int 510)) (.v 0)) (.v 1)) (.bin false .Mult (.k (.int 2)) (.v 1)))) .nil) .nil) (.cons (.ret (.k (.int 0))) .nil))
def N__law_rounded : List Str := ["got", "total", "count"]
def b__law_rounded : Ss := (.cons (.ret (.and (.call "_law_whole" (.cons (.v 0) .nil)) (.ch (.bin false .Mult (.bin false .Mult (.k (.int 2)) (.v 2)) (.v 0)) .LtE (.bin false .Add (.bin false .Mult (.k (.int 2)) (.v 1)) (.v 2)) .Lt (.bin false .Add (.bin false .Mult (.bin false .Mult (.k (.int 2)) (.v 2)) (.v 0)) (.bin false .Mult (.k (.int 2)) (.v 2)))))) .nil)
def N__law_straights : List Str := ["c", "a", "size", "got"]
def b__law_straights : Ss := (.cons (.asg (.nm 2) (.bin false .Add (.k (.int 1)) (.bi false .abs (.cons (.v 1) .nil)))) (.cons (.asg (.nm 3) (.call "straight" (.cons (.v 0) (.cons (.v 1) .nil)))) (.cons (.cond (.and (.cmp .Gt (.v 1) (.k (.int 0))) (.not (.call "_law_rounded" (.cons (.v 3) (.cons (.bin false .Mult (.k (.int 255)) (.v 0)) (.cons (.v 1) .nil)))))) (.cons (.ret (.k (.bl false))) .nil) .nil) (.cons (.cond (.and (.cmp .LtE (.v 1) (.k (.int 0))) (.not (.call "_law_is" (.cons (.v 3) (.cons (.k (.int 0)) .nil))))) (.cons (.ret (.k (.bl false))) .nil) .nil) (.cons (.cond (.or (.not (.call "_law_rounded" (.cons (.call "straight" (.cons (.v 0) (.cons (.v 2) .nil))) (.cons (.bin false .Mult (.k (.int 255)) (.v 0)) (.cons (.v 2) .nil))))) (.not (.call "_law_is" (.cons (.call "straight" (.cons (.v 2) (.cons (.v 2) .nil))) (.cons (.k (.int 255)) .nil))))) (.cons (.ret (.k (.bl false))) .nil) .nil) (.cons (.ret (.and (.call "_law_is" (.cons (.call "straight" (.cons (.k (.int 0)) (.cons (.v 2) .nil))) (.cons (.k (.int 0)) .nil))) (.and (.call "_law_is" (.cons (.call "straight" (.cons (.v 0) (.cons (.k (.int 0)) .nil))) (.cons (.k (.int 0)) .nil))) (.call "_law_is" (.cons (.call "straight" (.cons (.v 0) (.cons (.neg (.v 2)) .nil))) (.cons (.k (.int 0)) .nil)))))) .nil))))))
def N_mean : List Str := ["total", "count"]
def b_mean : Ss := (.cons (.ret (.bin false .FloorDiv (.bin false .Add (.bin false .Mult (.k (.int 2)) (.v 0)) (.v 1)) (.bin false .Mult (.k (.int 2)) (.v 1)))) .nil)
def N__law_menu : List Str := ["cell", "rows", "many"]
def b__law_menu : Ss := (.cons (.cond (.cmp .Eq (.bin false .Mod (.bi false .int (.cons (.v 0) .nil)) (.k (.int 3))) (.k (.int 0))) (.cons (.ret (.ix (.v 1) (.bin false .Mod (.bi false .int (.cons (.bin false .FloorDiv (.v 0) (.k (.int 3))) .nil)) (.bi false .len (.cons (.v 1) .nil))))) .nil) .nil) (.cons (.ret (.bin false .Mod (.bi false .int (.cons (.bin false .FloorDiv (.v 0) (.k (.int 3))) .nil)) (.v 2))) .nil))
def N__law_quotients : List Str := ["total", "count", "t", "cell", "rest"]
def b__law_quotients : Ss := (.cons (.asg (.nm 4) (.call "_law_menu" (.cons (.v 3) (.cons (.lst false (.cons (.bin false .FloorDiv (.v 1) (.k (.int 2))) (.cons (.bi false .min (.cons (.bin false .Sub (.v 1) (.k (.int 1))) (.cons (.bin false .FloorDiv (.bin false .Add (.v 1) (.k (.int 1))) (.k (.int 2))) .nil))) (.cons (.bin false .Sub (.v 1) (.k (.int 1))) (.cons (.k (.int 0)) .nil))))) (.cons (.v 1) .nil))))) (.cons (.cond (.or (.not (.call "_law_rounded" (.cons (.call "mean" (.cons (.v 0) (.cons (.v 1) .nil))) (.cons (.v 0) (.cons (.v 1) .nil))))) (.not (.call "_law_is" (.cons (.call "mean" (.cons (.bin false .Mult (.v 1) (.v 2)) (.cons (.v 1) .nil))) (.cons (.v 2) .nil))))) (.cons (.ret (.k (.bl false))) .nil) .nil) (.cons (.ret (.call "_law_is" (.cons (.call "mean" (.cons (.bin false .Add (.bin false .Mult (.v 1) (.v 2)) (.v 4)) (.cons (.v 1) .nil))) (.cons (.bin false .Add (.v 2) (.bi false .int (.cons (.cmp .GtE (.bin false .Mult (.k (.int 2)) (.v 4)) (.v 1)) .nil))) .nil)))) .nil)))
def N_near : List Str := ["n"]
def b_near : Ss := (.cons (.ret (.bin false .FloorDiv (.bin false .Add (.v 0) (.k (.int 127))) (.k (.int 255)))) .nil)
def N_mix : List Str := ["d", "f", "k"]
def b_mix : Ss := (.cons (.ret (.call "near" (.cons (.bin false .Add (.bin false .Mult (.v 0) (.bin false .Sub (.k (.int 255)) (.v 2))) (.bin false .Mult (.v 1) (.v 2))) .nil))) .nil)
def N__law_nearest : List Str := ["got", "n"]
def b__law_nearest : Ss := (.cons (.ret (.and (.call "_law_whole" (.cons (.v 0) .nil)) (.ch (.neg (.k (.int 127))) .LtE (.bin false .Sub (.bin false .Mult (.k (.int 255)) (.v 0)) (.v 1)) .LtE (.k (.int 127))))) .nil)
def N_mul : List Str := ["x", "y"]
def b_mul : Ss := (.cons (.ret (.call "near" (.cons (.bin false .Mult (.v 0) (.v 1)) .nil))) .nil)
def N__law_products : List Str := ["x", "y", "d", "f", "k", "share", "got"]
def b__law_products : Ss := (.cons (.asg (.nm 6) (.call "mix" (.cons (.v 2) (.cons (.v 3) (.cons (.v 5) .nil))))) (.cons (.cond (.or (.not (.call "_law_nearest" (.cons (.call "mul" (.cons (.v 0) (.cons (.v 1) .nil))) (.cons (.bin false .Mult (.v 0) (.v 1)) .nil)))) (.or (.not (.call "_law_is" (.cons (.call "mul" (.cons (.v 0) (.cons (.k (.int 255)) .nil))) (.cons (.v 0) .nil)))) (.not (.call "_law_is" (.cons (.call "mul" (.cons (.k (.int 255)) (.cons (.v 1) .nil))) (.cons (.v 1) .nil)))))) (.cons (.ret (.k (.bl false))) .nil) .nil) (.cons (.cond (.or (.not (.call "_law_nearest" (.cons (.call "mix" (.cons (.v 2) (.cons (.v 3) (.cons (.v 4) .nil)))) (.cons (.bin false .Add (.bin false .Mult (.v 2) (.bin false .Sub (.k (.int 255)) (.v 4))) (.bin false .Mult (.v 3) (.v 4))) .nil)))) (.not (.call "_law_is" (.cons (.call "mix" (.cons (.v 2) (.cons (.v 2) (.cons (.v 5) .nil)))) (.cons (.v 2) .nil))))) (.cons (.ret (.k (.bl false))) .nil) .nil) (.cons (.cond (.or (.not (.call "_law_nearest" (.cons (.v 6) (.cons (.bin false .Add (.bin false .Mult (.v 2) (.bin false .Sub (.k (.int 255)) (.v 5))) (.bin false .Mult (.v 3) (.v 5))) .nil)))) (.not (.ch (.bi false .min (.cons (.v 2) (.cons (.v 3) .nil))) .LtE (.v 6) .LtE (.bi false .max (.cons (.v 2) (.cons (.v 3) .nil)))))) (.cons (.ret (.k (.bl false))) .nil) .nil) (.cons (.ret (.and (.call "_law_is" (.cons (.call "mix" (.cons (.v 2) (.cons (.v 3) (.cons (.k (.int 0)) .nil)))) (.cons (.v 2) .nil))) (.call "_law_is" (.cons (.call "mix" (.cons (.v 2) (.cons (.v 3) (.cons (.k (.int 255)) .nil)))) (.cons (.v 3) .nil))))) .nil)))))
def N__law_nears : List Str := ["n", "m", "cell", "rest", "got", "after", "base"]
def b__law_nears : Ss := (.cons (.asg (.nm 3) (.call "_law_menu" (.cons (.v 2) (.cons (.lst false (.cons (.k (.int 127)) (.cons (.k (.int 128)) (.cons (.k (.int 126)) (.cons (.k (.int 129)) (.cons (.k (.int 0)) (.cons (.k (.int 254)) .nil))))))) (.cons (.k (.int 255)) .nil))))) (.cons (.asg (.nm 4) (.call "near" (.cons (.v 0) .nil))) (.cons (.asg (.nm 5) (.call "near" (.cons (.bin false .Add (.v 0) (.k (.int 1))) .nil))) (.cons (.asg (.nm 6) (.call "near" (.cons (.v 1) .nil))) (.cons (.cond (.or (.not (.call "_law_nearest" (.cons (.v 4) (.cons (.v 0) .nil)))) (.or (.not (.call "_law_nearest" (.cons (.v 5) (.cons (.bin false .Add (.v 0) (.k (.int 1))) .nil)))) (.not (.call "_law_nearest" (.cons (.v 6) (.cons (.v 1) .nil)))))) (.cons (.ret (.k (.bl false))) .nil) .nil) (.cons (.cond (.or (.cmp .NotIn (.bin false .Sub (.v 5) (.v 4)) (.tup (.cons (.k (.int 0)) (.cons (.k (.int 1)) .nil)))) (.or (.not (.call "_law_is" (.cons (.call "near" (.cons (.bin false .Mult (.k (.int 255)) (.v 0)) .nil)) (.cons (.v 0) .nil)))) (.not (.call "_law_is" (.cons (.call "near" (.cons (.bin false .Add (.bin false .Mult (.k (.int 255)) (.v 0)) (.v 1)) .nil)) (.cons (.bin false .Add (.v 0) (.v 6)) .nil)))))) (.cons (.ret (.k (.bl false))) .nil) .nil) (.cons (.ret (.call "_law_is" (.cons (.call "near" (.cons (.bin false .Add (.bin false .Mult (.k (.int 255)) (.v 0)) (.v 3)) .nil)) (.cons (.bin false .Add (.v 0) (.bi false .int (.cons (.cmp .Gt (.v 3) (.k (.int 127))) .nil))) .nil)))) .nil)))))))
def N__law_cell : List Str := ["script", "k"]
def b__law_cell : Ss := (.cons (.cond (.cmp .Lt (.v 1) (.bi false .len (.cons (.v 0) .nil))) (.cons (.ret (.bi false .int (.cons (.ix (.v 0) (.v 1)) .nil))) .nil) .nil) (.cons (.ret (.k (.int 0))) .nil))
def N_law : List Str := ["script", "row", "k", "share"]
def b_law : Ss := (.cons (.asg (.nm 1) (.lc false (.call "_law_cell" (.cons (.v 0) (.cons (.v 2) .nil))) (.nm 2) (.rng1 (.k (.int 18))) .nil [2])) (.cons (.asg (.nm 3) (.call "_law_menu" (.cons (.ix (.v 1) (.k (.int 8))) (.cons (.lst false (.cons (.k (.int 0)) (.cons (.k (.int 255)) (.cons (.k (.int 1)) (.cons (.k (.int 254)) (.cons (.k (.int 127)) (.cons (.k (.int 128)) .nil))))))) (.cons (.k (.int 256)) .nil))))) (.cons (.cond (.or (.not (.call "_law_nears" (.cons (.ix (.v 1) (.k (.int 0))) (.cons (.ix (.v 1) (.k (.int 1))) (.cons (.ix (.v 1) (.k (.int 2))) .nil))))) (.not (.call "_law_products" (.cons (.ix (.v 1) (.k (.int 3))) (.cons (.ix (.v 1) (.k (.int 4))) (.cons (.ix (.v 1) (.k (.int 5))) (.cons (.ix (.v 1) (.k (.int 6))) (.cons (.ix (.v 1) (.k (.int 7))) (.cons (.v 3) .nil))))))))) (.cons (.ret (.k (.bl false))) .nil) .nil) (.cons (.cond (.or (.not (.call "_law_quotients" (.cons (.ix (.v 1) (.k (.int 9))) (.cons (.bin false .Add (.k (.int 1)) (.bi false .abs (.cons (.ix (.v 1) (.k (.int 10))) .nil))) (.cons (.ix (.v 1) (.k (.int 11))) (.cons (.ix (.v 1) (.k (.int 12))) .nil)))))) (.not (.call "_law_straights" (.cons (.ix (.v 1) (.k (.int 13))) (.cons (.ix (.v 1) (.k (.int 14))) .nil))))) (.cons (.ret (.k (.bl false))) .nil) .nil) (.cons (.ret (.call "_law_holds" (.cons (.ix (.v 1) (.k (.int 15))) (.cons (.bi false .min (.cons (.ix (.v 1) (.k (.int 16))) (.cons (.ix (.v 1) (.k (.int 17))) .nil))) (.cons (.bi false .max (.cons (.ix (.v 1) (.k (.int 16))) (.cons (.ix (.v 1) (.k (.int 17))) .nil))) .nil))))) .nil)))))
/-! plain facts -/
theorem loopL_inv {turn : D → En → MH → (En → MH → Prop) → Prop} {keep : MH → Prop} (I : En → MH → Prop) : ∀ {xs : List D} {σ : En} {H : MH} {Q : En → MH → Prop}, (∀ σ H, I σ H → keep H) →
    (∀ x ∈ xs, ∀ σ H (Q : En → MH → Prop), I σ H → (∀ σ' H', I σ' H' → Q σ' H') → turn x σ H Q) → I σ H → (∀ σ' H', I σ' H' → Q σ' H') → loopL turn keep xs σ H Q
  | [], σ, H, Q, hk, ht, h0, hq => ⟨hk σ H h0, hq σ H h0⟩
  | x :: r, σ, H, Q, hk, ht, h0, hq => ⟨hk σ H h0, ht x List.mem_cons_self σ H _ h0 fun σ' H' h' => loopL_inv I hk (fun y hy => ht y (List.mem_cons_of_mem _ hy)) h' hq⟩
theorem lcL_map {step : D → MH → (Option D → MH → Prop) → Prop} {keep : MH → Prop} {H : MH} (f : D → D) (hk : keep H) : ∀ {xs : List D} {Q : List D → MH → Prop}, (∀ x ∈ xs, ∀ Q : Option D → MH → Prop, Q (some (f x)) H → step x H Q) → Q (xs.map f) H → lcL step keep xs H Q
  | [], Q, hs, q => ⟨hk, q⟩
  | x :: r, Q, hs, q => ⟨hk, hs x List.mem_cons_self _ (lcL_map f hk (fun y hy => hs y (List.mem_cons_of_mem _ hy)) q)⟩
theorem mulOk_of {i j : Int} {a b : Nat} (ha : i.natAbs < 2 ^ a) (hb : j.natAbs < 2 ^ b) (h0 : 0 < a) (h1 : 0 < b) (h : a + b ≤ 50000000) : mulOk i j := by
  have x := PySem.Flt.log2_lt_of h0 ha
  have y := PySem.Flt.log2_lt_of h1 hb
  unfold mulOk
  omega
theorem mulOk_l {i j : Int} (h : -(2 ^ 64) < i ∧ i < 2 ^ 64) : mulOk i j := .inl h
theorem mulOk_r {i j : Int} (h : -(2 ^ 64) < j ∧ j < 2 ^ 64) : mulOk i j := .inr (.inl h)
@[simp] theorem mulOk_lit (n : Nat) [h : OfNat Int n] : True := trivial
theorem pw_add (a c : Nat) : 2 ^ a * 2 ^ c = 2 ^ (a + c) := (Nat.pow_add 2 a c).symm
/-- sizes: below 2 ^ b -/
@[irreducible] def Sz (b : Nat) (i : Int) : Prop := i.natAbs < 2 ^ b
theorem Sz.mono {a b : Nat} {i : Int} (h : Sz a i) (l : a ≤ b) : Sz b i := by
  unfold Sz at *
  exact Nat.lt_of_lt_of_le h (Nat.pow_le_pow_right (by decide) l)
theorem Sz.add {a : Nat} {i j : Int} (h : Sz a i) (g : Sz a j) : Sz (a + 1) (i + j) := by
  unfold Sz at *
  rw [Nat.pow_succ]
  omega
theorem Sz.sub {a : Nat} {i j : Int} (h : Sz a i) (g : Sz a j) : Sz (a + 1) (i - j) := by
  unfold Sz at *
  rw [Nat.pow_succ]
  omega
theorem Sz.mul {a b : Nat} {i j : Int} (h : Sz a i) (g : Sz b j) : Sz (a + b) (i * j) := by
  unfold Sz at *
  rw [Int.natAbs_mul, Nat.pow_add]
  exact Nat.mul_lt_mul'' h g
theorem Sz.lit {n : Int} {b : Nat} (h : n.natAbs < 2 ^ 10) (hb : 10 ≤ b) : Sz b n := by
  unfold Sz
  exact Nat.lt_of_lt_of_le h (Nat.pow_le_pow_right (by decide) hb)
theorem Sz.le {b : Nat} {i j : Int} (h : Sz b j) (l : i.natAbs ≤ j.natAbs) : Sz b i := by
  unfold Sz at *
  exact Nat.lt_of_le_of_lt l h
theorem Sz.absucc {b : Nat} {a : Int} (h : Sz b a) : Sz (b + 1) (1 + if a < 0 then -a else a) := by
  unfold Sz at *
  rw [Nat.pow_succ]
  generalize (2 : Nat) ^ b = w at *
  split <;> omega
theorem Sz.ok {a b : Nat} {i j : Int} (h : Sz a i) (g : Sz b j) (ha : 0 < a) (hb : 0 < b) (l : a + b ≤ 50000000) : mulOk i j := by
  unfold Sz at *
  exact mulOk_of h g ha hb l
theorem div_is {N c t : Int} (hc : 0 < c) (h1 : c * t ≤ N) (h2 : N < c * t + c) : N / c = t := by
  rw [Int.ediv_eq_iff_of_pos hc, Int.mul_comm t c]
  exact ⟨h1, h2⟩
theorem div_small {N c : Int} (hc : 0 < c) : (N / c).natAbs ≤ N.natAbs := by
  have h1 := Int.mul_ediv_self_le (x := N) (k := c) (by omega)
  have h2 := Int.lt_mul_ediv_self_add (x := N) hc
  rcases Int.lt_or_le N 0 with h | h
  · have : N / c < 0 := Int.ediv_neg_of_neg_of_pos h hc
    have h3 : c * (N / c) ≤ 1 * (N / c) := Int.mul_le_mul_of_nonpos_right (by omega) (by omega)
    have h4 : N ≤ N / c := by
      have : N / c * c ≤ N := by rw [Int.mul_comm]; exact h1
      rcases Int.lt_or_le (N / c) N with q | q
      · exfalso
        have e : (N / c + 1) * c ≤ N * 1 := by
          have a1 : (N / c + 1) * c ≤ N * c := Int.mul_le_mul_of_nonneg_right (by omega) (by omega)
          have a2 : N * c ≤ N * 1 := Int.mul_le_mul_of_nonpos_left (by omega) (by omega)
          omega
        rw [Int.add_mul, Int.one_mul, Int.mul_comm (N / c) c] at e
        omega
      · exact q
    omega
  · have h3 : 0 ≤ N / c := Int.ediv_nonneg h (by omega)
    have h4 : 1 * (N / c) ≤ c * (N / c) := Int.mul_le_mul_of_nonneg_right (by omega) h3
    omega
theorem intsD_map : ∀ ns : List Int, intsD (ns.map D.int) = some ns
  | [] => rfl
  | n :: r => by
    rw [List.map_cons]
    unfold intsD
    rw [intsD_map r]; rfl
theorem sort3 {a b c : Int} {ms L : List Int} (hp : ms.Perm [a, b, c]) (hs : ms.Pairwise (· ≤ ·)) (hl : L.Perm [a, b, c]) (hls : L.Pairwise (· ≤ ·)) : ms = L :=
  List.Perm.eq_of_pairwise (fun x y _ _ h1 h2 => by omega) hs hls (hp.trans hl.symm)
/-! the defs -/
def nr (n : Int) : Int := (n + 127) / 255
def c_near : Ctr := fun ds H Q _ => ∃ n, ds = [.int n] ∧ Q (.int (nr n)) H
def c_mul : Ctr := fun ds H Q _ => ∃ x y, ds = [.int x, .int y] ∧ mulOk x y ∧ Q (.int (nr (x * y))) H
def c_mix : Ctr := fun ds H Q _ => ∃ d f k, ds = [.int d, .int f, .int k] ∧ mulOk d (255 - k) ∧ mulOk f k ∧ Q (.int (nr (d * (255 - k) + f * k))) H
def hld (v low high : Int) : Int := if v < low then low else if high < v then high else v
def c_hold : Ctr := fun ds H Q _ => ∃ v low high : Int, ds = [.int v, .int low, .int high] ∧ Q (.int (hld v low high)) H
def stt (c a : Int) : Int := if 0 < a then (510 * c + a) / (2 * a) else 0
def c_straight : Ctr := fun ds H Q _ => ∃ c a : Int, ds = [.int c, .int a] ∧ Q (.int (stt c a)) H
def mn (t c : Int) : Int := (2 * t + c) / (2 * c)
def c_mean : Ctr := fun ds H Q _ => ∃ t c : Int, ds = [.int t, .int c] ∧ 0 < c ∧ Q (.int (mn t c)) H
def c__law_cell : Ctr := fun ds H Q _ => ∃ (ns : List Int) (k : Nat), ds = [.rol (ns.map D.int), .int k] ∧ Q (.int (ns.getD k 0)) H
def c__law_menu : Ctr := fun ds H Q _ => ∃ (cell : Int) (ms : List Int) (many : Int), ds = [.int cell, .rol (ms.map D.int), .int many] ∧ 0 < many ∧ 0 < ms.length ∧ ∀ r, (r ∈ ms ∨ (0 ≤ r ∧ r < many)) → Q (.int r) H
def c__law_whole : Ctr := fun ds H Q _ => ∃ n : Int, ds = [.int n] ∧ Q (.bl true) H
def c__law_is : Ctr := fun ds H Q _ => ∃ a b : Int, ds = [.int a, .int b] ∧ Q (.bl (decide (a = b))) H
def c__law_nearest : Ctr := fun ds H Q _ => ∃ a b : Int, ds = [.int a, .int b] ∧ Q (.bl (decide (-127 ≤ 255 * a - b ∧ 255 * a - b ≤ 127))) H
def c__law_rounded : Ctr := fun ds H Q _ => ∃ g t c : Int, ds = [.int g, .int t, .int c] ∧ mulOk (2 * c) g ∧ Q (.bl (decide (2 * c * g ≤ 2 * t + c ∧ 2 * t + c < 2 * c * g + 2 * c))) H
def c__law_nears : Ctr := fun ds H Q _ => ∃ n m c : Int, ds = [.int n, .int m, .int c] ∧ Q (.bl true) H
def c__law_products : Ctr := fun ds H Q _ => ∃ x y d f k s : Int, ds = [.int x, .int y, .int d, .int f, .int k, .int s] ∧ Sz 2000000 x ∧ Sz 2000000 y ∧ Sz 2000000 d ∧ Sz 2000000 f ∧ Sz 2000000 k ∧ 0 ≤ s ∧ s ≤ 255 ∧ Q (.bl true) H
def c__law_quotients : Ctr := fun ds H Q _ => ∃ t c u k : Int, ds = [.int t, .int c, .int u, .int k] ∧ 0 < c ∧ Sz 2000000 t ∧ Sz 2000000 c ∧ Sz 2000000 u ∧ Q (.bl true) H
def c__law_straights : Ctr := fun ds H Q _ => ∃ c a : Int, ds = [.int c, .int a] ∧ Sz 2000000 c ∧ Sz 2000000 a ∧ Q (.bl true) H
def c__law_holds : Ctr := fun ds H Q _ => ∃ v low high : Int, ds = [.int v, .int low, .int high] ∧ low ≤ high ∧ Q (.bl true) H
def c_law : Ctr := lawC
theorem q_dec {Q : D → MH → Prop} {H : MH} {P R : Prop} [Decidable P] [Decidable R] (q : Q (.bl (decide P)) H) (h : P ↔ R) : Q (.bl (decide R)) H := by
  have e : decide P = decide R := by simp only [h]
  rwa [e] at q
theorem q_f {Q : D → MH → Prop} {H : MH} {P : Prop} [Decidable P] (q : Q (.bl (decide P)) H) (h : ¬ P) : Q (.bl false) H := by
  rwa [decide_eq_false h] at q
theorem q_t {Q : D → MH → Prop} {H : MH} {P : Prop} [Decidable P] (q : Q (.bl (decide P)) H) (h : P) : Q (.bl true) H := by
  rwa [decide_eq_true h] at q
theorem q_i {Q : D → MH → Prop} {H : MH} {i j : Int} (q : Q (.int i) H) (h : i = j) : Q (.int j) H := h ▸ q
theorem q_b {Q : D → MH → Prop} {H : MH} {i j : Bool} (q : Q (.bl i) H) (h : i = j) : Q (.bl j) H := h ▸ q
theorem q_t2 {Q : D → MH → Prop} {H : MH} {P : Prop} [Decidable P] (q : Q (.bl true) H) (h : P) : Q (.bl (decide P)) H := by
  rwa [decide_eq_true h]
theorem ix_ro {ms : List Int} {i : Int} {H : MH} (h0 : 0 ≤ i) (h1 : i < ms.length) : ixD (.rol (ms.map D.int)) (.int i) H = some (.int (ms.getD i.toNat 0)) := by
  have h2 : i.toNat < ms.length := by omega
  show (seqAt H (.rol (ms.map D.int))).bind (fun xs => atI xs i) = _
  show atI (ms.map D.int) i = _
  have h3 : (ms.map D.int)[i.toNat]? = some (.int (ms.getD i.toNat 0)) := by
    rw [List.getElem?_map, List.getElem?_eq_getElem h2, List.getD_eq_getElem?_getD, List.getElem?_eq_getElem h2]
    rfl
  unfold atI ixN
  rw [List.length_map, if_pos h0, if_pos h1]
  exact h3
theorem getD_mem {ms : List Int} {k : Nat} (h : k < ms.length) : ms.getD k 0 ∈ ms := by
  rw [List.getD_eq_getElem?_getD, List.getElem?_eq_getElem h]
  exact List.getElem_mem h
local macro_rules | `(tactic| walk_at "plain") => `(tactic| simp only [Bool.not_eq_true', Bool.not_eq_false', Bool.not_eq_eq_eq_not, Bool.not_true, Bool.not_false, decide_eq_true_eq, decide_eq_false_iff_not, List.any_cons, List.any_nil, eqF, eqD, Option.getD, Bool.or_false, Bool.or_eq_true, Bool.or_eq_false_iff, beq_iff_eq, beq_eq_false_iff_ne, ne_eq] at *)
local macro_rules | `(tactic| walk_at "fin") => `(tactic| first | (refine q_dec (by assumption) ?_; omega) | (refine q_f (by assumption) ?_; omega) | (refine q_t (by assumption) ?_; omega))
local macro_rules | `(tactic| walk_at "side") => `(tactic| first | assumption | omega | (exact trivial) | (exact Nat.le_of_ble_eq_true rfl) | (exact mulOk_l (by omega)) | (exact mulOk_r (by omega)))
local macro_rules | `(tactic| walk_at "step") => `(tactic| (conv => whnf); (first
  | (refine ⟨_, rfl, ?_⟩)
  | (refine ⟨_, _, by assumption, rfl, ?_⟩)
  | (refine ⟨_, _, rfl, ?_⟩)
  | (refine ⟨_, _, _, rfl, ?_⟩)
  | (refine And.intro (by walk_at "side") ?_)
  | (refine And.intro ?_ ?_)
  | (refine br_dec (fun h => ?_) (fun h => ?_))
  | (refine br_b (fun h => ?_) (fun h => ?_))
  | (refine Rt.now ?_)))
local macro_rules | `(tactic| walk_at "go") => `(tactic| repeat' (first | assumption | walk_at "step"))
theorem k_near (G : Gm) : ∀ ds H Q E, c_near ds H Q E → wpF G N_near b_near ds H Q E := by
  rintro ds H Q E ⟨n, rfl, q⟩
  walk_at "go"
theorem k_mul (G : Gm) (g1 : G.fn "near" = some (1, c_near)) : ∀ ds H Q E, c_mul ds H Q E → wpF G N_mul b_mul ds H Q E := by
  rintro ds H Q E ⟨x, y, rfl, hm, q⟩
  walk_at "go"
theorem k_mix (G : Gm) (g1 : G.fn "near" = some (1, c_near)) : ∀ ds H Q E, c_mix ds H Q E → wpF G N_mix b_mix ds H Q E := by
  rintro ds H Q E ⟨d, f, k, rfl, h1, h2, q⟩
  walk_at "go"
theorem k_hold (G : Gm) : ∀ ds H Q E, c_hold ds H Q E → wpF G N_hold b_hold ds H Q E := by
  rintro ds H Q E ⟨v, low, high, rfl, q⟩
  walk_at "go"
  · exact q_i q (if_pos (by assumption))
  · rename_i h1 h2
    exact q_i q ((if_neg h1).trans (if_pos h2))
  · rename_i h1 h2
    exact q_i q ((if_neg h1).trans (if_neg h2))
theorem k_straight (G : Gm) : ∀ ds H Q E, c_straight ds H Q E → wpF G N_straight b_straight ds H Q E := by
  rintro ds H Q E ⟨c, a, rfl, q⟩
  walk_at "go"
  · exact q_i q (if_pos (by assumption))
  · exact q_i q (if_neg (by assumption))
theorem k_mean (G : Gm) : ∀ ds H Q E, c_mean ds H Q E → wpF G N_mean b_mean ds H Q E := by
  rintro ds H Q E ⟨t, c, rfl, h, q⟩
  walk_at "go"
theorem k__law_cell (G : Gm) : ∀ ds H Q E, c__law_cell ds H Q E → wpF G N__law_cell b__law_cell ds H Q E := by
  rintro ds H Q E ⟨ns, k, rfl, q⟩
  walk_at "go"
  · rename_i h
    rw [List.length_map] at h
    refine ⟨_, ix_ro (by omega) h, ?_⟩
    walk_at "go"
  · rename_i h
    rw [List.length_map] at h
    refine q_i q ?_
    rw [List.getD_eq_getElem?_getD, List.getElem?_eq_none (by omega)]
    rfl
theorem k__law_menu (G : Gm) : ∀ ds H Q E, c__law_menu ds H Q E → wpF G N__law_menu b__law_menu ds H Q E := by
  rintro ds H Q E ⟨cell, ms, many, rfl, hm, hl, q⟩
  walk_at "go"
  · rw [List.length_map]; omega
  · have h0 : 0 ≤ cell / 3 % (ms.length : Int) := Int.emod_nonneg _ (by omega)
    have h1 : cell / 3 % (ms.length : Int) < ms.length := Int.emod_lt_of_pos _ (by omega)
    refine ⟨_, ix_ro (by rw [List.length_map]; exact h0) (by rw [List.length_map]; exact h1), ?_⟩
    refine Rt.now ?_
    exact q _ (.inl (getD_mem (by rw [List.length_map]; omega)))
  · exact q _ (.inr ⟨Int.emod_nonneg _ (by omega), Int.emod_lt_of_pos _ hm⟩)
theorem k__law_whole (G : Gm) : ∀ ds H Q E, c__law_whole ds H Q E → wpF G N__law_whole b__law_whole ds H Q E := by
  rintro ds H Q E ⟨n, rfl, q⟩
  walk_at "go"
theorem k__law_is (G : Gm) (g1 : G.fn "_law_whole" = some (1, c__law_whole)) : ∀ ds H Q E, c__law_is ds H Q E → wpF G N__law_is b__law_is ds H Q E := by
  rintro ds H Q E ⟨a, b, rfl, q⟩
  walk_at "go"
theorem k__law_nearest (G : Gm) (g1 : G.fn "_law_whole" = some (1, c__law_whole)) : ∀ ds H Q E, c__law_nearest ds H Q E → wpF G N__law_nearest b__law_nearest ds H Q E := by
  rintro ds H Q E ⟨a, b, rfl, q⟩
  walk_at "go"
  all_goals walk_at "fin"
theorem k__law_rounded (G : Gm) (g1 : G.fn "_law_whole" = some (1, c__law_whole)) : ∀ ds H Q E, c__law_rounded ds H Q E → wpF G N__law_rounded b__law_rounded ds H Q E := by
  rintro ds H Q E ⟨g, t, c, rfl, hm, q⟩
  walk_at "go"
  all_goals walk_at "fin"
theorem k__law_nears (G : Gm) (g1 : G.fn "_law_menu" = some (3, c__law_menu)) (g2 : G.fn "near" = some (1, c_near)) (g3 : G.fn "_law_nearest" = some (2, c__law_nearest)) (g4 : G.fn "_law_is" = some (2, c__law_is)) : ∀ ds H Q E, c__law_nears ds H Q E → wpF G N__law_nears b__law_nears ds H Q E := by
  rintro ds H Q E ⟨n, m, c, rfl, q⟩
  walk_at "go"
  refine ⟨_, [127, 128, 126, 129, 0, 254], _, rfl, by decide, by decide, fun r hr => ?_⟩
  have hr2 : 0 ≤ r ∧ r ≤ 254 := by
    rcases hr with hr | hr
    · simp only [List.mem_cons, List.not_mem_nil, or_false] at hr; omega
    · omega
  clear hr
  walk_at "go"
  all_goals first
    | (exfalso; walk_at "plain"; simp only [nr] at *; omega)
    | (refine q_t2 (by assumption) ?_; simp only [nr] at *; split <;> walk_at "plain" <;> omega)


theorem k__law_products (G : Gm) (g1 : G.fn "mix" = some (3, c_mix)) (g2 : G.fn "_law_nearest" = some (2, c__law_nearest)) (g3 : G.fn "mul" = some (2, c_mul)) (g4 : G.fn "_law_is" = some (2, c__law_is)) : ∀ ds H Q E, c__law_products ds H Q E → wpF G N__law_products b__law_products ds H Q E := by
  rintro ds H Q E ⟨x, y, d, f, k, s, rfl, hx, hy, hd, hf, hk, s0, s1, q⟩
  have m1 : mulOk x y := Sz.ok hx hy (by omega) (by omega) (by omega)
  have m2 : mulOk d (255 - k) := Sz.ok hd (Sz.sub (Sz.lit (b := 2000000) (by decide) (by omega)) hk) (by omega) (by omega) (by omega)
  have m3 : mulOk f k := Sz.ok hf hk (by omega) (by omega) (by omega)
  have e1 : d * (255 - s) = 255 * d - d * s := by rw [Int.mul_sub]; omega
  have e2 : f * (255 - s) = 255 * f - f * s := by rw [Int.mul_sub]; omega
  have e3 : d ≤ f → d * s ≤ f * s ∧ d * (255 - s) ≤ f * (255 - s) := fun h => ⟨Int.mul_le_mul_of_nonneg_right h s0, Int.mul_le_mul_of_nonneg_right h (by omega)⟩
  have e4 : f ≤ d → f * s ≤ d * s ∧ f * (255 - s) ≤ d * (255 - s) := fun h => ⟨Int.mul_le_mul_of_nonneg_right h s0, Int.mul_le_mul_of_nonneg_right h (by omega)⟩
  walk_at "go"
  all_goals first
    | (exfalso; walk_at "plain"; simp only [nr] at *; omega)
    | (refine q_t2 (by assumption) ?_; simp only [nr] at *; omega)


theorem k__law_quotients (G : Gm) (g1 : G.fn "_law_menu" = some (3, c__law_menu)) (g2 : G.fn "_law_rounded" = some (3, c__law_rounded)) (g3 : G.fn "mean" = some (2, c_mean)) (g4 : G.fn "_law_is" = some (2, c__law_is)) : ∀ ds H Q E, c__law_quotients ds H Q E → wpF G N__law_quotients b__law_quotients ds H Q E := by
  rintro ds H Q E ⟨t, c, u, k, rfl, h0, ht, hc, hu, q⟩
  have m1 : mulOk c u := Sz.ok hc hu (by omega) (by omega) (by omega)
  have m2 : mulOk (2 * c) (mn t c) := by
    refine Sz.ok (a := 2000010) (b := 2000020) (Sz.mono (Sz.mul (Sz.lit (b := 10) (by decide) (by omega)) hc) (by omega)) (Sz.le (Sz.mono (Sz.add (a := 2000010) (Sz.mono (Sz.mul (Sz.lit (n := 2) (b := 10) (by decide) (by omega)) ht) (by omega)) (Sz.mono hc (by omega))) (by omega)) (div_small (by omega))) (by omega) (by omega) (by omega)
  have r1 : 2 * c * mn t c ≤ 2 * t + c ∧ 2 * t + c < 2 * c * mn t c + 2 * c := ⟨Int.mul_ediv_self_le (by omega), Int.lt_mul_ediv_self_add (by omega)⟩
  have ea : 2 * c * u = 2 * (c * u) := Int.mul_assoc 2 c u
  have r2 : mn (c * u) c = u := div_is (by omega) (by omega) (by omega)
  have r3 : ∀ r, 0 ≤ r → r < c → mn (c * u + r) c = u + (if decide (c ≤ 2 * r) then 1 else 0) := by
    intro r a b
    by_cases h : c ≤ 2 * r
    · rw [decide_eq_true h, if_pos rfl]
      have : 2 * c * (u + 1) = 2 * (c * u) + 2 * c := by rw [Int.mul_add, ea]; omega
      exact div_is (by omega) (by omega) (by omega)
    · rw [decide_eq_false h, if_neg (by decide), Int.add_zero]
      exact div_is (by omega) (by omega) (by omega)
  walk_at "go"
  refine ⟨_, [c / 2, (if (c + 1) / 2 < c - 1 then (c + 1) / 2 else c - 1), c - 1, 0], _, rfl, h0, Nat.zero_lt_succ _, fun r hr => ?_⟩
  have hr2 : 0 ≤ r ∧ r < c := by
    rcases hr with hr | hr
    · simp only [List.mem_cons, List.not_mem_nil, or_false] at hr
      rcases hr with rfl | rfl | rfl | rfl
      · omega
      · split <;> omega
      · omega
      · omega
    · exact hr
  clear hr
  have r4 := r3 r hr2.1 hr2.2
  clear r3
  walk_at "go"
  all_goals first
    | (exfalso; walk_at "plain"; omega)
    | (refine q_t2 (by assumption) ?_; exact r4)


theorem stt_div {c a : Int} (h : 0 < a) : stt c a = (510 * c + a) / (2 * a) := if_pos h
theorem stt_pos {c a : Int} (h : 0 < a) : 2 * a * stt c a ≤ 2 * (255 * c) + a ∧ 2 * (255 * c) + a < 2 * a * stt c a + 2 * a := by
  rw [stt_div h]
  have h1 := Int.mul_ediv_self_le (x := 510 * c + a) (k := 2 * a) (by omega)
  have h2 := Int.lt_mul_ediv_self_add (x := 510 * c + a) (k := 2 * a) (by omega)
  omega
theorem stt_sz {c a : Int} (h : 0 < a) (hc : Sz 2000001 c) (ha : Sz 2000001 a) : mulOk (2 * a) (stt c a) := by
  rw [stt_div h]
  exact Sz.ok (a := 2000020) (b := 2000021) (Sz.mono (Sz.mul (Sz.lit (n := 2) (b := 10) (by decide) (by omega)) ha) (by omega)) (Sz.le (Sz.add (a := 2000020) (Sz.mono (Sz.mul (Sz.lit (n := 510) (b := 10) (by decide) (by omega)) hc) (by omega)) (Sz.mono ha (by omega))) (div_small (by omega))) (by omega) (by omega) (by omega)
theorem k__law_straights (G : Gm) (g1 : G.fn "straight" = some (2, c_straight)) (g2 : G.fn "_law_rounded" = some (3, c__law_rounded)) (g3 : G.fn "_law_is" = some (2, c__law_is)) : ∀ ds H Q E, c__law_straights ds H Q E → wpF G N__law_straights b__law_straights ds H Q E := by
  rintro ds H Q E ⟨c, a, rfl, hc, ha, q⟩
  have hp : 0 < (1 + if a < 0 then -a else a) := by split <;> omega
  have hz : Sz 2000001 (1 + if a < 0 then -a else a) := Sz.absucc ha
  have m0 : 0 < a → mulOk (2 * a) (stt c a) := fun h => stt_sz h (hc.mono (by omega)) (ha.mono (by omega))
  have m1 : mulOk (2 * (1 + if a < 0 then -a else a)) (stt c (1 + if a < 0 then -a else a)) := stt_sz hp (hc.mono (by omega)) hz
  have f1 : 0 < a → _ := fun h => stt_pos (c := c) h
  have f2 := stt_pos (c := c) hp
  have f3 : stt (1 + if a < 0 then -a else a) (1 + if a < 0 then -a else a) = 255 := by
    rw [stt_div hp]
    generalize (1 + if a < 0 then -a else a) = A at *
    exact div_is (by omega) (by omega) (by omega)
  have f4 : stt 0 (1 + if a < 0 then -a else a) = 0 := by
    rw [stt_div hp]
    generalize (1 + if a < 0 then -a else a) = A at *
    exact div_is (by omega) (by omega) (by omega)
  have f5 : stt c 0 = 0 := if_neg (by omega)
  have f6 : stt c (-(1 + if a < 0 then -a else a)) = 0 := if_neg (by omega)
  have f7 : a ≤ 0 → stt c a = 0 := fun h => if_neg (by omega)
  walk_at "go"
  all_goals first
    | exact m0 (by assumption)
    | (refine q_t2 (by assumption) ?_; assumption)
    | (exfalso; clear m0 m1 hc ha hz; walk_at "plain"; generalize (1 + if a < 0 then -a else a) = A at *; omega)


theorem pw3 {a b c : Int} (h : a ≤ b) (g : b ≤ c) : [a, b, c].Pairwise (· ≤ ·) := by
  refine .cons (fun x hx => ?_) (.cons (fun x hx => ?_) (.cons (fun x hx => by cases hx) .nil))
  · simp only [List.mem_cons, List.not_mem_nil, or_false] at hx; omega
  · simp only [List.mem_cons, List.not_mem_nil, or_false] at hx; omega
theorem mid3 {v low high : Int} {ms : List Int} (hl : low ≤ high) (hp : ms.Perm [low, v, high]) (hs : ms.Pairwise (· ≤ ·)) : hld v low high = ms.getD 1 0 := by
  unfold hld
  split
  · rw [sort3 (L := [v, low, high]) hp hs (List.Perm.swap _ _ _) (by exact pw3 (by omega) (by omega))]; rfl
  · split
    · rw [sort3 (L := [low, high, v]) hp hs (List.Perm.cons _ (List.Perm.swap _ _ _)) (by exact pw3 (by omega) (by omega))]; rfl
    · rw [sort3 (L := [low, v, high]) hp hs (List.Perm.refl _) (by exact pw3 (by omega) (by omega))]; rfl
theorem turn3 {low v high : Int} {H : MH} {Q : DK} (hl : low ≤ high) (q : ∀ ms : List Int, ms.length = 3 ∧ hld v low high = ms.getD (Int.toNat 1) 0 → Q (.rol (ms.map D.int)) H) :
    ∀ ms : List Int, ms.Perm [low, v, high] → ms.Pairwise (· ≤ ·) → freshL false (ms.map D.int) H Q := fun ms hp hs =>
  ⟨by rw [List.length_map, hp.length_eq]; exact Nat.le_of_ble_eq_true rfl, q ms ⟨hp.length_eq, mid3 hl hp hs⟩⟩
theorem k__law_holds (G : Gm) (g1 : G.fn "_law_is" = some (2, c__law_is)) (g2 : G.fn "hold" = some (3, c_hold)) : ∀ ds H Q E, c__law_holds ds H Q E → wpF G N__law_holds b__law_holds ds H Q E := by
  rintro ds H Q E ⟨v, low, high, rfl, hl, q⟩
  walk_at "go"
  refine turn3 hl fun ms hm => ?_
  refine ⟨_, ix_ro (i := 1) (by omega) (by rw [hm.1]; exact (by decide : (1 : Int) < ((3 : Nat) : Int))), ?_⟩
  walk_at "go"
  · exfalso; walk_at "plain"; rename_i hx; exact hx hm.2

  refine turn3 hl fun ms hm => ?_
  refine ⟨_, ix_ro (i := 1) (by omega) (by rw [hm.1]; exact (by decide : (1 : Int) < ((3 : Nat) : Int))), ?_⟩
  walk_at "go"
  · exfalso; walk_at "plain"; rename_i hx; exact hx hm.2

  refine turn3 hl fun ms hm => ?_
  refine ⟨_, ix_ro (i := 1) (by omega) (by rw [hm.1]; exact (by decide : (1 : Int) < ((3 : Nat) : Int))), ?_⟩
  walk_at "go"
  · exfalso; walk_at "plain"; rename_i hx; exact hx hm.2

  refine turn3 hl fun ms hm => ?_
  refine ⟨_, ix_ro (i := 1) (by omega) (by rw [hm.1]; exact (by decide : (1 : Int) < ((3 : Nat) : Int))), ?_⟩
  walk_at "go"
  · exfalso; walk_at "plain"; rename_i hx; exact hx hm.2

  refine turn3 hl fun ms hm => ?_
  refine ⟨_, ix_ro (i := 1) (by omega) (by rw [hm.1]; exact (by decide : (1 : Int) < ((3 : Nat) : Int))), ?_⟩
  walk_at "go"
  · exfalso; walk_at "plain"; rename_i hx; exact hx hm.2

theorem sz_bits {z : Int} (h : Builtin.Int.intBits z ≤ 1048576) : Sz 1048576 z := by
  unfold Sz
  unfold Builtin.Int.intBits at h
  generalize 1048576 = w at *
  by_cases e : z = 0
  · subst e; exact Nat.two_pow_pos _
  · have e2 : (z == 0) = false := by rw [beq_eq_false_iff_ne]; exact e
    rw [e2] at h
    exact Nat.lt_of_lt_of_le Nat.lt_log2_self (Nat.pow_le_pow_right (by decide) h)
theorem getD_sz {ns : List Int} (h : ∀ z ∈ ns, Builtin.Int.intBits z ≤ 1048576) (k : Nat) : Sz 1048576 (ns.getD k 0) := by
  by_cases e : k < ns.length
  · exact sz_bits (h _ (getD_mem e))
  · rw [List.getD_eq_getElem?_getD, List.getElem?_eq_none (by omega)]
    exact Sz.lit (n := 0) (by decide) (by omega)
def cellF (ns : List Int) : D → D
  | .int (.ofNat k) => .int (ns.getD k 0)
  | d => d
theorem k_law (G : Gm) (g1 : G.fn "_law_cell" = some (2, c__law_cell)) (g2 : G.fn "_law_menu" = some (3, c__law_menu)) (g3 : G.fn "_law_nears" = some (3, c__law_nears)) (g4 : G.fn "_law_products" = some (6, c__law_products)) (g5 : G.fn "_law_quotients" = some (4, c__law_quotients)) (g6 : G.fn "_law_straights" = some (2, c__law_straights)) (g7 : G.fn "_law_holds" = some (3, c__law_holds)) : ∀ ds H Q E, c_law ds H Q E → wpF G N_law b_law ds H Q E := by
  rintro ds H Q E ⟨ns, rfl, hlen, hbits, q⟩
  repeat first | refine lcL_map (f := cellF ns) ?_ ?_ ?_ | walk_at "step"
  · trivial
  · intro x hx Q q
    obtain ⟨k, -, rfl⟩ := List.mem_map.1 hx
    walk_at "go"
  · generalize hr : List.map (cellF ns) _ = row
    have hr2 : row = [.int (ns.getD 0 0), .int (ns.getD 1 0), .int (ns.getD 2 0), .int (ns.getD 3 0), .int (ns.getD 4 0), .int (ns.getD 5 0), .int (ns.getD 6 0), .int (ns.getD 7 0), .int (ns.getD 8 0), .int (ns.getD 9 0), .int (ns.getD 10 0), .int (ns.getD 11 0), .int (ns.getD 12 0), .int (ns.getD 13 0), .int (ns.getD 14 0), .int (ns.getD 15 0), .int (ns.getD 16 0), .int (ns.getD 17 0)] := hr.symm.trans rfl
    subst hr2
    clear hr
    have z0 := getD_sz hbits 0
    have z1 := getD_sz hbits 1
    have z2 := getD_sz hbits 2
    have z3 := getD_sz hbits 3
    have z4 := getD_sz hbits 4
    have z5 := getD_sz hbits 5
    have z6 := getD_sz hbits 6
    have z7 := getD_sz hbits 7
    have z8 := getD_sz hbits 8
    have z9 := getD_sz hbits 9
    have z10 := getD_sz hbits 10
    have z11 := getD_sz hbits 11
    have z12 := getD_sz hbits 12
    have z13 := getD_sz hbits 13
    have z14 := getD_sz hbits 14
    have z15 := getD_sz hbits 15
    have z16 := getD_sz hbits 16
    have z17 := getD_sz hbits 17
    clear hlen hbits
    generalize ns.getD 0 0 = r0 at *
    generalize ns.getD 1 0 = r1 at *
    generalize ns.getD 2 0 = r2 at *
    generalize ns.getD 3 0 = r3 at *
    generalize ns.getD 4 0 = r4 at *
    generalize ns.getD 5 0 = r5 at *
    generalize ns.getD 6 0 = r6 at *
    generalize ns.getD 7 0 = r7 at *
    generalize ns.getD 8 0 = r8 at *
    generalize ns.getD 9 0 = r9 at *
    generalize ns.getD 10 0 = r10 at *
    generalize ns.getD 11 0 = r11 at *
    generalize ns.getD 12 0 = r12 at *
    generalize ns.getD 13 0 = r13 at *
    generalize ns.getD 14 0 = r14 at *
    generalize ns.getD 15 0 = r15 at *
    generalize ns.getD 16 0 = r16 at *
    generalize ns.getD 17 0 = r17 at *
    walk_at "go"
    refine ⟨_, [0, 255, 1, 254, 127, 128], _, rfl, by decide, by decide, fun r hr => ?_⟩
    have hr2 : 0 ≤ r ∧ r ≤ 255 := by
      rcases hr with hr | hr
      · simp only [List.mem_cons, List.not_mem_nil, or_false] at hr; omega
      · omega
    clear hr
    walk_at "go"
    refine ⟨_, _, _, _, _, _, rfl, z3.mono (by omega), z4.mono (by omega), z5.mono (by omega), z6.mono (by omega), z7.mono (by omega), hr2.1, hr2.2, ?_⟩
    walk_at "go"
    refine ⟨_, _, _, _, rfl, (by split <;> omega), z9.mono (by omega), (Sz.absucc z10).mono (by omega), z11.mono (by omega), ?_⟩
    walk_at "go"
    · exact z13.mono (by omega)
    · exact z14.mono (by omega)
def gvs : Str → Option D := fun _ => none
def topS (i : Nat) : Stmt := PySem.Challenge.pw_easelwork_k00_nearest_whole_numbers.main.body.getD i (.Pass ⟨0, 0, 0, 0⟩)
abbrev s__law_whole : Stmt := topS 10
abbrev s__law_is : Stmt := topS 11
abbrev s_hold : Stmt := topS 4
abbrev s__law_holds : Stmt := topS 18
abbrev s_straight : Stmt := topS 5
abbrev s__law_rounded : Stmt := topS 13
abbrev s__law_straights : Stmt := topS 17
abbrev s_mean : Stmt := topS 6
abbrev s__law_menu : Stmt := topS 9
abbrev s__law_quotients : Stmt := topS 16
abbrev s_near : Stmt := topS 1
abbrev s_mix : Stmt := topS 3
abbrev s__law_nearest : Stmt := topS 12
abbrev s_mul : Stmt := topS 2
abbrev s__law_products : Stmt := topS 15
abbrev s__law_nears : Stmt := topS 14
abbrev s__law_cell : Stmt := topS 8
abbrev s_law : Stmt := topS 19
def Bn : List Str := ["abs", "bool", "int", "isinstance", "len", "max", "min", "range", "sorted"]
theorem sc__law_whole : scopeC N__law_whole ["got"] (defScope s__law_whole) = true := by decide +kernel
theorem cp__law_whole : compSs ⟨N__law_whole, Bn, [], []⟩ 200 (defScope s__law_whole) (defBody s__law_whole) = some b__law_whole := by kernel_rfl
theorem sc__law_is : scopeC N__law_is ["got", "due"] (defScope s__law_is) = true := by decide +kernel
theorem cp__law_is : compSs ⟨N__law_is, Bn, ["_law_whole"], []⟩ 200 (defScope s__law_is) (defBody s__law_is) = some b__law_is := by kernel_rfl
theorem sc_hold : scopeC N_hold ["v", "low", "high"] (defScope s_hold) = true := by decide +kernel
theorem cp_hold : compSs ⟨N_hold, Bn, ["_law_is", "_law_whole"], []⟩ 200 (defScope s_hold) (defBody s_hold) = some b_hold := by kernel_rfl
theorem sc__law_holds : scopeC N__law_holds ["v", "low", "high"] (defScope s__law_holds) = true := by decide +kernel
theorem cp__law_holds : compSs ⟨N__law_holds, Bn, ["hold", "_law_is", "_law_whole"], []⟩ 200 (defScope s__law_holds) (defBody s__law_holds) = some b__law_holds := by kernel_rfl
theorem sc_straight : scopeC N_straight ["c", "a"] (defScope s_straight) = true := by decide +kernel
theorem cp_straight : compSs ⟨N_straight, Bn, ["_law_holds", "hold", "_law_is", "_law_whole"], []⟩ 200 (defScope s_straight) (defBody s_straight) = some b_straight := by kernel_rfl
theorem sc__law_rounded : scopeC N__law_rounded ["got", "total", "count"] (defScope s__law_rounded) = true := by decide +kernel
theorem cp__law_rounded : compSs ⟨N__law_rounded, Bn, ["straight", "_law_holds", "hold", "_law_is", "_law_whole"], []⟩ 200 (defScope s__law_rounded) (defBody s__law_rounded) = some b__law_rounded := by kernel_rfl
theorem sc__law_straights : scopeC N__law_straights ["c", "a"] (defScope s__law_straights) = true := by decide +kernel
theorem cp__law_straights : compSs ⟨N__law_straights, Bn, ["_law_rounded", "straight", "_law_holds", "hold", "_law_is", "_law_whole"], []⟩ 200 (defScope s__law_straights) (defBody s__law_straights) = some b__law_straights := by kernel_rfl
theorem sc_mean : scopeC N_mean ["total", "count"] (defScope s_mean) = true := by decide +kernel
theorem cp_mean : compSs ⟨N_mean, Bn, ["_law_straights", "_law_rounded", "straight", "_law_holds", "hold", "_law_is", "_law_whole"], []⟩ 200 (defScope s_mean) (defBody s_mean) = some b_mean := by kernel_rfl
theorem sc__law_menu : scopeC N__law_menu ["cell", "rows", "many"] (defScope s__law_menu) = true := by decide +kernel
theorem cp__law_menu : compSs ⟨N__law_menu, Bn, ["mean", "_law_straights", "_law_rounded", "straight", "_law_holds", "hold", "_law_is", "_law_whole"], []⟩ 200 (defScope s__law_menu) (defBody s__law_menu) = some b__law_menu := by kernel_rfl
theorem sc__law_quotients : scopeC N__law_quotients ["total", "count", "t", "cell"] (defScope s__law_quotients) = true := by decide +kernel
theorem cp__law_quotients : compSs ⟨N__law_quotients, Bn, ["_law_menu", "mean", "_law_straights", "_law_rounded", "straight", "_law_holds", "hold", "_law_is", "_law_whole"], []⟩ 200 (defScope s__law_quotients) (defBody s__law_quotients) = some b__law_quotients := by kernel_rfl
theorem sc_near : scopeC N_near ["n"] (defScope s_near) = true := by decide +kernel
theorem cp_near : compSs ⟨N_near, Bn, ["_law_quotients", "_law_menu", "mean", "_law_straights", "_law_rounded", "straight", "_law_holds", "hold", "_law_is", "_law_whole"], []⟩ 200 (defScope s_near) (defBody s_near) = some b_near := by kernel_rfl
theorem sc_mix : scopeC N_mix ["d", "f", "k"] (defScope s_mix) = true := by decide +kernel
theorem cp_mix : compSs ⟨N_mix, Bn, ["near", "_law_quotients", "_law_menu", "mean", "_law_straights", "_law_rounded", "straight", "_law_holds", "hold", "_law_is", "_law_whole"], []⟩ 200 (defScope s_mix) (defBody s_mix) = some b_mix := by kernel_rfl
theorem sc__law_nearest : scopeC N__law_nearest ["got", "n"] (defScope s__law_nearest) = true := by decide +kernel
theorem cp__law_nearest : compSs ⟨N__law_nearest, Bn, ["mix", "near", "_law_quotients", "_law_menu", "mean", "_law_straights", "_law_rounded", "straight", "_law_holds", "hold", "_law_is", "_law_whole"], []⟩ 200 (defScope s__law_nearest) (defBody s__law_nearest) = some b__law_nearest := by kernel_rfl
theorem sc_mul : scopeC N_mul ["x", "y"] (defScope s_mul) = true := by decide +kernel
theorem cp_mul : compSs ⟨N_mul, Bn, ["_law_nearest", "mix", "near", "_law_quotients", "_law_menu", "mean", "_law_straights", "_law_rounded", "straight", "_law_holds", "hold", "_law_is", "_law_whole"], []⟩ 200 (defScope s_mul) (defBody s_mul) = some b_mul := by kernel_rfl
theorem sc__law_products : scopeC N__law_products ["x", "y", "d", "f", "k", "share"] (defScope s__law_products) = true := by decide +kernel
theorem cp__law_products : compSs ⟨N__law_products, Bn, ["mul", "_law_nearest", "mix", "near", "_law_quotients", "_law_menu", "mean", "_law_straights", "_law_rounded", "straight", "_law_holds", "hold", "_law_is", "_law_whole"], []⟩ 200 (defScope s__law_products) (defBody s__law_products) = some b__law_products := by kernel_rfl
theorem sc__law_nears : scopeC N__law_nears ["n", "m", "cell"] (defScope s__law_nears) = true := by decide +kernel
theorem cp__law_nears : compSs ⟨N__law_nears, Bn, ["_law_products", "mul", "_law_nearest", "mix", "near", "_law_quotients", "_law_menu", "mean", "_law_straights", "_law_rounded", "straight", "_law_holds", "hold", "_law_is", "_law_whole"], []⟩ 200 (defScope s__law_nears) (defBody s__law_nears) = some b__law_nears := by kernel_rfl
theorem sc__law_cell : scopeC N__law_cell ["script", "k"] (defScope s__law_cell) = true := by decide +kernel
theorem cp__law_cell : compSs ⟨N__law_cell, Bn, ["_law_nears", "_law_products", "mul", "_law_nearest", "mix", "near", "_law_quotients", "_law_menu", "mean", "_law_straights", "_law_rounded", "straight", "_law_holds", "hold", "_law_is", "_law_whole"], []⟩ 200 (defScope s__law_cell) (defBody s__law_cell) = some b__law_cell := by kernel_rfl
theorem sc_law : scopeC N_law ["script"] (defScope s_law) = true := by decide +kernel
theorem cp_law : compSs ⟨N_law, Bn, ["_law_cell", "_law_nears", "_law_products", "mul", "_law_nearest", "mix", "near", "_law_quotients", "_law_menu", "mean", "_law_straights", "_law_rounded", "straight", "_law_holds", "hold", "_law_is", "_law_whole"], []⟩ 200 (defScope s_law) (defBody s_law) = some b_law := by kernel_rfl
def tab : List (Str × Nat × Ctr) := [("_law_whole", 1, c__law_whole), ("_law_is", 2, c__law_is), ("hold", 3, c_hold), ("_law_holds", 3, c__law_holds), ("straight", 2, c_straight), ("_law_rounded", 3, c__law_rounded), ("_law_straights", 2, c__law_straights), ("mean", 2, c_mean), ("_law_menu", 3, c__law_menu), ("_law_quotients", 4, c__law_quotients), ("near", 1, c_near), ("mix", 3, c_mix), ("_law_nearest", 2, c__law_nearest), ("mul", 2, c_mul), ("_law_products", 6, c__law_products), ("_law_nears", 3, c__law_nears), ("_law_cell", 2, c__law_cell), ("law", 1, c_law)]
def Gl0 : Gm := ⟨fun x => tab.lookup x, gvs⟩
theorem g__law_whole : Gl0.fn "_law_whole" = some (1, c__law_whole) := by rfl
theorem g__law_is : Gl0.fn "_law_is" = some (2, c__law_is) := by rfl
theorem g_hold : Gl0.fn "hold" = some (3, c_hold) := by rfl
theorem g__law_holds : Gl0.fn "_law_holds" = some (3, c__law_holds) := by rfl
theorem g_straight : Gl0.fn "straight" = some (2, c_straight) := by rfl
theorem g__law_rounded : Gl0.fn "_law_rounded" = some (3, c__law_rounded) := by rfl
theorem g__law_straights : Gl0.fn "_law_straights" = some (2, c__law_straights) := by rfl
theorem g_mean : Gl0.fn "mean" = some (2, c_mean) := by rfl
theorem g__law_menu : Gl0.fn "_law_menu" = some (3, c__law_menu) := by rfl
theorem g__law_quotients : Gl0.fn "_law_quotients" = some (4, c__law_quotients) := by rfl
theorem g_near : Gl0.fn "near" = some (1, c_near) := by rfl
theorem g_mix : Gl0.fn "mix" = some (3, c_mix) := by rfl
theorem g__law_nearest : Gl0.fn "_law_nearest" = some (2, c__law_nearest) := by rfl
theorem g_mul : Gl0.fn "mul" = some (2, c_mul) := by rfl
theorem g__law_products : Gl0.fn "_law_products" = some (6, c__law_products) := by rfl
theorem g__law_nears : Gl0.fn "_law_nears" = some (3, c__law_nears) := by rfl
theorem g__law_cell : Gl0.fn "_law_cell" = some (2, c__law_cell) := by rfl
theorem g_law : Gl0.fn "law" = some (1, c_law) := by rfl
theorem all_fn {P : Program} {w : World} {K : PySem.W.Frag} {mg : Str → Option Value} {base : Heap} (X : K.In base) (hns : base.Ns mainGlobals mg) (M : Mo P w K mg base Bn gvs) (f__law_whole : FnK K "_law_whole" s__law_whole) (f__law_is : FnK K "_law_is" s__law_is) (f_hold : FnK K "hold" s_hold) (f__law_holds : FnK K "_law_holds" s__law_holds) (f_straight : FnK K "straight" s_straight) (f__law_rounded : FnK K "_law_rounded" s__law_rounded) (f__law_straights : FnK K "_law_straights" s__law_straights) (f_mean : FnK K "mean" s_mean) (f__law_menu : FnK K "_law_menu" s__law_menu) (f__law_quotients : FnK K "_law_quotients" s__law_quotients) (f_near : FnK K "near" s_near) (f_mix : FnK K "mix" s_mix) (f__law_nearest : FnK K "_law_nearest" s__law_nearest) (f_mul : FnK K "mul" s_mul) (f__law_products : FnK K "_law_products" s__law_products) (f__law_nears : FnK K "_law_nears" s__law_nears) (f__law_cell : FnK K "_law_cell" s__law_cell) : Prev P w K mg base Gl0 57 ["_law_cell", "_law_nears", "_law_products", "mul", "_law_nearest", "mix", "near", "_law_quotients", "_law_menu", "mean", "_law_straights", "_law_rounded", "straight", "_law_holds", "hold", "_law_is", "_law_whole"] := by
  have p0 : Prev P w K mg base Gl0 40 [] := prev_nil
  have n1 : FnAt P w K mg base 41 "_law_whole" 1 c__law_whole := fn_step (G := Gl0) (N := N__law_whole) (B := Bn) (F := []) (mu := []) (ps := ["got"]) (n := 200) (body := b__law_whole) X hns M f__law_whole (fun _ _ _ _ _ _ us hl => match us, hl with | [_], _ => rfl) sc__law_whole cp__law_whole (by decide) p0 (k__law_whole Gl0)
  have p1 := prev_cons p0 g__law_whole n1
  have n2 : FnAt P w K mg base 42 "_law_is" 2 c__law_is := fn_step (G := Gl0) (N := N__law_is) (B := Bn) (F := ["_law_whole"]) (mu := []) (ps := ["got", "due"]) (n := 200) (body := b__law_is) X hns M f__law_is (fun _ _ _ _ _ _ us hl => match us, hl with | [_, _], _ => rfl) sc__law_is cp__law_is (by decide) p1 (k__law_is Gl0 (by first | exact g__law_whole))
  have p2 := prev_cons p1 g__law_is n2
  have n3 : FnAt P w K mg base 43 "hold" 3 c_hold := fn_step (G := Gl0) (N := N_hold) (B := Bn) (F := ["_law_is", "_law_whole"]) (mu := []) (ps := ["v", "low", "high"]) (n := 200) (body := b_hold) X hns M f_hold (fun _ _ _ _ _ _ us hl => match us, hl with | [_, _, _], _ => rfl) sc_hold cp_hold (by decide) p2 (k_hold Gl0)
  have p3 := prev_cons p2 g_hold n3
  have n4 : FnAt P w K mg base 44 "_law_holds" 3 c__law_holds := fn_step (G := Gl0) (N := N__law_holds) (B := Bn) (F := ["hold", "_law_is", "_law_whole"]) (mu := []) (ps := ["v", "low", "high"]) (n := 200) (body := b__law_holds) X hns M f__law_holds (fun _ _ _ _ _ _ us hl => match us, hl with | [_, _, _], _ => rfl) sc__law_holds cp__law_holds (by decide) p3 (k__law_holds Gl0 (by first | exact g__law_is | exact g_hold) (by first | exact g__law_is | exact g_hold))
  have p4 := prev_cons p3 g__law_holds n4
  have n5 : FnAt P w K mg base 45 "straight" 2 c_straight := fn_step (G := Gl0) (N := N_straight) (B := Bn) (F := ["_law_holds", "hold", "_law_is", "_law_whole"]) (mu := []) (ps := ["c", "a"]) (n := 200) (body := b_straight) X hns M f_straight (fun _ _ _ _ _ _ us hl => match us, hl with | [_, _], _ => rfl) sc_straight cp_straight (by decide) p4 (k_straight Gl0)
  have p5 := prev_cons p4 g_straight n5
  have n6 : FnAt P w K mg base 46 "_law_rounded" 3 c__law_rounded := fn_step (G := Gl0) (N := N__law_rounded) (B := Bn) (F := ["straight", "_law_holds", "hold", "_law_is", "_law_whole"]) (mu := []) (ps := ["got", "total", "count"]) (n := 200) (body := b__law_rounded) X hns M f__law_rounded (fun _ _ _ _ _ _ us hl => match us, hl with | [_, _, _], _ => rfl) sc__law_rounded cp__law_rounded (by decide) p5 (k__law_rounded Gl0 (by first | exact g__law_whole))
  have p6 := prev_cons p5 g__law_rounded n6
  have n7 : FnAt P w K mg base 47 "_law_straights" 2 c__law_straights := fn_step (G := Gl0) (N := N__law_straights) (B := Bn) (F := ["_law_rounded", "straight", "_law_holds", "hold", "_law_is", "_law_whole"]) (mu := []) (ps := ["c", "a"]) (n := 200) (body := b__law_straights) X hns M f__law_straights (fun _ _ _ _ _ _ us hl => match us, hl with | [_, _], _ => rfl) sc__law_straights cp__law_straights (by decide) p6 (k__law_straights Gl0 (by first | exact g__law_is | exact g_straight | exact g__law_rounded) (by first | exact g__law_is | exact g_straight | exact g__law_rounded) (by first | exact g__law_is | exact g_straight | exact g__law_rounded))
  have p7 := prev_cons p6 g__law_straights n7
  have n8 : FnAt P w K mg base 48 "mean" 2 c_mean := fn_step (G := Gl0) (N := N_mean) (B := Bn) (F := ["_law_straights", "_law_rounded", "straight", "_law_holds", "hold", "_law_is", "_law_whole"]) (mu := []) (ps := ["total", "count"]) (n := 200) (body := b_mean) X hns M f_mean (fun _ _ _ _ _ _ us hl => match us, hl with | [_, _], _ => rfl) sc_mean cp_mean (by decide) p7 (k_mean Gl0)
  have p8 := prev_cons p7 g_mean n8
  have n9 : FnAt P w K mg base 49 "_law_menu" 3 c__law_menu := fn_step (G := Gl0) (N := N__law_menu) (B := Bn) (F := ["mean", "_law_straights", "_law_rounded", "straight", "_law_holds", "hold", "_law_is", "_law_whole"]) (mu := []) (ps := ["cell", "rows", "many"]) (n := 200) (body := b__law_menu) X hns M f__law_menu (fun _ _ _ _ _ _ us hl => match us, hl with | [_, _, _], _ => rfl) sc__law_menu cp__law_menu (by decide) p8 (k__law_menu Gl0)
  have p9 := prev_cons p8 g__law_menu n9
  have n10 : FnAt P w K mg base 50 "_law_quotients" 4 c__law_quotients := fn_step (G := Gl0) (N := N__law_quotients) (B := Bn) (F := ["_law_menu", "mean", "_law_straights", "_law_rounded", "straight", "_law_holds", "hold", "_law_is", "_law_whole"]) (mu := []) (ps := ["total", "count", "t", "cell"]) (n := 200) (body := b__law_quotients) X hns M f__law_quotients (fun _ _ _ _ _ _ us hl => match us, hl with | [_, _, _, _], _ => rfl) sc__law_quotients cp__law_quotients (by decide) p9 (k__law_quotients Gl0 (by first | exact g__law_is | exact g_mean | exact g__law_rounded | exact g__law_menu) (by first | exact g__law_is | exact g_mean | exact g__law_rounded | exact g__law_menu) (by first | exact g__law_is | exact g_mean | exact g__law_rounded | exact g__law_menu) (by first | exact g__law_is | exact g_mean | exact g__law_rounded | exact g__law_menu))
  have p10 := prev_cons p9 g__law_quotients n10
  have n11 : FnAt P w K mg base 51 "near" 1 c_near := fn_step (G := Gl0) (N := N_near) (B := Bn) (F := ["_law_quotients", "_law_menu", "mean", "_law_straights", "_law_rounded", "straight", "_law_holds", "hold", "_law_is", "_law_whole"]) (mu := []) (ps := ["n"]) (n := 200) (body := b_near) X hns M f_near (fun _ _ _ _ _ _ us hl => match us, hl with | [_], _ => rfl) sc_near cp_near (by decide) p10 (k_near Gl0)
  have p11 := prev_cons p10 g_near n11
  have n12 : FnAt P w K mg base 52 "mix" 3 c_mix := fn_step (G := Gl0) (N := N_mix) (B := Bn) (F := ["near", "_law_quotients", "_law_menu", "mean", "_law_straights", "_law_rounded", "straight", "_law_holds", "hold", "_law_is", "_law_whole"]) (mu := []) (ps := ["d", "f", "k"]) (n := 200) (body := b_mix) X hns M f_mix (fun _ _ _ _ _ _ us hl => match us, hl with | [_, _, _], _ => rfl) sc_mix cp_mix (by decide) p11 (k_mix Gl0 (by first | exact g_near))
  have p12 := prev_cons p11 g_mix n12
  have n13 : FnAt P w K mg base 53 "_law_nearest" 2 c__law_nearest := fn_step (G := Gl0) (N := N__law_nearest) (B := Bn) (F := ["mix", "near", "_law_quotients", "_law_menu", "mean", "_law_straights", "_law_rounded", "straight", "_law_holds", "hold", "_law_is", "_law_whole"]) (mu := []) (ps := ["got", "n"]) (n := 200) (body := b__law_nearest) X hns M f__law_nearest (fun _ _ _ _ _ _ us hl => match us, hl with | [_, _], _ => rfl) sc__law_nearest cp__law_nearest (by decide) p12 (k__law_nearest Gl0 (by first | exact g__law_whole))
  have p13 := prev_cons p12 g__law_nearest n13
  have n14 : FnAt P w K mg base 54 "mul" 2 c_mul := fn_step (G := Gl0) (N := N_mul) (B := Bn) (F := ["_law_nearest", "mix", "near", "_law_quotients", "_law_menu", "mean", "_law_straights", "_law_rounded", "straight", "_law_holds", "hold", "_law_is", "_law_whole"]) (mu := []) (ps := ["x", "y"]) (n := 200) (body := b_mul) X hns M f_mul (fun _ _ _ _ _ _ us hl => match us, hl with | [_, _], _ => rfl) sc_mul cp_mul (by decide) p13 (k_mul Gl0 (by first | exact g_near))
  have p14 := prev_cons p13 g_mul n14
  have n15 : FnAt P w K mg base 55 "_law_products" 6 c__law_products := fn_step (G := Gl0) (N := N__law_products) (B := Bn) (F := ["mul", "_law_nearest", "mix", "near", "_law_quotients", "_law_menu", "mean", "_law_straights", "_law_rounded", "straight", "_law_holds", "hold", "_law_is", "_law_whole"]) (mu := []) (ps := ["x", "y", "d", "f", "k", "share"]) (n := 200) (body := b__law_products) X hns M f__law_products (fun _ _ _ _ _ _ us hl => match us, hl with | [_, _, _, _, _, _], _ => rfl) sc__law_products cp__law_products (by decide) p14 (k__law_products Gl0 (by first | exact g__law_is | exact g_mix | exact g__law_nearest | exact g_mul) (by first | exact g__law_is | exact g_mix | exact g__law_nearest | exact g_mul) (by first | exact g__law_is | exact g_mix | exact g__law_nearest | exact g_mul) (by first | exact g__law_is | exact g_mix | exact g__law_nearest | exact g_mul))
  have p15 := prev_cons p14 g__law_products n15
  have n16 : FnAt P w K mg base 56 "_law_nears" 3 c__law_nears := fn_step (G := Gl0) (N := N__law_nears) (B := Bn) (F := ["_law_products", "mul", "_law_nearest", "mix", "near", "_law_quotients", "_law_menu", "mean", "_law_straights", "_law_rounded", "straight", "_law_holds", "hold", "_law_is", "_law_whole"]) (mu := []) (ps := ["n", "m", "cell"]) (n := 200) (body := b__law_nears) X hns M f__law_nears (fun _ _ _ _ _ _ us hl => match us, hl with | [_, _, _], _ => rfl) sc__law_nears cp__law_nears (by decide) p15 (k__law_nears Gl0 (by first | exact g__law_is | exact g_near | exact g__law_nearest | exact g__law_menu) (by first | exact g__law_is | exact g_near | exact g__law_nearest | exact g__law_menu) (by first | exact g__law_is | exact g_near | exact g__law_nearest | exact g__law_menu) (by first | exact g__law_is | exact g_near | exact g__law_nearest | exact g__law_menu))
  have p16 := prev_cons p15 g__law_nears n16
  have n17 : FnAt P w K mg base 57 "_law_cell" 2 c__law_cell := fn_step (G := Gl0) (N := N__law_cell) (B := Bn) (F := ["_law_nears", "_law_products", "mul", "_law_nearest", "mix", "near", "_law_quotients", "_law_menu", "mean", "_law_straights", "_law_rounded", "straight", "_law_holds", "hold", "_law_is", "_law_whole"]) (mu := []) (ps := ["script", "k"]) (n := 200) (body := b__law_cell) X hns M f__law_cell (fun _ _ _ _ _ _ us hl => match us, hl with | [_, _], _ => rfl) sc__law_cell cp__law_cell (by decide) p16 (k__law_cell Gl0)
  have p17 := prev_cons p16 g__law_cell n17
  exact p17
theorem bl_of {K : PySem.W.Frag} {mg : Str → Option Value} {h : Heap} (X : K.In h) (hns : h.Ns mainGlobals mg) (z0 : PySem.W.nsIn K mainGlobals "abs" = some none) (z1 : PySem.W.nsIn K mainGlobals "bool" = some none) (z2 : PySem.W.nsIn K mainGlobals "int" = some none) (z3 : PySem.W.nsIn K mainGlobals "isinstance" = some none) (z4 : PySem.W.nsIn K mainGlobals "len" = some none) (z5 : PySem.W.nsIn K mainGlobals "max" = some none) (z6 : PySem.W.nsIn K mainGlobals "min" = some none) (z7 : PySem.W.nsIn K mainGlobals "range" = some none) (z8 : PySem.W.nsIn K mainGlobals "sorted" = some none) : ∀ x, Bn.contains x = true → mg x = none := by
  intro x hx
  have hx : x ∈ Bn := by simpa using hx
  simp only [Bn, List.mem_cons, List.not_mem_nil, or_false] at hx
  rcases hx with rfl | rfl | rfl | rfl | rfl | rfl | rfl | rfl | rfl
  · exact PySem.W.mg_none_of X hns z0
  · exact PySem.W.mg_none_of X hns z1
  · exact PySem.W.mg_none_of X hns z2
  · exact PySem.W.mg_none_of X hns z3
  · exact PySem.W.mg_none_of X hns z4
  · exact PySem.W.mg_none_of X hns z5
  · exact PySem.W.mg_none_of X hns z6
  · exact PySem.W.mg_none_of X hns z7
  · exact PySem.W.mg_none_of X hns z8
theorem finish {P : Program} {w : World} {K : PySem.W.Frag} {mg : Str → Option Value} {h : Heap} {fa : Addr} (ht : P.given.tree = none) (hgv : ∀ (K : PySem.W.Frag) (base : Heap), K.In base → base.Ns mainGlobals mg → ∀ x d, gvs x = some d → ∃ u v, mg x = some u ∧ RelV v u ∧ ∀ (Z : Addr → Prop) H Hm, Is ⟨K, Z⟩ H Hm d v) (X : K.In h) (hns : h.Ns mainGlobals mg) (hmg : mg "law" = some (.ref fa)) (f__law_whole : FnK K "_law_whole" s__law_whole) (f__law_is : FnK K "_law_is" s__law_is) (f_hold : FnK K "hold" s_hold) (f__law_holds : FnK K "_law_holds" s__law_holds) (f_straight : FnK K "straight" s_straight) (f__law_rounded : FnK K "_law_rounded" s__law_rounded) (f__law_straights : FnK K "_law_straights" s__law_straights) (f_mean : FnK K "mean" s_mean) (f__law_menu : FnK K "_law_menu" s__law_menu) (f__law_quotients : FnK K "_law_quotients" s__law_quotients) (f_near : FnK K "near" s_near) (f_mix : FnK K "mix" s_mix) (f__law_nearest : FnK K "_law_nearest" s__law_nearest) (f_mul : FnK K "mul" s_mul) (f__law_products : FnK K "_law_products" s__law_products) (f__law_nears : FnK K "_law_nears" s__law_nears) (f__law_cell : FnK K "_law_cell" s__law_cell) (f_law : FnK K "law" s_law) (z0 : PySem.W.nsIn K mainGlobals "abs" = some none) (z1 : PySem.W.nsIn K mainGlobals "bool" = some none) (z2 : PySem.W.nsIn K mainGlobals "int" = some none) (z3 : PySem.W.nsIn K mainGlobals "isinstance" = some none) (z4 : PySem.W.nsIn K mainGlobals "len" = some none) (z5 : PySem.W.nsIn K mainGlobals "max" = some none) (z6 : PySem.W.nsIn K mainGlobals "min" = some none) (z7 : PySem.W.nsIn K mainGlobals "range" = some none) (z8 : PySem.W.nsIn K mainGlobals "sorted" = some none) : ∃ fd : FuncData, (∀ (s : Shared) (u : Value), BindsTo s fd ⟨[u], []⟩ [("script", u)]) ∧ ∀ base : Heap, K.In base → base.Ns mainGlobals mg → base.NoSeer → FnOk P w K mg base (L2.CX P w) 58 fa fd ["script"] (Cl K 1 lawC) :=
  law_fin (G := Gl0) (N := N_law) (B := Bn) (mu := []) (n := 200) (body := b_law) X hns hmg f_law (fun _ _ _ _ _ _ _ => rfl) sc_law cp_law (by decide) (k_law Gl0 (by first | exact g__law_holds | exact g__law_straights | exact g__law_quotients | exact g__law_products | exact g__law_nears | exact g__law_menu | exact g__law_cell) (by first | exact g__law_holds | exact g__law_straights | exact g__law_quotients | exact g__law_products | exact g__law_nears | exact g__law_menu | exact g__law_cell) (by first | exact g__law_holds | exact g__law_straights | exact g__law_quotients | exact g__law_products | exact g__law_nears | exact g__law_menu | exact g__law_cell) (by first | exact g__law_holds | exact g__law_straights | exact g__law_quotients | exact g__law_products | exact g__law_nears | exact g__law_menu | exact g__law_cell) (by first | exact g__law_holds | exact g__law_straights | exact g__law_quotients | exact g__law_products | exact g__law_nears | exact g__law_menu | exact g__law_cell) (by first | exact g__law_holds | exact g__law_straights | exact g__law_quotients | exact g__law_products | exact g__law_nears | exact g__law_menu | exact g__law_cell) (by first | exact g__law_holds | exact g__law_straights | exact g__law_quotients | exact g__law_products | exact g__law_nears | exact g__law_menu | exact g__law_cell)) fun base hX hN hS =>
    have M : Mo P w K mg base Bn gvs := ⟨hS, ht, bl_of hX hN z0 z1 z2 z3 z4 z5 z6 z7 z8, hgv K base hX hN⟩
    ⟨M, all_fn hX hN M f__law_whole f__law_is f_hold f__law_holds f_straight f__law_rounded f__law_straights f_mean f__law_menu f__law_quotients f_near f_mix f__law_nearest f_mul f__law_products f__law_nears f__law_cell⟩
end DL
section
open PySem PySem.W PyProof.Rows L2
set_option maxRecDepth 100000 in
set_option maxHeartbeats 0 in
theorem PySem.Challenge.cw_easelwork_k00_nearest_whole_numbers_holds : PySem.Challenge.rw_easelwork_k00_nearest_whole_numbers.Holds := by
  w_on; o_law; k_head; (case hw => w_witness2)
  k_fill
  refine DL.law_end (l := PySem.Challenge.rw_easelwork_k00_nearest_whole_numbers) (k := 58) (x := "script") rfl (by decide +kernel) rfl ⟨rfl, by decide, by decide⟩ (fun w h Y => PySem.W.kIn_of Y) ?F
  case F =>
    intro w mg fa h KX GX hmg
    have f__law_whole := by
      refine' DL.fnk_mk (x := "_law_whole") (st := DL.s__law_whole) KX ?a ?l ?c ?k
      (case a => k_is); (case l => k_is); (case c => k_is); (case k => k_is)
    have f__law_is := by
      refine' DL.fnk_mk (x := "_law_is") (st := DL.s__law_is) KX ?a ?l ?c ?k
      (case a => k_is); (case l => k_is); (case c => k_is); (case k => k_is)
    have f_hold := by
      refine' DL.fnk_mk (x := "hold") (st := DL.s_hold) KX ?a ?l ?c ?k
      (case a => k_is); (case l => k_is); (case c => k_is); (case k => k_is)
    have f__law_holds := by
      refine' DL.fnk_mk (x := "_law_holds") (st := DL.s__law_holds) KX ?a ?l ?c ?k
      (case a => k_is); (case l => k_is); (case c => k_is); (case k => k_is)
    have f_straight := by
      refine' DL.fnk_mk (x := "straight") (st := DL.s_straight) KX ?a ?l ?c ?k
      (case a => k_is); (case l => k_is); (case c => k_is); (case k => k_is)
    have f__law_rounded := by
      refine' DL.fnk_mk (x := "_law_rounded") (st := DL.s__law_rounded) KX ?a ?l ?c ?k
      (case a => k_is); (case l => k_is); (case c => k_is); (case k => k_is)
    have f__law_straights := by
      refine' DL.fnk_mk (x := "_law_straights") (st := DL.s__law_straights) KX ?a ?l ?c ?k
      (case a => k_is); (case l => k_is); (case c => k_is); (case k => k_is)
    have f_mean := by
      refine' DL.fnk_mk (x := "mean") (st := DL.s_mean) KX ?a ?l ?c ?k
      (case a => k_is); (case l => k_is); (case c => k_is); (case k => k_is)
    have f__law_menu := by
      refine' DL.fnk_mk (x := "_law_menu") (st := DL.s__law_menu) KX ?a ?l ?c ?k
      (case a => k_is); (case l => k_is); (case c => k_is); (case k => k_is)
    have f__law_quotients := by
      refine' DL.fnk_mk (x := "_law_quotients") (st := DL.s__law_quotients) KX ?a ?l ?c ?k
      (case a => k_is); (case l => k_is); (case c => k_is); (case k => k_is)
    have f_near := by
      refine' DL.fnk_mk (x := "near") (st := DL.s_near) KX ?a ?l ?c ?k
      (case a => k_is); (case l => k_is); (case c => k_is); (case k => k_is)
    have f_mix := by
      refine' DL.fnk_mk (x := "mix") (st := DL.s_mix) KX ?a ?l ?c ?k
      (case a => k_is); (case l => k_is); (case c => k_is); (case k => k_is)
    have f__law_nearest := by
      refine' DL.fnk_mk (x := "_law_nearest") (st := DL.s__law_nearest) KX ?a ?l ?c ?k
      (case a => k_is); (case l => k_is); (case c => k_is); (case k => k_is)
    have f_mul := by
      refine' DL.fnk_mk (x := "mul") (st := DL.s_mul) KX ?a ?l ?c ?k
      (case a => k_is); (case l => k_is); (case c => k_is); (case k => k_is)
    have f__law_products := by
      refine' DL.fnk_mk (x := "_law_products") (st := DL.s__law_products) KX ?a ?l ?c ?k
      (case a => k_is); (case l => k_is); (case c => k_is); (case k => k_is)
    have f__law_nears := by
      refine' DL.fnk_mk (x := "_law_nears") (st := DL.s__law_nears) KX ?a ?l ?c ?k
      (case a => k_is); (case l => k_is); (case c => k_is); (case k => k_is)
    have f__law_cell := by
      refine' DL.fnk_mk (x := "_law_cell") (st := DL.s__law_cell) KX ?a ?l ?c ?k
      (case a => k_is); (case l => k_is); (case c => k_is); (case k => k_is)
    have f_law := by
      refine' DL.fnk_mk (x := "law") (st := DL.s_law) KX ?a ?l ?c ?k
      (case a => k_is); (case l => k_is); (case c => k_is); (case k => k_is)
    have z0 := DL.nsk KX (x := "abs") (by k_is)
    have z1 := DL.nsk KX (x := "bool") (by k_is)
    have z2 := DL.nsk KX (x := "int") (by k_is)
    have z3 := DL.nsk KX (x := "isinstance") (by k_is)
    have z4 := DL.nsk KX (x := "len") (by k_is)
    have z5 := DL.nsk KX (x := "max") (by k_is)
    have z6 := DL.nsk KX (x := "min") (by k_is)
    have z7 := DL.nsk KX (x := "range") (by k_is)
    have z8 := DL.nsk KX (x := "sorted") (by k_is)
    exact DL.finish rfl (fun K base a b x d e => by cases e) KX GX hmg f__law_whole f__law_is f_hold f__law_holds f_straight f__law_rounded f__law_straights f_mean f__law_menu f__law_quotients f_near f_mix f__law_nearest f_mul f__law_products f__law_nears f__law_cell f_law z0 z1 z2 z3 z4 z5 z6 z7 z8
end
