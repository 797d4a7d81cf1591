import PyProof.Rows.All
import Wide.All
import OpenK.AllK
import Wide.FinOn
import HandS.ForMost
import HandS.TupAny
import HandS.IsInst
import HandS.Wide
import PyProof.StrOps2
import HandS.Dict
import HandS.More
import HandS.TupLen
import HandS.Flow
import HandS.WordsExc
import HandS.Exc
import HandS.Sort
import HandS.SortOrd
import HandS.SortRule
import HandS.NamedTupSort
import HandS.Iter
import HandS.Rev
import HandS.Small
import HandS.SortInts
import HandS.Gcd
import KE.DatumOrd
import HandS.CallSlots
import HandS.ExcOwn
import HandS.Comp
import HandS.StrMore
import HandS.Text
import HandS.GenList
import PyProof.LongRange
import PyProof.RulesMatch
import HandS.ExcInit
import KE.KExcSuper
import HandS.TryOnly
import HandS.ExcIs
import KE.KExcIs
import HandS.HotCalls
import KE.GoesMore
import KE.DatumMore
import PyProof.EnumMake
import HandS.RevRange
import HandS.Zip
import HandS.ClsMeth
import HandS.OwnEq
import PyProof.FactsInt
import PyProof.Raises
import HandS.EndBits
import Flt.Len
import PySem.Challenge.RW_easelwork_k08_coverage_lattice
set_option Elab.async false
set_option linter.all false
set_option maxRecDepth 100000
namespace DL
open PySem PySem.Spec PyProof.Rows L2

/-! ### data -/
inductive D where
  | non | bl (b : Bool) | int (i : Int) | str (x : Str) | ty (n : String) | ref (a : Addr)
  | tup (xs : List D) | rol (xs : List D) | obj (nm : Str) (ns : List Str) (xs : List D) | dct | any
  | exc (nm : Str) (ns : List Str) (xs : List D)
  /-- an own class itself -/
  | kls (nm : Str)

inductive MO where
  | lst (xs : List D) | ins (nm : Str) (ns : List Str) (xs : List D) | dk (kvs : List (Key × D)) | dt (kvs : List (List Key × D))
  /-- a dict that is walked: its own object, what stands there, what is told of it -/
  | ldk (o : Obj) (us : List (Key × V)) (kvs : List (Key × D)) | ldt (o : Obj) (us : List (List Key × V)) (kvs : List (List Key × D))
abbrev MH := Addr → Option MO
abbrev DK := D → MH → Prop
abbrev En := List (Option D)
def updM (H : MH) (a : Addr) (o : MO) : MH := fun b => if b = a then some o else H b
theorem updM_same {H : MH} {a : Addr} {o : MO} : updM H a o a = some o := by unfold updM; rw [if_pos rfl]
theorem updM_ne {H : MH} {a b : Addr} {o : MO} (h : b ≠ a) : updM H a o b = H b := by unfold updM; rw [if_neg h]

/-- a list of the written part -/
structure Kz where
  K : PySem.W.Frag
  Z : Addr → Prop
def WL (K : PySem.W.Frag) (a : Addr) (xs : List V) : Prop :=
  ∃ (o : Obj) (its : Array Value) (n : Nat), K.lookup a = some o ∧ o.cls = .type "list" ∧ o.dict = none ∧ o.data = .seq its n ∧ its.size ≤ sizeLine ∧ Vals xs its.toList
def FrzL (K : Kz) (H : Hp) (Hm : MH) (a : Addr) (xs : List V) : Prop := (Rd H a (.lst xs) ∧ Hm a = none ∧ ¬ K.Z a) ∨ WL K.K a xs
theorem FrzL.sq {K : Kz} {H : Hp} {Hm : MH} {a : Addr} {xs : List V} (h : FrzL K H Hm a xs) : SqL K.K H a xs := by
  rcases h with h | h
  · exact .inl h.1
  · exact .inr h

/-- a tuple of the written part -/
def WTup (K : PySem.W.Frag) (a : Addr) (xs : List V) : Prop :=
  ∃ (o : Obj) (its : Array Value) (n : Nat), K.lookup a = some o ∧ o.cls = .type "tuple" ∧ o.data = .seq its n ∧ its.size ≤ sizeLine ∧ Vals xs its.toList
/-- a tuple: tracked, or of the written part -/
def SqU (K : PySem.W.Frag) (H : Hp) (a : Addr) (xs : List V) : Prop := H a = some (.tup xs) ∨ WTup K a xs
theorem SqU.sq {K : PySem.W.Frag} {H : Hp} {a : Addr} {xs : List V} (h : SqU K H a xs) : SqT K H a xs := h.elim (fun h => .inl (.inl h)) .inr
/-- the class of the module that bears this name -/
def ClsK (K : PySem.W.Frag) (nm : Str) (cls : Value) : Prop := ∃ C, cls = .ref C ∧ PySem.W.nsIn K mainGlobals nm = some (some (.ref C))
/-- an instance of the module's class of this name -/
def InsA (K : PySem.W.Frag) (H : Hp) (nm : Str) (a dx : Addr) (fs : List (Str × V)) : Prop := ∃ C, PySem.W.nsIn K mainGlobals nm = some (some (.ref C)) ∧ H a = some (.ins C dx fs)
theorem InsA.at_ {K : PySem.W.Frag} {H H' : Hp} {nm : Str} {a dx : Addr} {fs : List (Str × V)} (q : InsA K H nm a dx fs) (e : H' a = H a) : InsA K H' nm a dx fs := by
  obtain ⟨C, c, h⟩ := q
  exact ⟨C, c, e.trans h⟩
/-- an exception that was caught, at a: it stays as it is -/
def ExA (K : Kz) (H : Hp) (Hm : MH) (nm : Str) (a : Addr) (fs : List (Str × V)) : Prop := ∃ oe u, H a = some (.frz oe u) ∧ (Hm a = none ∧ ¬ K.Z a) ∧ (∃ vs, oe.data = .fields vs) ∧ ClsK K.K nm oe.cls ∧
  ((oe.dict = none ∧ fs = []) ∨ ∃ dx, oe.dict = some dx ∧ H dx = some (.xd fs) ∧ Hm dx = none ∧ ¬ K.Z dx)
mutual
def Is (K : Kz) (H : Hp) (Hm : MH) : D → V → Prop
  | .non, v => v = .non
  | .bl b, v => v = .bl b
  | .int i, v => v = .int i
  | .str x, v => v = .str x
  | .ty n, v => v = .ty n
  | .ref a, v => v = .ref a
  | .any, _ => True
  | .kls nm, v => ∃ a, v = .ref a ∧ PySem.W.nsIn K.K mainGlobals nm = some (some (.ref a))
  | .tup ds, v => ∃ a vs, v = .ref a ∧ SqU K.K H a vs ∧ Iss K H Hm ds vs
  | .rol ds, v => ∃ a vs, v = .ref a ∧ FrzL K H Hm a vs ∧ Iss K H Hm ds vs
  | .obj nm ns ds, v => ∃ a dx fs, v = .ref a ∧ InsA K.K H nm a dx fs ∧ (Hm a = none ∧ ¬ K.Z a) ∧ fs.map (·.1) = ns ∧ Iss K H Hm ds (fs.map (·.2))
  | .dct, v => ∃ a kvs, v = .ref a ∧ H a = some (.dK kvs) ∧ (Hm a = none ∧ ¬ K.Z a)
  | .exc nm ns ds, v => ∃ a fs, v = .ref a ∧ ExA K H Hm nm a fs ∧ fs.map (·.1) = ns ∧ Iss K H Hm ds (fs.map (·.2))
def Iss (K : Kz) (H : Hp) (Hm : MH) : List D → List V → Prop
  | [], vs => vs = []
  | d :: ds, vs => ∃ v r, vs = v :: r ∧ Is K H Hm d v ∧ Iss K H Hm ds r
end

section
variable {K : Kz} {H H' H'' : Hp} {Hm Hm' Hm'' : MH} {d : D} {v : V} {ds : List D} {vs : List V}
theorem Iss.nil : Iss K H Hm [] [] := by unfold Iss; rfl
theorem Iss.cons (h : Is K H Hm d v) (t : Iss K H Hm ds vs) : Iss K H Hm (d :: ds) (v :: vs) := by unfold Iss; exact ⟨v, vs, rfl, h, t⟩
theorem Iss.nil_of (h : Iss K H Hm [] vs) : vs = [] := by unfold Iss at h; exact h
theorem Iss.cons_of (h : Iss K H Hm (d :: ds) vs) : ∃ v r, vs = v :: r ∧ Is K H Hm d v ∧ Iss K H Hm ds r := by unfold Iss at h; exact h
theorem Iss.length : ∀ {ds : List D} {vs : List V}, Iss K H Hm ds vs → vs.length = ds.length
  | [], vs, h => by rw [h.nil_of]; rfl
  | d :: ds, vs, h => by
    obtain ⟨v, r, rfl, _, t⟩ := h.cons_of
    rw [List.length_cons, List.length_cons, t.length]
theorem Iss.get : ∀ {ds : List D} {vs : List V} {i : Nat} {d : D}, Iss K H Hm ds vs → ds[i]? = some d → ∃ v, vs[i]? = some v ∧ Is K H Hm d v
  | [], _, _, _, _, e => by simp at e
  | d :: ds, vs, 0, d', h, e => by
    obtain ⟨v, r, rfl, q, _⟩ := h.cons_of
    have e : d = d' := by simpa using e
    exact ⟨v, rfl, e ▸ q⟩
  | d :: ds, vs, i + 1, d', h, e => by
    obtain ⟨v, r, rfl, _, t⟩ := h.cons_of
    exact t.get (by simpa using e)
theorem Iss.get' : ∀ {ds : List D} {vs : List V} {i : Nat} {v : V}, Iss K H Hm ds vs → vs[i]? = some v → ∃ d, ds[i]? = some d ∧ Is K H Hm d v
  | [], vs, _, _, h, e => by rw [h.nil_of] at e; simp at e
  | d :: ds, vs, 0, v', h, e => by
    obtain ⟨v, r, rfl, q, _⟩ := h.cons_of
    have e : v = v' := by simpa using e
    exact ⟨d, rfl, e ▸ q⟩
  | d :: ds, vs, i + 1, v', h, e => by
    obtain ⟨v, r, rfl, _, t⟩ := h.cons_of
    exact t.get' (by simpa using e)
theorem Iss.append : ∀ {ds : List D} {vs : List V} {es : List D} {ws : List V}, Iss K H Hm ds vs → Iss K H Hm es ws → Iss K H Hm (ds ++ es) (vs ++ ws)
  | [], vs, _, _, h, g => by rw [h.nil_of]; exact g
  | d :: ds, vs, _, _, h, g => by
    obtain ⟨v, r, rfl, q, t⟩ := h.cons_of
    exact .cons q (t.append g)
theorem Iss.take : ∀ {ds : List D} {vs : List V} (n : Nat), Iss K H Hm ds vs → Iss K H Hm (ds.take n) (vs.take n)
  | _, _, 0, _ => .nil
  | [], vs, n + 1, h => by rw [h.nil_of]; exact .nil
  | d :: ds, vs, n + 1, h => by
    obtain ⟨v, r, rfl, q, t⟩ := h.cons_of
    exact .cons q (t.take n)
theorem Iss.drop : ∀ {ds : List D} {vs : List V} (n : Nat), Iss K H Hm ds vs → Iss K H Hm (ds.drop n) (vs.drop n)
  | _, _, 0, h => h
  | [], vs, n + 1, h => by rw [h.nil_of]; exact .nil
  | d :: ds, vs, n + 1, h => by
    obtain ⟨v, r, rfl, q, t⟩ := h.cons_of
    exact t.drop n
theorem Iss.set : ∀ {ds : List D} {vs : List V} (i : Nat) {d : D} {v : V}, Iss K H Hm ds vs → Is K H Hm d v → Iss K H Hm (ds.set i d) (vs.set i v)
  | [], vs, _, _, _, h, _ => by rw [h.nil_of]; exact .nil
  | e :: ds, vs, 0, d, v, h, g => by
    obtain ⟨u, r, rfl, q, t⟩ := h.cons_of
    exact .cons g t
  | e :: ds, vs, i + 1, d, v, h, g => by
    obtain ⟨u, r, rfl, q, t⟩ := h.cons_of
    exact .cons q (t.set i g)
theorem Iss.reverse : ∀ {ds : List D} {vs : List V}, Iss K H Hm ds vs → Iss K H Hm ds.reverse vs.reverse
  | [], vs, h => by rw [h.nil_of]; exact .nil
  | d :: ds, vs, h => by
    obtain ⟨v, r, rfl, q, t⟩ := h.cons_of
    rw [List.reverse_cons, List.reverse_cons]
    exact t.reverse.append (.cons q .nil)
theorem Iss.ints : ∀ {ns : List Int} {vs : List V}, Iss K H Hm (ns.map D.int) vs → vs = ns.map V.int
  | [], vs, h => h.nil_of
  | n :: ns, vs, h => by
    obtain ⟨v, r, rfl, q, t⟩ := h.cons_of
    unfold Is at q
    rw [q, t.ints]; rfl
theorem Iss.of_ints : ∀ (ns : List Int), Iss K H Hm (ns.map D.int) (ns.map V.int)
  | [] => .nil
  | n :: ns => .cons (by unfold Is; rfl) (Iss.of_ints ns)

/-! ### the mutable part, what is left alone -/
def RepO (K : Kz) (H : Hp) (Hm : MH) (a : Addr) : MO → Prop
  | .lst ds => ∃ vs, H a = some (.lst vs) ∧ Iss K H Hm ds vs
  | .ins nm ns ds => ∃ dx fs, InsA K.K H nm a dx fs ∧ fs.map (·.1) = ns ∧ Iss K H Hm ds (fs.map (·.2))
  | .dk kvs => ∃ us, H a = some (.dK us) ∧ us.map (·.1) = kvs.map (·.1) ∧ Iss K H Hm (kvs.map (·.2)) (us.map (·.2))
  | .dt kvs => ∃ us, H a = some (.dT us) ∧ us.map (·.1) = kvs.map (·.1) ∧ Iss K H Hm (kvs.map (·.2)) (us.map (·.2))
  | .ldk o us kvs => H a = some (.frz o (.dK us)) ∧ us.map (·.1) = kvs.map (·.1) ∧ Iss K H Hm (kvs.map (·.2)) (us.map (·.2))
  | .ldt o us kvs => H a = some (.frz o (.dT us)) ∧ us.map (·.1) = kvs.map (·.1) ∧ Iss K H Hm (kvs.map (·.2)) (us.map (·.2))
structure Rep (K : Kz) (H : Hp) (Hm : MH) : Prop where
  obj : ∀ a o, Hm a = some o → RepO K H Hm a o
  hid : ∀ a, K.Z a → ∃ o, H a = some o ∧ Hm a = none
def NT (Hm : MH) (H : Hp) (Hm' : MH) (H' : Hp) : Prop := ∀ a o, H a = some o → Hm a = none → H' a = some o ∧ Hm' a = none
theorem NT.refl : NT Hm H Hm H := fun _ _ e n => ⟨e, n⟩
theorem NT.trans (a : NT Hm H Hm' H') (b : NT Hm' H' Hm'' H'') : NT Hm H Hm'' H'' := fun x o e n => by
  obtain ⟨e1, n1⟩ := a x o e n
  exact b x o e1 n1
theorem Rep.hit (r : Rep K H Hm) {a : Addr} {o : MO} (h : Hm a = some o) : ∃ u, H a = some u ∧ ((∃ vs, u = .lst vs) ∨ (∃ C dx fs, u = .ins C dx fs) ∨ (∃ kvs, u = .dK kvs) ∨ (∃ kvs, u = .dT kvs) ∨ (∃ o kvs, u = .frz o (.dK kvs)) ∨ ∃ o kvs, u = .frz o (.dT kvs)) := by
  have := r.obj a o h
  cases o with
  | lst ds => obtain ⟨vs, e, _⟩ := this; exact ⟨_, e, .inl ⟨_, rfl⟩⟩
  | ins C ns ds => obtain ⟨dx, vs, ⟨_, _, e⟩, _⟩ := this; exact ⟨_, e, .inr (.inl ⟨_, _, _, rfl⟩)⟩
  | dk kvs => obtain ⟨us, e, _⟩ := this; exact ⟨_, e, .inr (.inr (.inl ⟨_, rfl⟩))⟩
  | dt kvs => obtain ⟨us, e, _⟩ := this; exact ⟨_, e, .inr (.inr (.inr (.inl ⟨_, rfl⟩)))⟩
  | ldk o us kvs => obtain ⟨e, _⟩ := this; exact ⟨_, e, .inr (.inr (.inr (.inr (.inl ⟨_, _, rfl⟩))))⟩
  | ldt o us kvs => obtain ⟨e, _⟩ := this; exact ⟨_, e, .inr (.inr (.inr (.inr (.inr ⟨_, _, rfl⟩))))⟩
theorem Rep.free (r : Rep K H Hm) {a : Addr} (h : H a = none) : Hm a = none := by
  cases q : Hm a with
  | none => rfl
  | some o =>
    obtain ⟨u, e, _⟩ := r.hit q
    rw [h] at e; cases e
theorem Rep.tup (r : Rep K H Hm) {a : Addr} {xs : List V} (h : H a = some (.tup xs)) : Hm a = none := by
  cases q : Hm a with
  | none => rfl
  | some o =>
    obtain ⟨u, e, z⟩ := r.hit q
    rw [h] at e; cases e
    rcases z with ⟨_, z⟩ | ⟨_, _, _, z⟩ | ⟨_, z⟩ | ⟨_, z⟩ | ⟨_, _, z⟩ | ⟨_, _, z⟩ <;> cases z
theorem Rep.frz (r : Rep K H Hm) {a : Addr} {o : Obj} {u : HO} (h : H a = some (.frz o u)) (nk : ∀ us, u ≠ .dK us := by intro _ z; cases z) (nt : ∀ us, u ≠ .dT us := by intro _ z; cases z) : Hm a = none := by
  cases q : Hm a with
  | none => rfl
  | some o =>
    obtain ⟨u, e, z⟩ := r.hit q
    rw [h] at e; cases e
    rcases z with ⟨_, z⟩ | ⟨_, _, _, z⟩ | ⟨_, z⟩ | ⟨_, z⟩ | ⟨_, _, z⟩ | ⟨_, _, z⟩ <;> first | (cases z; done) | (cases z; exact absurd rfl (nk _)) | (cases z; exact absurd rfl (nt _))
theorem sqU_nt (r : Rep K H Hm) (n : NT Hm H Hm' H') {a : Addr} {xs : List V} (h : SqU K.K H a xs) : SqU K.K H' a xs := by
  rcases h with h | h
  · exact .inl (n _ _ h (r.tup h)).1
  · exact .inr h
theorem sqT_nt (r : Rep K H Hm) (n : NT Hm H Hm' H') {a : Addr} {xs : List V} (h : SqT K.K H a xs) : SqT K.K H' a xs := by
  rcases h with (h | ⟨o, h⟩) | h
  · exact .inl (.inl (n _ _ h (r.tup h)).1)
  · exact .inl (.inr ⟨o, (n _ _ h (r.frz h)).1⟩)
  · exact .inr h
theorem frzL_nt (n : NT Hm H Hm' H') {a : Addr} {xs : List V} (h : FrzL K H Hm a xs) : FrzL K H' Hm' a xs := by
  rcases h with ⟨h | ⟨o, h⟩, m, z⟩ | h
  · obtain ⟨e, q⟩ := n _ _ h m
    exact .inl ⟨.inl e, q, z⟩
  · obtain ⟨e, q⟩ := n _ _ h m
    exact .inl ⟨.inr ⟨o, e⟩, q, z⟩
  · exact .inr h
theorem ExA.nt (n : NT Hm H Hm' H') {nm : Str} {a : Addr} {fs : List (Str × V)} (h : ExA K H Hm nm a fs) : ExA K H' Hm' nm a fs := by
  obtain ⟨oe, u, e, ⟨m, z⟩, dd, c, f⟩ := h
  obtain ⟨e', m'⟩ := n _ _ e m
  refine ⟨oe, u, e', ⟨m', z⟩, dd, c, ?_⟩
  rcases f with f | ⟨dx, d1, d2, d3, d4⟩
  · exact .inl f
  · obtain ⟨q, w⟩ := n _ _ d2 d3
    exact .inr ⟨dx, d1, q, w, d4⟩
mutual
theorem Is.nt (r : Rep K H Hm) (n : NT Hm H Hm' H') : ∀ (d : D) (v : V), Is K H Hm d v → Is K H' Hm' d v
  | .non, v, h => h
  | .bl b, v, h => h
  | .int i, v, h => h
  | .str x, v, h => h
  | .ty n, v, h => h
  | .ref a, v, h => h
  | .any, v, h => h
  | .kls nm, v, h => h
  | .tup ds, v, h => by
    unfold Is at h ⊢
    obtain ⟨a, vs, e, s, t⟩ := h
    exact ⟨a, vs, e, sqU_nt r n s, Iss.nt r n ds vs t⟩
  | .rol ds, v, h => by
    unfold Is at h ⊢
    obtain ⟨a, vs, e, s, t⟩ := h
    exact ⟨a, vs, e, frzL_nt n s, Iss.nt r n ds vs t⟩
  | .obj C ns ds, v, h => by
    unfold Is at h ⊢
    obtain ⟨a, dx, fs, e, ⟨C, c, s⟩, ⟨m, z⟩, l, t⟩ := h
    obtain ⟨s', m'⟩ := n _ _ s m
    exact ⟨a, dx, fs, e, ⟨C, c, s'⟩, ⟨m', z⟩, l, Iss.nt r n ds _ t⟩
  | .dct, v, h => by
    unfold Is at h ⊢
    obtain ⟨a, kvs, e, s, m, z⟩ := h
    obtain ⟨s', m'⟩ := n _ _ s m
    exact ⟨a, kvs, e, s', m', z⟩
  | .exc nm ns ds, v, h => by
    unfold Is at h ⊢
    obtain ⟨a, fs, e, x, l, t⟩ := h
    exact ⟨a, fs, e, x.nt n, l, Iss.nt r n ds _ t⟩
theorem Iss.nt (r : Rep K H Hm) (n : NT Hm H Hm' H') : ∀ (ds : List D) (vs : List V), Iss K H Hm ds vs → Iss K H' Hm' ds vs
  | [], vs, h => by unfold Iss at h ⊢; exact h
  | d :: ds, vs, h => by
    obtain ⟨v, t, e, q, z⟩ := h.cons_of
    rw [e]
    exact .cons (Is.nt r n d v q) (Iss.nt r n ds t z)
end
/-- forgetting what is tracked -/
def Sub (Hm' Hm : MH) : Prop := ∀ a, Hm a = none → Hm' a = none
mutual
theorem Is.sub (s : Sub Hm' Hm) : ∀ (d : D) (v : V), Is K H Hm d v → Is K H Hm' d v
  | .non, v, h => h
  | .bl b, v, h => h
  | .int i, v, h => h
  | .str x, v, h => h
  | .ty n, v, h => h
  | .ref a, v, h => h
  | .any, v, h => h
  | .kls nm, v, h => h
  | .tup ds, v, h => by
    unfold Is at h ⊢
    obtain ⟨a, vs, e, q, t⟩ := h
    exact ⟨a, vs, e, q, Iss.sub s ds vs t⟩
  | .rol ds, v, h => by
    unfold Is at h ⊢
    obtain ⟨a, vs, e, q, t⟩ := h
    refine ⟨a, vs, e, ?_, Iss.sub s ds vs t⟩
    rcases q with ⟨q, m, z⟩ | q
    · exact .inl ⟨q, s _ m, z⟩
    · exact .inr q
  | .obj C ns ds, v, h => by
    unfold Is at h ⊢
    obtain ⟨a, dx, fs, e, q, ⟨m, z⟩, l, t⟩ := h
    exact ⟨a, dx, fs, e, q, ⟨s _ m, z⟩, l, Iss.sub s ds _ t⟩
  | .dct, v, h => by
    unfold Is at h ⊢
    obtain ⟨a, kvs, e, q, m, z⟩ := h
    exact ⟨a, kvs, e, q, s _ m, z⟩
  | .exc nm ns ds, v, h => by
    unfold Is at h ⊢
    obtain ⟨a, fs, e, x, l, t⟩ := h
    refine ⟨a, fs, e, ?_, l, Iss.sub s ds _ t⟩
    obtain ⟨oe, u, e, ⟨m, z⟩, dd, c, f⟩ := x
    refine ⟨oe, u, e, ⟨s _ m, z⟩, dd, c, ?_⟩
    rcases f with f | ⟨dx, d1, d2, d3, d4⟩
    · exact .inl f
    · exact .inr ⟨dx, d1, d2, s _ d3, d4⟩
theorem Iss.sub (s : Sub Hm' Hm) : ∀ (ds : List D) (vs : List V), Iss K H Hm ds vs → Iss K H Hm' ds vs
  | [], vs, h => by unfold Iss at h ⊢; exact h
  | d :: ds, vs, h => by
    obtain ⟨v, t, e, q, z⟩ := h.cons_of
    rw [e]
    exact .cons (Is.sub s d v q) (Iss.sub s ds t z)
end
theorem ExA.to {K K' : Kz} (hk : K'.K = K.K) (p : ∀ a o, ((∃ x u, o = HO.frz x u) ∨ ∃ fs, o = HO.xd fs) → H a = some o → Hm a = none → ¬ K.Z a → H' a = some o ∧ Hm' a = none ∧ ¬ K'.Z a) (nm : Str) (a : Addr) (fs : List (Str × V)) (h : ExA K H Hm nm a fs) : ExA K' H' Hm' nm a fs := by
  obtain ⟨oe, u, e, ⟨m, z⟩, dd, c, f⟩ := h
  obtain ⟨e', m', z'⟩ := p _ _ (.inl ⟨_, _, rfl⟩) e m z
  refine ⟨oe, u, e', ⟨m', z'⟩, dd, by rw [hk]; exact c, ?_⟩
  rcases f with f | ⟨dx, d1, d2, d3, d4⟩
  · exact .inl f
  · exact .inr ⟨dx, d1, p _ _ (.inr ⟨_, rfl⟩) d2 d3 d4⟩
/-! from one state and hidden set to another -/
mutual
theorem Is.tr {K K' : Kz} (hk : K'.K = K.K) (t : ∀ a xs, SqU K.K H a xs → SqU K'.K H' a xs) (f : ∀ a xs, FrzL K H Hm a xs → FrzL K' H' Hm' a xs)
    (o : ∀ a C dx fs, H a = some (.ins C dx fs) → (Hm a = none ∧ ¬ K.Z a) → H' a = some (.ins C dx fs) ∧ (Hm' a = none ∧ ¬ K'.Z a))
    (w : ∀ a kvs, H a = some (.dK kvs) → (Hm a = none ∧ ¬ K.Z a) → ∃ kvs', H' a = some (.dK kvs') ∧ (Hm' a = none ∧ ¬ K'.Z a))
    (y : ∀ nm a fs, ExA K H Hm nm a fs → ExA K' H' Hm' nm a fs) : ∀ (d : D) (v : V), Is K H Hm d v → Is K' H' Hm' d v
  | .non, v, h => h
  | .bl b, v, h => h
  | .int i, v, h => h
  | .str x, v, h => h
  | .ty n, v, h => h
  | .ref a, v, h => h
  | .any, v, h => h
  | .kls nm, v, h => by
    unfold Is at h ⊢
    rw [hk]; exact h
  | .tup ds, v, h => by
    unfold Is at h ⊢
    obtain ⟨a, vs, e, q, z⟩ := h
    exact ⟨a, vs, e, t _ _ q, Iss.tr hk t f o w y ds vs z⟩
  | .rol ds, v, h => by
    unfold Is at h ⊢
    obtain ⟨a, vs, e, q, z⟩ := h
    exact ⟨a, vs, e, f _ _ q, Iss.tr hk t f o w y ds vs z⟩
  | .obj C ns ds, v, h => by
    unfold Is at h ⊢
    obtain ⟨a, dx, fs, e, ⟨C, c, q⟩, m, l, z⟩ := h
    obtain ⟨q', m'⟩ := o _ _ _ _ q m
    exact ⟨a, dx, fs, e, ⟨C, by rw [hk]; exact c, q'⟩, m', l, Iss.tr hk t f o w y ds _ z⟩
  | .dct, v, h => by
    unfold Is at h ⊢
    obtain ⟨a, kvs, e, q, m⟩ := h
    obtain ⟨kvs', q', m'⟩ := w _ _ q m
    exact ⟨a, kvs', e, q', m'⟩
  | .exc nm ns ds, v, h => by
    unfold Is at h ⊢
    obtain ⟨a, fs, e, x, l, z⟩ := h
    exact ⟨a, fs, e, y _ _ _ x, l, Iss.tr hk t f o w y ds _ z⟩
theorem Iss.tr {K K' : Kz} (hk : K'.K = K.K) (t : ∀ a xs, SqU K.K H a xs → SqU K'.K H' a xs) (f : ∀ a xs, FrzL K H Hm a xs → FrzL K' H' Hm' a xs)
    (o : ∀ a C dx fs, H a = some (.ins C dx fs) → (Hm a = none ∧ ¬ K.Z a) → H' a = some (.ins C dx fs) ∧ (Hm' a = none ∧ ¬ K'.Z a))
    (w : ∀ a kvs, H a = some (.dK kvs) → (Hm a = none ∧ ¬ K.Z a) → ∃ kvs', H' a = some (.dK kvs') ∧ (Hm' a = none ∧ ¬ K'.Z a))
    (y : ∀ nm a fs, ExA K H Hm nm a fs → ExA K' H' Hm' nm a fs) : ∀ (ds : List D) (vs : List V), Iss K H Hm ds vs → Iss K' H' Hm' ds vs
  | [], vs, h => by unfold Iss at h ⊢; exact h
  | d :: ds, vs, h => by
    obtain ⟨v, r, e, q, z⟩ := h.cons_of
    rw [e]
    exact .cons (Is.tr hk t f o w y d v q) (Iss.tr hk t f o w y ds r z)
end
end
end DL

namespace DL
open PySem PySem.Spec PyProof.Rows L2

inductive Bi where
  | len | min | max | abs | int | bool | str | sorted | list | tuple | sum | isi | all | any | gcd
inductive Mt where
  | append | pop | upper | insert | extend | rstrip | join | reverse
mutual
inductive E where
  | k (d : D) | v (i : Nat) | g (x : Str) | ty (n : String)
  | bin (m : Bool) (o : Operator) (a b : E) | neg (a : E) | not (a : E) | and (a b : E) | or (a b : E)
  | cmp (o : CmpOp) (a b : E) | ch (a : E) (o : CmpOp) (b : E) (o' : CmpOp) (c : E) | ch3 (a : E) (o : CmpOp) (b : E) (o' : CmpOp) (c : E) (o2 : CmpOp) (e : E)
  | ite (t a b : E) | tup (es : Es) | lst (m : Bool) (es : Es)
  | ix (a b : E) | sl (m : Bool) (a : E) (lo hi : Oe)
  | rvl (m : Bool) (a : E) | dct (ks : List Key) (es : Es) | dget (a k d : E) | dgetT (a : E) (es : Es) (d : E) | dinT (n : Bool) (es : Es) (a : E) | dnew (t : Bool) | dixT (a : E) (es : Es)
  | call (x : Str) (es : Es) | bi (m : Bool) (f : Bi) (es : Es) | mth (m : Bool) (a : E) (f : Mt) (es : Es)
  | lc (m : Bool) (e : E) (t : T) (i : It) (c : Es) (own : List Nat) | lcd (e : E) (t : T) (i : Nat) (c : Es) (own : List Nat)
  | lc2 (m : Bool) (e : E) (t : T) (i : It) (c : Es) (t1 : T) (i1 : It) (c1 : Es) (own vs1 : List Nat)
  | isx (a : E) (cs : List Str) | fld (a : E) (f : Str) | vf (i : Nat)
  | ofld (a : E) (f : Str) | omth (C m q : Str) (a : E) (es : Es) | new (C q : Str) (es : Es) | icall (C q : Str) (a : E) (es : Es) | newc (C q : Str) (a : E) (es : Es) | obool (C q : Str) (a : E) | ocmp (C q : Str) (a b : E) | obin (C q : Str) (o : Operator) (a b : E)
inductive Oe where
  | no | so (e : E)
inductive Es where
  | nil | cons (e : E) (es : Es)
inductive T where
  | nm (i : Nat) | tup (ts : Ts) | sub (a b : E) | dsub (a b : E) | dsubT (a : E) (es : Es)
inductive Ts where
  | nil | cons (t : T) (ts : Ts)
inductive It where
  | seq (e : E) | rng1 (a : E) | rng2 (a b : E) | rng3 (a b c : E) | rngR (a : E) | revs (a : E) | zip (a b : E) | enum (a : E)
end
mutual
inductive S where
  | fail | mtch (e : E) (cs : Ms) | rais (c : Str) (es : Es) | tryx (b : Ss) (c : Str) (i : Option Nat) (su : Ss)
  | asg (t : T) (e : E) | asg2 (t u : T) (e : E) | par (i j : Nat) (a b : E) | setf (o : E) (f : Str) (e : E) | aug (i : Nat) (o : Operator) (e : E) | ex (e : E) | ret (e : E) | retN
  | cond (c : E) (a b : Ss) | loop (t : T) (i : It) (b : Ss) | whl (c : E) (b : Ss) | brk | ct | pass
inductive Ss where
  | nil | cons (s : S) (ss : Ss)
inductive Ms where
  | nil | dflt (b : Ss) | cons (ks : List Str) (b : Ss) (r : Ms)
end

/-- own classes that are no exceptions -/
def ownNm : List Str := ["LineReader", "Coverage", "Desk", "Disk", "Document", "File", "History", "Moment", "Kept", "Matrix", "Region", "Work", "Curve", "Window"]
/-! ### values -/
/-- a place is tracked no more -/
def fgt (H : MH) (p : Addr) : MH := fun a => if a = p then none else H a
@[simp] def lstAt (H : MH) : D → Option (List D)
  | .rol xs => some xs
  | .ref a => match H a with
    | some (.lst xs) => some xs
    | _ => none
  | _ => none
@[simp] def seqAt (H : MH) : D → Option (List D)
  | .tup xs => some xs
  | d => lstAt H d
mutual
@[simp] def pyD : D → Option PyData
  | .non => some .none
  | .bl b => some (.bool b)
  | .int i => some (.int i)
  | .str x => some (.str x)
  | .tup xs => (pyDs xs).map .tuple
  | .rol xs => (pyDs xs).map .list
  | _ => none
@[simp] def pyDs : List D → Option (List PyData)
  | [] => some []
  | x :: xs => (pyD x).bind fun d => (pyDs xs).map (d :: ·)
end
@[simp] def eqD : D → D → Option Bool
  | .int a, .int b => some (decide (a = b))
  | .bl a, .bl b => some (decide (a = b))
  | .str a, .str b => some (decide (a = b))
  | .non, .non => some true
  | x, y => (pyD x).bind fun d => (pyD y).bind fun e => if SeqAt.shaped d && SeqAt.shaped e then some (PyData.eqv d e) else none
@[simp] def rdL (H : MH) (d : D) : D := match lstAt H d with
  | some xs => .rol xs
  | none => d
def flatD : D → Bool
  | .non => true | .bl _ => true | .int _ => true | .str _ => true | _ => false
/-- x in xs, flat things -/
def eqF : D → D → Bool
  | .non, .non => true
  | .bl a, .bl b => a == b
  | .int a, .int b => a == b
  | .str a, .str b => a == b
  | .bl a, .int b => (if a then 1 else 0) == b
  | .int a, .bl b => a == (if b then 1 else 0)
  | _, _ => false
def inD (x : D) (xs : List D) : Option Bool := if flatD x && xs.all flatD then some (xs.any fun y => eqF y x) else none
@[simp] def isNonD : D → Option Bool
  | .non => some true | .any => none | _ => some false
@[simp] def cmpD (o : CmpOp) (x y : D) (H : MH) : Option Bool :=
  match o, x, y with
  | .Lt, .int i, .int j => some (decide (i < j))
  | .LtE, .int i, .int j => some (decide (i ≤ j))
  | .Gt, .int i, .int j => some (decide (j < i))
  | .GtE, .int i, .int j => some (decide (j ≤ i))
  | .Eq, x, y => eqD (rdL H x) (rdL H y)
  | .NotEq, x, y => (eqD (rdL H x) (rdL H y)).map (!·)
  | .Is, x, .non => isNonD x
  | .IsNot, x, .non => (isNonD x).map (!·)
  | .In, x, y => (seqAt H y).bind fun xs => inD x xs
  | .NotIn, x, y => (seqAt H y).bind fun xs => (inD x xs).map (!·)
  | _, _, _ => none
@[simp] def truD (H : MH) : D → Option Bool
  | .non => some false
  | .bl b => some b
  | .int i => some (i != 0)
  | d => (seqAt H d).map (!·.isEmpty)
@[simp] def freshL (m : Bool) (ys : List D) (H : MH) (Q : DK) : Prop := ys.length ≤ sizeLine ∧
  match m with
  | true => ∀ p, H p = none → Q (.ref p) (updM H p (.lst ys))
  | false => Q (.rol ys) H
def mulOk (i j : Int) : Prop := (-(2 ^ 64) < i ∧ i < 2 ^ 64) ∨ (-(2 ^ 64) < j ∧ j < 2 ^ 64) ∨ i.natAbs.log2 + j.natAbs.log2 < 100000000
/-- a text n times -/
def repS (a : Str) (n : Nat) : Str := ⟨(List.replicate n a.cps).foldl (· ++ ·) #[]⟩
@[simp] def binD (m : Bool) (o : Operator) (x y : D) (H : MH) (Q : DK) : Prop :=
  match o, x, y with
  | .Add, .int i, .int j => Q (.int (i + j)) H
  | .Sub, .int i, .int j => Q (.int (i - j)) H
  | .Mult, .int i, .int j => mulOk i j ∧ Q (.int (i * j)) H
  | .FloorDiv, .int i, .int j => 0 < j ∧ Q (.int (i / j)) H
  | .Mod, .int i, .int j => 0 < j ∧ Q (.int (i % j)) H
  | .Pow, .int i, .int j => CPow i j ∧ Q (.int (i ^ j.toNat)) H
  | .Add, .str a, .str b => a.length + b.length ≤ sizeLine ∧ Q (.str (a ++ b)) H
  | .Add, .tup xs, .tup ys => xs.length + ys.length ≤ sizeLine ∧ Q (.tup (xs ++ ys)) H
  | .Mult, .str a, .int k => -(2 ^ 63) ≤ k ∧ k < 2 ^ 63 ∧ a.length * k.toNat ≤ sizeLine ∧ Q (.str (repS a k.toNat)) H
  | .Mult, .ref a, .int k => ∃ xs, H a = some (.lst xs) ∧ -(2 ^ 63) ≤ k ∧ k < 2 ^ 63 ∧ freshL m (List.replicate k.toNat xs).flatten H Q
  | .Add, x, y => ∃ xs ys, lstAt H x = some xs ∧ lstAt H y = some ys ∧ freshL m (xs ++ ys) H Q
  | _, _, _ => False
@[simp] def augD (o : Operator) (x y : D) (H : MH) (Q : DK) : Prop :=
  match o, x, y with
  | .Add, .int i, .int j => Q (.int (i + j)) H
  | .Sub, .int i, .int j => Q (.int (i - j)) H
  | .Add, .str a, .str b => a.length + b.length ≤ sizeLine ∧ Q (.str (a ++ b)) H
  | _, _, _ => False
/-! dicts -/
@[simp] def keyD : D → Option Key
  | .int i => some (.inl i)
  | .str x => some (.inr x)
  | _ => none
@[simp] def keyE : Key → D
  | .inl i => .int i
  | .inr x => .str x
@[simp] def keysD : List D → Option (List Key)
  | [] => some []
  | x :: xs => (keyD x).bind fun k => (keysD xs).map (k :: ·)
section
variable {κ : Type} [DecidableEq κ]
def valD (kvs : List (κ × D)) (k : κ) : Option D := (kvs.find? fun kv => decide (kv.1 = k)).map (·.2)
def putD (kvs : List (κ × D)) (k : κ) (v : D) : List (κ × D) :=
  if (kvs.any fun kv => decide (kv.1 = k)) = true then kvs.map (fun kv => if kv.1 = k then (kv.1, v) else kv) else kvs ++ [(k, v)]
end
/-- a dict that is read, walked or not -/
@[simp] def dkRd (H : MH) (p : Addr) : Option (List (Key × D)) := match H p with
  | some (.dk kvs) => some kvs
  | some (.ldk _ _ kvs) => some kvs
  | _ => none
@[simp] def dtRd (H : MH) (p : Addr) : Option (List (List Key × D)) := match H p with
  | some (.dt kvs) => some kvs
  | some (.ldt _ _ kvs) => some kvs
  | _ => none
@[simp] def dkAt (H : MH) : D → Option (List (Key × D))
  | .ref a => dkRd H a
  | _ => none
@[simp] def dlenAt (H : MH) : D → Option Nat
  | .ref a => match H a with
    | some (.dk kvs) => some kvs.length
    | some (.dt kvs) => some kvs.length
    | some (.ldk _ _ kvs) => some kvs.length
    | _ => none
  | _ => none
/-- d.get(k): found or not; of a dict that is not tracked: anything -/
@[simp] def dgetD (H : MH) (x y : D) : Option (Option D) := match x with
  | .ref a => (dkRd H a).bind fun kvs => (keyD y).map fun k => valD kvs k
  | _ => none
@[simp] def dgetT (H : MH) (x : D) (ds : List D) : Option (Option D) := match x with
  | .ref a => (dtRd H a).bind fun kvs => (keysD ds).map fun ks => valD kvs ks
  | _ => none
@[simp] def isDct (H : MH) : D → Bool
  | .dct => true
  | .ref a => match H a with
    | some (.dk _) => true
    | some (.dt _) => true
    | some (.ldk _ _ _) => true
    | some (.ldt _ _ _) => true
    | _ => false
  | _ => false
@[simp] def getD2 (x y z : D) (H : MH) (Q : DK) : Prop := match x with
  | .dct => ∃ k, keyD y = some k ∧ Q .any H
  | x => ∃ o, dgetD H x y = some o ∧ Q (o.getD z) H
@[simp] def memS (a : Str) : List Str → Bool
  | [] => false
  | [k] => decide (a = k)
  | k :: r => decide (a = k) || memS a r
/-- a match's case: which texts -/
@[simp] def eqStr (d : D) (ks : List Str) : Option Bool := match d with
  | .str a => some (memS a ks)
  | _ => none
@[simp] def ixD (x y : D) (H : MH) : Option D :=
  match y with
  | .int i => match x with
    | .str z => if z.length ≤ sizeLine then (atI z.cps.toList i).map fun c => .str ⟨#[c]⟩ else none
    | d => match seqAt H d with
      | some xs => atI xs i
      | none => (dkAt H d).bind fun kvs => valD kvs (.inl i)
  | .str z => (dkAt H x).bind fun kvs => valD kvs (.inr z)
  | _ => none
def cutD (xs : List D) (lo hi : Option Int) : List D := (xs.drop (HT.sIx xs.length 0 lo)).take (HT.sIx xs.length xs.length hi - HT.sIx xs.length 0 lo)
@[simp] def slD (m : Bool) (x : D) (lo hi : Option Int) (H : MH) (Q : DK) : Prop :=
  match x with
  | .tup xs => Q (.tup (cutD xs lo hi)) H
  | .str z => z.length ≤ sizeLine ∧ Q (.str (cutS z lo hi)) H
  | d => ∃ xs, lstAt H d = some xs ∧ freshL m (cutD xs lo hi) H Q
def tyNames : List String := ["int", "bool", "str", "tuple", "list", "dict"]
@[simp] def isTy0 : D → String → MH → Option Bool
  | .non, n, _ => some false
  | .bl _, n, _ => some (n == "bool" || n == "int")
  | .int _, n, _ => some (n == "int")
  | .str _, n, _ => some (n == "str")
  | .tup _, n, _ => some (n == "tuple")
  | .rol _, n, _ => some (n == "list")
  | .dct, n, _ => some (n == "dict")
  | .ref a, n, H => match H a with
    | some (.lst _) => some (n == "list")
    | _ => none
  | _, _, _ => none
def isTy (d : D) (n : String) (H : MH) : Option Bool := if tyNames.contains n then isTy0 d n H else none
@[simp] def intsD : List D → Option (List Int)
  | [] => some []
  | .int i :: r => (intsD r).map (i :: ·)
  | _ => none
@[simp] def tupsI : List D → Option (List (List Int))
  | [] => some []
  | .tup t :: r => (intsD t).bind fun x => (tupsI r).map (x :: ·)
  | _ => none
@[simp] def strsD : List D → Option (List Str)
  | [] => some []
  | .str i :: r => (strsD r).map (i :: ·)
  | _ => none
@[simp] def boolsD : List D → Option (List Bool)
  | [] => some []
  | .bl i :: r => (boolsD r).map (i :: ·)
  | _ => none
def leastS (x : Str) (xs : List Str) : Str := xs.foldl (fun a y => if decide (y.cps.toList < a.cps.toList) = true then y else a) x
def leastI (n : Int) : List Int → Int
  | [] => n
  | m :: r => leastI (if m < n then m else n) r
def mostI (n : Int) : List Int → Int
  | [] => n
  | m :: r => mostI (if m > n then m else n) r
/-- what list(x) gives: a dict's keys -/
@[simp] def listAt (H : MH) : D → Option (List D)
  | .ref p => match H p with
    | some (.lst xs) => some xs
    | some (.dk kvs) => some (kvs.map fun kv => keyE kv.1)
    | some (.dt kvs) => some (kvs.map fun kv => .tup (kv.1.map keyE))
    | some (.ldk _ _ kvs) => some (kvs.map fun kv => keyE kv.1)
    | some (.ldt _ _ kvs) => some (kvs.map fun kv => .tup (kv.1.map keyE))
    | _ => none
  | d => seqAt H d
@[simp] def biD (m : Bool) (f : Bi) (ds : List D) (H : MH) (Q : DK) : Prop :=
  match f, ds with
  | .len, [.str z] => z.length ≤ sizeLine ∧ Q (.int z.length) H
  | .len, [d] => match m with
    | true => ∃ n, dlenAt H d = some n ∧ Q (.int n) H
    | false => ∃ xs, seqAt H d = some xs ∧ Q (.int xs.length) H
  | .min, [.int i, .int j] => Q (.int (if j < i then j else i)) H
  | .max, [.int i, .int j] => Q (.int (if j > i then j else i)) H
  | .min, [d] => match m with
    | true => ∃ n ns, (seqAt H d).bind strsD = some (n :: ns) ∧ Q (.str (leastS n ns)) H
    | false => ∃ n ns, (seqAt H d).bind intsD = some (n :: ns) ∧ Q (.int (leastI n ns)) H
  | .max, [d] => ∃ n ns, (seqAt H d).bind intsD = some (n :: ns) ∧ Q (.int (mostI n ns)) H
  | .abs, [.int i] => Q (.int (if i < 0 then -i else i)) H
  | .gcd, [.int i, .int j] => Q (.int ((Nat.gcd i.natAbs j.natAbs : Nat) : Int)) H
  | .int, [.int i] => Q (.int i) H
  | .int, [.bl b] => Q (.int (if b then 1 else 0)) H
  | .bool, [.bl b] => Q (.bl b) H
  | .bool, [.tup xs] => Q (.bl (!xs.isEmpty)) H
  | .str, [.int i] => i.natAbs.log2 < 1920 ∧ Q (.str (toString i)) H
  | .sum, [d] => ∃ ns, (lstAt H d).bind intsD = some ns ∧ Q (.int ns.sum) H
  | .all, [d] => ∃ bs, (lstAt H d).bind boolsD = some bs ∧ Q (.bl (bs.all id)) H
  | .any, [d] => ∃ bs, (lstAt H d).bind boolsD = some bs ∧ Q (.bl (bs.any id)) H
  | .sorted, [d] => (∃ ns, (lstAt H d).bind intsD = some ns ∧ ∀ ms : List Int, ms.Perm ns → ms.Pairwise (· ≤ ·) → freshL m (ms.map .int) H Q) ∨
      ∃ (ts : List (List Int)) (n : Nat), (lstAt H d).bind tupsI = some ts ∧ 1 ≤ n ∧ (∀ t ∈ ts, t.length = n) ∧ ∀ ms : List (List Int), ms.Perm ts → ms.Pairwise (fun a b => HT.lexLt b a = false) → freshL m (ms.map fun t => .tup (t.map .int)) H Q
  | .list, [d] => ∃ xs, listAt H d = some xs ∧ freshL m xs H Q
  | .tuple, [d] => ∃ xs, seqAt H d = some xs ∧ Q (.tup xs) H
  | .isi, [d, .ty n] => ∃ b, isTy d n H = some b ∧ Q (.bl b) H
  | _, _ => False
@[simp] def mtTy (f : Mt) (x : D) (H : MH) : Prop :=
  match f with
  | .append => ∃ a xs, x = .ref a ∧ H a = some (.lst xs)
  | .pop => ∃ a xs, x = .ref a ∧ H a = some (.lst xs)
  | .insert => ∃ a xs, x = .ref a ∧ H a = some (.lst xs)
  | .extend => ∃ a xs, x = .ref a ∧ H a = some (.lst xs)
  | .upper => ∃ z, x = .str z
  | .rstrip => ∃ z, x = .str z
  | .join => ∃ z, x = .str z
  | .reverse => ∃ a xs, x = .ref a ∧ H a = some (.lst xs)
@[simp] def mtD (m : Bool) (f : Mt) (x : D) (ds : List D) (H : MH) (Q : DK) : Prop :=
  match f, x, ds with
  | .append, .ref a, [d] => ∃ xs, H a = some (.lst xs) ∧ xs.length < sizeLine ∧ Q .non (updM H a (.lst (xs ++ [d])))
  | .pop, .ref a, [] => ∃ xs d, H a = some (.lst (xs ++ [d])) ∧ Q d (updM H a (.lst xs))
  | .pop, .ref a, [.int i] => ∃ xs k d, H a = some (.lst xs) ∧ -(2 ^ 63) ≤ i ∧ i < 2 ^ 63 ∧ ixN xs.length i = some k ∧ xs[k]? = some d ∧ Q d (updM H a (.lst (xs.eraseIdx k)))
  | .insert, .ref a, [.int i, d] => ∃ xs, H a = some (.lst xs) ∧ xs.length < sizeLine ∧ 0 ≤ i ∧ i < 2 ^ 63 ∧ Q .non (updM H a (.lst (xs.take i.toNat ++ [d] ++ xs.drop i.toNat)))
  | .extend, .ref a, [.ref b] => ∃ xs ys, H a = some (.lst xs) ∧ H b = some (.lst ys) ∧ xs.length + ys.length ≤ sizeLine ∧ Q .non (updM H a (.lst (xs ++ ys)))
  | .rstrip, .str a, [.str b] => a.length ≤ sizeLine ∧ Q (.str (Txt.rstripChars a b)) H
  | .join, .str a, [d] => ∃ ys, (seqAt H d).bind strsD = some ys ∧ (ys.map (·.length)).sum + ys.length * a.length ≤ 16777216 ∧ Q (.str (Txt.join a ys)) H
  | .reverse, .ref a, [] => ∃ xs, H a = some (.lst xs) ∧ Q .non (updM H a (.lst xs.reverse))
  | .upper, .str a, [] => a.length ≤ 5592405 ∧ Q (.str (Txt.upper a)) H
  | _, _, _ => False

mutual
@[simp] def T.slots : T → List Nat
  | .nm i => [i]
  | .tup ts => ts.slots
  | .sub _ _ => []
  | .dsub _ _ => []
  | .dsubT _ _ => []
@[simp] def Ts.slots : Ts → List Nat
  | .nil => []
  | .cons t ts => t.slots ++ ts.slots
end
@[simp] def Ts.len : Ts → Nat
  | .nil => 0
  | .cons _ ts => ts.len + 1
/-! ### the reading of a term -/
abbrev XDK := Str → Option (List Str × List D) → MH → Prop
abbrev Ctr := List D → MH → DK → XDK → Prop
/-- a class of errors: whose subclass it is, the one field that its own __init__ sets -/
structure CI where
  sup : List Str
  fld : Option Str
structure Gm where
  fn : Str → Option (Nat × Ctr)
  gv : Str → Option D
  cl : Str → Option CI
  ob : Str → Option (List Str)
  /-- the keys that tuples of the written part may be -/
  wt : List Key → Bool := fun _ => true
/-! a tuple that a variable holds, as a key -/
@[simp] def ixW (wt : List Key → Bool) (x y : D) (H : MH) (Q : DK) : Prop := match y with
  | .tup ds => ∃ p kvs ks d, x = .ref p ∧ dtRd H p = some kvs ∧ keysD ds = some ks ∧ wt ks = false ∧ valD kvs ks = some d ∧ Q d H
  | y => ∃ d, ixD x y H = some d ∧ Q d H
@[simp] def dinAt (H : MH) (o : CmpOp) (x y : D) : Option (List (List Key × D) × List D × Bool) := match o, x, y with
  | .In, .tup ds, .ref p => (dtRd H p).map fun kvs => (kvs, ds, false)
  | .NotIn, .tup ds, .ref p => (dtRd H p).map fun kvs => (kvs, ds, true)
  | _, _, _ => none
@[simp] def cmpW (wt : List Key → Bool) (o : CmpOp) (x y : D) (H : MH) (k : Bool → Prop) : Prop := match dinAt H o x y with
  | some z => ∃ ks, keysD z.2.1 = some ks ∧ wt ks = false ∧ k ((valD z.1 ks).isSome != z.2.2)
  | none => ∃ c, cmpD o x y H = some c ∧ k c
@[simp] def getW (wt : List Key → Bool) (x y z : D) (H : MH) (Q : DK) : Prop := match y with
  | .tup ds => ∃ p kvs ks, x = .ref p ∧ dtRd H p = some kvs ∧ keysD ds = some ks ∧ wt ks = false ∧ Q ((valD kvs ks).getD z) H
  | y => getD2 x y z H Q
@[simp] def putW (wt : List Key → Bool) (x y d : D) (H : MH) (Q : MH → Prop) : Prop := match y with
  | .tup ds => ∃ p kvs ks, x = .ref p ∧ keysD ds = some ks ∧ wt ks = false ∧ H p = some (.dt kvs) ∧ kvs.length < sizeLine ∧ Q (updM H p (.dt (putD kvs ks d)))
  | y => ∃ p kvs k, x = .ref p ∧ keyD y = some k ∧ H p = some (.dk kvs) ∧ kvs.length < sizeLine ∧ Q (updM H p (.dk (putD kvs k d)))
@[simp] def excD (nm : Str) (fo : Option (List Str × List D)) : D := match fo with
  | some z => .exc nm z.1 z.2
  | none => .exc nm [] []
@[simp] def raisD (ci : CI) (ds : List D) (k : Option (List Str × List D) → Prop) : Prop := match ci.fld, ds with
  | some f, [d] => k (some ([f], [d]))
  | none, [] => k none
  | _, _ => False
@[simp] def setE (i : Option Nat) (d : D) (σ : En) : En := match i with
  | some i => σ.set i (some d)
  | none => σ
@[simp] def delE (i : Option Nat) (σ : En) : En := match i with
  | some i => σ.set i none
  | none => σ
def anyC (sup : List Str) : List Str → Bool
  | [] => false
  | c :: r => if sup.contains c then true else anyC sup r
structure Ends' where
  nx : En → MH → Prop
  rt : DK
  bk : En → MH → Prop := fun _ _ => False
  ct : En → MH → Prop := fun _ _ => False
def br : Bool → Prop → Prop → Prop
  | true, a, _ => a
  | false, _, b => b
@[simp] theorem br_t {a b : Prop} : br true a b = a := rfl
@[simp] theorem br_f {a b : Prop} : br false a b = b := rfl
@[simp] def wipeD (σ : En) : List Nat → En
  | [] => σ
  | v :: vs => (wipeD σ vs).set v none
/-- what is walked: the items, and what must stay -/
@[simp] def forL (step : D → MH → (MH → Prop) → Prop) (keep : MH → Prop) : List D → MH → (MH → Prop) → Prop
  | [], H, Q => keep H ∧ Q H
  | x :: r, H, Q => keep H ∧ step x H fun H1 => forL step keep r H1 Q
/-- a comprehension whose turns give out several items -/
@[simp] def lcM (step : D → MH → (List D → MH → Prop) → Prop) (keep : MH → Prop) : List D → MH → (List D → MH → Prop) → Prop
  | [], H, Q => keep H ∧ Q [] H
  | x :: r, H, Q => keep H ∧ step x H fun zs H1 => lcM step keep r H1 fun ys H2 => Q (zs ++ ys) H2
@[simp] def lcL (step : D → MH → (Option D → MH → Prop) → Prop) (keep : MH → Prop) : List D → MH → (List D → MH → Prop) → Prop
  | [], H, Q => keep H ∧ Q [] H
  | x :: r, H, Q => keep H ∧ step x H fun o H1 => lcL step keep r H1 fun ys H2 => Q (match o with | some y => y :: ys | none => ys) H2
/-- an instance: its class, its fields -/
@[simp] def insAt (H : MH) : D → Option (Str × List Str × List D)
  | .obj nm ns xs => some (nm, ns, xs)
  | .ref a => match H a with
    | some (.ins nm ns xs) => some (nm, ns, xs)
    | _ => none
  | _ => none
@[simp] def fldV : List Str → List D → Str → Option D
  | n :: ns, x :: xs, f => if n = f then some x else fldV ns xs f
  | _, _, _ => none
@[simp] def putNs : List Str → Str → List Str
  | [], f => [f]
  | n :: ns, f => if n = f then n :: ns else n :: putNs ns f
@[simp] def putXs : List Str → List D → Str → D → List D
  | n :: ns, x :: xs, f, d => if n = f then d :: xs else x :: putXs ns xs f d
  | _, _, _, d => [d]
/-- the type of a plain value, for isinstance of an own class (False) -/
@[simp] def isxP : D → Option String
  | .non => some "NoneType" | .bl _ => some "bool" | .int _ => some "int" | .str _ => some "str" | .tup _ => some "tuple" | .rol _ => some "list" | _ => none
/-- isinstance: of a caught error by its class's names; of an own object True for its own class -/
@[simp] def isxD (cl : Str → Option CI) (ob : Str → Option (List Str)) (H : MH) (x : D) (cs : List Str) (Q : DK) : Prop := match insAt H x with
  | some (nm, _, _) => cs = [nm] ∧ (∃ fs, ob nm = some fs) ∧ Q (.bl true) H
  | none => match isxP x with
    | some _ => ∃ c fs, cs = [c] ∧ ob c = some fs ∧ Q (.bl false) H
    | none => ∃ nm ns xs ci, x = .exc nm ns xs ∧ cl nm = some ci ∧ Q (.bl (anyC ci.sup cs)) H
@[simp] def keepOf (H : MH) : D → MH → Prop
  | .ref a => fun H' => H' a = H a
  | _ => fun _ => True
/-- a dict is walked by its keys, and is locked from then on -/
@[simp] def itR (H : MH) (p : Addr) (Q : List D → (MH → Prop) → MH → Prop) : Option MO → Prop
  | some (.dk kvs) => ∀ o us, Q (kvs.map fun kv => keyE kv.1) (fun H' => H' p = some (.ldk o us kvs)) (updM H p (.ldk o us kvs))
  | some (.dt kvs) => ∀ o us, Q (kvs.map fun kv => .tup (kv.1.map keyE)) (fun H' => H' p = some (.ldt o us kvs)) (updM H p (.ldt o us kvs))
  | some (.ldk o us kvs) => Q (kvs.map fun kv => keyE kv.1) (fun H' => H' p = some (.ldk o us kvs)) H
  | some (.ldt o us kvs) => Q (kvs.map fun kv => .tup (kv.1.map keyE)) (fun H' => H' p = some (.ldt o us kvs)) H
  | some (.lst xs) => Q xs (keepOf H (.ref p)) H
  | _ => False
@[simp] def itW (H : MH) (x : D) (Q : List D → (MH → Prop) → MH → Prop) : Prop := match x with
  | .ref p => itR H p Q (H p)
  | x => ∃ xs, seqAt H x = some xs ∧ Q xs (keepOf H x) H
/-- a dict is locked while a comprehension walks it -/
@[simp] def lcdR (H : MH) (p : Addr) (Q : DK) (run : List D → (MH → Prop) → MH → DK → Prop) : Option MO → Prop
  | some (.dk kvs) => ∀ o us, run (kvs.map fun kv => keyE kv.1) (fun H' => H' p = some (.ldk o us kvs)) (updM H p (.ldk o us kvs)) fun d H3 => H3 p = some (.ldk o us kvs) ∧ Q d (updM H3 p (.dk kvs))
  | some (.dt kvs) => ∀ o us, run (kvs.map fun kv => .tup (kv.1.map keyE)) (fun H' => H' p = some (.ldt o us kvs)) (updM H p (.ldt o us kvs)) fun d H3 => H3 p = some (.ldt o us kvs) ∧ Q d (updM H3 p (.dt kvs))
  | some (.ldk o us kvs) => run (kvs.map fun kv => keyE kv.1) (fun H' => H' p = some (.ldk o us kvs)) H Q
  | some (.ldt o us kvs) => run (kvs.map fun kv => .tup (kv.1.map keyE)) (fun H' => H' p = some (.ldt o us kvs)) H Q
  | _ => False
theorem itW_ref {H : MH} {p : Addr} {Q : List D → (MH → Prop) → MH → Prop} : itW H (.ref p) Q = itR H p Q (H p) := rfl
theorem itW_lst {H : MH} {p : Addr} {xs : List D} {Q : List D → (MH → Prop) → MH → Prop} (h : H p = some (.lst xs)) (q : Q xs (fun H' => H' p = H p) H) : itW H (.ref p) Q := by
  show itR H p Q (H p)
  rw [h]; exact q
@[simp] def zipAt (H : MH) : D → D → Option (List D × List D)
  | .tup xs, .tup ys => some (xs, ys)
  | x, y => (lstAt H x).bind fun xs => (lstAt H y).map fun ys => (xs, ys)
abbrev TDv := En → MH → DK → Prop
abbrev TCv := En → MH → (Bool → MH → Prop) → Prop
structure VC where
  v : TDv
  c : TCv
/-- what may stand right of an own == -/
def rightB : D → Bool
  | .tup _ => true | .rol _ => true | .int _ => true | .str _ => true | .non => true | _ => false
def rightD (H : MH) (cn : Str) (y : D) : Prop := rightB y = true ∨ ∃ ns xs, insAt H y = some (cn, ns, xs)
/-- own ==: an instance at the left, or a plain value there and an instance at the right -/
@[simp] def ocmpW (G : Gm) (C q : Str) (x y : D) (H : MH) (k : DK) : Prop :=
  ((∃ ns xs, insAt H x = some (C, ns, xs)) ∧ rightD H C y ∧ ∃ n c, G.fn q = some (n, c) ∧ 2 = n ∧ c [x, y] H k (fun _ _ _ => False)) ∨
  (rightB x = true ∧ (∃ ns xs, insAt H y = some (C, ns, xs)) ∧ (∃ fs, G.ob C = some fs) ∧ ∃ n c, G.fn q = some (n, c) ∧ 2 = n ∧ c [y, x] H k (fun _ _ _ => False))
@[simp] def VC.of (v : TDv) : VC := ⟨v, fun σ H Q => v σ H fun x H1 => ∃ c, truD H1 x = some c ∧ Q c H1⟩
abbrev X0 : En → XDK := fun _ _ _ _ => False
mutual
@[simp] def wpB (G : Gm) (X : En → XDK) : E → VC
  | .k d => .of fun _ H Q => Q d H
  | .v i => .of fun σ H Q => ∃ d, σ[i]? = some (some d) ∧ Q d H
  | .g x => .of fun _ H Q => ∃ d, G.gv x = some d ∧ Q d H
  | .ty n => .of fun _ H Q => Q (.ty n) H
  | .bin m o a b => .of fun σ H Q => (wpB G X a).v σ H fun x H1 => (wpB G X b).v σ H1 fun y H2 => binD m o x y H2 Q
  | .neg a => .of fun σ H Q => (wpB G X a).v σ H fun x H1 => ∃ i, x = .int i ∧ Q (.int (-i)) H1
  | .not a => ⟨fun σ H Q => (wpB G X a).v σ H fun x H1 => ∃ c, truD H1 x = some c ∧ Q (.bl (!c)) H1, fun σ H Q => (wpB G X a).c σ H fun b H1 => Q (!b) H1⟩
  | .and a b => ⟨fun σ H Q => (wpB G X a).v σ H fun x H1 => ∃ c, truD H1 x = some c ∧ br c ((wpB G X b).v σ H1 Q) (Q x H1),
      fun σ H Q => (wpB G X a).c σ H fun c H1 => br c ((wpB G X b).c σ H1 Q) (Q false H1)⟩
  | .or a b => ⟨fun σ H Q => (wpB G X a).v σ H fun x H1 => ∃ c, truD H1 x = some c ∧ br c (Q x H1) ((wpB G X b).v σ H1 Q),
      fun σ H Q => (wpB G X a).c σ H fun c H1 => br c (Q true H1) ((wpB G X b).c σ H1 Q)⟩
  | .cmp o a b => ⟨fun σ H Q => (wpB G X a).v σ H fun x H1 => (wpB G X b).v σ H1 fun y H2 => cmpW G.wt o x y H2 fun c => Q (.bl c) H2,
      fun σ H Q => (wpB G X a).v σ H fun x H1 => (wpB G X b).v σ H1 fun y H2 => cmpW G.wt o x y H2 fun c => Q c H2⟩
  | .ocmp C q a b => ⟨fun σ H Q => (wpB G X a).v σ H fun x H1 => (wpB G X b).v σ H1 fun y H2 => ocmpW G C q x y H2 (fun d H3 => ∃ b, d = .bl b ∧ Q (.bl b) H3),
      fun σ H Q => (wpB G X a).v σ H fun x H1 => (wpB G X b).v σ H1 fun y H2 => ocmpW G C q x y H2 (fun d H3 => ∃ b, d = .bl b ∧ Q b H3)⟩
  | .obin C q o a b => .of fun σ H Q => (wpB G X a).v σ H fun x H1 => (wpB G X b).v σ H1 fun y H2 => (∃ ns xs, insAt H2 x = some (C, ns, xs)) ∧ (∃ ns xs, insAt H2 y = some (C, ns, xs)) ∧ (∃ fs, G.ob C = some fs) ∧ ∃ n c, G.fn q = some (n, c) ∧ 2 = n ∧ c [x, y] H2 (fun d H3 => (∃ p, d = .ref p) ∧ Q d H3) (X σ)
  | .ch a o b o' c => ⟨fun σ H Q => (wpB G X a).v σ H fun x H1 => (wpB G X b).v σ H1 fun y H2 => ∃ c1, cmpD o x y H2 = some c1 ∧
        br c1 ((wpB G X c).v σ H2 fun z H3 => ∃ c2, cmpD o' y z H3 = some c2 ∧ Q (.bl c2) H3) (Q (.bl false) H2),
      fun σ H Q => (wpB G X a).v σ H fun x H1 => (wpB G X b).v σ H1 fun y H2 => ∃ c1, cmpD o x y H2 = some c1 ∧
        br c1 ((wpB G X c).v σ H2 fun z H3 => ∃ c2, cmpD o' y z H3 = some c2 ∧ Q c2 H3) (Q false H2)⟩
  | .ch3 a o b o' c o2 e => ⟨fun σ H Q => (wpB G X a).v σ H fun x H1 => (wpB G X b).v σ H1 fun y H2 => ∃ c1, cmpD o x y H2 = some c1 ∧
        br c1 ((wpB G X c).v σ H2 fun z H3 => ∃ c2, cmpD o' y z H3 = some c2 ∧ br c2 ((wpB G X e).v σ H3 fun w H4 => ∃ c3, cmpD o2 z w H4 = some c3 ∧ Q (.bl c3) H4) (Q (.bl false) H3)) (Q (.bl false) H2),
      fun σ H Q => (wpB G X a).v σ H fun x H1 => (wpB G X b).v σ H1 fun y H2 => ∃ c1, cmpD o x y H2 = some c1 ∧
        br c1 ((wpB G X c).v σ H2 fun z H3 => ∃ c2, cmpD o' y z H3 = some c2 ∧ br c2 ((wpB G X e).v σ H3 fun w H4 => ∃ c3, cmpD o2 z w H4 = some c3 ∧ Q c3 H4) (Q false H3)) (Q false H2)⟩
  | .ite t a b => ⟨fun σ H Q => (wpB G X t).c σ H fun c H1 => br c ((wpB G X a).v σ H1 Q) ((wpB G X b).v σ H1 Q),
      fun σ H Q => (wpB G X t).c σ H fun c H1 => br c ((wpB G X a).c σ H1 Q) ((wpB G X b).c σ H1 Q)⟩
  | .tup es => .of fun σ H Q => wpEs G X es σ H fun ds H1 => ds.length ≤ sizeLine ∧ Q (.tup ds) H1
  | .lst m es => .of fun σ H Q => wpEs G X es σ H fun ds H1 => freshL m ds H1 Q
  | .ix a b => .of fun σ H Q => (wpB G X a).v σ H fun x H1 => (wpB G X b).v σ H1 fun y H2 => ixW G.wt x y H2 Q
  | .sl m a lo hi => .of fun σ H Q => (wpB G X a).v σ H fun x H1 => wpO G X lo σ H1 fun l H2 => wpO G X hi σ H2 fun h H3 => slD m x l h H3 Q
  | .rvl m a => .of fun σ H Q => (wpB G X a).v σ H fun x H1 => ∃ xs, lstAt H1 x = some xs ∧ freshL m xs.reverse H1 Q
  | .dct _ es => .of fun σ H Q => wpEs G X es σ H fun _ H1 => Q .dct H1
  | .dget a k d => .of fun σ H Q => (wpB G X a).v σ H fun x H1 => isDct H1 x = true ∧ (wpB G X k).v σ H1 fun y H2 => (wpB G X d).v σ H2 fun z H3 => getW G.wt x y z H3 Q
  | .dgetT a es d => .of fun σ H Q => (wpB G X a).v σ H fun x H1 => isDct H1 x = true ∧ wpEs G X es σ H1 fun ds H2 => ds.length ≤ sizeLine ∧ (wpB G X d).v σ H2 fun z H3 => ∃ o, dgetT H3 x ds = some o ∧ Q (o.getD z) H3
  | .dinT n es a => .of fun σ H Q => wpEs G X es σ H fun ds H1 => ds.length ≤ sizeLine ∧ (wpB G X a).v σ H1 fun x H2 => ∃ o, dgetT H2 x ds = some o ∧ Q (.bl (o.isSome != n)) H2
  | .dnew t => .of fun _ H Q => ∀ p, H p = none → Q (.ref p) (updM H p (match t with | true => .dt [] | false => .dk []))
  | .dixT a es => .of fun σ H Q => (wpB G X a).v σ H fun x H1 => wpEs G X es σ H1 fun ds H2 => ds.length ≤ sizeLine ∧ ∃ p kvs ks d, x = .ref p ∧ dtRd H2 p = some kvs ∧ keysD ds = some ks ∧ valD kvs ks = some d ∧ Q d H2
  | .call x es => .of fun σ H Q => wpEs G X es σ H fun ds H1 => ∃ n c, G.fn x = some (n, c) ∧ ds.length = n ∧ c ds H1 Q (X σ)
  | .bi m f es => .of fun σ H Q => wpEs G X es σ H fun ds H1 => biD m f ds H1 Q
  | .mth m a f es => .of fun σ H Q => (wpB G X a).v σ H fun x H1 => mtTy f x H1 ∧ wpEs G X es σ H1 fun ds H2 => mtD m f x ds H2 Q
  | .lc m e t i c own => .of fun σ H Q => wpI G X i σ H fun xs keep H1 => xs.length ≤ sizeLine ∧
      lcL (fun x H Q => wpT G X0 t x (wipeD σ own) H fun σ1 H1 => wpCs G X0 c σ1 H1 fun b H2 =>
        br b ((wpB G X0 e).v σ1 H2 fun y H3 => Q (some y) H3) (Q none H2)) keep xs H1 fun ys H2 => freshL m ys H2 Q
  | .lcd e t i c own => .of fun σ H Q => ∃ p, σ[i]? = some (some (.ref p)) ∧ lcdR H p Q (fun xs keep H Q => xs.length ≤ sizeLine ∧
      lcL (fun x H Q => wpT G X0 t x (wipeD σ own) H fun σ1 H1 => wpCs G X0 c σ1 H1 fun b H2 =>
        br b ((wpB G X0 e).v σ1 H2 fun y H3 => Q (some y) H3) (Q none H2)) keep xs H fun ys H2 => freshL false ys H2 Q) (H p)
  | .lc2 m e t i c t1 i1 c1 own vs1 => .of fun σ H Q => wpI G X i σ H fun xs keep H1 => ∃ B : Nat, xs.length * B ≤ sizeLine ∧
      lcM (fun x H Q => wpT G X0 t x (wipeD σ own) H fun σ1 H1 => wpCs G X0 c σ1 H1 fun b H2 =>
        br b (wpI G X0 i1 σ1 H2 fun xs keep H1 => xs.length ≤ B ∧
          lcL (fun x H Q => wpT G X0 t1 x (wipeD σ1 vs1) H fun σ1 H1 => wpCs G X0 c1 σ1 H1 fun b H2 => br b ((wpB G X0 e).v σ1 H2 fun y H3 => Q (some y) H3) (Q none H2)) keep xs H1 Q) (Q [] H2)) keep xs H1 fun ys H2 => freshL m ys H2 Q
  | .isx a cs => .of fun σ H Q => (wpB G X a).v σ H fun x H1 => isxD G.cl G.ob H1 x cs Q
  | .vf i => .of fun σ H Q => ∃ p xs, σ[i]? = some (some (.ref p)) ∧ H p = some (.lst xs) ∧ Q (.rol xs) (fgt H p)
  | .ofld a f => .of fun σ H Q => (wpB G X a).v σ H fun x H1 => ∃ nm ns xs fs d, insAt H1 x = some (nm, ns, xs) ∧ G.ob nm = some fs ∧ fs.contains f = true ∧ fldV ns xs f = some d ∧ Q d H1
  | .omth C m q a es => .of fun σ H Q => (wpB G X a).v σ H fun x H1 => (∃ ns xs, insAt H1 x = some (C, ns, xs) ∧ ns.contains m = false) ∧ wpEs G X es σ H1 fun ds H2 => ∃ n c, G.fn q = some (n, c) ∧ ds.length + 1 = n ∧ c (x :: ds) H2 Q (X σ)
  | .icall C q a es => .of fun σ H Q => (wpB G X a).v σ H fun x H1 => wpEs G X es σ H1 fun ds H2 => (∃ ns xs, insAt H2 x = some (C, ns, xs)) ∧ ∃ n c, G.fn q = some (n, c) ∧ ds.length + 1 = n ∧ c (x :: ds) H2 Q (X σ)
  | .new C q es => .of fun σ H Q => wpEs G X es σ H fun ds H1 => ∃ n c, G.fn q = some (n, c) ∧ ds.length + 1 = n ∧ ∀ p, H1 p = none → c (.ref p :: ds) (updM H1 p (.ins C [] [])) (fun v H2 => v = .non ∧ Q (.ref p) H2) (X σ)
  | .obool C q a => .of fun σ H Q => (wpB G X a).v σ H fun x H1 => (∃ ns xs, insAt H1 x = some (C, ns, xs)) ∧ ∃ n c, G.fn q = some (n, c) ∧ 1 = n ∧ c [x] H1 (fun d H3 => ∃ b, d = .bl b ∧ Q (.bl b) H3) (fun _ _ _ => False)
  | .newc C q a es => .of fun σ H Q => (wpB G X a).v σ H fun x H1 => x = .kls C ∧ wpEs G X es σ H1 fun ds H1 => ∃ n c, G.fn q = some (n, c) ∧ ds.length + 1 = n ∧ ∀ p, H1 p = none → c (.ref p :: ds) (updM H1 p (.ins C [] [])) (fun v H2 => v = .non ∧ Q (.ref p) H2) (X σ)
  | .fld a f => .of fun σ H Q => (wpB G X a).v σ H fun x H1 => ∃ nm d ci, x = .exc nm [f] [d] ∧ G.cl nm = some ci ∧ ci.fld = some f ∧ Q d H1
termination_by structural x => x
@[simp] def wpO (G : Gm) (X : En → XDK) : Oe → En → MH → (Option Int → MH → Prop) → Prop
  | .no, _, H, Q => Q none H
  | .so e, σ, H, Q => (wpB G X e).v σ H fun x H1 => ∃ i, x = .int i ∧ Q (some i) H1
termination_by structural x => x
@[simp] def wpCs (G : Gm) (X : En → XDK) : Es → En → MH → (Bool → MH → Prop) → Prop
  | .nil, _, H, Q => Q true H
  | .cons e es, σ, H, Q => (wpB G X e).c σ H fun b H1 => br b (wpCs G X es σ H1 Q) (Q false H1)
termination_by structural x => x
@[simp] def wpEs (G : Gm) (X : En → XDK) : Es → En → MH → (List D → MH → Prop) → Prop
  | .nil, _, H, Q => Q [] H
  | .cons e es, σ, H, Q => (wpB G X e).v σ H fun x H1 => wpEs G X es σ H1 fun xs H2 => Q (x :: xs) H2
termination_by structural x => x
@[simp] def wpT (G : Gm) (X : En → XDK) : T → D → En → MH → (En → MH → Prop) → Prop
  | .nm i, d, σ, H, Q => Q (σ.set i (some d)) H
  | .tup ts, d, σ, H, Q => ∃ ds, d = .tup ds ∧ ds.length = ts.len ∧ wpTs G X ts ds σ H Q
  | .sub a b, d, σ, H, Q => (wpB G X a).v σ H fun x H1 => (wpB G X b).v σ H1 fun y H2 => ∃ p xs i j, x = .ref p ∧ y = .int i ∧ H2 p = some (.lst xs) ∧ ixN xs.length i = some j ∧ Q σ (updM H2 p (.lst (xs.set j d)))
  | .dsub a b, d, σ, H, Q => (wpB G X a).v σ H fun x H1 => (wpB G X b).v σ H1 fun y H2 => putW G.wt x y d H2 (Q σ)
  | .dsubT a es, d, σ, H, Q => (wpB G X a).v σ H fun x H1 => wpEs G X es σ H1 fun ds H2 => ds.length ≤ sizeLine ∧ ∃ p kvs ks, x = .ref p ∧ keysD ds = some ks ∧ H2 p = some (.dt kvs) ∧ kvs.length < sizeLine ∧ Q σ (updM H2 p (.dt (putD kvs ks d)))
termination_by structural x => x
@[simp] def wpTs (G : Gm) (X : En → XDK) : Ts → List D → En → MH → (En → MH → Prop) → Prop
  | .nil, ds, σ, H, Q => ds = [] ∧ Q σ H
  | .cons t ts, ds, σ, H, Q => ∃ d r, ds = d :: r ∧ wpT G X t d σ H fun σ1 H1 => wpTs G X ts r σ1 H1 Q
termination_by structural x => x
@[simp] def wpI (G : Gm) (X : En → XDK) : It → En → MH → (List D → (MH → Prop) → MH → Prop) → Prop
  | .seq e, σ, H, Q => (wpB G X e).v σ H fun x H1 => itW H1 x Q
  | .rng1 e, σ, H, Q => (wpB G X e).v σ H fun x H1 => ∃ j : Int, x = .int j ∧ Q ((List.range j.toNat).map fun (n : Nat) => D.int (0 + (n : Int))) (fun _ => True) H1
  | .rng2 a b, σ, H, Q => (wpB G X a).v σ H fun x H1 => (wpB G X b).v σ H1 fun y H2 => ∃ i j : Int, x = .int i ∧ y = .int j ∧
      Q ((List.range (j - i).toNat).map fun (n : Nat) => D.int (i + (n : Int))) (fun _ => True) H2
  | .rng3 a b c, σ, H, Q => (wpB G X a).v σ H fun x H1 => (wpB G X b).v σ H1 fun y H2 => (wpB G X c).v σ H2 fun z H3 => ∃ (i j k : Int) (n : Nat), x = .int i ∧ y = .int j ∧ z = .int k ∧ RgC i j k n ∧
      Q ((List.range n).map fun (m : Nat) => D.int (i + (m : Int) * k)) (fun _ => True) H3
  | .rngR a, σ, H, Q => (wpB G X a).v σ H fun x H1 => ∃ j : Int, x = .int j ∧ -(2 ^ 62) ≤ j ∧ j < 2 ^ 62 ∧ Q ((List.range j.toNat).map fun (m : Nat) => D.int (((j.toNat - 1 - m : Nat) : Int))) (fun _ => True) H1
  | .revs a, σ, H, Q => (wpB G X a).v σ H fun x H1 => ∃ xs, seqAt H1 x = some xs ∧ Q xs.reverse (keepOf H1 x) H1
  | .zip a b, σ, H, Q => (wpB G X a).v σ H fun x H1 => (wpB G X b).v σ H1 fun y H2 => ∃ xs ys, zipAt H2 x y = some (xs, ys) ∧ Q ((xs.zip ys).map fun p => .tup [p.1, p.2]) (fun H' => keepOf H2 x H' ∧ keepOf H2 y H') H2
  | .enum a, σ, H, Q => (wpB G X a).v σ H fun x H1 => ∃ xs, seqAt H1 x = some xs ∧ Q (xs.zipIdx.map fun p => .tup [.int (p.2 : Int), p.1]) (keepOf H1 x) H1
termination_by structural x => x
end
@[simp] abbrev wpE (G : Gm) (X : En → XDK) (e : E) : TDv := (wpB G X e).v
@[simp] abbrev wpC (G : Gm) (X : En → XDK) (e : E) : TCv := (wpB G X e).c
/-- a for: the body from item to item -/
@[simp] def loopL (turn : D → En → MH → (En → MH → Prop) → Prop) (keep : MH → Prop) : List D → En → MH → (En → MH → Prop) → Prop
  | [], σ, H, Q => keep H ∧ Q σ H
  | x :: r, σ, H, Q => keep H ∧ turn x σ H fun σ1 H1 => loopL turn keep r σ1 H1 Q
def whileN (cond : En → MH → (Bool → MH → Prop) → Prop) (body : En → MH → (En → MH → Prop) → Prop) : Nat → En → MH → (En → MH → Prop) → Prop
  | 0, _, _, _ => False
  | n + 1, σ, H, Q => cond σ H fun b H1 => br b (body σ H1 fun σ2 H2 => whileN cond body n σ2 H2 Q) (Q σ H1)
mutual
@[simp] def wpS (G : Gm) (X : En → XDK) : S → Ends' → En → MH → Prop
  | .asg t e, D, σ, H => wpE G X e σ H fun x H1 => wpT G X t x σ H1 D.nx
  | .asg2 t u e, D, σ, H => wpE G X e σ H fun x H1 => wpT G X t x σ H1 fun σ1 H2 => wpT G X u x σ1 H2 D.nx
  | .par i j a b, D, σ, H => wpE G X a σ H fun x H1 => wpE G X b σ H1 fun y H2 => D.nx ((σ.set i (some x)).set j (some y)) H2
  | .setf o f e, D, σ, H => wpE G X e σ H fun y H1 => wpE G X o σ H1 fun x H2 => ∃ p nm ns xs fs, x = .ref p ∧ H2 p = some (.ins nm ns xs) ∧ G.ob nm = some fs ∧ fs.contains f = true ∧ ns.length < 1000 ∧ D.nx σ (updM H2 p (.ins nm (putNs ns f) (putXs ns xs f y)))
  | .aug i o e, D, σ, H => ∃ x, σ[i]? = some (some x) ∧ wpE G X e σ H fun y H1 => augD o x y H1 fun z H2 => D.nx (σ.set i (some z)) H2
  | .ex e, D, σ, H => wpE G X e σ H fun _ H1 => D.nx σ H1
  | .ret e, D, σ, H => wpE G X e σ H D.rt
  | .retN, D, _, H => D.rt .non H
  | .cond c a b, D, σ, H => wpC G X c σ H fun b' H1 => br b' (wpSs G X a D σ H1) (wpSs G X b D σ H1)
  | .loop t i b, D, σ, H => wpI G X i σ H fun xs keep H1 => loopL (fun x σ H Q => wpT G X t x σ H fun σ1 H1 => wpSs G X b { D with nx := Q, ct := Q, bk := D.nx } σ1 H1) keep xs σ H1 D.nx
  | .whl c b, D, σ, H => ∃ n, whileN (wpC G X c) (fun σ H Q => wpSs G X b { D with nx := Q, ct := Q, bk := D.nx } σ H) n σ H D.nx
  | .fail, _, _, _ => False
  | .mtch e cs, D, σ, H => wpE G X e σ H fun x H1 => wpMs G X cs x D σ H1
  | .rais c es, D, σ, H => wpEs G X es σ H fun ds H1 => ∃ ci, G.cl c = some ci ∧ raisD ci ds fun fo => X σ c fo H1
  | .tryx b c i su, D, σ, H => wpSs G (fun σ1 nm fo H1 => ∃ ci, G.cl nm = some ci ∧ br (ci.sup.contains c)
      (wpSs G X0 su { nx := fun σ2 H2 => D.nx (delE i σ2) H2, rt := D.rt, bk := fun σ2 H2 => D.bk (delE i σ2) H2, ct := fun σ2 H2 => D.ct (delE i σ2) H2 } (setE i (excD nm fo) σ1) H1) (X σ1 nm fo H1)) b D σ H
  | .brk, D, σ, H => D.bk σ H
  | .ct, D, σ, H => D.ct σ H
  | .pass, D, σ, H => D.nx σ H
termination_by structural x => x
@[simp] def wpSs (G : Gm) (X : En → XDK) : Ss → Ends' → En → MH → Prop
  | .nil, D, σ, H => D.nx σ H
  | .cons s ss, D, σ, H => wpS G X s { D with nx := fun σ1 H1 => wpSs G X ss D σ1 H1 } σ H
termination_by structural x => x
@[simp] def wpMs (G : Gm) (X : En → XDK) : Ms → D → Ends' → En → MH → Prop
  | .nil, _, D, σ, H => D.nx σ H
  | .dflt b, _, D, σ, H => wpSs G X b D σ H
  | .cons ks b r, d, D, σ, H => ∃ c, eqStr d ks = some c ∧ br c (wpSs G X b D σ H) (wpMs G X r d D σ H)
termination_by structural x => x
end
end DL

set_option maxHeartbeats 4000000
namespace DL
open PySem PySem.Spec PyProof.Rows L2

section
variable {K : Kz} {H H' H'' : Hp} {Hm Hm' Hm'' : MH} {d : D} {v : V} {ds : List D} {vs : List V} {p : Addr} {o : HO}
theorem ext_nt (hp : H p = none) : NT Hm H Hm (upd H p o) := fun a u e n => ⟨by rw [upd_ne (ne_of_none e hp)]; exact e, n⟩
theorem RepO.nt (r : Rep K H Hm) (n : NT Hm H Hm' H') {a : Addr} {u : MO} (h : RepO K H Hm a u) (e : H' a = H a) : RepO K H' Hm' a u := by
  cases u with
  | lst ds => obtain ⟨vs, q, t⟩ := h; exact ⟨vs, by rw [e]; exact q, Iss.nt r n _ _ t⟩
  | ins C ns ds => obtain ⟨dx, fs, q, l, t⟩ := h; exact ⟨dx, fs, q.at_ e, l, Iss.nt r n _ _ t⟩
  | dk kvs => obtain ⟨us, q, l, t⟩ := h; exact ⟨us, by rw [e]; exact q, l, Iss.nt r n _ _ t⟩
  | dt kvs => obtain ⟨us, q, l, t⟩ := h; exact ⟨us, by rw [e]; exact q, l, Iss.nt r n _ _ t⟩
  | ldk o us kvs => obtain ⟨q, l, t⟩ := h; exact ⟨by rw [e]; exact q, l, Iss.nt r n _ _ t⟩
  | ldt o us kvs => obtain ⟨q, l, t⟩ := h; exact ⟨by rw [e]; exact q, l, Iss.nt r n _ _ t⟩
theorem Rep.step (r : Rep K H Hm) (n : NT Hm H Hm' H') (h : ∀ a u, Hm' a = some u → (Hm a = some u ∧ H' a = H a) ∨ RepO K H' Hm' a u) : Rep K H' Hm' := by
  refine ⟨fun a u e => ?_, fun a z => ?_⟩
  · rcases h a u e with ⟨q, z⟩ | q
    · exact (r.obj a u q).nt r n z
    · exact q
  · obtain ⟨o, q, m⟩ := r.hid a z
    exact ⟨o, n a o q m⟩
theorem Rep.ext (r : Rep K H Hm) (hp : H p = none) : Rep K (upd H p o) Hm := r.step (ext_nt hp) fun a u e => .inl ⟨e, by
  obtain ⟨w, q, _⟩ := r.hit e
  rw [upd_ne (ne_of_none q hp)]⟩
theorem new_nt (r : Rep K H Hm) (hp : H p = none) {u : MO} : NT Hm H (updM Hm p u) (upd H p o) := fun a w e n => by
  have hne := ne_of_none e hp
  exact ⟨by rw [upd_ne hne]; exact e, by rw [updM_ne hne]; exact n⟩
theorem new_rep (r : Rep K H Hm) (hp : H p = none) (t : Iss K H Hm ds vs) : Rep K (upd H p (.lst vs)) (updM Hm p (.lst ds)) := by
  refine r.step (new_nt r hp) fun a u e => ?_
  by_cases h : a = p
  · subst h
    rw [updM_same] at e; cases e
    exact .inr ⟨vs, upd_same, Iss.nt r (new_nt r hp) _ _ t⟩
  · rw [updM_ne h] at e
    exact .inl ⟨e, upd_ne h⟩
theorem wr_nt (hm : Hm p ≠ none) {u : MO} : NT Hm H (updM Hm p u) (upd H p o) := fun a w e n => by
  have hne : a ≠ p := fun z => hm (z ▸ n)
  exact ⟨by rw [upd_ne hne]; exact e, by rw [updM_ne hne]; exact n⟩
theorem wr_rep (r : Rep K H Hm) (hm : Hm p ≠ none) (t : Iss K H Hm ds vs) : Rep K (upd H p (.lst vs)) (updM Hm p (.lst ds)) := by
  refine r.step (wr_nt hm) fun a u e => ?_
  by_cases h : a = p
  · subst h
    rw [updM_same] at e; cases e
    exact .inr ⟨vs, upd_same, Iss.nt r (wr_nt hm) _ _ t⟩
  · rw [updM_ne h] at e
    exact .inl ⟨e, upd_ne h⟩
/-- what is wanted behind a step -/
def Bh (K : Kz) (Hm : MH) (H : Hp) (Qd : DK) (Q : VK) : Prop := ∀ v H' d Hm', NT Hm H Hm' H' → Rep K H' Hm' → Is K H' Hm' d v → Qd d Hm' → Q v H'
theorem Bh.here {Qd : DK} {Q : VK} (k : Bh K Hm H Qd Q) (r : Rep K H Hm) (i : Is K H Hm d v) (q : Qd d Hm) : Q v H := k v H d Hm .refl r i q
theorem Bh.tup {Qd : DK} {Q : VK} (k : Bh K Hm H Qd Q) (r : Rep K H Hm) (t : Iss K H Hm ds vs) (q : Qd (.tup ds) Hm) : ∀ p, H p = none → Q (.ref p) (upd H p (.tup vs)) := fun p hp =>
  k _ _ (.tup ds) Hm (ext_nt hp) (r.ext hp) (by unfold Is; exact ⟨p, vs, rfl, .inl upd_same, Iss.nt r (ext_nt hp) _ _ t⟩) q
theorem Bh.lst {m : Bool} {Qd : DK} {Q : VK} (k : Bh K Hm H Qd Q) (r : Rep K H Hm) (t : Iss K H Hm ds vs) (q : freshL m ds Hm Qd) : ∀ p, H p = none → Q (.ref p) (upd H p (.lst vs)) := fun p hp => by
  obtain ⟨_, q⟩ := q
  cases m with
  | true => exact k _ _ (.ref p) _ (new_nt r hp) (new_rep r hp t) (by unfold Is; rfl) (q p (r.free hp))
  | false => exact k _ _ (.rol ds) Hm (ext_nt hp) (r.ext hp) (by unfold Is; exact ⟨p, vs, rfl, .inl ⟨.inl upd_same, r.free hp, fun z => by
    obtain ⟨o, q, _⟩ := r.hid _ z
    rw [hp] at q; cases q⟩, Iss.nt r (ext_nt hp) _ _ t⟩) q
theorem Is.int (h : Is K H Hm (.int i) v) : v = .int i := by unfold Is at h; exact h
theorem Is.bl (h : Is K H Hm (.bl i) v) : v = .bl i := by unfold Is at h; exact h
theorem Is.str (h : Is K H Hm (.str i) v) : v = .str i := by unfold Is at h; exact h
theorem Is.non (h : Is K H Hm .non v) : v = .non := by unfold Is at h; exact h
theorem Is.ref (h : Is K H Hm (.ref a) v) : v = .ref a := by unfold Is at h; exact h
theorem Is.ty (h : Is K H Hm (.ty a) v) : v = .ty a := by unfold Is at h; exact h
theorem is_int {i : Int} : Is K H Hm (.int i) (.int i) := by unfold Is; rfl
theorem is_bl {i : Bool} : Is K H Hm (.bl i) (.bl i) := by unfold Is; rfl
theorem is_str {i : Str} : Is K H Hm (.str i) (.str i) := by unfold Is; rfl
theorem is_non : Is K H Hm .non .non := by unfold Is; rfl
theorem is_ref {a : Addr} : Is K H Hm (.ref a) (.ref a) := by unfold Is; rfl
theorem is_ty {n : String} : Is K H Hm (.ty n) (.ty n) := by unfold Is; rfl
theorem Is.tupU (h : Is K H Hm (.tup ds) v) : ∃ a vs, v = .ref a ∧ SqU K.K H a vs ∧ Iss K H Hm ds vs := by unfold Is at h; exact h
theorem Is.tup (h : Is K H Hm (.tup ds) v) : ∃ a vs, v = .ref a ∧ SqT K.K H a vs ∧ Iss K H Hm ds vs := let ⟨a, vs, e, q, t⟩ := h.tupU; ⟨a, vs, e, q.sq, t⟩
theorem lst_of (r : Rep K H Hm) (h : Is K H Hm d v) (e : lstAt Hm d = some ds) : ∃ a vs, v = .ref a ∧ SqL K.K H a vs ∧ Iss K H Hm ds vs := by
  cases d with
  | rol xs =>
    unfold lstAt at e; cases e
    unfold Is at h
    obtain ⟨a, vs, e, f, t⟩ := h
    exact ⟨a, vs, e, f.sq, t⟩
  | ref a =>
    have e1 := h.ref
    unfold lstAt at e
    simp only at e
    cases q : Hm a with
    | none => rw [q] at e; cases e
    | some u =>
      rw [q] at e
      cases u with
      | lst xs =>
        cases e
        obtain ⟨vs, z, t⟩ := r.obj _ _ q
        exact ⟨a, vs, e1, .inl (.inl z), t⟩
      | ins C ns xs => cases e
      | dk kvs => cases e
      | dt kvs => cases e
      | ldk o us kvs => cases e
      | ldt o us kvs => cases e
  | _ => unfold lstAt at e; cases e
theorem seq_ofU (r : Rep K H Hm) (h : Is K H Hm d v) (e : seqAt Hm d = some ds) : ∃ a vs, v = .ref a ∧ (SqL K.K H a vs ∨ SqU K.K H a vs) ∧ Iss K H Hm ds vs := by
  cases d with
  | tup xs =>
    unfold seqAt at e; cases e
    obtain ⟨a, vs, e, f, t⟩ := h.tupU
    exact ⟨a, vs, e, .inr f, t⟩
  | _ =>
    obtain ⟨a, vs, e, f, t⟩ := lst_of (ds := ds) r h (by unfold seqAt at e; exact e)
    exact ⟨a, vs, e, .inl f, t⟩
theorem seq_of (r : Rep K H Hm) (h : Is K H Hm d v) (e : seqAt Hm d = some ds) : ∃ a vs, v = .ref a ∧ (SqL K.K H a vs ∨ SqT K.K H a vs) ∧ Iss K H Hm ds vs := let ⟨a, vs, e, q, t⟩ := seq_ofU r h e; ⟨a, vs, e, q.imp id SqU.sq, t⟩
end

/-! ### operations by values -/
abbrev RD := D → D → MH → DK → Prop
def OpD (X : Cx) (f : Value → Value → Sem Value) (r : RD) : Prop :=
  OpR X f fun x y H Q => ∃ Z dx dy Hm Qd, Rep ⟨X.K, Z⟩ H Hm ∧ Is ⟨X.K, Z⟩ H Hm dx x ∧ Is ⟨X.K, Z⟩ H Hm dy y ∧ r dx dy Hm Qd ∧ Bh ⟨X.K, Z⟩ Hm H Qd Q
section
variable {X : Cx}
theorem mulOk.ok {i j : Int} (h : mulOk i j) : IntMulOk i j := by
  rcases h with h | h | h
  · exact CMul.ok (.inl h)
  · exact CMul.ok (.inr h)
  · have b : ∀ x : Int, Builtin.Int.intBits x ≤ x.natAbs.log2 + 1 := fun x => by
      unfold Builtin.Int.intBits
      split <;> omega
    have h1 := b i
    have h2 := b j
    have e : bitsLine = 134217728 := by decide
    unfold IntMulOk
    intro z
    rw [Bool.and_eq_true] at z
    have z2 := z.2
    unfold Builtin.Int.intTooBig at z2
    have z3 := of_decide_eq_true z2
    rw [e] at z3
    omega
theorem op_mulD : OpR X (binaryOp .Mult) (rI mulOk fun i j => .int (i * j)) := opI fun _ _ _ _ _ _ _ hc q => mul_int q hc.ok
theorem op_modD : OpR X (binaryOp .Mod) (rI (fun _ j => 0 < j) fun i j => .int (i % j)) := op_mod
/-- list + list, any two -/
theorem op_catL : OpR X (binaryOp .Add) (fun x y H Q => ∃ l b xs zs, x = .ref l ∧ y = .ref b ∧ SqL X.K H l xs ∧ SqL X.K H b zs ∧ xs.length + zs.length ≤ sizeLine ∧ ∀ p, H p = none → Q (.ref p) (upd H p (.lst (xs ++ zs)))) := by
  intro pins s σ H x y v u Q I rx ry h
  obtain ⟨l, b, xs, zs, rfl, rfl, hH, hB, hz, q⟩ := h
  cases rx
  cases ry
  obtain ⟨its, r, pl, _⟩ := I.list hH
  obtain ⟨its2, r2, pl2, _⟩ := I.list hB
  obtain ⟨⟨cls, dd, data, sl⟩, n, ho, hc, _, hd⟩ := pl
  obtain ⟨⟨cls2, dd2, data2, sl2⟩, n2, ho2, hc2, _, hd2⟩ := pl2
  simp only at hc hd hc2 hd2
  subst hc hd hc2 hd2
  have hl := r.length
  have hl2 := r2.length
  have e : its.toArray ++ its2.toArray = (its ++ its2).toArray := by simp
  refine concat_meets ⟨_, ho, rfl⟩ ⟨_, ho2, rfl⟩ noFill_list_add seq_list_add PySem.F.slot_list_add PySem.F.entry_list_add (PySem.F.args_list_add_2 _ _) (list_addW l b its.toArray its2.toArray n n2 dd dd2 sl sl2 (by simp only [List.size_toArray]; omega)) ⟨ho, ho2, ?_⟩
  rw [e]
  exact ⟨.ref _, _, I.lnew (t' := s.toks) (r.append r2) (by rw [List.length_append]; omega), rfl, q _ I.fresh⟩
end
end DL

set_option maxHeartbeats 400000
namespace DL
open PySem PySem.Spec PyProof.Rows L2

/-- room for a division of any size -/
structure Big (X : Cx) : Prop where
  seer : X.base.NoSeer
  tree : X.prog.given.tree = none
  dp : X.A.depth + 100 < recursionLimit
  fr : ∃ env l, X.stack = env :: l ∧ env.scope.isGenerator = false ∧ env.scope.isCoroutine = false ∧ env.builtins = builtinsNs ∧ env.globals = mainGlobals
/-- nothing is being handled here -/
structure Calm (X : Cx) : Prop where
  c : X.calm = true
  room : Room 40 X.A
structure Cok (X : Cx) : Prop where
  nd : X.N.Nodup
  un : X.A.units + 840 < cLine
  big : Big X
theorem Cok.units {X : Cx} (C : Cok X) : X.A.units + 64 < cLine := by have := C.un; omega
section
variable {X : Cx}
theorem Big.room (b : Big X) {pins : List (Addr × Obj)} {σ : L2.St} {H : Hp} {s : Shared} (I : Inv X pins σ H s) : PylongRoom (model X.prog X.w) X.A s := by
  obtain ⟨env, l, h1, h2, h3, h4, h5⟩ := b.fr
  exact PylongRoom.of I.nolimit b.dp (SeerAt.of (b.seer.keeps I.bk) b.tree (I.ok.frames.trans (by rw [h1])) h2 h3 h4 h5)
theorem op_fdivD (b : Big X) : OpR X (binaryOp .FloorDiv) (rI (fun _ j => 0 < j) fun i j => .int (i / j)) := by
  intro pins s σ H x y v u Q I rx ry h
  obtain ⟨i, j, rfl, rfl, hc, q⟩ := h
  obtain ⟨t, rfl⟩ := rx
  obtain ⟨t', rfl⟩ := ry
  have hr := b.room I
  exact floordiv_int (by omega) (by rw [Int.fdiv_eq_ediv_of_nonneg i (by omega)]; exact ⟨.int (i / j), H, I.tok _, ⟨_, rfl⟩, q⟩) (.inr hr)
theorem iss_rep {K : Kz} {H : Hp} {Hm : MH} {ds : List D} {vs : List V} (t : Iss K H Hm ds vs) : ∀ n : Nat, Iss K H Hm (List.replicate n ds).flatten (List.replicate n vs).flatten
  | 0 => .nil
  | n + 1 => by
    rw [List.replicate_succ, List.replicate_succ, List.flatten_cons, List.flatten_cons]
    exact t.append (iss_rep t n)
theorem foldl_cat {α : Type} (a : Array α) : ∀ (n : Nat) (b : Array α), ((List.replicate n a).foldl (· ++ ·) b).toList = b.toList ++ (List.replicate n a.toList).flatten
  | 0, b => by simp
  | n + 1, b => by
    rw [List.replicate_succ, List.foldl_cons, foldl_cat a n, List.replicate_succ, List.flatten_cons]
    simp
theorem repS_toList (a : Str) (n : Nat) : (repS a n).cps.toList = (List.replicate n a.cps.toList).flatten := by
  unfold repS
  rw [foldl_cat]; rfl
theorem repS_length (a : Str) (n : Nat) : (repS a n).length = n * a.length := by
  show (repS a n).cps.size = _
  rw [← Array.length_toList, repS_toList]
  simp [Str.length]
theorem op_mulS : OpR X (binaryOp .Mult) (fun x y H Q => ∃ (a : Str) (k : Int), x = .str a ∧ y = .int k ∧ -(2 ^ 63) ≤ k ∧ k < 2 ^ 63 ∧ a.length * k.toNat ≤ sizeLine ∧ Q (.str (repS a k.toNat)) H) := by
  intro pins s σ H x y v u Q I rx ry h
  obtain ⟨a, n, rfl, rfl, h1, h2, h3, q⟩ := h
  obtain ⟨t, rfl⟩ := rx
  obtain ⟨t', rfl⟩ := ry
  have hs : sizeLine ≤ 2 ^ 63 - 1 := by decide
  refine PySem.P.mul_str (by rw [decide_eq_false (by omega), decide_eq_false (by omega)]; rfl) (fun n1 _ => ?_) (fun _ _ => ?_) ?_
  · have e : (a.length : Int) * n ≤ 2 ^ 63 - 1 := by
      have e1 : ((a.length * n.toNat : Nat) : Int) = (a.length : Int) * n := by
        rw [Int.natCast_mul, Int.toNat_of_nonneg (by omega)]
      rw [← e1]; omega
    have := Int.le_ediv_of_mul_le (by omega : 0 < n) e
    omega
  · unfold Builtin.Str.tooLong
    exact decide_eq_false (by omega)
  · have key : ∀ z : Str, z = repS a n.toNat → ∀ t'', RelV (.str (repS a n.toNat)) (.str z t'') := fun z e t'' => by rw [← e]; exact ⟨t'', rfl⟩
    split
    · rename_i hn
      refine ⟨by decide, .str _, H, I.tok _, key _ ?_ _, q⟩
      rw [Int.toNat_eq_zero.mpr (by omega)]
      rfl
    · split
      · rename_i hn he
        refine ⟨.str _, H, I, key a ?_ _, q⟩
        have ex : ∀ (y z : Str), y.cps.toList = z.cps.toList → y = z := fun y z e => by
          cases y; cases z
          congr 1
          exact Array.toList_inj.mp e
        apply ex
        rw [repS_toList]
        rw [Bool.or_eq_true] at he
        rcases he with he | he
        · have : n = 1 := by simpa using he
          subst this
          simp [List.replicate]
        · have h0 : a.cps.toList = [] := by
            have h1 : a.length = 0 := by simpa using he
            have h2 : a.cps.toList.length = 0 := by rw [Array.length_toList]; exact h1
            exact List.length_eq_zero_iff.mp h2
          rw [h0]
          simp
      · refine ⟨?_, .str _, H, I.tok _, ⟨_, rfl⟩, q⟩
        have := repS_length a n.toNat
        show (repS a n.toNat).length ≤ _
        rw [this, Nat.mul_comm]; exact h3
theorem op_binD (C : Cok X) (m : Bool) (o : Operator) : OpD X (binaryOp o) (binD m o) := by
  intro pins s σ H x y v u Q I rx ry h
  obtain ⟨Z, dx, dy, Hm, Qd, rep, ix, iy, hr, k⟩ := h
  unfold binD at hr
  split at hr
  · exact op_add pins s σ H x y v u Q I rx ry ⟨_, _, ix.int, iy.int, k.here rep is_int hr⟩
  · exact op_sub pins s σ H x y v u Q I rx ry ⟨_, _, ix.int, iy.int, k.here rep is_int hr⟩
  · exact op_mulD pins s σ H x y v u Q I rx ry ⟨_, _, ix.int, iy.int, hr.1, k.here rep is_int hr.2⟩
  · exact op_fdivD C.big pins s σ H x y v u Q I rx ry ⟨_, _, ix.int, iy.int, hr.1, k.here rep is_int hr.2⟩
  · exact op_modD pins s σ H x y v u Q I rx ry ⟨_, _, ix.int, iy.int, hr.1, k.here rep is_int hr.2⟩
  · exact op_pow pins s σ H x y v u Q I rx ry ⟨_, _, ix.int, iy.int, hr.1, k.here rep is_int hr.2⟩
  · exact op_add_str pins s σ H x y v u Q I rx ry ⟨_, _, ix.str, iy.str, hr.1, k.here rep is_str hr.2⟩
  · obtain ⟨a, vs, e1, s1, t1⟩ := ix.tupU
    obtain ⟨b, ws, e2, s2, t2⟩ := iy.tupU
    obtain ⟨hz, q⟩ := hr
    have is2 : ∀ {es : List D} {zs : List V} {c : Addr}, SqU X.K H c zs → Iss ⟨X.K, Z⟩ H Hm es zs → Is ⟨X.K, Z⟩ H Hm (.tup es) (.ref c) := fun q t => by unfold Is; exact ⟨_, _, rfl, q, t⟩
    refine op_catA pins s σ H x y v u Q I rx ry ⟨a, b, vs, ws, e1, e2, s1.sq, s2.sq, by rw [t1.length, t2.length]; exact hz, fun z => ?_, fun _ z => ?_, fun _ _ => k.tup rep (t1.append t2) q⟩
    · exact k.here rep (is2 s2 (by have := t1.append t2; rw [z, List.nil_append] at this; exact this)) q
    · exact k.here rep (is2 s1 (by have := t1.append t2; rw [z, List.append_nil] at this; exact this)) q
  · exact op_mulS pins s σ H x y v u Q I rx ry ⟨_, _, ix.str, iy.int, hr.1, hr.2.1, hr.2.2.1, k.here rep is_str hr.2.2.2⟩
  · obtain ⟨xs, e, h1, h2, q⟩ := hr
    obtain ⟨vs, z, t⟩ := rep.obj _ _ e
    refine op_rep pins s σ H x y v u Q I rx ry ⟨_, _, vs, ix.ref, iy.int, z, h1, h2, ?_, k.lst rep (iss_rep t _) q⟩
    have := q.1
    rw [t.length, Nat.mul_comm]
    simpa using this
  · obtain ⟨xs, ys, e1, e2, q⟩ := hr
    obtain ⟨a, vs, z1, s1, t1⟩ := lst_of rep ix e1
    obtain ⟨b, ws, z2, s2, t2⟩ := lst_of rep iy e2
    exact op_catL pins s σ H x y v u Q I rx ry ⟨a, b, vs, ws, z1, z2, s1, s2, by rw [t1.length, t2.length, ← List.length_append]; exact q.1, k.lst rep (t1.append t2) q⟩
  · exact hr.elim
theorem op_augD (C : Cok X) (o : Operator) : PIp X o fun x y H Q => ∃ Z dx dy Hm Qd, Rep ⟨X.K, Z⟩ H Hm ∧ Is ⟨X.K, Z⟩ H Hm dx x ∧ Is ⟨X.K, Z⟩ H Hm dy y ∧ augD o dx dy Hm Qd ∧ Bh ⟨X.K, Z⟩ Hm H Qd Q := by
  intro pins s σ H x y v u Q I rx ry h
  obtain ⟨Z, dx, dy, Hm, Qd, rep, ix, iy, hr, k⟩ := h
  unfold augD at hr
  split at hr
  · exact iop_add pins s σ H x y v u Q I rx ry ⟨_, _, ix.int, iy.int, k.here rep is_int hr⟩
  · exact iop_sub pins s σ H x y v u Q I rx ry ⟨_, _, ix.int, iy.int, k.here rep is_int hr⟩
  · exact iop_add_str pins s σ H x y v u Q I rx ry ⟨_, _, ix.str, iy.str, hr.1, k.here rep is_str hr.2⟩
  · exact hr.elim

/-! ### comparisons -/
section
variable {K : Kz} {H : Hp} {Hm : MH} {d : D} {v : V} {ds : List D} {vs : List V}
mutual
theorem dp_of : ∀ (d : D) (v : V) (p : PyData), Is K H Hm d v → pyD d = some p → Dp K.K H v p
  | .non, v, p, h, e => by rw [h.non]; unfold pyD at e; cases e; exact .non
  | .bl b, v, p, h, e => by rw [h.bl]; unfold pyD at e; cases e; exact .bl b
  | .int b, v, p, h, e => by rw [h.int]; unfold pyD at e; cases e; exact .int b
  | .str b, v, p, h, e => by rw [h.str]; unfold pyD at e; cases e; exact .str b
  | .tup ds, v, p, h, e => by
    obtain ⟨a, vs, rfl, s, t⟩ := h.tup
    unfold pyD at e
    cases q : pyDs ds with
    | none => rw [q] at e; cases e
    | some ps =>
      rw [q] at e; cases e
      exact .tup s (dp_all ds vs ps t q)
  | .rol ds, v, p, h, e => by
    unfold Is at h
    obtain ⟨a, vs, rfl, s, t⟩ := h
    unfold pyD at e
    cases q : pyDs ds with
    | none => rw [q] at e; cases e
    | some ps =>
      rw [q] at e; cases e
      exact .lst s.sq (dp_all ds vs ps t q)
  | .ty n, v, p, h, e => by unfold pyD at e; cases e
  | .ref n, v, p, h, e => by unfold pyD at e; cases e
  | .obj _ _ _, v, p, h, e => by unfold pyD at e; cases e
  | .dct, v, p, h, e => by unfold pyD at e; cases e
  | .any, v, p, h, e => by unfold pyD at e; cases e
  | .kls _, v, p, h, e => by unfold pyD at e; cases e
  | .exc _ _ _, v, p, h, e => by unfold pyD at e; cases e
theorem dp_all : ∀ (ds : List D) (vs : List V) (ps : List PyData), Iss K H Hm ds vs → pyDs ds = some ps → DpAll K.K H vs ps
  | [], vs, ps, h, e => by rw [h.nil_of]; unfold pyDs at e; cases e; exact .nil
  | d :: ds, vs, ps, h, e => by
    obtain ⟨v, r, rfl, q, t⟩ := h.cons_of
    unfold pyDs at e
    cases q1 : pyD d with
    | none => rw [q1] at e; cases e
    | some p =>
      cases q2 : pyDs ds with
      | none => rw [q1, q2] at e; cases e
      | some ps' =>
        rw [q1, q2] at e; cases e
        exact .cons (dp_of d v p q q1) (dp_all ds r ps' t q2)
end
theorem dp_rd {p : PyData} (r : Rep K H Hm) (h : Is K H Hm d v) (e : pyD (rdL Hm d) = some p) : Dp K.K H v p := by
  unfold rdL at e
  cases q : lstAt Hm d with
  | none => rw [q] at e; exact dp_of d v p h e
  | some ds =>
    rw [q] at e
    obtain ⟨a, vs, rfl, s, t⟩ := lst_of r h q
    unfold pyD at e
    cases q2 : pyDs ds with
    | none => simp only [q2] at e; cases e
    | some ps =>
      simp only [q2] at e; cases e
      exact .lst s (dp_all ds vs ps t q2)
/-- what eqD says: scalars, or data of one shape -/
theorem eqD_of {dx dy : D} {x y : V} {c : Bool} (r : Rep K H Hm) (ix : Is K H Hm dx x) (iy : Is K H Hm dy y) (e : eqD (rdL Hm dx) (rdL Hm dy) = some c) :
    (scal x y = true ∧ decide (x = y) = c) ∨ ∃ p q, Dp K.K H x p ∧ Dp K.K H y q ∧ SeqAt.shaped p = true ∧ SeqAt.shaped q = true ∧ PyData.eqv p q = c := by
  have sc : ∀ {d : D} {w : V}, Is K H Hm d w → (∀ i, rdL Hm d = .int i → w = .int i) ∧ (∀ i, rdL Hm d = .bl i → w = .bl i) ∧ (∀ i, rdL Hm d = .str i → w = .str i) ∧ (rdL Hm d = .non → w = .non) := fun {d w} h => by
    have nl : ∀ z, rdL Hm d = z → (∀ l, z ≠ .rol l) → d = z := fun z e n => by
      unfold rdL at e
      cases q : lstAt Hm d with
      | none => rw [q] at e; exact e
      | some l => rw [q] at e; exact absurd e.symm (n l)
    refine ⟨fun i e => ?_, fun i e => ?_, fun i e => ?_, fun e => ?_⟩
    · exact (nl _ e (by intro l z; cases z) ▸ h : Is K H Hm (.int i) w).int
    · exact (nl _ e (by intro l z; cases z) ▸ h : Is K H Hm (.bl i) w).bl
    · exact (nl _ e (by intro l z; cases z) ▸ h : Is K H Hm (.str i) w).str
    · exact (nl _ e (by intro l z; cases z) ▸ h : Is K H Hm .non w).non
  have sx := sc ix
  have sy := sc iy
  unfold eqD at e
  split at e
  · rename_i a b ea eb
    rw [sx.1 _ ea, sy.1 _ eb]
    refine .inl ⟨rfl, ?_⟩
    cases e
    rw [dec_int, Bool.beq_eq_decide_eq]
  · rename_i a b ea eb
    rw [sx.2.1 _ ea, sy.2.1 _ eb]
    refine .inl ⟨rfl, ?_⟩
    cases e
    rw [dec_bl, Bool.beq_eq_decide_eq]
  · rename_i a b ea eb
    rw [sx.2.2.1 _ ea, sy.2.2.1 _ eb]
    refine .inl ⟨rfl, ?_⟩
    cases e
    rw [dec_str, Bool.eq_iff_iff]
    simp
  · rename_i ea eb
    rw [sx.2.2.2 ea, sy.2.2.2 eb]
    exact .inl ⟨rfl, by cases e; simp⟩
  · cases q1 : pyD (rdL Hm dx) with
    | none => rw [q1] at e; cases e
    | some p =>
      cases q2 : pyD (rdL Hm dy) with
      | none => rw [q1, q2] at e; cases e
      | some p' =>
        rw [q1, q2] at e
        simp only [Option.bind_some] at e
        split at e
        · rename_i hs
          rw [Bool.and_eq_true] at hs
          cases e
          exact .inr ⟨p, p', dp_rd r ix q1, dp_rd r iy q2, hs.1, hs.2, rfl⟩
        · cases e
theorem flat_of (h : Is K H Hm d v) (f : flatD d = true) : flatV v = true := by
  cases d <;> first | cases f | skip
  · rw [h.non]; rfl
  · rw [h.bl]; rfl
  · rw [h.int]; rfl
  · rw [h.str]; rfl
theorem flats_of : ∀ {ds : List D} {vs : List V}, Iss K H Hm ds vs → ds.all flatD = true → vs.all flatV = true
  | [], vs, h, _ => by rw [h.nil_of]; rfl
  | d :: ds, vs, h, f => by
    obtain ⟨v, r, rfl, q, t⟩ := h.cons_of
    rw [List.all_cons, Bool.and_eq_true] at f ⊢
    exact ⟨flat_of q f.1, flats_of t f.2⟩
theorem eqF_of {d e : D} {v w : V} (h : Is K H Hm d v) (g : Is K H Hm e w) (f : flatD d = true) (f' : flatD e = true) : eqV v w = eqF d e := by
  cases d <;> first | cases f | skip
  all_goals (cases e <;> first | cases f' | skip)
  all_goals (unfold Is at h g; subst h g; rfl)
theorem inV_of {x : D} {y : V} (h : Is K H Hm x y) (f : flatD x = true) : ∀ {ds : List D} {vs : List V}, Iss K H Hm ds vs → ds.all flatD = true → inV y vs = ds.any fun z => eqF z x
  | [], vs, t, _ => by rw [t.nil_of]; rfl
  | d :: ds, vs, t, g => by
    obtain ⟨v, r, rfl, q, t⟩ := t.cons_of
    rw [List.all_cons, Bool.and_eq_true] at g
    have ih := inV_of h f t g.2
    unfold inV at ih ⊢
    rw [List.any_cons, List.any_cons, ih, eqF_of q h g.1 f]
theorem isnon_of {c : Bool} (h : Is K H Hm d v) (e : isNonD d = some c) : c = decide (v = .non) := by
  cases d with
  | any => cases e
  | kls nm => unfold Is at h; obtain ⟨a, rfl, _⟩ := h; cases e; rfl
  | non => rw [h.non]; cases e; rfl
  | bl b => rw [h.bl]; cases e; rfl
  | int b => rw [h.int]; cases e; rfl
  | str b => rw [h.str]; cases e; rfl
  | ty b => rw [h.ty]; cases e; rfl
  | ref b => rw [h.ref]; cases e; rfl
  | tup ds => obtain ⟨a, vs, rfl, _⟩ := h.tup; cases e; rfl
  | rol ds => unfold Is at h; obtain ⟨a, vs, rfl, _⟩ := h; cases e; rfl
  | obj C ns ds => unfold Is at h; obtain ⟨a, dx, vs, rfl, _⟩ := h; cases e; rfl
  | dct => unfold Is at h; obtain ⟨a, dx, rfl, _⟩ := h; cases e; rfl
  | exc nm ns ds => unfold Is at h; obtain ⟨a, fs, rfl, _⟩ := h; cases e; rfl
end
theorem op_cmpD (C : Cok X) (o : CmpOp) : OpD X (compareOp o) (fun x y H Q => ∃ c, cmpD o x y H = some c ∧ Q (.bl c) H) := by
  intro pins s σ H x y v u Q I rx ry h
  obtain ⟨Z, dx, dy, Hm, Qd, rep, ix, iy, ⟨c, hc, q⟩, k⟩ := h
  have fin : Q (.bl c) H := k.here rep is_bl q
  have hu := C.units
  unfold cmpD at hc
  split at hc
  · cases hc
    exact op_lt pins s σ H x y v u Q I rx ry ⟨_, _, ix.int, iy.int, fin⟩
  · cases hc
    exact op_le pins s σ H x y v u Q I rx ry ⟨_, _, ix.int, iy.int, fin⟩
  · cases hc
    exact op_gt pins s σ H x y v u Q I rx ry ⟨_, _, ix.int, iy.int, fin⟩
  · cases hc
    exact op_ge pins s σ H x y v u Q I rx ry ⟨_, _, ix.int, iy.int, fin⟩
  · rcases eqD_of rep ix iy hc with ⟨h1, h2⟩ | ⟨p, p', h1, h2, h3, h4, h5⟩
    · exact op_eq pins s σ H x y v u Q I rx ry ⟨h1, by rw [h2]; exact fin⟩
    · exact op_eqD hu pins s σ H x y v u Q I rx ry ⟨p, p', h1, h2, h3, h4, by rw [h5]; exact fin⟩
  · cases e : eqD (rdL Hm dx) (rdL Hm dy) with
    | none => rw [e] at hc; cases hc
    | some b =>
      rw [e] at hc
      have hc : (!b) = c := Option.some.inj hc
      rcases eqD_of rep ix iy e with ⟨h1, h2⟩ | ⟨p, p', h1, h2, h3, h4, h5⟩
      · exact op_ne pins s σ H x y v u Q I rx ry ⟨h1, by rw [h2, hc]; exact fin⟩
      · exact op_neD hu pins s σ H x y v u Q I rx ry ⟨p, p', h1, h2, h3, h4, by rw [h5, hc]; exact fin⟩
  · exact op_isN pins s σ H x y v u Q I rx ry ⟨iy.non, by rw [← isnon_of ix hc]; exact fin⟩
  · obtain ⟨b, hb, hc⟩ := Option.map_eq_some_iff.1 hc
    refine op_notN pins s σ H x y v u Q I rx ry ⟨iy.non, ?_⟩
    rw [← isnon_of ix hb, hc]; exact fin
  · cases e : seqAt Hm dy with
    | none => rw [e] at hc; cases hc
    | some xs =>
      rw [e] at hc
      obtain ⟨a, vs, rfl, sq, t⟩ := seq_of rep iy e
      have hc : inD dx xs = some c := hc
      unfold inD at hc
      split at hc
      · rename_i hf
        rw [Bool.and_eq_true] at hf
        cases hc
        exact op_in_seq pins s σ H x _ v u Q I rx ry ⟨a, vs, rfl, sq, flat_of ix hf.1, flats_of t hf.2, by rw [inV_of ix hf.1 t hf.2]; exact fin⟩
      · cases hc
  · cases e : seqAt Hm dy with
    | none => rw [e] at hc; cases hc
    | some xs =>
      rw [e] at hc
      obtain ⟨a, vs, rfl, sq, t⟩ := seq_of rep iy e
      have hc : (inD dx xs).map (!·) = some c := hc
      unfold inD at hc
      split at hc
      · rename_i hf
        rw [Bool.and_eq_true] at hf
        cases hc
        exact op_notIn_seq pins s σ H x _ v u Q I rx ry ⟨a, vs, rfl, sq, flat_of ix hf.1, flats_of t hf.2, by rw [inV_of ix hf.1 t hf.2]; exact fin⟩
      · cases hc
  · cases hc
theorem tru_of {K : Kz} {H : Hp} {Hm : MH} {d : D} {x : V} {c : Bool} (rep : Rep K H Hm) (ix : Is K H Hm d x) (hc : truD Hm d = some c) : TruV K.K x H c := by
  unfold truD at hc
  split at hc
  · cases hc; rw [ix.non]; rfl
  · cases hc; rw [ix.bl]; rfl
  · cases hc; rw [ix.int]; rfl
  · cases e : seqAt Hm d with
    | none => rw [e] at hc; cases hc
    | some xs =>
      rw [e] at hc
      obtain ⟨a, vs, rfl, sq, t⟩ := seq_of rep ix e
      have hc : (!xs.isEmpty) = c := Option.some.inj hc
      have e2 : (!vs.isEmpty) = c := by
        rw [← hc]
        cases xs with
        | nil => rw [t.nil_of]; rfl
        | cons z r => obtain ⟨v, w, rfl, _⟩ := t.cons_of; rfl
      rcases sq with sq | sq
      · exact .inl ⟨vs, sq, e2.symm⟩
      · exact .inr (.inl ⟨vs, sq, e2.symm⟩)
end
end DL

set_option maxHeartbeats 400000
namespace DL
open PySem PySem.Spec PyProof.Rows L2
/-! ### dicts -/
section
variable {κ : Type} [DecidableEq κ]
theorem valD_nil {k : κ} : valD ([] : List (κ × D)) k = none := rfl
theorem valD_pos {p : κ × D} {r : List (κ × D)} {k : κ} (e : p.1 = k) : valD (p :: r) k = some p.2 := by simp [valD, List.find?_cons, e]
theorem valD_neg {p : κ × D} {r : List (κ × D)} {k : κ} (e : ¬ p.1 = k) : valD (p :: r) k = valD r k := by simp [valD, List.find?_cons, e]
theorem valD_any (k : κ) : ∀ kvs : List (κ × D), (kvs.any fun kv => decide (kv.1 = k)) = (valD kvs k).isSome
  | [] => rfl
  | p :: r => by
    by_cases e : p.1 = k
    · rw [valD_pos e, List.any_cons, decide_eq_true e]; rfl
    · rw [valD_neg e, List.any_cons, decide_eq_false e, valD_any k r]; rfl
theorem valD_map (k j : κ) (y : D) : ∀ kvs : List (κ × D), valD (kvs.map fun kv => if kv.1 = k then (kv.1, y) else kv) j = (valD kvs j).map fun x => if j = k then y else x
  | [] => rfl
  | p :: r => by
    rw [List.map_cons]
    by_cases e : p.1 = j
    · by_cases e2 : p.1 = k
      · rw [if_pos e2, valD_pos (p := (p.1, y)) e, valD_pos e, Option.map_some, if_pos (e.symm.trans e2)]
      · rw [if_neg e2, valD_pos e, valD_pos e, Option.map_some, if_neg (fun z => e2 (e.trans z))]
    · by_cases e2 : p.1 = k
      · rw [if_pos e2, valD_neg (p := (p.1, y)) e, valD_neg e, valD_map k j y r]
      · rw [if_neg e2, valD_neg e, valD_neg e, valD_map k j y r]
theorem valD_snoc (k j : κ) (y : D) : ∀ kvs : List (κ × D), valD kvs k = none → valD (kvs ++ [(k, y)]) j = if j = k then some y else valD kvs j
  | [], _ => by
    by_cases e : j = k
    · rw [if_pos e, List.nil_append, valD_pos e.symm]
    · rw [if_neg e, List.nil_append, valD_neg (fun z => e z.symm)]
  | p :: r, h => by
    by_cases e0 : p.1 = k
    · rw [valD_pos e0] at h; cases h
    · rw [valD_neg e0] at h
      rw [List.cons_append]
      by_cases e : p.1 = j
      · rw [valD_pos e, valD_pos e, if_neg (fun z => e0 (e.trans z))]
      · rw [valD_neg e, valD_neg e, valD_snoc k j y r h]
theorem valD_put (kvs : List (κ × D)) (k j : κ) (y : D) : valD (putD kvs k y) j = if j = k then some y else valD kvs j := by
  unfold putD
  rw [valD_any]
  cases h : valD kvs k with
  | none => exact valD_snoc k j y kvs h
  | some x =>
    rw [show (some x).isSome = true from rfl, if_pos rfl, valD_map]
    by_cases e : j = k
    · subst e
      rw [h]
      simp
    · rw [if_neg e]
      simp [e]
theorem putD_new {kvs : List (κ × D)} {k : κ} (v : D) (h : valD kvs k = none) : putD kvs k v = kvs ++ [(k, v)] := by
  unfold putD
  rw [valD_any, h]; rfl
theorem putD_len (kvs : List (κ × D)) (k : κ) (v : D) : (putD kvs k v).length ≤ kvs.length + 1 := by
  unfold putD
  split
  · rw [List.length_map]; omega
  · rw [List.length_append]; exact Nat.le_refl _
variable {K : Kz} {H : Hp} {Hm : MH}
/-- a table and its values -/
def KVs (K : Kz) (H : Hp) (Hm : MH) (kvs : List (κ × D)) (us : List (κ × V)) : Prop := us.map (·.1) = kvs.map (·.1) ∧ Iss K H Hm (kvs.map (·.2)) (us.map (·.2))
theorem KVs.nil : KVs K H Hm ([] : List (κ × D)) [] := ⟨rfl, .nil⟩
theorem KVs.cons_of {p : κ × D} {kvs : List (κ × D)} {us : List (κ × V)} (h : KVs K H Hm (p :: kvs) us) : ∃ v r, us = (p.1, v) :: r ∧ Is K H Hm p.2 v ∧ KVs K H Hm kvs r := by
  obtain ⟨h1, h2⟩ := h
  cases us with
  | nil => cases h1
  | cons u r =>
    rw [List.map_cons, List.map_cons, List.cons.injEq] at h1
    obtain ⟨v, t, e, i, j⟩ := h2.cons_of
    rw [List.map_cons, List.cons.injEq] at e
    obtain ⟨e1, e2⟩ := e
    refine ⟨v, r, by rw [← h1.1, ← e1], i, h1.2, by rw [e2]; exact j⟩
theorem KVs.cons {k : κ} {d : D} {v : V} {kvs : List (κ × D)} {us : List (κ × V)} (i : Is K H Hm d v) (h : KVs K H Hm kvs us) : KVs K H Hm ((k, d) :: kvs) ((k, v) :: us) :=
  ⟨by rw [List.map_cons, List.map_cons, h.1], .cons i h.2⟩
theorem KVs.get : ∀ {kvs : List (κ × D)} {us : List (κ × V)} {k : κ} {d : D}, KVs K H Hm kvs us → valD kvs k = some d → ∃ v, valV us k = some v ∧ Is K H Hm d v
  | [], _, _, _, _, e => by cases e
  | p :: kvs, us, k, d, h, e => by
    obtain ⟨v, r, rfl, i, h⟩ := h.cons_of
    by_cases q : p.1 = k
    · rw [valD_pos q] at e; cases e
      exact ⟨v, valV_pos q, i⟩
    · rw [valD_neg q] at e
      rw [valV_neg q]
      exact h.get e
theorem KVs.any : ∀ {kvs : List (κ × D)} {us : List (κ × V)} (k : κ), KVs K H Hm kvs us → (us.any fun kv => decide (kv.1 = k)) = kvs.any fun kv => decide (kv.1 = k)
  | [], us, k, h => by
    have : us = [] := by have := h.1; simpa using this
    rw [this]; rfl
  | p :: kvs, us, k, h => by
    obtain ⟨v, r, rfl, i, h⟩ := h.cons_of
    rw [List.any_cons, List.any_cons, h.any k]
theorem KVs.none : ∀ {kvs : List (κ × D)} {us : List (κ × V)} {k : κ}, KVs K H Hm kvs us → valD kvs k = .none → valV us k = .none := fun {kvs us k} h e => by
  have := h.any k
  rw [valV_any, valD_any, e] at this
  cases q : valV us k with
  | none => rfl
  | some v => rw [q] at this; cases this
theorem KVs.repl (k : κ) {d : D} {v : V} (i : Is K H Hm d v) : ∀ {kvs : List (κ × D)} {us : List (κ × V)}, KVs K H Hm kvs us → KVs K H Hm (kvs.map fun kv => if kv.1 = k then (kv.1, d) else kv) (us.map fun kv => if kv.1 = k then (kv.1, v) else kv)
  | [], us, h => by
    have : us = [] := by have := h.1; simpa using this
    rw [this]; exact .nil
  | p :: kvs, us, h => by
    obtain ⟨w, r, rfl, j, h⟩ := h.cons_of
    rw [List.map_cons, List.map_cons]
    by_cases q : p.1 = k
    · rw [if_pos q, if_pos q]
      exact .cons i (h.repl k i)
    · rw [if_neg q, if_neg q]
      exact .cons j (h.repl k i)
theorem KVs.snoc {k : κ} {d : D} {v : V} (i : Is K H Hm d v) {kvs : List (κ × D)} {us : List (κ × V)} (h : KVs K H Hm kvs us) : KVs K H Hm (kvs ++ [(k, d)]) (us ++ [(k, v)]) :=
  ⟨by rw [List.map_append, List.map_append, h.1]; rfl, by rw [List.map_append, List.map_append]; exact h.2.append (.cons i .nil)⟩
theorem KVs.put (k : κ) {d : D} {v : V} (i : Is K H Hm d v) {kvs : List (κ × D)} {us : List (κ × V)} (h : KVs K H Hm kvs us) : KVs K H Hm (putD kvs k d) (putK us k v) := by
  unfold putD putK
  rw [h.any k]
  split
  · exact h.repl k i
  · exact h.snoc i
theorem KVs.len {kvs : List (κ × D)} {us : List (κ × V)} (h : KVs K H Hm kvs us) : us.length = kvs.length := by
  have := congrArg List.length h.1
  simpa using this
theorem KVs.nt {H' : Hp} {Hm' : MH} (r : Rep K H Hm) (n : NT Hm H Hm' H') {kvs : List (κ × D)} {us : List (κ × V)} (h : KVs K H Hm kvs us) : KVs K H' Hm' kvs us := ⟨h.1, Iss.nt r n _ _ h.2⟩
end
section
variable {K : Kz} {H : Hp} {Hm : MH} {d : D} {v : V} {ds : List D} {vs : List V} {p : Addr} {o : HO}
theorem key_of' {k : Key} (h : Is K H Hm d v) (e : keyD d = some k) : v = kV k := by
  unfold keyD at e
  split at e
  · cases e; rw [h.int]; rfl
  · cases e; rw [h.str]; rfl
  · cases e
theorem keys_of : ∀ {ds : List D} {vs : List V} {ks : List Key}, Iss K H Hm ds vs → keysD ds = some ks → vs = ks.map kV
  | [], vs, ks, h, e => by unfold keysD at e; cases e; exact h.nil_of
  | d :: ds, vs, ks, h, e => by
    obtain ⟨v, r, rfl, i, h⟩ := h.cons_of
    unfold keysD at e
    simp only [Option.bind_eq_some_iff, Option.map_eq_some_iff] at e
    obtain ⟨k, h1, ks', h2, rfl⟩ := e
    rw [key_of' i h1, keys_of h h2]; rfl
theorem new_repO {u : MO} (r : Rep K H Hm) (hp : H p = none) (h : RepO K (upd H p o) (updM Hm p u) p u) : Rep K (upd H p o) (updM Hm p u) := by
  refine r.step (new_nt r hp) fun a w e => ?_
  by_cases q : a = p
  · subst q
    rw [updM_same] at e; cases e
    exact .inr h
  · rw [updM_ne q] at e
    exact .inl ⟨e, upd_ne q⟩
theorem wr_repO {u : MO} (r : Rep K H Hm) (hm : Hm p ≠ none) (h : RepO K (upd H p o) (updM Hm p u) p u) : Rep K (upd H p o) (updM Hm p u) := by
  refine r.step (wr_nt hm) fun a w e => ?_
  by_cases q : a = p
  · subst q
    rw [updM_same] at e; cases e
    exact .inr h
  · rw [updM_ne q] at e
    exact .inl ⟨e, upd_ne q⟩
theorem Bh.dnew {Qd : DK} {Q : VK} {u : MO} (k : Bh K Hm H Qd Q) (r : Rep K H Hm) (hu : (u = .dk [] ∧ o = .dK []) ∨ (u = .dt [] ∧ o = .dT [])) (q : ∀ p, Hm p = none → Qd (.ref p) (updM Hm p u)) : ∀ p, H p = none → Q (.ref p) (upd H p o) := fun p hp => by
  refine k _ _ (.ref p) _ (new_nt r hp) (new_repO r hp ?_) (by unfold Is; rfl) (q p (r.free hp))
  rcases hu with ⟨rfl, rfl⟩ | ⟨rfl, rfl⟩
  · exact ⟨[], upd_same, rfl, .nil⟩
  · exact ⟨[], upd_same, rfl, .nil⟩
theorem dk_rep {kvs : List (Key × D)} (r : Rep K H Hm) (e : Hm p = some (.dk kvs)) : ∃ us, H p = some (.dK us) ∧ KVs K H Hm kvs us := by
  obtain ⟨us, h, a, b⟩ := r.obj _ _ e
  exact ⟨us, h, a, b⟩
theorem dt_rep {kvs : List (List Key × D)} (r : Rep K H Hm) (e : Hm p = some (.dt kvs)) : ∃ us, H p = some (.dT us) ∧ KVs K H Hm kvs us := by
  obtain ⟨us, h, a, b⟩ := r.obj _ _ e
  exact ⟨us, h, a, b⟩
theorem DGet.kR {a : Addr} {kvs : List (Key × V)} {k : Key} (e : Rd H a (.dK kvs)) : DGet H a (kV k) (valV kvs k) := .inl ⟨kvs, k, e, rfl, rfl⟩
theorem DGet.tR {a b : Addr} {kvs : List (List Key × V)} {k : List Key} (e : Rd H a (.dT kvs)) (eb : H b = some (.tup (k.map kV))) : DGet H a (.ref b) (valV kvs k) := .inr ⟨kvs, k, b, e, rfl, eb, rfl⟩
theorem dkr_rep {kvs : List (Key × D)} (r : Rep K H Hm) (e : dkRd Hm p = some kvs) : ∃ us, Rd H p (.dK us) ∧ KVs K H Hm kvs us := by
  unfold dkRd at e
  split at e
  · rename_i kvs' h
    cases e
    obtain ⟨us, h, t⟩ := dk_rep r h
    exact ⟨us, .inl h, t⟩
  · rename_i o us kvs' h
    cases e
    obtain ⟨h, a, b⟩ := r.obj _ _ h
    exact ⟨us, .inr ⟨o, h⟩, a, b⟩
  · cases e
theorem dtr_rep {kvs : List (List Key × D)} (r : Rep K H Hm) (e : dtRd Hm p = some kvs) : ∃ us, Rd H p (.dT us) ∧ KVs K H Hm kvs us := by
  unfold dtRd at e
  split at e
  · rename_i kvs' h
    cases e
    obtain ⟨us, h, t⟩ := dt_rep r h
    exact ⟨us, .inl h, t⟩
  · rename_i o us kvs' h
    cases e
    obtain ⟨h, a, b⟩ := r.obj _ _ h
    exact ⟨us, .inr ⟨o, h⟩, a, b⟩
  · cases e
end
section
variable {X : Cx}
theorem ix_dict (hu : X.A.units + 1 < cLine) : IxR X (fun x y H Q => ∃ a v, x = .ref a ∧ DGet H a y (some v) ∧ Q v H) := by
  intro value slice pins s σ H x y v u Q I rx ry h hs
  obtain ⟨a, z, rfl, g, q⟩ := h
  obtain rfl : v = Value.ref a := rx
  exact tail_any (dict_typeIs I g) PySem.F.slot_dict_getitem.lookup (d_getItem hu I g ry fun w' s3 I3 rw' => ⟨z, H, I3, rw', q⟩) hs
/-- d[k] = v, a plain key -/
theorem set_dkD (hu : X.A.units + 1 < cLine) : PSet X fun o i v H Q => ∃ (Z : Addr → Prop) (dx dy dv : D) (Hm : MH) (Qd : MH → Prop), Rep ⟨X.K, Z⟩ H Hm ∧ Is ⟨X.K, Z⟩ H Hm dx o ∧ Is ⟨X.K, Z⟩ H Hm dy i ∧ Is ⟨X.K, Z⟩ H Hm dv v ∧
    (∃ p kvs k, dx = .ref p ∧ keyD dy = some k ∧ Hm p = some (.dk kvs) ∧ kvs.length < sizeLine ∧ Qd (updM Hm p (.dk (putD kvs k dv)))) ∧ ∀ H' Hm', NT Hm H Hm' H' → Rep ⟨X.K, Z⟩ H' Hm' → Qd Hm' → Q H' := by
  intro pins s σ H o i v ov iv u Q I ro ri rv h
  obtain ⟨Z, dx, dy, dv, Hm, Qd, rep, ix, iy, id, ⟨p, kvs, k, rfl, hk, hp, hl, q⟩, kk⟩ := h
  obtain ⟨us, e, t⟩ := dk_rep rep hp
  have nn : Hm p ≠ none := by rw [hp]; simp
  have eo := ix.ref
  subst eo
  have ei := key_of' iy hk
  subst ei
  obtain rfl : ov = Value.ref p := ro
  have n0 := wr_nt (H := H) (p := p) (o := .dK (putK us k v)) nn (u := .dk (putD kvs k dv))
  refine d_setItem hu I (DPut.k e (by rw [t.len]; exact hl)) ri rv fun s4 I4 => ⟨_, I4, ?_⟩
  refine kk _ _ n0 (wr_repO rep nn ?_) q
  obtain ⟨h1, h2⟩ := (t.put k id).nt rep n0
  exact ⟨_, upd_same, h1, h2⟩
/-- d[(k, ..)] = v -/
theorem set_dtD (hu : X.A.units + 1 < cLine) : PSet X fun o i v H Q => ∃ (Z : Addr → Prop) (dx dv : D) (ds : List D) (vs : List V) (b : Addr) (Hm : MH) (Qd : MH → Prop), Rep ⟨X.K, Z⟩ H Hm ∧ Is ⟨X.K, Z⟩ H Hm dx o ∧ i = .ref b ∧ H b = some (.tup vs) ∧ Iss ⟨X.K, Z⟩ H Hm ds vs ∧ Is ⟨X.K, Z⟩ H Hm dv v ∧
    (∃ p kvs ks, dx = .ref p ∧ keysD ds = some ks ∧ Hm p = some (.dt kvs) ∧ kvs.length < sizeLine ∧ Qd (updM Hm p (.dt (putD kvs ks dv)))) ∧ ∀ H' Hm', NT Hm H Hm' H' → Rep ⟨X.K, Z⟩ H' Hm' → Qd Hm' → Q H' := by
  intro pins s σ H o i v ov iv u Q I ro ri rv h
  obtain ⟨Z, dx, dv, ds, vs, b, Hm, Qd, rep, ix, ei, eb, iy, id, ⟨p, kvs, ks, rfl, hk, hp, hl, q⟩, kk⟩ := h
  obtain ⟨us, e, t⟩ := dt_rep rep hp
  have nn : Hm p ≠ none := by rw [hp]; simp
  have eo := ix.ref
  subst eo
  have ev := keys_of iy hk
  subst ev
  subst ei
  obtain rfl : ov = Value.ref p := ro
  have n0 := wr_nt (H := H) (p := p) (o := .dT (putK us ks v)) nn (u := .dt (putD kvs ks dv))
  refine d_setItem hu I (DPut.t e eb (by rw [t.len]; exact hl)) ri rv fun s4 I4 => ⟨_, I4, ?_⟩
  refine kk _ _ n0 (wr_repO rep nn ?_) q
  obtain ⟨h1, h2⟩ := (t.put ks id).nt rep n0
  exact ⟨_, upd_same, h1, h2⟩
theorem call_dlenD : CallR X (.builtin "len") fun xs H Q => ∃ Z d Hm Qd n, Rep ⟨X.K, Z⟩ H Hm ∧ Iss ⟨X.K, Z⟩ H Hm [d] xs ∧ dlenAt Hm d = some n ∧ Qd (.int n) Hm ∧ Bh ⟨X.K, Z⟩ Hm H Qd Q := by
  intro pins s σ H xs us Q I r h
  obtain ⟨Z, d, Hm, Qd, n, rep, is, hr, q, k⟩ := h
  obtain ⟨v, xs', rfl, i, hn⟩ := is.cons_of
  have := hn.nil_of
  subst this
  have fin := k.here rep is_int q
  unfold dlenAt at hr
  split at hr
  · rename_i a
    have e1 := i.ref
    subst e1
    split at hr
    · rename_i kvs e
      cases hr
      obtain ⟨u, e, t⟩ := dk_rep rep e
      obtain ⟨w, rfl, rx⟩ := vals1 r
      obtain rfl : w = Value.ref a := rx
      refine d_len I (.inl e) fun t' s' I' => ⟨.int ((u.length : Nat) : Int), H, I', ⟨_, rfl⟩, ?_⟩
      rw [t.len]; exact fin
    · rename_i kvs e
      cases hr
      obtain ⟨u, e, t⟩ := dt_rep rep e
      exact call_len_dT pins s σ H _ us Q I r ⟨a, u, rfl, e, by rw [t.len]; exact fin⟩
    · rename_i o us' kvs e
      cases hr
      obtain ⟨e, t1, t2⟩ := rep.obj _ _ e
      have t : KVs ⟨X.K, Z⟩ H Hm kvs us' := ⟨t1, t2⟩
      obtain ⟨w, rfl, rx⟩ := vals1 r
      obtain rfl : w = Value.ref a := rx
      refine d_len I (.inr ⟨_, e⟩) fun t' s' I' => ⟨.int ((us'.length : Nat) : Int), H, I', ⟨_, rfl⟩, ?_⟩
      rw [t.len]; exact fin
    · cases hr
  · cases hr
end
end DL

set_option maxHeartbeats 400000
namespace DL
open PySem PySem.Spec PyProof.Rows L2

/-! ### tuples that variables hold, as keys -/
/-- no tuple of the written part is such a key -/
def WtOk (K : PySem.W.Frag) (wt : List Key → Bool) : Prop := ∀ a ks, WTup K a (ks.map kV) → wt ks = true
theorem key_tup {K : Kz} {H : Hp} {Hm : MH} {ds : List D} {v : V} {ks : List Key} {wt : List Key → Bool} (hw : WtOk K.K wt) (i : Is K H Hm (.tup ds) v) (hk : keysD ds = some ks) (h : wt ks = false) :
    ∃ b, v = .ref b ∧ H b = some (.tup (ks.map kV)) := by
  obtain ⟨b, vs, e, q, t⟩ := i.tupU
  have := keys_of t hk
  subst this
  rcases q with q | q
  · exact ⟨b, e, q⟩
  · rw [hw _ _ q] at h; cases h
theorem op_cmpW {X : Cx} {wt : List Key → Bool} (hw : WtOk X.K wt) (C : Cok X) (o : CmpOp) : OpD X (compareOp o) (fun x y H Q => cmpW wt o x y H fun c => Q (.bl c) H) := by
  intro pins s σ H x y v u Q I rx ry h
  obtain ⟨Z, dx, dy, Hm, Qd, rep, ix, iy, hc, k⟩ := h
  have hu := C.units
  unfold cmpW at hc
  cases e : dinAt Hm o dx dy with
  | none =>
    rw [e] at hc
    exact op_cmpD C o pins s σ H x y v u Q I rx ry ⟨Z, dx, dy, Hm, Qd, rep, ix, iy, hc, k⟩
  | some z =>
    rw [e] at hc
    obtain ⟨ks, hk, h0, q⟩ := hc
    unfold dinAt at e
    split at e
    · rename_i ds p
      obtain ⟨kvs, hp, e⟩ := Option.map_eq_some_iff.1 e
      · cases e
        obtain ⟨b, rfl, hb⟩ := key_tup (K := ⟨X.K, Z⟩) hw ix hk h0
        have := iy.ref
        subst this
        cases (show u = Value.ref p from ry)
        obtain ⟨us, e, t⟩ := dtr_rep rep hp
        refine d_in (by omega) I (DGet.tR (k := ks) e hb) rx fun s' I' => ⟨.bl (valV us ks).isSome, H, I', rfl, ?_⟩
        have e2 : (valV us ks).isSome = (valD kvs ks).isSome := by rw [← valV_any, ← valD_any]; exact t.any ks
        rw [e2]
        exact k.here rep is_bl (by cases h : (valD kvs ks).isSome <;> simpa [h] using q)
    · rename_i ds p
      obtain ⟨kvs, hp, e⟩ := Option.map_eq_some_iff.1 e
      · cases e
        obtain ⟨b, rfl, hb⟩ := key_tup (K := ⟨X.K, Z⟩) hw ix hk h0
        have := iy.ref
        subst this
        cases (show u = Value.ref p from ry)
        obtain ⟨us, e, t⟩ := dtr_rep rep hp
        refine d_notIn (by omega) I (DGet.tR (k := ks) e hb) rx fun s' I' => ⟨.bl (!(valV us ks).isSome), H, I', rfl, ?_⟩
        have e2 : (valV us ks).isSome = (valD kvs ks).isSome := by rw [← valV_any, ← valD_any]; exact t.any ks
        rw [e2]
        exact k.here rep is_bl (by cases h : (valD kvs ks).isSome <;> simpa [h] using q)
    · cases e
theorem cmpW_br {wt : List Key → Bool} {o : CmpOp} {x y : D} {H : MH} {k : Bool → Prop} (h : cmpW wt o x y H k) : ∃ c, cmpW wt o x y H (fun z => z = c) ∧ k c := by
  unfold cmpW at h ⊢
  cases e : dinAt H o x y with
  | none =>
    rw [e] at h
    obtain ⟨c, h1, h2⟩ := h
    exact ⟨c, ⟨c, h1, rfl⟩, h2⟩
  | some z =>
    rw [e] at h
    obtain ⟨ks, h1, h2, h3⟩ := h
    exact ⟨_, ⟨ks, h1, h2, rfl⟩, h3⟩
theorem cmpW_mono {wt : List Key → Bool} {o : CmpOp} {x y : D} {H : MH} {k k' : Bool → Prop} (h : cmpW wt o x y H k) (m : ∀ c, k c → k' c) : cmpW wt o x y H k' := by
  unfold cmpW at h ⊢
  cases e : dinAt H o x y with
  | none =>
    rw [e] at h
    obtain ⟨c, h1, h2⟩ := h
    exact ⟨c, h1, m _ h2⟩
  | some z =>
    rw [e] at h
    obtain ⟨ks, h1, h2, h3⟩ := h
    exact ⟨ks, h1, h2, m _ h3⟩
/-! ### the judgements over data -/
structure EnvIs (K : Kz) (H : Hp) (Hm : MH) (σd : En) (σ : L2.St) : Prop where
  len : σd.length = σ.length
  get : ∀ (i : Nat) (d : D), σd[i]? = some (some d) → ∃ v : V, σ[i]? = some (some v) ∧ Is K H Hm d v
/-- an exception's own fields -/
def XIs (K : Kz) (H : Hp) (Hm : MH) : Option Addr → Option (List Str × List D) → Prop
  | none, none => True
  | some a, some (ns, ds) => ∃ fs : List (Str × V), H a = some (.xd fs) ∧ (Hm a = none ∧ ¬ K.Z a) ∧ fs.map (·.1) = ns ∧ Iss K H Hm ds (fs.map (·.2))
  | _, _ => False
/-- the code's place: the context, the state at the entry, what is wanted of exceptions -/
structure Co where
  X : Cx
  Z : Addr → Prop
  M0 : MH
  H0 : Hp
  Ed : En → XDK
  W : WX
abbrev Co.K (C : Co) : Kz := ⟨C.X.K, C.Z⟩
structure Rs0 (K : Kz) (M0 : MH) (H0 : Hp) (σd : En) (Hm : MH) (σ : L2.St) (H : Hp) : Prop where
  env : EnvIs K H Hm σd σ
  rep : Rep K H Hm
  nt : NT M0 H0 Hm H
abbrev Rs (C : Co) (σd : En) (Hm : MH) (σ : L2.St) (H : Hp) : Prop := Rs0 C.K C.M0 C.H0 σd Hm σ H
structure Co.Ok (C : Co) : Prop where
  x : Cok C.X
  tk : Takes C.X C.W
  w : ∀ σ H σd Hm nm cls a fo, Rs C σd Hm σ H → ClsK C.X.K nm cls → XIs C.K H Hm a fo → C.Ed σd nm fo Hm → C.W cls a σ H
theorem Co.Ok.units {C : Co} (ok : C.Ok) : C.X.A.units + 1 < cLine := by have := ok.x.units; omega
theorem EnvIs.nt {K : Kz} {H H' : Hp} {Hm Hm' : MH} {σd : En} {σ : L2.St} (e : EnvIs K H Hm σd σ) (r : Rep K H Hm) (n : NT Hm H Hm' H') : EnvIs K H' Hm' σd σ :=
  ⟨e.len, fun i d q => let ⟨v, a, b⟩ := e.get i d q; ⟨v, a, Is.nt r n d v b⟩⟩
theorem Rs0.nxt {C : Co} {σd : En} {Hm Hm' : MH} {σ : L2.St} {H H' : Hp} (s : Rs C σd Hm σ H) (n : NT Hm H Hm' H') (r : Rep C.K H' Hm') : Rs C σd Hm' σ H' := ⟨s.env.nt s.rep n, r, s.nt.trans n⟩
theorem EnvIs.set {K : Kz} {H : Hp} {Hm : MH} {σd : En} {σ : L2.St} {d : D} {v : V} (e : EnvIs K H Hm σd σ) (i : Nat) (h : Is K H Hm d v) : EnvIs K H Hm (σd.set i (some d)) (σ.set i (some v)) :=
  ⟨by rw [List.length_set, List.length_set, e.len], fun j d' q => by
    by_cases hj : i = j
    · subst hj
      by_cases hl : i < σd.length
      · rw [List.getElem?_set_self hl] at q
        cases q
        exact ⟨v, by rw [List.getElem?_set_self (e.len ▸ hl)], h⟩
      · rw [List.getElem?_eq_none (by rw [List.length_set]; omega)] at q
        cases q
    · rw [List.getElem?_set_ne hj] at q ⊢
      exact e.get j d' q⟩
theorem EnvIs.wiped {K : Kz} {H : Hp} {Hm : MH} {σd : En} {σ : L2.St} (e : EnvIs K H Hm σd σ) : ∀ vs : List Nat, EnvIs K H Hm (wipeD σd vs) (wipe σ vs)
  | [] => e
  | v :: vs => by
    have ih := e.wiped vs
    unfold wipeD wipe
    refine ⟨by rw [List.length_set, List.length_set, ih.len], fun j d' q => ?_⟩
    by_cases hj : v = j
    · subst hj
      by_cases hl : v < (wipeD σd vs).length
      · rw [List.getElem?_set_self hl] at q; cases q
      · rw [List.getElem?_eq_none (by rw [List.length_set]; omega)] at q; cases q
    · rw [List.getElem?_set_ne hj] at q ⊢
      exact ih.get j d' q
theorem Rs0.set {C : Co} {σd : En} {Hm : MH} {σ : L2.St} {H : Hp} {d : D} {v : V} (s : Rs C σd Hm σ H) (i : Nat) (h : Is C.K H Hm d v) : Rs C (σd.set i (some d)) Hm (σ.set i (some v)) H := ⟨s.env.set i h, s.rep, s.nt⟩

abbrev TD := En → MH → DK → Prop
def Lf (C : Co) (T : TD) : TE := fun σ H Q => ∃ σd Hm Qd, Rs C σd Hm σ H ∧ T σd Hm Qd ∧ Bh C.K Hm H Qd Q
def DE (C : Co) (e : Expr) (T : TD) : Prop := PE C.X e (Lf C T)
abbrev TCd := En → MH → (Bool → MH → Prop) → Prop
def LfC (C : Co) (T : TCd) : TT := fun σ H Q => ∃ σd Hm Qd, Rs C σd Hm σ H ∧ T σd Hm Qd ∧ ∀ b H' Hm', NT Hm H Hm' H' → Rep C.K H' Hm' → Qd b Hm' → Q b H'
def DC (C : Co) (e : Expr) (T : TCd) : Prop := PT C.X e (LfC C T)
abbrev TAd := En → MH → (List D → MH → Prop) → Prop
def LfA (C : Co) (T : TAd) : TA := fun σ H Q => ∃ σd Hm Qd, Rs C σd Hm σ H ∧ T σd Hm Qd ∧ ∀ vs H' ds Hm', NT Hm H Hm' H' → Rep C.K H' Hm' → Iss C.K H' Hm' ds vs → Qd ds Hm' → Q vs H'
def DA (C : Co) (es : List Expr) (T : TAd) : Prop := PA C.X es (LfA C T)
theorem PE.weak {X : Cx} {e : Expr} {t t' : TE} (h : PE X e t) (k : ∀ σ H Q, t' σ H Q → t σ H Q) : PE X e t' := ⟨fun pins s σ H Q I q => h.run pins s σ H Q I (k σ H Q q)⟩
theorem PT.weak {X : Cx} {e : Expr} {t t' : TT} (h : PT X e t) (k : ∀ σ H Q, t' σ H Q → t σ H Q) : PT X e t' := ⟨fun pins s σ H Q I q => h.run pins s σ H Q I (k σ H Q q)⟩
theorem PA.weak {X : Cx} {e : List Expr} {t t' : TA} (h : PA X e t) (k : ∀ σ H Q, t' σ H Q → t σ H Q) : PA X e t' := ⟨fun pos pins s σ H Q I q => h.run pos pins s σ H Q I (k σ H Q q)⟩
theorem Bh.cut {K : Kz} {Hm Hm1 : MH} {H H1 : Hp} {Qd : DK} {Q : VK} (k : Bh K Hm H Qd Q) (n : NT Hm H Hm1 H1) : Bh K Hm1 H1 Qd Q := fun v H' d Hm' n' r i q => k v H' d Hm' (n.trans n') r i q
section
variable {C : Co} {a b c e : Expr} {ta tb tc te : TD} {pos : Pos}
theorem Lf.seq {C : Co} {T : TD} {σd : En} {Hm : MH} {σ : L2.St} {H : Hp} {F : D → MH → Prop} {Q : VK} (s : Rs C σd Hm σ H) (h : T σd Hm F)
    (k : ∀ v H' d Hm', NT Hm H Hm' H' → Rs C σd Hm' σ H' → Is C.K H' Hm' d v → F d Hm' → Q v H') : Lf C T σ H Q :=
  ⟨σd, Hm, F, s, h, fun v H' d Hm' n r i q => k v H' d Hm' n (s.nxt n r) i q⟩
theorem LfC.seq {C : Co} {T : TCd} {σd : En} {Hm : MH} {σ : L2.St} {H : Hp} {F : Bool → MH → Prop} {Q : Bool → Hp → Prop} (s : Rs C σd Hm σ H) (h : T σd Hm F)
    (k : ∀ b H' Hm', NT Hm H Hm' H' → Rs C σd Hm' σ H' → F b Hm' → Q b H') : LfC C T σ H Q :=
  ⟨σd, Hm, F, s, h, fun v H' Hm' n r q => k v H' Hm' n (s.nxt n r) q⟩
theorem LfA.seq {C : Co} {T : TAd} {σd : En} {Hm : MH} {σ : L2.St} {H : Hp} {F : List D → MH → Prop} {Q : List V → Hp → Prop} (s : Rs C σd Hm σ H) (h : T σd Hm F)
    (k : ∀ vs H' ds Hm', NT Hm H Hm' H' → Rs C σd Hm' σ H' → Iss C.K H' Hm' ds vs → F ds Hm' → Q vs H') : LfA C T σ H Q :=
  ⟨σd, Hm, F, s, h, fun v H' d Hm' n r i q => k v H' d Hm' n (s.nxt n r) i q⟩

theorem de_const {d : D} {v : V} (h : PE C.X e (tC v)) (hi : ∀ H Hm, Is C.K H Hm d v) : DE C e (fun _ H Q => Q d H) := PE.weak h fun σ H Q => by
  rintro ⟨σd, Hm, Qd, s, q, k⟩
  exact k.here s.rep (hi H Hm) q
theorem de_var {i : Nat} {x : Str} (hN : C.X.N[i]? = some x) (hv : Vis C.X.env.scope x) (hd : (x == ("__debug__" : Str)) = false) (hcd : (x == ("__classdict__" : Str)) = false) :
    DE C (.Name x pos) (fun σ H Q => ∃ d, σ[i]? = some (some d) ∧ Q d H) := PE.weak (pe_var hN hv hd hcd) fun σ H Q => by
  rintro ⟨σd, Hm, Qd, s, ⟨d, hd, q⟩, k⟩
  obtain ⟨v, hv, i⟩ := s.env.get _ _ hd
  exact ⟨v, hv, k.here s.rep i q⟩
theorem fgt_same {H : MH} {p : Addr} : fgt H p p = none := if_pos rfl
theorem fgt_ne {H : MH} {p a : Addr} (h : a ≠ p) : fgt H p a = H a := if_neg h
theorem fgt_sub {H : MH} {p : Addr} : Sub (fgt H p) H := fun a e => by
  by_cases h : a = p
  · rw [h]; exact fgt_same
  · rw [fgt_ne h]; exact e
theorem fgt_rep {K : Kz} {h : Hp} {H : MH} {p : Addr} (r : Rep K h H) : Rep K h (fgt H p) := by
  refine ⟨fun a o e => ?_, fun a z => ?_⟩
  · have e' : H a = some o := by
      by_cases q : a = p
      · rw [q, fgt_same] at e; cases e
      · rw [fgt_ne q] at e; exact e
    have := r.obj a o e'
    cases o with
    | lst ds => obtain ⟨vs, q, t⟩ := this; exact ⟨vs, q, Iss.sub fgt_sub _ _ t⟩
    | ins C ns ds => obtain ⟨dx, fs, q, n, t⟩ := this; exact ⟨dx, fs, q, n, Iss.sub fgt_sub _ _ t⟩
    | dk kvs => obtain ⟨us, q, n, t⟩ := this; exact ⟨us, q, n, Iss.sub fgt_sub _ _ t⟩
    | dt kvs => obtain ⟨us, q, n, t⟩ := this; exact ⟨us, q, n, Iss.sub fgt_sub _ _ t⟩
    | ldk o us kvs => obtain ⟨q, n, t⟩ := this; exact ⟨q, n, Iss.sub fgt_sub _ _ t⟩
    | ldt o us kvs => obtain ⟨q, n, t⟩ := this; exact ⟨q, n, Iss.sub fgt_sub _ _ t⟩
  · obtain ⟨o, q, m⟩ := r.hid a z
    exact ⟨o, q, fgt_sub a m⟩
/-- a variable's list, frozen -/
theorem de_frz {i : Nat} {x : Str} (hN : C.X.N[i]? = some x) (hv : Vis C.X.env.scope x) (hd : (x == ("__debug__" : Str)) = false) (hcd : (x == ("__classdict__" : Str)) = false) :
    DE C (.Name x pos) (fun σ H Q => ∃ p xs, σ[i]? = some (some (.ref p)) ∧ H p = some (.lst xs) ∧ Q (.rol xs) (fgt H p)) := PE.weak (pe_var hN hv hd hcd) fun σ H Q => by
  rintro ⟨σd, Hm, Qd, s, ⟨p, xs, e, hp, q⟩, k⟩
  obtain ⟨v, hv, iv⟩ := s.env.get _ _ e
  refine ⟨v, hv, ?_⟩
  obtain ⟨vs, z, t⟩ := s.rep.obj _ _ hp
  refine k v H (.rol xs) (fgt Hm p) (fun a o e n => ⟨e, fgt_sub a n⟩) (fgt_rep s.rep) ?_ q
  unfold Is
  refine ⟨p, vs, iv.ref, .inl ⟨.inl z, fgt_same, fun y => ?_⟩, Iss.sub fgt_sub _ _ t⟩
  obtain ⟨_, _, m⟩ := s.rep.hid p y
  rw [hp] at m
  cases m
theorem de_bin (ok : C.Ok) {o : Operator} {m : Bool} (ha : DE C a ta) (hb : DE C b tb) : DE C (.BinOp a o b pos) (fun σ H Q => ta σ H fun x H1 => tb σ H1 fun y H2 => binD m o x y H2 Q) :=
  PE.weak (pe_op (op_binD ok.x m o) ha hb) fun σ H Q => by
    rintro ⟨σd, Hm, Qd, s, q, k⟩
    refine Lf.seq s q fun x H1 dx Hm1 n1 s1 ix q => ?_
    refine Lf.seq s1 q fun y H2 dy Hm2 n2 s2 iy q => ?_
    exact ⟨C.Z, dx, dy, Hm2, Qd, s2.rep, Is.nt s1.rep n2 dx x ix, iy, q, (k.cut n1).cut n2⟩
theorem de_neg (ha : DE C a ta) : DE C (.UnaryOp .USub a pos) (fun σ H Q => ta σ H fun x H1 => ∃ i, x = .int i ∧ Q (.int (-i)) H1) :=
  PE.weak (pe_un un_neg ha) fun σ H Q => by
    rintro ⟨σd, Hm, Qd, s, q, k⟩
    refine Lf.seq s q fun x H1 dx Hm1 n1 s1 ix q => ?_
    obtain ⟨i, rfl, q⟩ := q
    exact ⟨i, ix.int, (k.cut n1).here s1.rep is_int q⟩
theorem de_not (ha : DE C a ta) : DE C (.UnaryOp .Not a pos) (fun σ H Q => ta σ H fun x H1 => ∃ c, truD H1 x = some c ∧ Q (.bl (!c)) H1) :=
  PE.weak (pe_notT ha) fun σ H Q => by
    rintro ⟨σd, Hm, Qd, s, q, k⟩
    refine Lf.seq s q fun x H1 dx Hm1 n1 s1 ix q => ?_
    obtain ⟨c, hc, q⟩ := q
    exact ⟨c, tru_of s1.rep ix hc, (k.cut n1).here s1.rep is_bl q⟩
theorem de_and {rest : List Expr} (ha : DE C a ta) (hb : DE C (.BoolOp .And (b :: rest) pos) tb) :
    DE C (.BoolOp .And (a :: b :: rest) pos) (fun σ H Q => ta σ H fun x H1 => ∃ c, truD H1 x = some c ∧ br c (tb σ H1 Q) (Q x H1)) :=
  PE.weak (pe_andT ha hb) fun σ H Q => by
    rintro ⟨σd, Hm, Qd, s, q, k⟩
    refine Lf.seq s q fun x H1 dx Hm1 n1 s1 ix q => ?_
    obtain ⟨c, hc, q⟩ := q
    refine ⟨c, tru_of s1.rep ix hc, ?_⟩
    cases c with
    | true => exact Lf.seq s1 q fun y H2 dy Hm2 n2 s2 iy q => ((k.cut n1).cut n2).here s2.rep iy q
    | false => exact (k.cut n1).here s1.rep ix q
theorem de_or {rest : List Expr} (ha : DE C a ta) (hb : DE C (.BoolOp .Or (b :: rest) pos) tb) :
    DE C (.BoolOp .Or (a :: b :: rest) pos) (fun σ H Q => ta σ H fun x H1 => ∃ c, truD H1 x = some c ∧ br c (Q x H1) (tb σ H1 Q)) :=
  PE.weak (pe_orT ha hb) fun σ H Q => by
    rintro ⟨σd, Hm, Qd, s, q, k⟩
    refine Lf.seq s q fun x H1 dx Hm1 n1 s1 ix q => ?_
    obtain ⟨c, hc, q⟩ := q
    refine ⟨c, tru_of s1.rep ix hc, ?_⟩
    cases c with
    | false => exact Lf.seq s1 q fun y H2 dy Hm2 n2 s2 iy q => ((k.cut n1).cut n2).here s2.rep iy q
    | true => exact (k.cut n1).here s1.rep ix q
theorem de_cmp (ok : C.Ok) {wt : List Key → Bool} (hw : WtOk C.X.K wt) {o : CmpOp} (ha : DE C a ta) (hb : DE C b tb) (hm : behindInMarks o b = false) :
    DE C (.Compare a [o] [b] pos) (fun σ H Q => ta σ H fun x H1 => tb σ H1 fun y H2 => cmpW wt o x y H2 fun c => Q (.bl c) H2) :=
  PE.weak (pe_cmpR (op_cmpW hw ok.x o) ha hb hm) fun σ H Q => by
    rintro ⟨σd, Hm, Qd, s, q, k⟩
    refine Lf.seq s q fun x H1 dx Hm1 n1 s1 ix q => ?_
    refine Lf.seq s1 q fun y H2 dy Hm2 n2 s2 iy q => ?_
    exact ⟨C.Z, dx, dy, Hm2, Qd, s2.rep, Is.nt s1.rep n2 dx x ix, iy, q, (k.cut n1).cut n2⟩
theorem dc_cmp (ok : C.Ok) {wt : List Key → Bool} (hw : WtOk C.X.K wt) {o : CmpOp} (ha : DE C a ta) (hb : DE C b tb) (hm : behindInMarks o b = false) :
    DC C (.Compare a [o] [b] pos) (fun σ H Q => ta σ H fun x H1 => tb σ H1 fun y H2 => cmpW wt o x y H2 fun c => Q c H2) :=
  PT.weak (pt_cmpR (op_cmpW hw ok.x o) ha hb hm) fun σ H Q => by
    rintro ⟨σd, Hm, Qd, s, q, k⟩
    refine Lf.seq s q fun x H1 dx Hm1 n1 s1 ix q => ?_
    refine Lf.seq s1 q fun y H2 dy Hm2 n2 s2 iy q => ?_
    obtain ⟨c, hc, q⟩ := cmpW_br q
    refine ⟨C.Z, dx, dy, Hm2, fun z Hz => z = .bl c ∧ Qd c Hz, s2.rep, Is.nt s1.rep n2 dx x ix, iy, cmpW_mono hc fun c' e => by subst e; exact ⟨rfl, q⟩, fun v H' d Hm' n r i z => ?_⟩
    obtain ⟨rfl, z⟩ := z
    exact ⟨c, i.bl, k c H' Hm' ((n1.trans n2).trans n) r z⟩
theorem de_ch (ok : C.Ok) {o o' : CmpOp} (ha : DE C a ta) (hb : DE C b tb) (hc : DE C c tc) (hm : lastMarks [o, o'] [b, c] = false) :
    DE C (.Compare a [o, o'] [b, c] pos) (fun σ H Q => ta σ H fun x H1 => tb σ H1 fun y H2 => ∃ c1, cmpD o x y H2 = some c1 ∧
      br c1 (tc σ H2 fun z H3 => ∃ c2, cmpD o' y z H3 = some c2 ∧ Q (.bl c2) H3) (Q (.bl false) H2)) :=
  PE.weak (pe_chain (op_cmpD ok.x o) (op_cmpD ok.x o') ha hb hc hm) fun σ H Q => by
    rintro ⟨σd, Hm, Qd, s, q, k⟩
    refine Lf.seq s q fun x H1 dx Hm1 n1 s1 ix q => ?_
    refine Lf.seq s1 q fun y H2 dy Hm2 n2 s2 iy q => ?_
    obtain ⟨c1, hc1, q⟩ := q
    refine ⟨C.Z, dx, dy, Hm2, fun z Hz => z = .bl c1 ∧ Hz = Hm2, s2.rep, Is.nt s1.rep n2 dx x ix, iy, ⟨c1, hc1, rfl, rfl⟩, fun v H3 d Hm3 n3 r3 i z => ?_⟩
    obtain ⟨rfl, rfl⟩ := z
    have s3 := s2.nxt n3 r3
    refine ⟨c1, i.bl, ?_⟩
    cases c1 with
    | false => exact (((k.cut n1).cut n2).cut n3).here s3.rep is_bl q
    | true =>
      refine Lf.seq s3 q fun z H4 dz Hm4 n4 s4 iz q => ?_
      exact ⟨C.Z, dy, dz, Hm4, Qd, s4.rep, Is.nt s3.rep n4 dy y (Is.nt s2.rep n3 dy y iy), iz, q, ((k.cut n1).cut n2).cut (n3.trans n4)⟩
theorem dc_ch (ok : C.Ok) {o o' : CmpOp} (ha : DE C a ta) (hb : DE C b tb) (hc : DE C c tc) (hm : lastMarks [o, o'] [b, c] = false) :
    DC C (.Compare a [o, o'] [b, c] pos) (fun σ H Q => ta σ H fun x H1 => tb σ H1 fun y H2 => ∃ c1, cmpD o x y H2 = some c1 ∧
      br c1 (tc σ H2 fun z H3 => ∃ c2, cmpD o' y z H3 = some c2 ∧ Q c2 H3) (Q false H2)) :=
  PT.weak (pt_chain (op_cmpD ok.x o) (op_cmpD ok.x o') ha hb hc hm) fun σ H Q => by
    rintro ⟨σd, Hm, Qd, s, q, k⟩
    refine Lf.seq s q fun x H1 dx Hm1 n1 s1 ix q => ?_
    refine Lf.seq s1 q fun y H2 dy Hm2 n2 s2 iy q => ?_
    obtain ⟨c1, hc1, q⟩ := q
    refine ⟨C.Z, dx, dy, Hm2, fun z Hz => z = .bl c1 ∧ Hz = Hm2, s2.rep, Is.nt s1.rep n2 dx x ix, iy, ⟨c1, hc1, rfl, rfl⟩, fun v H3 d Hm3 n3 r3 i z => ?_⟩
    obtain ⟨rfl, rfl⟩ := z
    have s3 := s2.nxt n3 r3
    refine ⟨c1, i.bl, ?_⟩
    cases c1 with
    | false => exact ⟨false, rfl, k false H3 _ ((n1.trans n2).trans n3) r3 q⟩
    | true =>
      refine Lf.seq s3 q fun z H4 dz Hm4 n4 s4 iz q => ?_
      obtain ⟨c2, hc2, q⟩ := q
      refine ⟨C.Z, dy, dz, Hm4, fun z Hz => z = .bl c2 ∧ Qd c2 Hz, s4.rep, Is.nt s3.rep n4 dy y (Is.nt s2.rep n3 dy y iy), iz, ⟨c2, hc2, rfl, q⟩, fun v H' d Hm' n r i z => ?_⟩
      obtain ⟨rfl, z⟩ := z
      exact ⟨c2, i.bl, k c2 H' Hm' (((n1.trans n2).trans (n3.trans n4)).trans n) r z⟩
theorem de_ite {t : Expr} {tt : TCd} (ht : DC C t tt) (ha : DE C a ta) (hb : DE C b tb) : DE C (.IfExp t a b pos) (fun σ H Q => tt σ H fun c H1 => br c (ta σ H1 Q) (tb σ H1 Q)) :=
  PE.weak (pe_ifExp ht ha hb) fun σ H Q => by
    rintro ⟨σd, Hm, Qd, s, q, k⟩
    refine LfC.seq s q fun c H1 Hm1 n1 s1 q => ?_
    cases c with
    | true => exact Lf.seq s1 q fun y H2 dy Hm2 n2 s2 iy q => ((k.cut n1).cut n2).here s2.rep iy q
    | false => exact Lf.seq s1 q fun y H2 dy Hm2 n2 s2 iy q => ((k.cut n1).cut n2).here s2.rep iy q
theorem dc_val (ha : DE C a ta) (he : ∀ whole, isTrue a C.X.env whole = (do let v ← whole; standAt a.pos; holding [v] (truthy v))) :
    DC C a (fun σ H Q => ta σ H fun x H1 => ∃ c, truD H1 x = some c ∧ Q c H1) :=
  PT.weak (pt_truth ha he) fun σ H Q => by
    rintro ⟨σd, Hm, Qd, s, q, k⟩
    refine Lf.seq s q fun x H1 dx Hm1 n1 s1 ix q => ?_
    obtain ⟨c, hc, q⟩ := q
    exact ⟨c, tru_of s1.rep ix hc, k c H1 Hm1 n1 s1.rep q⟩
theorem dc_not {t : TCd} (ha : DC C a t) : DC C (.UnaryOp .Not a pos) (fun σ H Q => t σ H fun b H1 => Q (!b) H1) :=
  PT.weak (pt_not ha) fun σ H Q => by
    rintro ⟨σd, Hm, Qd, s, q, k⟩
    exact LfC.seq s q fun c H1 Hm1 n1 s1 q => k (!c) H1 Hm1 n1 s1.rep q
/-- tests whatever the whole is -/
def DW (C : Co) (e : Expr) (T : TCd) : Prop := PW C.X e (LfC C T)
theorem PW.weak {X : Cx} {e : Expr} {t t' : TT} (h : PW X e t) (k : ∀ σ H Q, t' σ H Q → t σ H Q) : PW X e t' := ⟨fun wh pins s σ H Q I q => h.run wh pins s σ H Q I (k σ H Q q)⟩
theorem dw_and1 {t : TCd} (ha : DC C a t) : DW C (.BoolOp .And [a] pos) t := pw_and1 ha
theorem dw_or1 {t : TCd} (ha : DC C a t) : DW C (.BoolOp .Or [a] pos) t := pw_or1 ha
theorem dw_and {t u : TCd} {rest : List Expr} (ha : DC C a t) (hb : DW C (.BoolOp .And (b :: rest) pos) u) :
    DW C (.BoolOp .And (a :: b :: rest) pos) (fun σ H Q => t σ H fun c H1 => br c (u σ H1 Q) (Q false H1)) :=
  PW.weak (pw_and ha hb) fun σ H Q => by
    rintro ⟨σd, Hm, Qd, s, q, k⟩
    refine LfC.seq s q fun c H1 Hm1 n1 s1 q => ?_
    cases c with
    | true => exact LfC.seq s1 q fun y H2 Hm2 n2 s2 q => k y H2 Hm2 (n1.trans n2) s2.rep q
    | false => exact k false H1 Hm1 n1 s1.rep q
theorem dw_or {t u : TCd} {rest : List Expr} (ha : DC C a t) (hb : DW C (.BoolOp .Or (b :: rest) pos) u) :
    DW C (.BoolOp .Or (a :: b :: rest) pos) (fun σ H Q => t σ H fun c H1 => br c (Q true H1) (u σ H1 Q)) :=
  PW.weak (pw_or ha hb) fun σ H Q => by
    rintro ⟨σd, Hm, Qd, s, q, k⟩
    refine LfC.seq s q fun c H1 Hm1 n1 s1 q => ?_
    cases c with
    | false => exact LfC.seq s1 q fun y H2 Hm2 n2 s2 q => k y H2 Hm2 (n1.trans n2) s2.rep q
    | true => exact k true H1 Hm1 n1 s1.rep q
/-! ### arguments, displays, subscripts -/
theorem da_nil : DA C [] (fun _ H Q => Q [] H) := PA.weak pa_nil fun σ H Q => by
  rintro ⟨σd, Hm, Qd, s, q, k⟩
  exact k [] H [] Hm .refl s.rep .nil q
theorem da_cons {es : List Expr} {t : TAd} (ha : DE C e te) (hr : DA C es t) (hs : starEach (e :: es) C.X.env = (false, eval e C.X.env) :: starEach es C.X.env) :
    DA C (e :: es) (fun σ H Q => te σ H fun x H1 => t σ H1 fun xs H2 => Q (x :: xs) H2) := PA.weak (pa_cons ha hr hs) fun σ H Q => by
  rintro ⟨σd, Hm, Qd, s, q, k⟩
  refine Lf.seq s q fun x H1 dx Hm1 n1 s1 ix q => ?_
  refine LfA.seq s1 q fun vs H2 ds Hm2 n2 s2 is q => ?_
  exact k (x :: vs) H2 (dx :: ds) Hm2 (n1.trans n2) s2.rep (.cons (Is.nt s1.rep n2 dx x ix) is) q
theorem de_tup {es : List Expr} {t : TAd} {x1} (h : DA C es t) : DE C (.Tuple es x1 pos) (fun σ H Q => t σ H fun ds H1 => ds.length ≤ sizeLine ∧ Q (.tup ds) H1) :=
  PE.weak (pe_tup h) fun σ H Q => by
    rintro ⟨σd, Hm, Qd, s, q, k⟩
    refine LfA.seq s q fun vs H1 ds Hm1 n1 s1 is q => ?_
    exact ⟨by rw [is.length]; exact q.1, (k.cut n1).tup s1.rep is q.2⟩
theorem de_lst {es : List Expr} {t : TAd} {m : Bool} (h : DA C es t) : DE C (.List es pos) (fun σ H Q => t σ H fun ds H1 => freshL m ds H1 Q) :=
  PE.weak (pe_lst h) fun σ H Q => by
    rintro ⟨σd, Hm, Qd, s, q, k⟩
    refine LfA.seq s q fun vs H1 ds Hm1 n1 s1 is q => ?_
    exact ⟨by rw [is.length]; exact q.1, (k.cut n1).lst s1.rep is q⟩
theorem atI_of {K : Kz} {H : Hp} {Hm : MH} {ds : List D} {vs : List V} {i : Int} {d : D} (t : Iss K H Hm ds vs) (h : atI ds i = some d) : ∃ v, atI vs i = some v ∧ Is K H Hm d v := by
  unfold atI at h ⊢
  rw [t.length]
  cases e : ixN ds.length i with
  | none => rw [e] at h; cases h
  | some j =>
    rw [e] at h
    exact t.get h
theorem ix_okD {X : Cx} (hu : X.A.units + 1 < cLine) : IxR X (fun x y H Q => ∃ Z dx dy Hm Qd, Rep ⟨X.K, Z⟩ H Hm ∧ Is ⟨X.K, Z⟩ H Hm dx x ∧ Is ⟨X.K, Z⟩ H Hm dy y ∧ (∃ d, ixD dx dy Hm = some d ∧ Qd d Hm) ∧ Bh ⟨X.K, Z⟩ Hm H Qd Q) := by
  intro value slice pins s σ H x y v u Q I rx ry h hs
  obtain ⟨Z, dx, dy, Hm, Qd, rep, ix, iy, ⟨d, hd, q⟩, k⟩ := h
  unfold ixD at hd
  split at hd
  · split at hd
    · split at hd
      · rename_i i _ z hz
        cases e : atI z.cps.toList i with
        | none => rw [e] at hd; cases hd
        | some c =>
          rw [e] at hd; cases hd
          exact ix_seq value slice pins s σ H x y v u Q I rx ry (.inr (.inr ⟨_, _, c, ix.str, iy.int, hz, e, k.here rep is_str q⟩)) hs
      · cases hd
    · rename_i i _ _
      cases e : seqAt Hm dx with
      | none =>
        rw [e] at hd
        replace hd : (dkAt Hm dx).bind (fun kvs => valD kvs (.inl i)) = some d := hd
        cases e : dkAt Hm dx with
        | none => rw [e] at hd; cases hd
        | some kvs =>
          rw [e] at hd
          unfold dkAt at e
          split at e
          · rename_i a
            · obtain ⟨us, e3, t⟩ := dkr_rep rep e
              replace hd : valD kvs (Sum.inl i) = some d := hd
              obtain ⟨w, hw, iw⟩ := t.get hd
              refine ix_dict hu value slice pins s σ H x y v u Q I rx ry ⟨_, w, ix.ref, ?_, k.here rep iw q⟩ hs
              rw [← hw, iy.int]
              exact DGet.kR (k := Sum.inl i) e3
          · cases e
      | some xs =>
        rw [e] at hd
        replace hd : atI xs i = some d := hd
        obtain ⟨a, vs, rfl, sq, t⟩ := seq_of rep ix e
        obtain ⟨w, hw, iw⟩ := atI_of t hd
        have fin := k.here rep iw q
        rcases sq with sq | sq
        · exact ix_seq value slice pins s σ H _ y v u Q I rx ry (.inl ⟨a, vs, _, w, rfl, iy.int, sq, hw, fin⟩) hs
        · exact ix_seq value slice pins s σ H _ y v u Q I rx ry (.inr (.inl ⟨a, vs, _, w, rfl, iy.int, sq, hw, fin⟩)) hs
  · rename_i z
    cases e : dkAt Hm dx with
    | none => rw [e] at hd; cases hd
    | some kvs =>
      rw [e] at hd
      unfold dkAt at e
      split at e
      · rename_i a
        · obtain ⟨us, e3, t⟩ := dkr_rep rep e
          have hd : valD kvs (Sum.inr z) = some d := hd
          obtain ⟨w, hw, iw⟩ := t.get hd
          refine ix_dict hu value slice pins s σ H x y v u Q I rx ry ⟨a, w, ix.ref, ?_, k.here rep iw q⟩ hs
          rw [← hw, iy.str]
          exact DGet.kR (k := Sum.inr z) e3
      · cases e
  · cases hd
theorem ix_okW {X : Cx} {wt : List Key → Bool} (hw : WtOk X.K wt) (hu : X.A.units + 1 < cLine) : IxR X (fun x y H Q => ∃ Z dx dy Hm Qd, Rep ⟨X.K, Z⟩ H Hm ∧ Is ⟨X.K, Z⟩ H Hm dx x ∧ Is ⟨X.K, Z⟩ H Hm dy y ∧ ixW wt dx dy Hm Qd ∧ Bh ⟨X.K, Z⟩ Hm H Qd Q) := by
  intro value slice pins s σ H x y v u Q I rx ry h hs
  obtain ⟨Z, dx, dy, Hm, Qd, rep, ix, iy, q, k⟩ := h
  unfold ixW at q
  split at q
  · obtain ⟨p, kvs, ks, d, rfl, hp, hk, h0, hv, q⟩ := q
    obtain ⟨b, rfl, hb⟩ := key_tup (K := ⟨X.K, Z⟩) hw iy hk h0
    obtain ⟨us, e, t⟩ := dtr_rep rep hp
    obtain ⟨w, hv, iw⟩ := t.get hv
    exact ix_dict hu value slice pins s σ H x _ v u Q I rx ry ⟨p, w, ix.ref, by rw [← hv]; exact DGet.tR e hb, k.here rep iw q⟩ hs
  · exact ix_okD hu value slice pins s σ H x y v u Q I rx ry ⟨Z, dx, _, Hm, Qd, rep, ix, iy, q, k⟩ hs
theorem de_ix (ok : C.Ok) {wt : List Key → Bool} (hw : WtOk C.X.K wt) (ha : DE C a ta) (hb : DE C b tb) (hs : PlainIx b) : DE C (.Subscript a b pos) (fun σ H Q => ta σ H fun x H1 => tb σ H1 fun y H2 => ixW wt x y H2 Q) :=
  PE.weak (pe_ix (ix_okW hw ok.units) ha hb hs) fun σ H Q => by
    rintro ⟨σd, Hm, Qd, s, q, k⟩
    refine Lf.seq s q fun x H1 dx Hm1 n1 s1 ix q => ?_
    refine Lf.seq s1 q fun y H2 dy Hm2 n2 s2 iy q => ?_
    exact ⟨C.Z, dx, dy, Hm2, Qd, s2.rep, Is.nt s1.rep n2 dx x ix, iy, q, (k.cut n1).cut n2⟩
/-- d[k] = v, k a plain key or a tuple -/
theorem set_dW {X : Cx} {wt : List Key → Bool} (hw : WtOk X.K wt) (hu : X.A.units + 1 < cLine) : PSet X fun o i v H Q => ∃ (Z : Addr → Prop) (dx dy dv : D) (Hm : MH) (Qd : MH → Prop), Rep ⟨X.K, Z⟩ H Hm ∧ Is ⟨X.K, Z⟩ H Hm dx o ∧ Is ⟨X.K, Z⟩ H Hm dy i ∧ Is ⟨X.K, Z⟩ H Hm dv v ∧
    putW wt dx dy dv Hm Qd ∧ ∀ H' Hm', NT Hm H Hm' H' → Rep ⟨X.K, Z⟩ H' Hm' → Qd Hm' → Q H' := by
  intro pins s σ H o i v ov iv u Q I ro ri rv h
  obtain ⟨Z, dx, dy, dv, Hm, Qd, rep, ix, iy, id, q, kk⟩ := h
  unfold putW at q
  split at q
  · obtain ⟨p, kvs, ks, rfl, hk, h0, hp, hl, q⟩ := q
    obtain ⟨b, rfl, hb⟩ := key_tup (K := ⟨X.K, Z⟩) hw iy hk h0
    obtain ⟨b2, vs2, e2, _, t2⟩ := iy.tupU
    have e3 := keys_of t2 hk
    subst e3
    cases e2
    exact set_dtD hu pins s σ H o _ v ov iv u Q I ro ri rv ⟨Z, _, dv, _, _, b, Hm, Qd, rep, ix, rfl, hb, t2, id, ⟨p, kvs, ks, rfl, hk, hp, hl, q⟩, kk⟩
  · exact set_dkD hu pins s σ H o i v ov iv u Q I ro ri rv ⟨Z, dx, _, dv, Hm, Qd, rep, ix, iy, id, q, kk⟩
theorem de_dnewK : DE C (.Dict [] [] pos) (fun _ H Q => ∀ p, H p = none → Q (.ref p) (updM H p (.dk []))) := PE.weak pe_dnewK fun σ H Q => by
  rintro ⟨σd, Hm, Qd, s, q, k⟩
  exact k.dnew s.rep (.inl ⟨rfl, rfl⟩) q
theorem de_dnewT : DE C (.Dict [] [] pos) (fun _ H Q => ∀ p, H p = none → Q (.ref p) (updM H p (.dt []))) := PE.weak pe_dnewT fun σ H Q => by
  rintro ⟨σd, Hm, Qd, s, q, k⟩
  exact k.dnew s.rep (.inr ⟨rfl, rfl⟩) q
theorem plainIx_tup {es : List Expr} {n : Nat} {p : Pos} : PlainIx (.Tuple es n p) := fun _ _ => rfl
/-- d[(k, ..)] -/
theorem de_dixT (ok : C.Ok) {es : List Expr} {x1} {p2 : Pos} {t : TAd} (ha : DE C a ta) (h : DA C es t) :
    DE C (.Subscript a (.Tuple es x1 p2) pos) (fun σ H Q => ta σ H fun x H1 => t σ H1 fun ds H2 => ds.length ≤ sizeLine ∧ ∃ p kvs ks d, x = .ref p ∧ dtRd H2 p = some kvs ∧ keysD ds = some ks ∧ valD kvs ks = some d ∧ Q d H2) :=
  PE.weak (pe_ix (ix_dict ok.units) ha (pe_tup h) plainIx_tup) fun σ H Q => by
    rintro ⟨σd, Hm, Qd, s, q, k⟩
    refine Lf.seq s q fun x H1 dx Hm1 n1 s1 ix q => ?_
    refine LfA.seq s1 q fun vs H2 ds Hm2 n2 s2 is q => ?_
    obtain ⟨hl, p, kvs, ks, d, rfl, hp, hk, hd, q⟩ := q
    refine ⟨by rw [is.length]; exact hl, fun b hb => ?_⟩
    have ex := ix.ref
    subst ex
    obtain ⟨us, e, t⟩ := dtr_rep s2.rep hp
    obtain ⟨w, hw, iw⟩ := t.get hd
    have n3 : NT Hm2 H2 Hm2 (upd H2 b (.tup vs)) := ext_nt hb
    refine ⟨p, w, rfl, ?_, ((k.cut n1).cut n2) _ _ d Hm2 n3 (s2.rep.ext hb) (Is.nt s2.rep n3 d w iw) q⟩
    rw [← hw]
    refine DGet.tR ?_ ?_
    · rcases e with e | ⟨o, e⟩
      · exact .inl (by rw [upd_ne (ne_of_none e hb)]; exact e)
      · exact .inr ⟨o, by rw [upd_ne (ne_of_none e hb)]; exact e⟩
    · rw [upd_same, keys_of is hk]
theorem cut_of {K : Kz} {H : Hp} {Hm : MH} {ds : List D} {vs : List V} (lo hi : Option Int) (t : Iss K H Hm ds vs) : Iss K H Hm (cutD ds lo hi) (cutV vs lo hi) := by
  unfold cutD cutV
  rw [t.length]
  exact (t.drop _).take _
abbrev TOd := En → MH → (Option Int → MH → Prop) → Prop
def LfO (C : Co) (T : TOd) : TO := fun σ H Q => ∃ σd Hm Qd, Rs C σd Hm σ H ∧ T σd Hm Qd ∧ ∀ o H' Hm', NT Hm H Hm' H' → Rep C.K H' Hm' → Qd o Hm' → Q o H'
def DO (C : Co) (e : Option Expr) (T : TOd) : Prop := PO C.X e (LfO C T)
theorem PO.weak {X : Cx} {e : Option Expr} {t t' : TO} (h : PO X e t) (k : ∀ σ H Q, t' σ H Q → t σ H Q) : PO X e t' := ⟨fun pins s σ H Q I q => h.run pins s σ H Q I (k σ H Q q)⟩
theorem do_none : DO C none (fun _ H Q => Q none H) := PO.weak po_none fun σ H Q => by
  rintro ⟨σd, Hm, Qd, s, q, k⟩
  exact k none H Hm .refl s.rep q
theorem do_some (h : DE C e te) : DO C (some e) (fun σ H Q => te σ H fun x H1 => ∃ i, x = .int i ∧ Q (some i) H1) := PO.weak (po_some h) fun σ H Q => by
  rintro ⟨σd, Hm, Qd, s, q, k⟩
  refine Lf.seq s q fun x H1 dx Hm1 n1 s1 ix q => ?_
  obtain ⟨i, rfl, q⟩ := q
  exact ⟨i, ix.int, k (some i) H1 Hm1 n1 s1.rep q⟩
theorem sl_okD {X : Cx} {m : Bool} : SlR X (fun x lo hi H Q => ∃ Z dx Hm Qd, Rep ⟨X.K, Z⟩ H Hm ∧ Is ⟨X.K, Z⟩ H Hm dx x ∧ slD m dx lo hi Hm Qd ∧ Bh ⟨X.K, Z⟩ Hm H Qd Q) := by
  intro pins s σ H x v vl vu lo hi sl Q I rx hsl pl pu h
  obtain ⟨Z, dx, Hm, Qd, rep, ix, hr, k⟩ := h
  unfold slD at hr
  split at hr
  · obtain ⟨a, vs, e, sq, t⟩ := ix.tupU
    refine sl_tupA pins s σ H x v vl vu lo hi sl Q I rx hsl pl pu ⟨a, vs, e, sq.sq, fun z => ?_, fun _ => k.tup rep (cut_of lo hi t) hr⟩
    refine k.here rep (d := .tup _) ?_ hr
    unfold Is
    refine ⟨a, vs, rfl, sq, ?_⟩
    have e2 : cutV vs lo hi = vs := by
      unfold cutV
      rw [z.1, z.2, List.drop_zero, Nat.sub_zero, List.take_length]
    have := cut_of lo hi t
    rw [e2] at this
    exact this
  · exact sl_str pins s σ H x v vl vu lo hi sl Q I rx hsl pl pu ⟨_, ix.str, hr.1, k.here rep is_str hr.2⟩
  · obtain ⟨xs, e1, q⟩ := hr
    obtain ⟨a, vs, z1, s1, t1⟩ := lst_of rep ix e1
    exact sl_list pins s σ H x v vl vu lo hi sl Q I rx hsl pl pu ⟨a, vs, z1, s1, k.lst rep (cut_of lo hi t1) q⟩
theorem de_sl {m : Bool} {lo hi : Option Expr} {tl th : TOd} {p2 : Pos} (ha : DE C a ta) (hl : DO C lo tl) (hh : DO C hi th) :
    DE C (.Subscript a (.Slice lo hi none p2) pos) (fun σ H Q => ta σ H fun x H1 => tl σ H1 fun l H2 => th σ H2 fun h H3 => slD m x l h H3 Q) :=
  PE.weak (pe_slice (sl_okD (m := m)) ha hl hh) fun σ H Q => by
    rintro ⟨σd, Hm, Qd, s, q, k⟩
    refine Lf.seq s q fun x H1 dx Hm1 n1 s1 ix q => ?_
    refine ⟨σd, Hm1, _, s1, q, fun l H2 Hm2 n2 r2 q => ?_⟩
    have s2 := s1.nxt n2 r2
    refine ⟨σd, Hm2, _, s2, q, fun h H3 Hm3 n3 r3 q => ?_⟩
    exact ⟨C.Z, dx, Hm3, Qd, r3, Is.nt r2 n3 dx x (Is.nt s1.rep n2 dx x ix), q, (k.cut n1).cut (n2.trans n3)⟩
end
end DL

set_option maxHeartbeats 1000000
/-! sorted of tuples of ints, all of one length, any number of them -/
namespace DL
open PySem PySem.Spec PyProof.Rows L2

theorem lexK {prog : Program} {w : World} {A : Around} {s : Shared} {Q : Bool → Shared → Prop} {b : Bool} {xs ys : List Value} {ns ms : List Int} (i : Nat) (hx : IntsAre xs ns) (hy : IntsAre ys ms) (hl : ns.length = ms.length)
    (h : Q (HT.lexLt ns ms) s) : PySem.W.KatLex prog w A b false Q (xs.zip ys) i s := by
  induction hx generalizing ys ms i with
  | nil =>
    cases hy with
    | nil => exact PySem.W.kat_nil h
    | cons q u hy => simp at hl
  | @cons p t xs ns hx ih =>
    cases hy with
    | nil => simp at hl
    | @cons q u ys ms hy =>
      have hl' : ns.length = ms.length := by simpa using hl
      show PySem.W.KatLex prog w A b false Q ((Value.int p t, Value.int q u) :: xs.zip ys) i s
      refine PySem.W.kat_cons (wpAny_eqBool_int ?_)
      rw [HT.lexLt_cons] at h
      by_cases e : p = q
      · subst e
        rw [beq_self_eq_true]
        rw [if_pos rfl] at h
        exact PySem.W.kat_yes (ih (i + 1) hy hl' h)
      · rw [show (p == q) = false from beq_eq_false_iff_ne.mpr e]
        rw [if_neg e] at h
        exact PySem.W.kat_no (TS.oneLt_ints _ h)
theorem tup_cmp {prog : Program} {w : World} {A : Around} {s : Shared} {vs : List Value} {k : Value → List Int} {d : Nat} (hp : ∀ v ∈ vs, TS.TupInts s.heap v (k v) ∧ (k v).length = d) :
    SrtO.Cmp prog w A s (tuples' true) (fun p => p.1 ∈ vs) (SrtO.lt2 fun v u => HT.lexLt (k v) (k u)) := by
  intro p q hm hm'
  obtain ⟨h1, l1⟩ := hp _ hm
  obtain ⟨h2, l2⟩ := hp _ hm'
  show wpAny (model prog w) A (keyLt' (tuples' true) p.1 q.1) (fun r s' => s' = s ∧ r = HT.lexLt (k p.1) (k q.1)) (fun _ _ => False) s
  generalize k p.1 = ns at h1 l1 ⊢
  generalize k q.1 = ms at h2 l2 ⊢
  obtain ⟨a, xs, e, ⟨o, ho, hc, n, hd⟩, i⟩ := h1
  obtain ⟨a', xs', e', ⟨o', ho', hc', n', hd'⟩, i'⟩ := h2
  rw [e, e']
  refine PySem.W.kat_lt ho hd ho' hd' ?_
  have z1 := i.length
  have z2 := i'.length
  have e0 : decide (xs.size < xs'.size) = false := decide_eq_false (by simp only [Array.length_toList] at z1 z2; omega)
  rw [e0]
  exact lexK 0 i i' (by omega) ⟨rfl, rfl⟩
theorem tups_firsts {h : Heap} {k : Value → List Int} {d : Nat} (hd : 1 ≤ d) : ∀ vs : List Value, (∀ v ∈ vs, TS.TupInts h v (k v) ∧ (k v).length = d) → ∃ fs, PySem.W.KatTups h vs fs ∧ fs.length = vs.length ∧ ∀ f, f ∈ fs → ∃ n t, f = Value.int n t
  | [], _ => ⟨[], PySem.W.KatTups.nil, rfl, fun f hf => by simp at hf⟩
  | v :: vs, x => by
    obtain ⟨fs, kk, hl, hi⟩ := tups_firsts hd vs fun u hu => x u (List.mem_cons_of_mem _ hu)
    obtain ⟨⟨a, xs, rfl, ⟨o, ho, hc, n, hdt⟩, i⟩, hn⟩ := x v (List.mem_cons_self ..)
    obtain ⟨y, ys, e⟩ : ∃ y ys, xs.toList = y :: ys := by
      cases q : xs.toList with
      | nil =>
        rw [q] at i
        have l := i.length
        rw [List.length_nil, hn] at l
        omega
      | cons y ys => exact ⟨y, ys, rfl⟩
    obtain ⟨m, t, hy⟩ := i.all y (by rw [e]; exact List.mem_cons_self ..)
    refine ⟨y :: fs, PySem.W.KatTups.cons ho hc hdt ?_ kk, by simp [hl], ?_⟩
    · have z := congrArg (fun l : List Value => l[0]?) e
      simpa using z
    · intro f hf
      rcases List.mem_cons.mp hf with rfl | hf
      · exact ⟨m, t, hy⟩
      · exact hi f hf
theorem tup_sortable {prog : Program} {w : World} {A : Around} {s : Shared} {a : Addr} {vs : List Value} {k : Value → List Int} {d : Nat} (hd : 1 ≤ d) (h0 : 0 < vs.length) (hp : ∀ v ∈ vs, TS.TupInts s.heap v (k v) ∧ (k v).length = d) (ha : ∀ o, s.heap.get? a = some o → o.cls ≠ .type "tuple") :
    SrtO.SortableO prog w A s a vs fun v u => HT.lexLt (k v) (k u) := by
  intro h' keep
  have hp' : ∀ v ∈ vs, TS.TupInts h' v (k v) ∧ (k v).length = d := fun v hm => ⟨(hp v hm).1.keeps fun b o e c => keep b o (fun z => by subst z; exact ha o e c) e, (hp v hm).2⟩
  obtain ⟨fs, h1, h2, h3⟩ := tups_firsts hd vs hp'
  refine ⟨tuples' true, fun Q E hq => ?_, tup_cmp hp'⟩
  refine PySem.W.kat_kind (T := .type "int") h1 (by omega) (fun f hm => ?_) (by rfl) ?_
  · obtain ⟨x, t, rfl⟩ := h3 f hm
    exact PySem.W.Looks.now
  · have e : (Value.type "int" != Value.type "tuple") = true := by first | decide +kernel | rfl | decide
    rw [e]
    exact hq
theorem sorted_tups {prog : Program} {w : World} {A : Around} {E : Value → Shared → Prop} {s : Shared} {l : Addr} {vs : List Value} {k : Value → List Int} {d : Nat} {Q : Value → Shared → Prop} (hd : 1 ≤ d) (hl : s.heap.IsList l vs.toArray) (hz : vs.length ≤ sizeLine) (hp : ∀ v ∈ vs, TS.TupInts s.heap v (k v) ∧ (k v).length = d)
    (h : ∀ (h' : Heap) (d : Addr) (out : List Value), SrtO.Srtd (fun v u => HT.lexLt (k v) (k u)) out → SrtO.Stb (fun v u => HT.lexLt (k v) (k u)) out vs → (∀ b o, s.heap.get? b = some o → h'.get? b = some o) → s.heap.objs.size ≤ d → (∃ n, h'.get? d = some (seqObj "list" out.toArray n)) → Q (.ref d) { s with heap := h' }) :
    wpAny (model prog w) A (call (.builtin "sorted") [.ref l]) Q E s := by
  refine SrtO.sorted_ord (NtL.swo_lexL k) hl hz (fun h2 h₁ a ha kk => ?_) fun out hs hb => ?_
  · refine tup_sortable (s := { s with heap := h₁ }) hd (by omega) (fun v hm => ⟨(hp v hm).1.keeps fun b o e _ => (kk b o e).2, (hp v hm).2⟩) fun o e => ?_
    have e' : some o = some (seqObj "list" vs.toArray 0) := e.symm.trans ha
    cases e'
    intro c
    exact absurd (Value.type.inj c) (by decide)
  · exact h _ _ out hs hb (fun b o e => sortedAll_old e) (Nat.le_succ _) (sortedAll_at s.heap vs out.toArray)

theorem vals_intsAre : ∀ {ns : List Int} {us : List Value}, Vals (ns.map V.int) us → IntsAre us ns
  | [], us, r => by
    rw [List.map_nil] at r
    cases r
    exact .nil
  | n :: ns, us, r => by
    rw [List.map_cons] at r
    cases r with
    | cons h t =>
      obtain ⟨k, rfl⟩ := h
      exact .cons _ _ (vals_intsAre t)
theorem intsD_eq : ∀ {ds : List D} {ns : List Int}, intsD ds = some ns → ds = ns.map D.int
  | [], ns, e => by unfold intsD at e; cases e; rfl
  | d :: ds, ns, e => by
    unfold intsD at e
    split at e
    · rename_i h; cases h
    · rename_i i r h
      cases h
      obtain ⟨ms, hm, rfl⟩ := Option.map_eq_some_iff.1 e
      rw [intsD_eq hm]; rfl
    · cases e
section
variable {X : Cx} {pins : List (Addr × Obj)} {σ : L2.St} {H : Hp} {s : Shared} {Z : Addr → Prop} {Hm : MH}
theorem tups_all (I : Inv X pins σ H s) : ∀ {ds : List D} {vs : List V} {ts : List (List Int)} {us : List Value}, Iss ⟨X.K, Z⟩ H Hm ds vs → tupsI ds = some ts → Vals vs us →
    ts = us.map (TS.intsOf s.heap) ∧ vs = us.map backV ∧ ∀ u ∈ us, (∃ a, u = Value.ref a) ∧ TS.TupInts s.heap u (TS.intsOf s.heap u) ∧ Is ⟨X.K, Z⟩ H Hm (.tup ((TS.intsOf s.heap u).map D.int)) (backV u)
  | [], vs, ts, us, h, e, r => by
    unfold tupsI at e
    cases e
    have := h.nil_of
    subst this
    cases r
    exact ⟨rfl, rfl, fun u hu => by simp at hu⟩
  | d :: ds, vs, ts, us, h, e, r => by
    obtain ⟨v, vr, rfl, i, t⟩ := h.cons_of
    unfold tupsI at e
    split at e
    · rename_i h; cases h
    · rename_i t0 r0 h
      cases h
      obtain ⟨x, hx, e⟩ := Option.bind_eq_some_iff.1 e
      obtain ⟨tr, ht, rfl⟩ := Option.map_eq_some_iff.1 e
      cases r with
      | cons ru rr =>
        obtain ⟨h1, h2, h3⟩ := tups_all I t ht rr
        have ex := intsD_eq hx
        subst ex
        have i0 := i
        obtain ⟨a, ws, rfl, sq, tw⟩ := i.tup
        have ew := tw.ints
        subst ew
        rename_i u us'
        obtain rfl : u = Value.ref a := ru
        obtain ⟨its, rv, ip, _⟩ := I.tuple sq
        have ti : TS.TupInts s.heap (.ref a) x := ⟨a, its.toArray, rfl, ip, by simpa using vals_intsAre rv⟩
        have ei := ti.ints
        refine ⟨by rw [List.map_cons, ei, ← h1], by rw [List.map_cons, ← h2]; rfl, fun u hu => ?_⟩
        rcases List.mem_cons.mp hu with rfl | hu
        · rw [ei]
          exact ⟨⟨a, rfl⟩, ti, i0⟩
        · exact h3 u hu
    · cases e
theorem iss_back {K : Kz} {g : Value → List Int} : ∀ {out : List Value}, (∀ u ∈ out, Is K H Hm (.tup ((g u).map D.int)) (backV u)) → Iss K H Hm ((out.map g).map fun t => D.tup (t.map .int)) (out.map backV)
  | [], _ => .nil
  | u :: r, h => .cons (h u List.mem_cons_self) (iss_back fun v hv => h v (List.mem_cons_of_mem _ hv))
/-- sorted of a list of such tuples -/
theorem cr_sortedT {m : Bool} : CallR X (.builtin "sorted") (fun vs H Q => ∃ (Z : Addr → Prop) (Hm : MH) (Qd : DK) (a : Addr) (ds : List D) (ws : List V) (ts : List (List Int)) (n : Nat), Rep ⟨X.K, Z⟩ H Hm ∧ vs = [V.ref a] ∧ SqL X.K H a ws ∧ Iss ⟨X.K, Z⟩ H Hm ds ws ∧ tupsI ds = some ts ∧ 1 ≤ n ∧ (∀ t ∈ ts, t.length = n) ∧
    (∀ ms : List (List Int), ms.Perm ts → ms.Pairwise (fun a b => HT.lexLt b a = false) → freshL m (ms.map fun t => .tup (t.map .int)) Hm Qd) ∧ Bh ⟨X.K, Z⟩ Hm H Qd Q) := by
  intro pins s σ H vs us Q I r h
  obtain ⟨Z, Hm, Qd, a, ds, ws, ts, n, rep, rfl, hs, t, ht, hn, hall, q, k⟩ := h
  obtain ⟨its, rv, hl, hz⟩ := I.list hs
  obtain ⟨u, rfl, ru⟩ := vals1 r
  obtain rfl : u = Value.ref a := ru
  obtain ⟨e1, e2, e3⟩ := tups_all I t ht rv
  refine sorted_tups (k := TS.intsOf s.heap) hn hl.isList (by rw [← rv.length]; exact hz) (fun v hv => ⟨(e3 v hv).2.1, hall _ (by rw [e1]; exact List.mem_map.mpr ⟨v, hv, rfl⟩)⟩) fun h' d out h1 h2 kp hd hn => ?_
  have mem : ∀ u ∈ out, u ∈ its := fun u hu => h2.perm.mem_iff.mp hu
  obtain ⟨n, hn⟩ := hn
  have ho : H d = none := I.hok.fresh hd
  have hp : (out.map (TS.intsOf s.heap)).Perm ts := by rw [e1]; exact h2.perm.map _
  have hlen : (out.map backV).length ≤ sizeLine := by
    rw [List.length_map, h2.perm.length_eq, ← rv.length]; exact hz
  exact ⟨.ref d, upd H d (.lst (out.map backV)), I.laid (t' := s.toks) kp hd ⟨hlen, out, n, vals_back fun u hu => (e3 u (mem u hu)).1, hn⟩, rfl,
    k.lst rep (iss_back fun u hu => (e3 u (mem u hu)).2.2) (q _ hp (List.pairwise_map.mpr h1)) d ho⟩
end
/-! ### list(d) -/
theorem kdl_raw {prog : Program} {w : World} {d : Addr} {o : Obj} {es : Array DictEntry} {ep : Nat} (lo : (d == sysModules) = false) (hx : o.ExactDict) (hod : o.data = .dict es ep) :
    PySem.W.KdlSrc prog w "dict" d d es.size (fun i v => ∃ en, es[i]? = some en ∧ en.key = v) (fun h => h.get? d = some o) where
  type := fun _ hm => ⟨o, hm, hx.1⟩
  there := fun _ hm => ⟨Heap.lt_size hm, Heap.lt_size hm⟩
  keep := fun _ _ hm hk => hk d (.inl rfl) o hm
  notList := by decide
  notTuple := by decide
  hint := fun _ _ _ _ hm hq => PySem.W.kdl_hint_dict ⟨o, hm, hx.1⟩ hq
  iter := fun A s hh hm => ⟨_, fun i h => h.IsKeyIter s.heap.objs.size d i es.size ep ∧ h.get? d = some o, (fun _ _ hq => iter_keys lo hm hx hod hq), {
      sub := fun b hb => by simp at hb; simp [hb]
      frame := fun _ _ _ st hk => ⟨st.1.at fun o e => hk _ (by simp) o e, hk d (by simp) _ st.2⟩
      item := fun i s' Q E hi st hQ => by
        have hne : d ≠ s.heap.objs.size := Nat.ne_of_lt (Heap.lt_size hm)
        refine next_key_item st.1 st.2 hod rfl (Array.getElem?_eq_getElem hi) fun h' hit' hs' => ?_
        exact hQ _ h' s'.toks ⟨_, Array.getElem?_eq_getElem hi, rfl⟩ ⟨hit', hs'.extBut d o hne st.2⟩ fun b o hb e => hs'.extBut b o (fun h => hb (by simp [h])) e
      done := fun s' Q E st hQ => next_key_end hh st.1 st.2 hod rfl (Nat.le_refl _) fun h' he' => hQ h' s'.toks fun b o hb e => he' b o (fun h => hb (by simp [h])) e
      self := fun _ _ _ _ st hQ => wpAny_pyIter_keyiter st.1 hQ }, ⟨⟨_, Heap.get?_push_size _ rfl, rfl, rfl⟩, Heap.get?_push_of_some _ hm⟩⟩
section
variable {X : Cx}
theorem call_listDT (hcalm : X.calm = true) : CallR X (.type "list") (fun xs H Q => ∃ (a : Addr) (kvs : List (List Key × V)), xs = [.ref a] ∧ Rd H a (.dT kvs) ∧
    ∀ vs p, vs.length = kvs.length → (∀ (i : Nat) (k : List Key) (v : V), kvs[i]? = some (k, v) → ∃ b, vs[i]? = some (.ref b) ∧ H b = some (.tup (k.map kV))) → H p = none → Q (.ref p) (upd H p (.lst vs))) := by
  intro pins s σ H xs us Q I r q
  obtain ⟨a, kvs, ex, hd, q⟩ := q
  subst ex
  obtain ⟨u, eu, rx⟩ := vals1 r
  subst eu
  cases rx
  obtain ⟨z, lo, ts, rel, o, es, ep, ho, hx, hod, he, hh, hn⟩ := dt_rd I.hok hd
  have hlen : kvs.length = ts.length := Paired.length rel
  have hsz : es.size = ts.length := by
    have := congrArg List.length he
    simpa using this
  refine PySem.W.kdl_call (kdl_raw lo hx hod) (I.ok.hd hcalm) ho (by rw [hsz, ← hlen]; exact z) fun h' tk acc c' hk hD hacc => ?_
  have key : ∀ (i : Nat) (k : List Key) (v : V), kvs[i]? = some (k, v) → ∃ b, acc.toList[i]? = some (.ref b) ∧ H b = some (.tup (k.map kV)) := fun i k v hi => by
    obtain ⟨t, ht, e1, e2, _⟩ : ∃ t : List Key × Addr × Value, ts[i]? = some t ∧ k = t.1 ∧ H t.2.1 = some (.tup (k.map kV)) ∧ True := by
      have all : ∀ {l : List (List Key × V)} {m : List (List Key × Addr × Value)}, KT H l m → ∀ (i : Nat) (k : List Key) (v : V), l[i]? = some (k, v) → ∃ t : List Key × Addr × Value, m[i]? = some t ∧ k = t.1 ∧ H t.2.1 = some (.tup (k.map kV)) ∧ True := by
        intro l m q
        induction q with
        | nil => intro i k v h; simp at h
        | @cons p q ps qs hq t ih =>
          intro i k v h
          cases i with
          | zero =>
            have h : p = (k, v) := by simpa using h
            subst h
            exact ⟨q, rfl, hq.1, hq.2.1, trivial⟩
          | succ i => exact ih i k v (by simpa using h)
      exact all rel i k v hi
    have hi2 : es[i]? = some (entryOfKey (tupleKind (mixKind X.prog X.w)) t) := by
      have := congrArg (fun l => l[i]?) he
      simp only [List.getElem?_map, ht, Option.map_some] at this
      rw [← Array.getElem?_toList]; exact this
    have hlt : i < acc.size := by
      have := (List.getElem?_eq_some_iff.1 hi).1
      rw [hacc.1, hsz, ← hlen]; exact this
    obtain ⟨en, hen, hv⟩ := hacc.2 i acc[i] (Array.getElem?_eq_getElem hlt)
    rw [hi2] at hen
    cases hen
    refine ⟨t.2.1, ?_, e2⟩
    rw [Array.getElem?_toList, Array.getElem?_eq_getElem hlt, ← hv]
    rfl
  have hrefs : ∀ u ∈ acc.toList, ∃ b, u = Value.ref b := fun u hu => by
    obtain ⟨i, hi, e⟩ := List.mem_iff_getElem.mp hu
    have hi' : i < kvs.length := by
      rw [Array.length_toList, hacc.1, hsz, ← hlen] at hi
      exact hi
    obtain ⟨b, hb, _⟩ := key i kvs[i].1 kvs[i].2 (List.getElem?_eq_getElem hi')
    rw [List.getElem?_eq_getElem hi] at hb
    exact ⟨b, by rw [← e]; exact Option.some.inj hb⟩
  have hl2 : (acc.toList.map backV).length = kvs.length := by rw [List.length_map, Array.length_toList, hacc.1, hsz, ← hlen]
  refine ⟨.ref s.heap.objs.size, upd H s.heap.objs.size (.lst (acc.toList.map backV)), I.laid (t' := tk) hk (Nat.le_refl _)
    (show ObjOk X.prog X.w _ _ _ (.lst (acc.toList.map backV)) from ⟨by rw [hl2]; exact z, acc.toList, c', vals_back hrefs, by rw [Array.toArray_toList]; exact hD⟩), rfl, q _ _ hl2 (fun i k v hi => ?_) (I.hok.fresh (Nat.le_refl _))⟩
  obtain ⟨b, hb, ht⟩ := key i k v hi
  exact ⟨b, by rw [List.getElem?_map, hb]; rfl, ht⟩
end
section
open PySem.Sem (wp)
theorem meets_bool_tup (l : Addr) (items : Array Value) (hfit : (items.size : Int) < 2 ^ 63) :
    Meets (Builtin.«bool.__new__» ⟨[.type "bool", .ref l], []⟩) (fun _ R s => IsTup s.heap l items ∧ R (.ok (.ret (.bool (!items.isEmpty)))) { s with toks := s.toks + 1 + 1 }) :=
  Meets.of_wp fun prog w A R s hs => by
    obtain ⟨hl, hs⟩ := hs
    obtain ⟨hp, g, d, tk, os⟩ := s
    have f1 := F.conv_sub_bool
    repeat (any_goals (first | assumption | (with_reducible refine truthy_tuple hl hfit ?_) | wp_step))
    all_goals first | exact ⟨_, rfl, hs⟩ | exact hs | skip
end
section
variable {X : Cx}
/-- bool(a tuple) -/
theorem call_boolT : CallR X (.type "bool") (fun xs H Q => ∃ (a : Addr) (zs : List V), xs = [.ref a] ∧ SqT X.K H a zs ∧ Q (.bl (!zs.isEmpty)) H) := by
  intro pins s σ H xs us Q I r h
  obtain ⟨a, zs, rfl, hq, q⟩ := h
  obtain rfl := Vals.ref1 r
  obtain ⟨its, rv, pl, hz⟩ := I.tuple hq
  have hl := line63
  have hlen := rv.length
  refine call_bool_1 (meets_bool_tup a its.toArray (by simp only [List.size_toArray]; omega)) ⟨pl, rfl, ?_⟩
  exact ⟨.bl (!zs.isEmpty), H, I.tok _, by rw [isEmpty_of rv]; rfl, q⟩
end
end DL

set_option maxHeartbeats 400000
namespace DL
open PySem PySem.Spec PyProof.Rows L2

def Bi.val : Bi → Value
  | .len => .builtin "len" | .min => .builtin "min" | .max => .builtin "max" | .abs => .builtin "abs" | .int => .type "int" | .bool => .type "bool" | .str => .type "str"
  | .sorted => .builtin "sorted" | .list => .type "list" | .tuple => .type "tuple" | .sum => .builtin "sum" | .isi => .builtin "isinstance" | .all => .builtin "all" | .any => .builtin "any" | .gcd => .builtin "math.gcd"
def CD0 (X : Cx) (f : Value) (r : List D → MH → DK → Prop) : Prop :=
  True
theorem intsD_of {K : Kz} {H : Hp} {Hm : MH} : ∀ {ds : List D} {vs : List V} {ns : List Int}, Iss K H Hm ds vs → intsD ds = some ns → vs = ns.map V.int
  | [], vs, ns, h, e => by unfold intsD at e; cases e; exact h.nil_of
  | d :: ds, vs, ns, h, e => by
    obtain ⟨v, r, rfl, q, t⟩ := h.cons_of
    cases d with
    | int i =>
      unfold intsD at e
      cases z : intsD ds with
      | none => rw [z] at e; cases e
      | some ms =>
        rw [z] at e; cases e
        rw [q.int, intsD_of t z]; rfl
    | _ => unfold intsD at e; cases e
theorem strsD_of {K : Kz} {H : Hp} {Hm : MH} : ∀ {ds : List D} {vs : List V} {ns : List Str}, Iss K H Hm ds vs → strsD ds = some ns → vs = ns.map V.str
  | [], vs, ns, h, e => by unfold strsD at e; cases e; exact h.nil_of
  | d :: ds, vs, ns, h, e => by
    obtain ⟨v, r, rfl, q, t⟩ := h.cons_of
    cases d with
    | str i =>
      unfold strsD at e
      cases z : strsD ds with
      | none => rw [z] at e; cases e
      | some ms =>
        rw [z] at e; cases e
        rw [q.str, strsD_of t z]; rfl
    | _ => unfold strsD at e; cases e
theorem boolsD_of {K : Kz} {H : Hp} {Hm : MH} : ∀ {ds : List D} {vs : List V} {ns : List Bool}, Iss K H Hm ds vs → boolsD ds = some ns → vs = ns.map V.bl
  | [], vs, ns, h, e => by unfold boolsD at e; cases e; exact h.nil_of
  | d :: ds, vs, ns, h, e => by
    obtain ⟨v, r, rfl, q, t⟩ := h.cons_of
    cases d with
    | bl i =>
      unfold boolsD at e
      cases z : boolsD ds with
      | none => rw [z] at e; cases e
      | some ms =>
        rw [z] at e; cases e
        rw [q.bl, boolsD_of t z]; rfl
    | _ => unfold boolsD at e; cases e
theorem leastI_mem : ∀ (ns : List Int) (n : Int), leastI n ns ∈ n :: ns
  | [], n => List.mem_cons_self
  | m :: r, n => by
    unfold leastI
    have := leastI_mem r (if m < n then m else n)
    rcases List.mem_cons.mp this with e | e
    · rw [e]
      split
      · exact List.mem_cons_of_mem _ List.mem_cons_self
      · exact List.mem_cons_self
    · exact List.mem_cons_of_mem _ (List.mem_cons_of_mem _ e)
theorem leastI_le : ∀ (ns : List Int) (n : Int), ∀ y ∈ n :: ns, leastI n ns ≤ y
  | [], n, y, h => by
    have : y = n := by simpa using h
    rw [this]; exact Int.le_refl _
  | m :: r, n, y, h => by
    unfold leastI
    have ih := leastI_le r (if m < n then m else n)
    have h0 := ih _ List.mem_cons_self
    rcases List.mem_cons.mp h with e | e
    · subst e; split at h0 <;> (split <;> omega)
    · rcases List.mem_cons.mp e with e | e
      · subst e; split at h0 <;> (split <;> omega)
      · exact ih y (List.mem_cons_of_mem _ e)
theorem mostI_mem : ∀ (ns : List Int) (n : Int), mostI n ns ∈ n :: ns
  | [], n => List.mem_cons_self
  | m :: r, n => by
    unfold mostI
    have := mostI_mem r (if m > n then m else n)
    rcases List.mem_cons.mp this with e | e
    · rw [e]
      split
      · exact List.mem_cons_of_mem _ List.mem_cons_self
      · exact List.mem_cons_self
    · exact List.mem_cons_of_mem _ (List.mem_cons_of_mem _ e)
theorem mostI_ge : ∀ (ns : List Int) (n : Int), ∀ y ∈ n :: ns, y ≤ mostI n ns
  | [], n, y, h => by
    have : y = n := by simpa using h
    rw [this]; exact Int.le_refl _
  | m :: r, n, y, h => by
    unfold mostI
    have ih := mostI_ge r (if m > n then m else n)
    have h0 := ih _ List.mem_cons_self
    rcases List.mem_cons.mp h with e | e
    · subst e; split at h0 <;> (split <;> omega)
    · rcases List.mem_cons.mp e with e | e
      · subst e; split at h0 <;> (split <;> omega)
      · exact ih y (List.mem_cons_of_mem _ e)
theorem leastI_is {ns : List Int} {n m : Int} (h1 : m ∈ n :: ns) (h2 : ∀ y ∈ n :: ns, m ≤ y) : m = leastI n ns := by
  have a := leastI_le ns n m h1
  have b := h2 _ (leastI_mem ns n)
  omega
theorem mostI_is {ns : List Int} {n m : Int} (h1 : m ∈ n :: ns) (h2 : ∀ y ∈ n :: ns, y ≤ m) : m = mostI n ns := by
  have a := mostI_ge ns n m h1
  have b := h2 _ (mostI_mem ns n)
  omega
section
variable {X : Cx}
theorem hold_ints {h : Heap} : ∀ {us : List Value} {ns : List Int}, IntsAre us ns → PySem.W.HoldAll h us ns
  | _, _, .nil => PySem.W.HoldAll.nil
  | _, _, .cons n t r => PySem.W.HoldAll.cons ⟨_, .int _ _⟩ (hold_ints r)
theorem minOf_is : ∀ (ns : List Int) (n : Int), PySem.W.minOf n ns = leastI n ns
  | [], n => rfl
  | m :: r, n => by
    have ih := minOf_is r (if m < n then m else n)
    have e : leastI n (m :: r) = leastI (if m < n then m else n) r := rfl
    rw [e, ← ih]
    unfold PySem.W.minOf
    rw [List.foldl_cons]
    congr 1
    show (if (decide (m < n)) = true then m else n) = _
    by_cases h : m < n <;> simp [h]
theorem maxOf_is : ∀ (ns : List Int) (n : Int), PySem.W.maxOf n ns = mostI n ns
  | [], n => rfl
  | m :: r, n => by
    have ih := maxOf_is r (if m > n then m else n)
    have e : mostI n (m :: r) = mostI (if m > n then m else n) r := rfl
    rw [e, ← ih]
    unfold PySem.W.maxOf
    rw [List.foldl_cons]
    congr 1
    show (if (decide (n < m)) = true then m else n) = _
    by_cases h : n < m <;> simp [h]
theorem holds_int_of {h : Heap} {v : Value} {n : Int} (H : PySem.W.Holds h v n) : ∃ t, v = .int n t := by
  obtain ⟨as, r⟩ := H
  cases r
  exact ⟨_, rfl⟩
/-- min, max of a tuple of ints -/
theorem cr_minT (hc : X.calm = true) (hr : Room 40 X.A) : CallR X (.builtin "min") (fun vs H Q => ∃ (a : Addr) (n : Int) (ns : List Int), vs = [V.ref a] ∧ SqT X.K H a ((n :: ns).map V.int) ∧ Q (.int (leastI n ns)) H) := by
  intro pins s σ H vs us Q I r h
  obtain ⟨a, n, ns, rfl, hs, q⟩ := h
  obtain ⟨its, rv, hl, _⟩ := I.tuple hs
  rw [Vals.ref1 r]
  refine PySem.W.min_tuple_datum (I.ok.hd hc) hl (hold_ints rv.ints) (by have := hr.un; show X.A.units + 1 + 0 < cLine; omega) fun i v h' tk _ hv hk => ?_
  obtain ⟨t, rfl⟩ := holds_int_of hv
  exact ⟨.int _, H, I.kept hk, ⟨_, rfl⟩, by rw [minOf_is]; exact q⟩
theorem cr_maxT (hc : X.calm = true) (hr : Room 40 X.A) : CallR X (.builtin "max") (fun vs H Q => ∃ (a : Addr) (n : Int) (ns : List Int), vs = [V.ref a] ∧ SqT X.K H a ((n :: ns).map V.int) ∧ Q (.int (mostI n ns)) H) := by
  intro pins s σ H vs us Q I r h
  obtain ⟨a, n, ns, rfl, hs, q⟩ := h
  obtain ⟨its, rv, hl, _⟩ := I.tuple hs
  rw [Vals.ref1 r]
  refine PySem.W.max_tuple_datum (I.ok.hd hc) hl (hold_ints rv.ints) (by have := hr.un; show X.A.units + 1 + 0 < cLine; omega) fun i v h' tk _ hv hk => ?_
  obtain ⟨t, rfl⟩ := holds_int_of hv
  exact ⟨.int _, H, I.kept hk, ⟨_, rfl⟩, by rw [maxOf_is]; exact q⟩
theorem cr_minS (hc : X.calm = true) (hr : Room 40 X.A) : CallR X (.builtin "min") (fun vs H Q => ∃ (a : Addr) (n : Str) (ns : List Str), vs = [V.ref a] ∧ (SqL X.K H a ((n :: ns).map V.str) ∨ SqT X.K H a ((n :: ns).map V.str)) ∧ Q (.str (leastS n ns)) H) := by
  intro pins s σ H vs us Q I r h
  obtain ⟨a, n, ns, rfl, hs, q⟩ := h
  rw [Vals.ref1 r]
  rcases hs with hs | hs
  · obtain ⟨its, rv, hl, _⟩ := I.list hs
    refine PySem.W.min_list_datum (I.ok.hd hc) hl.isList (PySem.W.HoldAll.of_strs (Vals.strs rv)) (by have := hr.un; show X.A.units + 1 + 0 < cLine; omega) fun i v h' tk _ hv hk => ?_
    obtain ⟨t, rfl⟩ := PySem.W.str_of_holds hv
    exact ⟨.str _, H, I.kept hk, ⟨_, rfl⟩, q⟩
  · obtain ⟨its, rv, hl, _⟩ := I.tuple hs
    refine PySem.W.min_tuple_datum (I.ok.hd hc) hl (PySem.W.HoldAll.of_strs (Vals.strs rv)) (by have := hr.un; show X.A.units + 1 + 0 < cLine; omega) fun i v h' tk _ hv hk => ?_
    obtain ⟨t, rfl⟩ := PySem.W.str_of_holds hv
    exact ⟨.str _, H, I.kept hk, ⟨_, rfl⟩, q⟩
theorem Iss.one {K : Kz} {H : Hp} {Hm : MH} {d : D} {vs : List V} (h : Iss K H Hm [d] vs) : ∃ v, vs = [v] ∧ Is K H Hm d v := by
  obtain ⟨v, r, rfl, q, t⟩ := h.cons_of
  rw [t.nil_of]
  exact ⟨v, rfl, q⟩
theorem Iss.two {K : Kz} {H : Hp} {Hm : MH} {d e : D} {vs : List V} (h : Iss K H Hm [d, e] vs) : ∃ v w, vs = [v, w] ∧ Is K H Hm d v ∧ Is K H Hm e w := by
  obtain ⟨v, r, rfl, q, t⟩ := h.cons_of
  obtain ⟨w, rfl, p⟩ := t.one
  exact ⟨v, w, rfl, q, p⟩
theorem map_ints {K : Kz} {H : Hp} {Hm : MH} (ns : List Int) : Iss K H Hm (ns.map D.int) (ns.map V.int) := Iss.of_ints ns
theorem isTy_of {K : Kz} {H : Hp} {Hm : MH} {d : D} {v : V} {n : String} {b : Bool} (r : Rep K H Hm) (h : Is K H Hm d v) (e : isTy d n Hm = some b) : ∃ t, TyX K.K H v (.type t) ∧ PySem.W.kitOne K.K (.type t) (.type n) = some b := by
  unfold isTy at e
  split at e
  · rename_i hn
    have hn : n ∈ tyNames := by simpa using hn
    have go : ∀ (t : String) (f : String → Bool), (∀ m ∈ tyNames, PySem.W.kitOne K.K (.type t) (.type m) = some (f m)) → f n = b → PySem.W.kitOne K.K (.type t) (.type n) = some b := fun t f h1 h2 => by rw [← h2]; exact h1 n hn
    have all : ∀ {p : String → Prop}, (p "int" ∧ p "bool" ∧ p "str" ∧ p "tuple" ∧ p "list" ∧ p "dict") → ∀ m ∈ tyNames, p m := fun h m hm => by
      simp only [tyNames, List.mem_cons, List.not_mem_nil, or_false] at hm
      rcases hm with rfl | rfl | rfl | rfl | rfl | rfl
      · exact h.1
      · exact h.2.1
      · exact h.2.2.1
      · exact h.2.2.2.1
      · exact h.2.2.2.2.1
      · exact h.2.2.2.2.2
    unfold isTy0 at e
    split at e
    · rw [h.non]; exact ⟨"NoneType", .base .non, go _ (fun _ => false) (all ⟨kit_ty (by decide +kernel), kit_ty (by decide +kernel), kit_ty (by decide +kernel), kit_ty (by decide +kernel), kit_ty (by decide +kernel), kit_ty (by decide +kernel)⟩) (Option.some.inj e)⟩
    · rw [h.bl]; exact ⟨"bool", .base (.bl _), go _ (fun m => m == "bool" || m == "int") (all ⟨kit_ty (by decide +kernel), kit_ty (by decide +kernel), kit_ty (by decide +kernel), kit_ty (by decide +kernel), kit_ty (by decide +kernel), kit_ty (by decide +kernel)⟩) (Option.some.inj e)⟩
    · rw [h.int]; exact ⟨"int", .base (.int _), go _ (fun m => m == "int") (all ⟨kit_ty (by decide +kernel), kit_ty (by decide +kernel), kit_ty (by decide +kernel), kit_ty (by decide +kernel), kit_ty (by decide +kernel), kit_ty (by decide +kernel)⟩) (Option.some.inj e)⟩
    · rw [h.str]; exact ⟨"str", .base (.str _), go _ (fun m => m == "str") (all ⟨kit_ty (by decide +kernel), kit_ty (by decide +kernel), kit_ty (by decide +kernel), kit_ty (by decide +kernel), kit_ty (by decide +kernel), kit_ty (by decide +kernel)⟩) (Option.some.inj e)⟩
    · obtain ⟨a, vs, rfl, s, _⟩ := h.tup
      refine ⟨"tuple", ?_, go _ (fun m => m == "tuple") (all ⟨kit_ty (by decide +kernel), kit_ty (by decide +kernel), kit_ty (by decide +kernel), kit_ty (by decide +kernel), kit_ty (by decide +kernel), kit_ty (by decide +kernel)⟩) (Option.some.inj e)⟩
      rcases s with (s | ⟨o, s⟩) | ⟨o, its, n, k, c, _⟩
      · exact .base (.tup s)
      · exact .fTuple s
      · exact .kTuple k c
    · unfold Is at h
      obtain ⟨a, vs, rfl, s, _⟩ := h
      refine ⟨"list", ?_, go _ (fun m => m == "list") (all ⟨kit_ty (by decide +kernel), kit_ty (by decide +kernel), kit_ty (by decide +kernel), kit_ty (by decide +kernel), kit_ty (by decide +kernel), kit_ty (by decide +kernel)⟩) (Option.some.inj e)⟩
      rcases s with ⟨s | ⟨o, s⟩, _⟩ | ⟨o, its, n, k, c, _⟩
      · exact .base (.lst s)
      · exact .base (.frz s)
      · exact .kList k c
    · unfold Is at h
      obtain ⟨a, kvs, rfl, s, _⟩ := h
      exact ⟨"dict", .base (.dK s), go _ (fun m => m == "dict") (all ⟨kit_ty (by decide +kernel), kit_ty (by decide +kernel), kit_ty (by decide +kernel), kit_ty (by decide +kernel), kit_ty (by decide +kernel), kit_ty (by decide +kernel)⟩) (Option.some.inj e)⟩
    · rename_i a _
      rw [h.ref]
      split at e
      · rename_i xs hx
        obtain ⟨vs, s, _⟩ := r.obj _ _ hx
        exact ⟨"list", .base (.lst s), go _ (fun m => m == "list") (all ⟨kit_ty (by decide +kernel), kit_ty (by decide +kernel), kit_ty (by decide +kernel), kit_ty (by decide +kernel), kit_ty (by decide +kernel), kit_ty (by decide +kernel)⟩) (Option.some.inj e)⟩
      · cases e
    · cases e
  · cases e
def Bi.cool : Bi → Bool
  | .min => false | .max => false | .sum => false | .all => false | .any => false | .list => false | _ => true
theorem iss_empty {K : Kz} {H : Hp} {Hm : MH} {ds : List D} {vs : List V} (t : Iss K H Hm ds vs) : vs.isEmpty = ds.isEmpty := by
  cases ds with
  | nil => rw [t.nil_of]; rfl
  | cons d r => obtain ⟨v, w, rfl, _⟩ := t.cons_of; rfl
theorem is_keyE {K : Kz} {H : Hp} {Hm : MH} (k : Key) : Is K H Hm (keyE k) (kV k) := by
  cases k with
  | inl i => exact is_int
  | inr x => exact is_str
theorem is_keysE {K : Kz} {H : Hp} {Hm : MH} : ∀ k : List Key, Iss K H Hm (k.map keyE) (k.map kV)
  | [] => .nil
  | x :: r => .cons (is_keyE x) (is_keysE r)
theorem iss_tups {K : Kz} {H : Hp} {Hm : MH} : ∀ (us : List (List Key × V)) (kvs : List (List Key × D)), us.map (·.1) = kvs.map (·.1) → ∀ vs : List V, vs.length = us.length →
    (∀ (i : Nat) (k : List Key) (v : V), us[i]? = some (k, v) → ∃ b, vs[i]? = some (.ref b) ∧ H b = some (.tup (k.map kV))) → Iss K H Hm (kvs.map fun kv => D.tup (kv.1.map keyE)) vs
  | [], [], _, vs, hl, _ => by
    have : vs = [] := List.eq_nil_of_length_eq_zero hl
    subst this
    exact .nil
  | [], _ :: _, h, _, _, _ => by simp at h
  | _ :: _, [], h, _, _, _ => by simp at h
  | u :: us, kv :: kvs, h, [], hl, _ => by simp at hl
  | u :: us, kv :: kvs, h, v :: vs, hl, hv => by
    simp only [List.map_cons, List.cons.injEq] at h
    refine .cons ?_ (iss_tups us kvs h.2 vs (by simpa using hl) fun i k w e => by simpa using hv (i + 1) k w (by simpa using e))
    obtain ⟨b, hb, ht⟩ := hv 0 u.1 u.2 rfl
    have : v = .ref b := by simpa using hb
    subst this
    show Is K H Hm (.tup (kv.1.map keyE)) (.ref b)
    rw [← h.1]
    unfold Is
    exact ⟨b, _, rfl, .inl ht, is_keysE _⟩
theorem call_biD (C : Cok X) (m : Bool) (f : Bi) (hc : f.cool = false → Calm X) : CallR X f.val fun xs H Q => ∃ Z ds Hm Qd, Rep ⟨X.K, Z⟩ H Hm ∧ Iss ⟨X.K, Z⟩ H Hm ds xs ∧ biD m f ds Hm Qd ∧ Bh ⟨X.K, Z⟩ Hm H Qd Q := by
  intro pins s σ H xs us Q I r h
  obtain ⟨Z, ds, Hm, Qd, rep, is, hr, k⟩ := h
  unfold biD at hr
  split at hr
  · obtain ⟨v, rfl, i⟩ := is.one
    exact call_len_str pins s σ H _ us Q I r ⟨_, by rw [i.str], hr.1, k.here rep is_int hr.2⟩
  · obtain ⟨v, rfl, i⟩ := is.one
    split at hr
    · obtain ⟨n, e, q⟩ := hr
      exact call_dlenD pins s σ H _ us Q I r ⟨Z, _, Hm, Qd, n, rep, .cons i .nil, e, q, k⟩
    · obtain ⟨ys, e, q⟩ := hr
      obtain ⟨a, vs, rfl, sq, t⟩ := seq_of rep i e
      exact call_len_seq pins s σ H _ us Q I r ⟨a, vs, rfl, sq, by rw [t.length]; exact k.here rep is_int q⟩
  · obtain ⟨v, w, rfl, i, j⟩ := is.two
    exact call_min2 (hc rfl).c pins s σ H _ us Q I r ⟨_, _, by rw [i.int, j.int], k.here rep is_int hr⟩
  · obtain ⟨v, w, rfl, i, j⟩ := is.two
    exact call_max2 (hc rfl).c pins s σ H _ us Q I r ⟨_, _, by rw [i.int, j.int], k.here rep is_int hr⟩
  · obtain ⟨v, rfl, i⟩ := is.one
    split at hr
    · obtain ⟨n, ns, e, q⟩ := hr
      cases z : seqAt Hm _ with
      | none => rw [z] at e; cases e
      | some ys =>
        rw [z] at e
        obtain ⟨a, vs, rfl, sq, t⟩ := seq_of rep i z
        have e2 := strsD_of t e
        subst e2
        exact cr_minS (hc rfl).c (hc rfl).room pins s σ H _ us Q I r ⟨a, n, ns, rfl, sq, k.here rep is_str q⟩
    obtain ⟨n, ns, e, q⟩ := hr
    cases z : seqAt Hm _ with
    | none => rw [z] at e; cases e
    | some ys =>
      rw [z] at e
      obtain ⟨a, vs, rfl, sq, t⟩ := seq_of rep i z
      have e2 := intsD_of t e
      subst e2
      rcases sq with sq | sq
      · exact cr_min (hc rfl).c pins s σ H _ us Q I r ⟨a, n :: ns, rfl, sq, by simp, fun m h1 h2 => by rw [leastI_is h1 h2]; exact k.here rep is_int q⟩
      · exact cr_minT (hc rfl).c (hc rfl).room pins s σ H _ us Q I r ⟨a, n, ns, rfl, sq, k.here rep is_int q⟩
  · obtain ⟨v, rfl, i⟩ := is.one
    obtain ⟨n, ns, e, q⟩ := hr
    cases z : seqAt Hm _ with
    | none => rw [z] at e; cases e
    | some ys =>
      rw [z] at e
      obtain ⟨a, vs, rfl, sq, t⟩ := seq_of rep i z
      have e2 := intsD_of t e
      subst e2
      rcases sq with sq | sq
      · exact cr_max (hc rfl).c pins s σ H _ us Q I r ⟨a, n :: ns, rfl, sq, by simp, fun m h1 h2 => by rw [mostI_is h1 h2]; exact k.here rep is_int q⟩
      · exact cr_maxT (hc rfl).c (hc rfl).room pins s σ H _ us Q I r ⟨a, n, ns, rfl, sq, k.here rep is_int q⟩
  · obtain ⟨v, rfl, i⟩ := is.one
    exact call_abs pins s σ H _ us Q I r ⟨_, by rw [i.int], k.here rep is_int hr⟩
  · obtain ⟨v, w, rfl, i, j⟩ := is.two
    exact cr_gcd pins s σ H _ us Q I r ⟨_, _, by rw [i.int, j.int], k.here rep is_int hr⟩
  · obtain ⟨v, rfl, i⟩ := is.one
    exact call_int1 pins s σ H _ us Q I r (.inl ⟨_, by rw [i.int], k.here rep is_int hr⟩)
  · obtain ⟨v, rfl, i⟩ := is.one
    exact call_int1 pins s σ H _ us Q I r (.inr ⟨_, by rw [i.bl], k.here rep is_int hr⟩)
  · obtain ⟨v, rfl, i⟩ := is.one
    exact call_bool1 pins s σ H _ us Q I r (.inr ⟨_, by rw [i.bl], k.here rep is_bl hr⟩)
  · obtain ⟨v, rfl, i⟩ := is.one
    obtain ⟨a, vs, rfl, sq, t⟩ := i.tup
    have e2 : (!vs.isEmpty) = !(_ : List D).isEmpty := congrArg (!·) (iss_empty t)
    exact call_boolT pins s σ H _ us Q I r ⟨a, vs, rfl, sq, by rw [e2]; exact k.here rep is_bl hr⟩
  · obtain ⟨v, rfl, i⟩ := is.one
    exact call_str_int pins s σ H _ us Q I r ⟨_, by rw [i.int], hr.1, k.here rep is_str hr.2⟩
  · obtain ⟨v, rfl, i⟩ := is.one
    obtain ⟨ns, e, q⟩ := hr
    cases z : lstAt Hm _ with
    | none => rw [z] at e; cases e
    | some ys =>
      rw [z] at e
      obtain ⟨a, vs, rfl, sq, t⟩ := lst_of rep i z
      have e2 := intsD_of t e
      subst e2
      exact cr_sum (hc rfl).c pins s σ H _ us Q I r ⟨a, ns, rfl, sq, k.here rep is_int q⟩
  · obtain ⟨v, rfl, i⟩ := is.one
    obtain ⟨ns, e, q⟩ := hr
    cases z : lstAt Hm _ with
    | none => rw [z] at e; cases e
    | some ys =>
      rw [z] at e
      obtain ⟨a, vs, rfl, sq, t⟩ := lst_of rep i z
      have e2 := boolsD_of t e
      subst e2
      exact cr_all (hc rfl).c pins s σ H _ us Q I r ⟨a, ns, rfl, sq, k.here rep is_bl q⟩
  · obtain ⟨v, rfl, i⟩ := is.one
    obtain ⟨ns, e, q⟩ := hr
    cases z : lstAt Hm _ with
    | none => rw [z] at e; cases e
    | some ys =>
      rw [z] at e
      obtain ⟨a, vs, rfl, sq, t⟩ := lst_of rep i z
      have e2 := boolsD_of t e
      subst e2
      exact cr_any (hc rfl).c pins s σ H _ us Q I r ⟨a, ns, rfl, sq, k.here rep is_bl q⟩
  · obtain ⟨v, rfl, i⟩ := is.one
    rcases hr with hr | ⟨ts, n, e, hn, hall, q⟩
    rotate_left
    · obtain ⟨ys, z, e⟩ := Option.bind_eq_some_iff.1 e
      obtain ⟨a, vs, rfl, sq, t⟩ := lst_of rep i z
      exact cr_sortedT pins s σ H _ us Q I r ⟨Z, Hm, Qd, a, ys, vs, ts, n, rep, rfl, sq, t, e, hn, hall, q, k⟩
    obtain ⟨ns, e, q⟩ := hr
    cases z : lstAt Hm _ with
    | none => rw [z] at e; cases e
    | some ys =>
      rw [z] at e
      obtain ⟨a, vs, rfl, sq, t⟩ := lst_of rep i z
      have e2 := intsD_of t e
      subst e2
      exact cr_sortedI pins s σ H _ us Q I r ⟨a, ns, rfl, sq, fun ms p h1 h2 hp => k.lst rep (map_ints ms) (q ms h1 h2) p hp⟩
  · obtain ⟨v, rfl, i⟩ := is.one
    obtain ⟨ys, e, q⟩ := hr
    have seq : seqAt Hm _ = some ys → wpAny (model X.prog X.w) X.A (call (.type "list") us) (EP X pins σ Q) X.xe s := fun e => by
      obtain ⟨a, vs, rfl, sq, t⟩ := seq_of rep i e
      exact call_list_of pins s σ H _ us Q I r ⟨a, vs, rfl, sq, k.lst rep t q⟩
    unfold listAt at e
    split at e
    · rename_i p
      have ei := i.ref
      subst ei
      have cK : ∀ (us' : List (Key × V)) (kvs : List (Key × D)), Rd H p (.dK us') → us'.map (·.1) = kvs.map (·.1) → ys = kvs.map (fun kv => keyE kv.1) → wpAny (model X.prog X.w) X.A (call (.type "list") us) (EP X pins σ Q) X.xe s := fun us' kvs hr hk e => by
        have t : Iss ⟨X.K, Z⟩ H Hm ys (us'.map fun kv => kV kv.1) := by
          rw [e]
          have e1 : (kvs.map fun kv => keyE kv.1) = (kvs.map (·.1)).map keyE := by rw [List.map_map]; rfl
          have e2 : (us'.map fun kv => kV kv.1) = (us'.map (·.1)).map kV := by rw [List.map_map]; rfl
          rw [e1, e2, hk]
          exact is_keysE _
        exact call_listD (hc rfl).c pins s σ H _ us Q I r ⟨p, us', rfl, hr, k.lst rep t q⟩
      have cT : ∀ (us' : List (List Key × V)) (kvs : List (List Key × D)), Rd H p (.dT us') → us'.map (·.1) = kvs.map (·.1) → ys = kvs.map (fun kv => D.tup (kv.1.map keyE)) → wpAny (model X.prog X.w) X.A (call (.type "list") us) (EP X pins σ Q) X.xe s := fun us' kvs hr hk e =>
        call_listDT (hc rfl).c pins s σ H _ us Q I r ⟨p, us', rfl, hr, fun vs l hl hv hp => k.lst rep (by rw [e]; exact iss_tups us' kvs hk vs hl hv) q l hp⟩
      split at e
      · rename_i xs hx
        exact seq (by simp only [seqAt, lstAt, hx]; exact e)
      · rename_i kvs hx
        obtain ⟨us', h, hk, _⟩ := rep.obj _ _ hx
        cases e
        exact cK us' kvs (.inl h) hk rfl
      · rename_i kvs hx
        obtain ⟨us', h, hk, _⟩ := rep.obj _ _ hx
        cases e
        exact cT us' kvs (.inl h) hk rfl
      · rename_i o us' kvs hx
        obtain ⟨h, hk, _⟩ := rep.obj _ _ hx
        cases e
        exact cK us' kvs (.inr ⟨o, h⟩) hk rfl
      · rename_i o us' kvs hx
        obtain ⟨h, hk, _⟩ := rep.obj _ _ hx
        cases e
        exact cT us' kvs (.inr ⟨o, h⟩) hk rfl
      · cases e
    · exact seq e
  · obtain ⟨v, rfl, i⟩ := is.one
    obtain ⟨ys, e, q⟩ := hr
    obtain ⟨a, vs, rfl, sq, t⟩ := seq_ofU rep i e
    refine call_tuple_of pins s σ H _ us Q I r ⟨a, vs, rfl, ?_⟩
    rcases sq with sq | sq
    · exact .inl ⟨sq, k.tup rep t q⟩
    · exact .inr ⟨sq.sq, k.here rep (by unfold Is; exact ⟨a, vs, rfl, sq, t⟩) q⟩
  · obtain ⟨v, w, rfl, i, j⟩ := is.two
    obtain ⟨b, e, q⟩ := hr
    obtain ⟨t, h1, h2⟩ := isTy_of rep i e
    exact call_isi pins s σ H _ us Q I r ⟨v, _, _, _, b, by rw [j.ty], .ty _, h1, h2, k.here rep is_bl q⟩
  · exact hr.elim
end
end DL

set_option maxHeartbeats 400000
namespace DL
open PySem PySem.Spec PyProof.Rows L2

/-! ### calls -/
section
variable {C : Co} {a e : Expr} {es : List Expr} {ta te : TD} {t : TAd} {pos p : Pos} {x : Str}
/-- how a name of a builtin is bound in the module -/
def BlF (mg : Str → Option Value) (x : Str) : Prop := (x ≠ "gcd" → mg x = none) ∧ (x = "gcd" → mg x = some (.builtin "math.gcd"))
theorem de_bi (ok : C.Ok) {m : Bool} {f : Bi} (hcl : f.cool = false → Calm C.X) (hg : Gl C.X x) (hm : (C.X.mg x = none ∧ bootBuiltins x = some f.val) ∨ (C.X.mg x = some f.val ∧ f = .gcd)) (ha : DA C (e :: es) t) (hn : x ≠ "__name__") (hdb : (x == ("__debug__" : Str)) = false)
    (he : starEach (e :: es) C.X.env = (false, eval e C.X.env) :: starEach es C.X.env) (hpl : (backTo pos (starEach es C.X.env)).any (·.1) = false) :
    DE C (.Call (.Name x p) (e :: es) [] pos) (fun σ H Q => t σ H fun ds H1 => biD m f ds H1 Q) := by
  have key : PE C.X (.Call (.Name x p) (e :: es) [] pos) (tCB (fun xs H Q => ∃ Z ds Hm Qd, Rep ⟨C.X.K, Z⟩ H Hm ∧ Iss ⟨C.X.K, Z⟩ H Hm ds xs ∧ biD m f ds Hm Qd ∧ Bh ⟨C.X.K, Z⟩ Hm H Qd Q) (LfA C t)) := by
    rcases hm with ⟨hm, hv⟩ | ⟨hm, rfl⟩
    · cases hf : f.val with
      | builtin id => exact pe_callB (hf ▸ call_biD ok.x m f hcl) hg hm (by rw [hv, hf]) ha hn hdb he hpl
      | type id => exact pe_callTy (hf ▸ call_biD ok.x m f hcl) hg hm (by rw [hv, hf]) ha hn hdb he hpl
      | _ => cases f <;> cases hf
    · exact pe_callBfun (call_biD ok.x m .gcd hcl) hg hm ha hdb he hpl
  refine PE.weak key fun σ H Q => ?_
  rintro ⟨σd, Hm, Qd, s, q, k⟩
  exact LfA.seq s q fun vs H1 ds Hm1 n1 s1 is q => ⟨C.Z, ds, Hm1, Qd, s1.rep, is, q, k.cut n1⟩
def Mt.ty : Mt → String
  | .append => "list" | .pop => "list" | .upper => "str" | .insert => "list" | .extend => "list" | .rstrip => "str" | .join => "str" | .reverse => "list"
def Mt.id : Mt → String
  | .append => "list.append" | .pop => "list.pop" | .upper => "str.upper" | .insert => "list.insert" | .extend => "list.extend" | .rstrip => "str.rstrip" | .join => "str.join" | .reverse => "list.reverse"
theorem iss_erase {K : Kz} {H : Hp} {Hm : MH} : ∀ {ds : List D} {vs : List V}, Iss K H Hm ds vs → ∀ n : Nat, Iss K H Hm (ds.eraseIdx n) (vs.eraseIdx n)
  | [], vs, h, n => by rw [h.nil_of]; exact .nil
  | d :: ds, vs, h, n => by
    obtain ⟨v, r, rfl, q, t⟩ := h.cons_of
    cases n with
    | zero => exact t
    | succ n => exact .cons q (iss_erase t n)
theorem mt_okD {X : Cx} {m : Bool} {f : Mt} : MtR X f.id fun x xs H Q => ∃ Z dx ds Hm Qd, Rep ⟨X.K, Z⟩ H Hm ∧ Is ⟨X.K, Z⟩ H Hm dx x ∧ Iss ⟨X.K, Z⟩ H Hm ds xs ∧ mtD m f dx ds Hm Qd ∧ Bh ⟨X.K, Z⟩ Hm H Qd Q := by
  intro pins s σ H x xs v us Q I rx r h
  obtain ⟨Z, dx, ds, Hm, Qd, rep, ix, is, hr, k⟩ := h
  unfold mtD at hr
  split at hr
  · rename_i a d
    obtain ⟨w, rfl, iw⟩ := is.one
    obtain ⟨ys, hy, hz, q⟩ := hr
    obtain ⟨vs, e, t⟩ := rep.obj _ _ hy
    have nn : Hm a ≠ none := by rw [hy]; simp
    refine mt_append pins s σ H x _ v us Q I rx r ⟨a, vs, w, ix.ref, rfl, e, by rw [t.length]; exact hz, ?_⟩
    exact k _ _ .non _ (wr_nt nn) (wr_rep rep nn (t.append (.cons iw .nil))) is_non q
  · rename_i a
    have e0 := is.nil_of
    subst e0
    obtain ⟨ys, d, hy, q⟩ := hr
    obtain ⟨vs, e, t⟩ := rep.obj _ _ hy
    have nn : Hm a ≠ none := by rw [hy]; simp
    obtain ⟨w, hw, iw⟩ := t.get (i := ys.length) (d := d) (by simp)
    have hl : vs.length = ys.length + 1 := by rw [t.length]; simp
    have hd : vs.dropLast = vs.take ys.length := by rw [List.dropLast_eq_take, hl]; rfl
    refine mt_pop pins s σ H x _ v us Q I rx r ⟨a, vs, w, ix.ref, rfl, e, by rw [hl]; exact hw, ?_⟩
    have t2 : Iss ⟨X.K, Z⟩ H Hm ys vs.dropLast := by
      rw [hd]
      have := t.take ys.length
      rw [List.take_left] at this
      exact this
    have n1 : NT Hm H (updM Hm a (.lst ys)) (upd H a (.lst vs.dropLast)) := wr_nt nn
    exact k _ _ d _ n1 (wr_rep rep nn t2) (Is.nt rep n1 d w iw) q
  · rename_i a i
    obtain ⟨w, rfl, iw⟩ := is.one
    obtain ⟨ys, kk, d, hy, h1, h2, hk, hd, q⟩ := hr
    obtain ⟨vs, e, t⟩ := rep.obj _ _ hy
    have nn : Hm a ≠ none := by rw [hy]; simp
    obtain ⟨w2, hw, iw2⟩ := t.get hd
    refine mt_popAt pins s σ H x _ v us Q I rx r ⟨a, vs, i, kk, w2, ix.ref, by rw [iw.int], e, h1, h2, by rw [t.length]; exact (ixN_seq hk).1, hw, ?_⟩
    have n1 : NT Hm H (updM Hm a (.lst (ys.eraseIdx kk))) (upd H a (.lst (vs.eraseIdx kk))) := wr_nt nn
    exact k _ _ d _ n1 (wr_rep rep nn (iss_erase t kk)) (Is.nt rep n1 d w2 iw2) q
  · rename_i a i d
    obtain ⟨w, w2, rfl, iw, iw2⟩ := is.two
    obtain ⟨ys, hy, hz, h1, h2, q⟩ := hr
    obtain ⟨vs, e, t⟩ := rep.obj _ _ hy
    have nn : Hm a ≠ none := by rw [hy]; simp
    refine mt_insert pins s σ H x _ v us Q I rx r ⟨a, vs, i, w2, ix.ref, by rw [iw.int], e, by rw [t.length]; exact hz, h1, h2, ?_⟩
    exact k _ _ .non _ (wr_nt nn) (wr_rep rep nn (((t.take _).append (.cons iw2 .nil)).append (t.drop _))) is_non q
  · rename_i a b
    obtain ⟨w, rfl, iw⟩ := is.one
    obtain ⟨ys, zs, hy, hb, hz, q⟩ := hr
    obtain ⟨vs, e, t⟩ := rep.obj _ _ hy
    obtain ⟨ws, e2, t2⟩ := rep.obj _ _ hb
    have nn : Hm a ≠ none := by rw [hy]; simp
    refine mt_extend pins s σ H x _ v us Q I rx r ⟨a, b, vs, ws, ix.ref, by rw [iw.ref], e, e2, by rw [t.length, t2.length]; exact hz, ?_⟩
    exact k _ _ .non _ (wr_nt nn) (wr_rep rep nn (t.append t2)) is_non q
  · obtain ⟨w, rfl, iw⟩ := is.one
    exact mt_rstripChars pins s σ H x _ v us Q I rx r ⟨_, _, ix.str, by rw [iw.str], hr.1, k.here rep is_str hr.2⟩
  · obtain ⟨w, rfl, iw⟩ := is.one
    obtain ⟨ys, e, hz, q⟩ := hr
    cases z : seqAt Hm _ with
    | none => rw [z] at e; cases e
    | some zs =>
      rw [z] at e
      obtain ⟨p, vs, rfl, sq, t⟩ := seq_of rep iw z
      have e2 := strsD_of t e
      subst e2
      exact mt_join pins s σ H x _ v us Q I rx r ⟨_, p, ys, ix.str, rfl, sq, hz, k.here rep is_str q⟩
  · rename_i a
    have e0 := is.nil_of
    subst e0
    obtain ⟨ys, hy, q⟩ := hr
    obtain ⟨vs, e, t⟩ := rep.obj _ _ hy
    have nn : Hm a ≠ none := by rw [hy]; simp
    refine mt_reverse pins s σ H x _ v us Q I rx r ⟨a, vs, ix.ref, rfl, e, ?_⟩
    exact k _ _ .non _ (wr_nt nn) (wr_rep rep nn t.reverse) is_non q
  · have e0 := is.nil_of
    subst e0
    exact mt_upper pins s σ H x _ v us Q I rx r ⟨_, ix.str, rfl, hr.1, k.here rep is_str hr.2⟩
  · exact hr.elim
theorem mtTy_of {K : Kz} {H : Hp} {Hm : MH} {f : Mt} {d : D} {v : V} (r : Rep K H Hm) (i : Is K H Hm d v) (h : mtTy f d Hm) : tyV K.K f.ty v H := by
  unfold mtTy at h
  split at h
  · obtain ⟨a, xs, rfl, e⟩ := h
    obtain ⟨vs, q, _⟩ := r.obj _ _ e
    rw [i.ref]
    exact .inl ⟨rfl, vs, .inl (.inl q)⟩
  · obtain ⟨a, xs, rfl, e⟩ := h
    obtain ⟨vs, q, _⟩ := r.obj _ _ e
    rw [i.ref]
    exact .inl ⟨rfl, vs, .inl (.inl q)⟩
  · obtain ⟨a, xs, rfl, e⟩ := h
    obtain ⟨vs, q, _⟩ := r.obj _ _ e
    rw [i.ref]
    exact .inl ⟨rfl, vs, .inl (.inl q)⟩
  · obtain ⟨a, xs, rfl, e⟩ := h
    obtain ⟨vs, q, _⟩ := r.obj _ _ e
    rw [i.ref]
    exact .inl ⟨rfl, vs, .inl (.inl q)⟩
  · obtain ⟨z, rfl⟩ := h
    rw [i.str]
    exact rfl
  · obtain ⟨z, rfl⟩ := h
    rw [i.str]
    exact rfl
  · obtain ⟨z, rfl⟩ := h
    rw [i.str]
    exact rfl
  · obtain ⟨a, xs, rfl, e⟩ := h
    obtain ⟨vs, q, _⟩ := r.obj _ _ e
    rw [i.ref]
    exact .inl ⟨rfl, vs, .inl (.inl q)⟩
theorem de_mth {m : Bool} {f : Mt} {apos : Pos} (pa : PlainAttrs f.ty) (slot : Slot f.ty x f.id) (hty : typeOf (.builtin f.id) = pure (.type "method_descriptor")) (ho : DE C a ta) (ha : DA C (e :: es) t)
    (hbase : attributeBase a x C.X.env (eval a C.X.env) = eval a C.X.env)
    (hfew : ((backTo pos (starEach (e :: es) C.X.env)).all (fun x => !x.1) && (backToKw pos (keywordEach [] C.X.env)).all (fun x => x.1.isSome)
      && decide ((e :: es).length + ([] : List Keyword).length + (if ([] : List Keyword).isEmpty then 0 else 1) < 30)) = true)
    (hline : (apos.endLine == pos.line) = true) (hs : starEach (e :: es) C.X.env = (false, eval e C.X.env) :: starEach es C.X.env) (hplain : (backTo pos (starEach es C.X.env)).any (·.1) = false) :
    DE C (.Call (.Attribute a x apos) (e :: es) [] pos) (fun σ H Q => ta σ H fun x H1 => mtTy f x H1 ∧ t σ H1 fun ds H2 => mtD m f x ds H2 Q) :=
  PE.weak (pe_bm pa slot hty (mt_okD (m := m) (f := f)) ho ha hbase hfew hline hs hplain) fun σ H Q => by
    rintro ⟨σd, Hm, Qd, s, q, k⟩
    refine Lf.seq s q fun x H1 dx Hm1 n1 s1 ix q => ⟨mtTy_of s1.rep ix q.1, ?_⟩
    exact LfA.seq s1 q.2 fun vs H2 ds Hm2 n2 s2 is q => ⟨C.Z, dx, ds, Hm2, Qd, s2.rep, Is.nt s1.rep n2 dx x ix, is, q, (k.cut n1).cut n2⟩
theorem de_mth0 {m : Bool} {f : Mt} {apos : Pos} (pa : PlainAttrs f.ty) (slot : Slot f.ty x f.id) (hty : typeOf (.builtin f.id) = pure (.type "method_descriptor")) (ho : DE C a ta)
    (hbase : attributeBase a x C.X.env (eval a C.X.env) = eval a C.X.env) (hline : (apos.endLine == pos.line) = true) :
    DE C (.Call (.Attribute a x apos) [] [] pos) (fun σ H Q => ta σ H fun x H1 => mtTy f x H1 ∧ mtD m f x [] H1 Q) :=
  PE.weak (pe_bm0 pa slot hty (mt_okD (m := m) (f := f)) ho hbase hline) fun σ H Q => by
    rintro ⟨σd, Hm, Qd, s, q, k⟩
    exact Lf.seq s q fun x H1 dx Hm1 n1 s1 ix q => ⟨mtTy_of s1.rep ix q.1, C.Z, dx, [], Hm1, Qd, s1.rep, ix, .nil, q.2, k.cut n1⟩
/-- the promise of a def, closed -/
def Cl (K : PySem.W.Frag) (n : Nat) (c : Ctr) : Sp := fun vs H Q E => ∃ Z ds Hm Qd Ed, ds.length = n ∧ Rep ⟨K, Z⟩ H Hm ∧ Iss ⟨K, Z⟩ H Hm ds vs ∧ c ds Hm Qd Ed ∧ Bh ⟨K, Z⟩ Hm H Qd Q ∧
  ∀ nm cls a fo H' Hm', NT Hm H Hm' H' → Rep ⟨K, Z⟩ H' Hm' → ClsK K nm cls → XIs ⟨K, Z⟩ H' Hm' a fo → Ed nm fo Hm' → E cls a H'
/-- a def of the module that keeps its promise -/
def Has (X : Cx) (x : Str) (n : Nat) (c : Ctr) : Prop := ∃ f fd ps k, ps.length = n ∧ X.mg x = some (.ref f) ∧ PySem.W.keepIn X.K (.ref f) = true ∧ Binds X.K fd ps [] ∧ FnOk X.prog X.w X.K X.mg X.base (L2.CX X.prog X.w) k f fd ps (Cl X.K n c) ∧ Room k X.A
theorem de_call (ok : C.Ok) {n : Nat} {c : Ctr} (hF : Has C.X x n c) (hg : Gl C.X x) (ha : DA C (e :: es) t) (hdb : (x == ("__debug__" : Str)) = false)
    (he : starEach (e :: es) C.X.env = (false, eval e C.X.env) :: starEach es C.X.env) (hpl : (backTo pos (starEach es C.X.env)).any (·.1) = false) :
    DE C (.Call (.Name x p) (e :: es) [] pos) (fun σ H Q => t σ H fun ds H1 => ds.length = n ∧ c ds H1 Q (C.Ed σ)) := by
  obtain ⟨f, fd, ps, k, hl, hm, hk, hb, F, hr⟩ := hF
  refine PE.weak (pe_callSD F hr hg hm hk hb .nil (fun σ => passAt ok.tk σ) ha hdb he hpl) fun σ H Q => ?_
  rintro ⟨σd, Hm, Qd, s, q, k⟩
  refine LfA.seq s q fun vs H1 ds Hm1 n1 s1 is q => ?_
  rw [List.append_nil]
  exact ⟨C.Z, ds, Hm1, Qd, C.Ed σd, q.1, s1.rep, is, q.2, k.cut n1, fun nm cls a fo H' Hm' n' r' c' x' h => ok.w σ H' σd Hm' nm cls a fo (s1.nxt n' r') c' x' h⟩
theorem de_call0 (ok : C.Ok) {n : Nat} {c : Ctr} (hF : Has C.X x n c) (hg : Gl C.X x) (hdb : (x == ("__debug__" : Str)) = false) :
    DE C (.Call (.Name x p) [] [] pos) (fun σ H Q => 0 = n ∧ c [] H Q (C.Ed σ)) := by
  obtain ⟨f, fd, ps, k, hl, hm, hk, hb, F, hr⟩ := hF
  refine ⟨fun pins s σ H Q I h => ?_⟩
  refine wpAny_Call_Name_kw (ld_glob I hg hm ?_ hdb)
  obtain ⟨σd, Hm, Qd, s0, q, k⟩ := h
  refine PySem.W.callWith_K0 I.kIn hk (run_fnSD (us := []) (vs := []) (E := fun σ => WE C.W σ) F hr hb .nil (passAt ok.tk σ) I .nil ?_)
  exact ⟨C.Z, [], Hm, Qd, C.Ed σd, q.1, s0.rep, .nil, q.2, k, fun nm cls a fo H' Hm' n' r' c' x' h => ok.w σ H' σd Hm' nm cls a fo (s0.nxt n' r') c' x' h⟩

/-! ### targets -/
def Out (ts : List Nat) (σ σ' : L2.St) : Prop := σ'.length = σ.length ∧ ∀ i, i ∉ ts → σ'[i]? = σ[i]?
theorem Out.refl {ts : List Nat} {σ : L2.St} : Out ts σ σ := ⟨rfl, fun _ _ => rfl⟩
theorem Out.trans {ts us : List Nat} {σ σ1 σ2 : L2.St} (a : Out ts σ σ1) (b : Out us σ1 σ2) : Out (ts ++ us) σ σ2 := ⟨b.1.trans a.1, fun i h => by
  rw [List.mem_append, not_or] at h
  rw [b.2 i h.2, a.2 i h.1]⟩
theorem Out.wiped {ts vs : List Nat} {σ σ' : L2.St} (o : Out ts (wipe σ vs) σ') (h : ∀ i ∈ ts, i ∈ vs) : wipe σ' vs = wipe σ vs := by
  apply List.ext_getElem?
  intro i
  have l1 : σ'.length = σ.length := by rw [o.1, wipe_length]
  have g : ∀ (τ : L2.St) (vs : List Nat) (j : Nat), j ∈ vs → j < τ.length → (wipe τ vs)[j]? = some none := fun τ vs j => by
    induction vs with
    | nil => intro h; cases h
    | cons v vs ih =>
      intro h hl
      unfold L2.wipe
      by_cases e : v = j
      · subst e
        rw [List.getElem?_set_self (by rw [wipe_length]; exact hl)]
      · rw [List.getElem?_set_ne e]
        exact ih ((List.mem_cons.mp h).resolve_left fun z => e z.symm) hl
  by_cases hi : i ∈ vs
  · by_cases hl : i < σ.length
    · rw [g σ' vs i hi (l1 ▸ hl), g σ vs i hi hl]
    · rw [List.getElem?_eq_none (by rw [wipe_length, l1]; omega), List.getElem?_eq_none (by rw [wipe_length]; omega)]
  · rw [wipe_out hi, o.2 i fun z => hi (h i z)]
abbrev TGd := D → En → MH → (En → MH → Prop) → Prop
def LfG (C : Co) (ts : List Nat) (T : TGd) : TG := fun v σ H Q => ∃ d σd Hm Qd, Is C.K H Hm d v ∧ Rs C σd Hm σ H ∧ T d σd Hm Qd ∧ ∀ σ' H' σd' Hm', NT Hm H Hm' H' → Rs C σd' Hm' σ' H' → Out ts σ σ' → Qd σd' Hm' → Q σ' H'
def DG (C : Co) (ts : List Nat) (e : Expr) (T : TGd) : Prop := PG C.X e (LfG C ts T)
theorem PG.weak {X : Cx} {e : Expr} {t t' : TG} (h : PG X e t) (k : ∀ v σ H Q, t' v σ H Q → t v σ H Q) : PG X e t' := ⟨fun pins s σ H v u Q I r q => h.run pins s σ H v u Q I r (k v σ H Q q)⟩
abbrev TGsd := List D → En → MH → (En → MH → Prop) → Prop
def LfGs (C : Co) (ts : List Nat) (T : TGsd) : TGs := fun vs σ H Q => ∃ ds σd Hm Qd, Iss C.K H Hm ds vs ∧ Rs C σd Hm σ H ∧ T ds σd Hm Qd ∧ ∀ σ' H' σd' Hm', NT Hm H Hm' H' → Rs C σd' Hm' σ' H' → Out ts σ σ' → Qd σd' Hm' → Q σ' H'
def DGs (C : Co) (ts : List Nat) (es : List Expr) (T : TGsd) : Prop := PGs C.X es (LfGs C ts T)
theorem PGs.weak {X : Cx} {e : List Expr} {t t' : TGs} (h : PGs X e t) (k : ∀ v σ H Q, t' v σ H Q → t v σ H Q) : PGs X e t' := ⟨fun pins s σ H v u Q I r q => h.run pins s σ H v u Q I r (k v σ H Q q)⟩
theorem dg_name (ok : C.Ok) {i : Nat} (hi : C.X.N[i]? = some x) (hx : Loc C.X.env.scope x) (hf : C.X.fn x = true ∨ C.X.env.scope.names.lookup x = some .local) :
    DG C [i] (.Name x pos) (fun d σ H Q => Q (σ.set i (some d)) H) := PG.weak (pg_name ok.x.nd hi hx hf) fun v σ H Q => by
  rintro ⟨d, σd, Hm, Qd, iv, s, q, k⟩
  refine k _ H _ Hm .refl (s.set i iv) ⟨by rw [List.length_set], fun j hj => ?_⟩ q
  rw [List.getElem?_set_ne (fun z => hj (by rw [z]; exact List.mem_cons_self))]
theorem dgs_nil : DGs C [] [] (fun ds σ H Q => ds = [] ∧ Q σ H) := PGs.weak pgs_nil fun v σ H Q => by
  rintro ⟨ds, σd, Hm, Qd, iv, s, ⟨rfl, q⟩, k⟩
  exact ⟨iv.nil_of, k σ H σd Hm .refl s .refl q⟩
theorem dgs_cons {ts us : List Nat} {t : TGd} {u : TGsd} (h1 : DG C ts e t) (h2 : DGs C us es u) (hs : (assignEach (e :: es) C.X.env).map (·.2) = assign e C.X.env :: (assignEach es C.X.env).map (·.2)) :
    DGs C (ts ++ us) (e :: es) (fun ds σ H Q => ∃ d r, ds = d :: r ∧ t d σ H fun σ1 H1 => u r σ1 H1 Q) := PGs.weak (pgs_cons h1 h2 hs) fun v σ H Q => by
  rintro ⟨ds, σd, Hm, Qd, iv, s, ⟨d, r, rfl, q⟩, k⟩
  obtain ⟨w, vr, rfl, i1, i2⟩ := iv.cons_of
  refine ⟨w, vr, rfl, d, σd, Hm, _, i1, s, q, fun σ1 H1 σd1 Hm1 n1 s1 o1 q => ?_⟩
  exact ⟨r, σd1, Hm1, Qd, Iss.nt s.rep n1 _ _ i2, s1, q, fun σ2 H2 σd2 Hm2 n2 s2 o2 q => k σ2 H2 σd2 Hm2 (n1.trans n2) s2 (o1.trans o2) q⟩
theorem dg_tup (ok : C.Ok) (hcl : C.X.calm = true) {ts : List Nat} {u : TGsd} {k0 l : Nat} (h : DGs C ts es u) (hst : (assignEach es C.X.env).findIdx? (·.1) = none)
    (hn : (assignEach es C.X.env).length = l) : DG C ts (.Tuple es k0 pos) (fun d σ H Q => ∃ ds, d = .tup ds ∧ ds.length = l ∧ u ds σ H Q) :=
  PG.weak (pg_tup (n := l) hcl h hn hst) fun v σ H Q => by
    rintro ⟨d, σd, Hm, Qd, iv, s, ⟨ds, rfl, hl, q⟩, k⟩
    obtain ⟨a, vs, rfl, sq, t⟩ := iv.tup
    exact ⟨a, vs, rfl, sq, by rw [t.length]; exact hl, ds, σd, Hm, Qd, t, s, q, k⟩
/-- a[i] = d of a list that is tracked -/
theorem set_okD {X : Cx} : PSet X fun o i v H Q => ∃ (Z : Addr → Prop) (dx dy dv : D) (Hm : MH) (Qd : MH → Prop), Rep ⟨X.K, Z⟩ H Hm ∧ Is ⟨X.K, Z⟩ H Hm dx o ∧ Is ⟨X.K, Z⟩ H Hm dy i ∧ Is ⟨X.K, Z⟩ H Hm dv v ∧
    (∃ p xs i j, dx = .ref p ∧ dy = .int i ∧ Hm p = some (.lst xs) ∧ ixN xs.length i = some j ∧ Qd (updM Hm p (.lst (xs.set j dv)))) ∧ ∀ H' Hm', NT Hm H Hm' H' → Rep ⟨X.K, Z⟩ H' Hm' → Qd Hm' → Q H' := by
  intro pins s σ H o i v ov iv u Q I ro ri rv h
  obtain ⟨Z, dx, dy, dv, Hm, Qd, rep, ix, iy, id, ⟨p, xs, n, j, rfl, rfl, hp, hj, q⟩, k⟩ := h
  obtain ⟨vs, e, t⟩ := rep.obj _ _ hp
  have nn : Hm p ≠ none := by rw [hp]; simp
  exact set_list pins s σ H o i v ov iv u Q I ro ri rv ⟨p, vs, n, j, ix.ref, iy.int, e, by rw [t.length]; exact hj, k _ _ (wr_nt nn) (wr_rep rep nn (t.set j id)) q⟩
theorem dg_sub {b : Expr} {tb : TD} (ho : DE C a ta) (hi : DE C b tb)
    (hs : ∀ v, assign (.Subscript a b pos) C.X.env v = (do
      let ov ← holding [v] (eval a C.X.env)
      let iv ← holding [v, ov] (eval b C.X.env)
      standAt pos
      holding [v, ov, iv] (setItem ov iv v)
      release [v, ov, iv] [])) :
    DG C [] (.Subscript a b pos) (fun d σ H Q => ta σ H fun x H1 => tb σ H1 fun y H2 => ∃ p xs i j, x = .ref p ∧ y = .int i ∧ H2 p = some (.lst xs) ∧ ixN xs.length i = some j ∧ Q σ (updM H2 p (.lst (xs.set j d)))) :=
  PG.weak (pg_sub ho hi set_okD hs) fun v σ H Q => by
    rintro ⟨d, σd, Hm, Qd, iv, s, q, k⟩
    refine Lf.seq s q fun x H1 dx Hm1 n1 s1 ix q => ?_
    refine Lf.seq s1 q fun y H2 dy Hm2 n2 s2 iy q => ?_
    exact ⟨C.Z, dx, dy, d, Hm2, fun Hm' => Qd σd Hm', s2.rep, Is.nt s1.rep n2 dx x ix, iy, Is.nt s.rep (n1.trans n2) d v iv, q, fun H' Hm' n r q => k σ H' σd Hm' ((n1.trans n2).trans n) (s2.nxt n r) .refl q⟩
theorem dg_dsub (ok : C.Ok) {wt : List Key → Bool} (hw : WtOk C.X.K wt) {b : Expr} {tb : TD} (ho : DE C a ta) (hi : DE C b tb)
    (hs : ∀ v, assign (.Subscript a b pos) C.X.env v = (do
      let ov ← holding [v] (eval a C.X.env)
      let iv ← holding [v, ov] (eval b C.X.env)
      standAt pos
      holding [v, ov, iv] (setItem ov iv v)
      release [v, ov, iv] [])) :
    DG C [] (.Subscript a b pos) (fun d σ H Q => ta σ H fun x H1 => tb σ H1 fun y H2 => putW wt x y d H2 (Q σ)) :=
  PG.weak (pg_sub ho hi (set_dW hw ok.units) hs) fun v σ H Q => by
    rintro ⟨d, σd, Hm, Qd, iv, s, q, k⟩
    refine Lf.seq s q fun x H1 dx Hm1 n1 s1 ix q => ?_
    refine Lf.seq s1 q fun y H2 dy Hm2 n2 s2 iy q => ?_
    exact ⟨C.Z, dx, dy, d, Hm2, fun Hm' => Qd σd Hm', s2.rep, Is.nt s1.rep n2 dx x ix, iy, Is.nt s.rep (n1.trans n2) d v iv, q, fun H' Hm' n r q => k σ H' σd Hm' ((n1.trans n2).trans n) (s2.nxt n r) .refl q⟩
theorem dg_dsubT (ok : C.Ok) {es : List Expr} {x1} {p2 : Pos} {t : TAd} (ho : DE C a ta) (hi : DA C es t) :
    DG C [] (.Subscript a (.Tuple es x1 p2) pos) (fun d σ H Q => ta σ H fun x H1 => t σ H1 fun ds H2 => ds.length ≤ sizeLine ∧ ∃ p kvs ks, x = .ref p ∧ keysD ds = some ks ∧ H2 p = some (.dt kvs) ∧ kvs.length < sizeLine ∧ Q σ (updM H2 p (.dt (putD kvs ks d)))) :=
  PG.weak (pg_sub ho (pe_tup hi) (set_dtD ok.units) (fun _ => rfl)) fun v σ H Q => by
    rintro ⟨d, σd, Hm, Qd, iv, s, q, k⟩
    refine Lf.seq s q fun x H1 dx Hm1 n1 s1 ix q => ?_
    refine LfA.seq s1 q fun vs H2 ds Hm2 n2 s2 is q => ?_
    obtain ⟨hl, q⟩ := q
    refine ⟨by rw [is.length]; exact hl, fun b hb => ?_⟩
    have n3 : NT Hm2 H2 Hm2 (upd H2 b (.tup vs)) := ext_nt hb
    have s3 := s2.nxt n3 (s2.rep.ext hb)
    exact ⟨C.Z, dx, d, ds, vs, b, Hm2, fun Hm' => Qd σd Hm', s3.rep, Is.nt s1.rep (n2.trans n3) dx x ix, rfl, upd_same, Iss.nt s2.rep n3 _ _ is, Is.nt s.rep ((n1.trans n2).trans n3) d v iv, q, fun H' Hm' n r q => k σ H' σd Hm' (((n1.trans n2).trans n3).trans n) (s3.nxt n r) .refl q⟩
end
end DL

namespace RT
open PySem PySem.Spec PyProof.Rows
section
variable {prog : Program} {w : World} {A : Around} {E : Value → Shared → Prop} {s : Shared}
/-- list(reversed(list)) -/
theorem call_list_rev {it l : Addr} {items : Array Value} {Q : Value → Shared → Prop} (hh : A.handled = none) (hit : s.heap.IsRevIter it l ((items.size : Int) - 1)) (hl : s.heap.IsList l items) (hne : l ≠ it) (hn : items.size ≤ sizeLine)
    (hQ : ∀ (h' : Heap) (tk : Nat) (acc : Array Value) (c : Nat), (∀ b o, b ≠ it → s.heap.get? b = some o → h'.get? b = some o) → h'.get? s.heap.objs.size = some { cls := .type "list", data := .seq acc c } → ItemsOf (fun i v => items[items.size - 1 - i]? = some v) acc items.size →
      Q (.ref s.heap.objs.size) { s with heap := h', toks := tk }) :
    wpAny (model prog w) A (call (.type "list") [.ref it]) Q E s := by
  have W := (Walks.listRev (prog := prog) (w := w) (A := A.in1.in1) hh it l hne items).toS
  obtain ⟨oi, hoi, _⟩ := id hit
  obtain ⟨ol, hol, _⟩ := id hl
  have hSi : s.heap.objs.size ≠ it := Nat.ne_of_gt (Heap.lt_size hoi)
  have hSl : s.heap.objs.size ≠ l := Nat.ne_of_gt (Heap.lt_size hol)
  have hSf : s.heap.objs.size ∉ [it, l] := by simp only [List.mem_cons, List.not_mem_nil, or_false, not_or]; exact ⟨hSi, hSl⟩
  refine callType_codes (Q₁ := fun obj s₁ => obj = .ref s.heap.objs.size ∧ s₁ = { s with heap := s.heap.push { cls := .type "list", data := .seq #[] } }) F.called_list (F.typeCall_list_1 _) F.entry_list_init
    (code_list_new _ ⟨rfl, rfl⟩) fun obj s₁ h₁ => ?_
  obtain ⟨rfl, rfl⟩ := h₁
  have hS : (s.heap.push { cls := .type "list", data := .seq #[] }).get? s.heap.objs.size = some { cls := .type "list", data := .seq #[] } := Heap.get?_push_size _ rfl
  refine ⟨⟨_, hS, rfl⟩, F.args_list_init_2 _ _, ?_⟩
  show wpAny _ A.in1.in1 (do let old ← Builtin.List.listItems (.ref s.heap.objs.size); Builtin.List.listUpdate (.ref s.heap.objs.size) (fun _ => #[]); letGo old.toList.reverse; Builtin.List.listExtendWith (.ref s.heap.objs.size) (.ref it) .none) _ _ _
  refine wpAny_bind ?_
  unfold Builtin.List.listItems
  refine wpAny_bind (wpAny_seqItems hS rfl (wpAny_pure ?_))
  show wpAny _ A.in1.in1 (updateSeq s.heap.objs.size (fun _ => #[]) >>= fun _ => letGo (#[] : Array Value).toList.reverse >>= fun _ => Builtin.List.listExtendWith (.ref s.heap.objs.size) (.ref it) .none) _ _ _
  refine wpAny_bind (wpAny_updateSeq hS rfl ?_)
  have hS2 := Heap.get?_update_self (Obj.mapSeq (fun _ => (#[] : Array Value))) hS rfl
  refine wpAny_bind (wpAny_letGo ?_)
  have up : ∀ (h : Heap) (f : Obj → Obj), (∀ b o, s.heap.get? b = some o → h.get? b = some o) → ∀ b o, s.heap.get? b = some o → (h.update s.heap.objs.size f).get? b = some o := fun h f q b o e =>
    (Heap.get?_update_other _ _ (Ne.symm (Nat.ne_of_lt (Heap.lt_size e)))).trans (q b o e)
  have k1 : ∀ b o, s.heap.get? b = some o → (s.heap.push { cls := .type "list", data := .seq #[] }).get? b = some o := fun b o e => Heap.get?_push_of_some _ e
  have k2 := up _ (Obj.mapSeq (fun _ => (#[] : Array Value))) k1
  have hit1 := hit.at (fun o e => k2 _ o e)
  have hl1 : (Heap.update (s.heap.push { cls := .type "list", data := .seq #[] }) s.heap.objs.size (Obj.mapSeq (fun _ => (#[] : Array Value)))).IsList l items := by
    obtain ⟨o, ho, r⟩ := hl
    exact ⟨o, k2 _ o ho, r⟩
  have hT : ({ s with heap := (s.heap.push { cls := .type "list", data := .seq #[] }).update s.heap.objs.size (Obj.mapSeq (fun _ => (#[] : Array Value))) } : Shared).TypeIs (.ref it) "list_reverseiterator" := Heap.IsRevIter.typeIs (s := { s with heap := _ }) hit1
  have h1 : Builtin.List.listSameRef (.ref s.heap.objs.size) (.ref it) = false := by simp [Builtin.List.listSameRef, hSi]
  unfold Builtin.List.listExtendWith
  refine wpAny_bind (wpAny_typeOf hT ?_)
  rw [if_neg (by rw [h1]; decide)]
  refine wpAny_bind (wpAny_pyIter_revIter (s := { s with heap := _ }) hit1 ?_)
  refine wpAny_bind (wpAny_holding ?_)
  unfold Builtin.List.listLengthHint
  refine wpAny_bind (wpAny_specialOf hT nolen_lri ?_)
  show wpAny _ A.in1.in1 (specialOf (Value.ref it) (Str.ofString "__length_hint__") >>= _) _ _ _
  refine wpAny_bind (wpAny_specialOf hT hint_lri ?_)
  generalize hid : ("list_reverseiterator.__length_hint__" : String) = id0
  wp_delta
  rw [show splitId id0 = some ("list_reverseiterator", "__length_hint__") from by subst hid; decide +kernel]
  subst hid
  refine wpAny_bind (wpAny_isInstance (b := true) hT (by rw [isSubtype_type]; kernel_rfl) ?_)
  refine wpAny_pure ?_
  rw [if_neg (by decide)]
  have e0 : ((items.size : Nat) : Int) - 1 - ((0 : Nat) : Int) = (items.size : Int) - 1 := by omega
  refine wpAny_pure ⟨plainId_quiet F.plain_extend_loop _, codeAny_extend_loopS W hn _ hSf _ items.size 0 _ _ _ rfl (Nat.zero_le _) ⟨Nat.zero_le _, by rw [e0]; exact hit1, hl1⟩ hS2 (ItemsOf.nil _) fun s' acc' c' hm hS' hacc => ?_⟩
  rw [Moved.eq_with hm]
  refine ⟨rfl, ?_⟩
  refine hQ s'.heap s'.toks acc' c' (fun b o hb e => hm.heap b o (fun hmem => ?_) (k2 _ _ e)) hS' hacc
  rcases List.mem_cons.mp hmem with e' | hmem
  · exact absurd (Heap.lt_size e) (by rw [e']; exact Nat.lt_irrefl _)
  · exact hb (List.mem_singleton.mp hmem)
end
end RT
namespace L2
open PySem PySem.Spec PyProof.Rows
/-- list(reversed(x)), x a list: a new list -/
def tLstRev (K : PySem.W.Frag) (te : TE) : TE := fun σ H Q => te σ H fun v H1 => ∃ (a : Addr) (xs : List V), v = .ref a ∧ SqL K H1 a xs ∧ ∀ q, H1 q = none → Q (.ref q) (upd H1 q (.lst xs.reverse))
section
variable {X : Cx}
theorem pe_listRev {e : Expr} {te : TE} {p p2 pos pos2 : Pos} (hc : X.calm = true) (hg : Gl X "list") (hm : X.mg "list" = none) (hg2 : Gl X "reversed") (hm2 : X.mg "reversed" = none) (he : PE X e te)
    (hs : starEach [e] X.env = (false, eval e X.env) :: starEach [] X.env := by rfl)
    (hs2 : starEach [.Call (.Name "reversed" p2) [e] [] pos2] X.env = (false, eval (.Call (.Name "reversed" p2) [e] [] pos2) X.env) :: starEach [] X.env := by rfl) :
    PE X (.Call (.Name "list" p) [.Call (.Name "reversed" p2) [e] [] pos2] [] pos) (tLstRev X.K te) := by
  refine ⟨fun pins s σ H Q I h => ?_⟩
  refine Call_ (ld_blt I hg hm PyProof.Rows.boot_list (PyProof.Rows.callWith_type1 (args_cons (Call_ (ld_blt I hg2 hm2 PyProof.Rows.boot_reversed (PyProof.Rows.callWith_type1 (args_cons (thn (he.run pins s σ H _ I h) fun u s1 ⟨v, H1, I1, r1, q1⟩ => args_nil ?_) hs) hs rfl))) hs2) hs2 rfl))
  obtain ⟨a, xs, ev, hq, q⟩ := q1
  subst ev
  obtain rfl : u = Value.ref a := r1
  obtain ⟨its, rv, p', hz⟩ := I1.list hq
  refine call_reversed_list p'.isList (args_nil ?_)
  have k0 : ∀ b o, s1.heap.get? b = some o → (s1.heap.push (revObj a ((its.toArray.size : Int) - 1))).get? b = some o := fun b o e => Heap.get?_push_of_some _ e
  have I2 : Inv X pins σ H1 { s1 with heap := s1.heap.push (revObj a ((its.toArray.size : Int) - 1)) } := I1.kept (t' := s1.toks) k0
  obtain ⟨f0, f1, f2, f3, f4, f5⟩ := I1.fpOk (H' := H1) (b := s1.heap.objs.size) (Nat.le_refl _) (I1.hok.fresh (Nat.le_refl _))
  have hl := p'.isList
  obtain ⟨ol, hol, _⟩ := id hl
  have hne : a ≠ s1.heap.objs.size := Nat.ne_of_lt (Heap.lt_size hol)
  have hn : its.toArray.size ≤ sizeLine := by rw [List.size_toArray, ← rv.length]; exact hz
  have hsz : (s1.heap.push (revObj a ((its.toArray.size : Int) - 1))).objs.size = s1.heap.objs.size + 1 := by simp [Heap.push]
  refine RT.call_list_rev (s := { s1 with heap := s1.heap.push (revObj a ((its.toArray.size : Int) - 1)) }) (I1.ok.hd hc) ⟨_, Heap.get?_push_size _ rfl, rfl, rfl⟩ (hl.push _) hne hn fun h' tk acc c hk hS hi => ?_
  have I3 : Inv X pins σ H1 { s1 with heap := h', toks := tk } := I2.turned (t' := tk) (fun b o hb e => hk b o hb e) f0 f1 f3 f4 f5
  have hge : s1.heap.objs.size ≤ (s1.heap.push (revObj a ((its.toArray.size : Int) - 1))).objs.size := by omega
  have new : ObjOk X.prog X.w (upd H1 (s1.heap.push (revObj a ((its.toArray.size : Int) - 1))).objs.size (.lst xs.reverse)) h' (s1.heap.push (revObj a ((its.toArray.size : Int) - 1))).objs.size (.lst xs.reverse) :=
    ⟨by rw [List.length_reverse]; exact hz, acc.toList, c, RT.vals_rev rv hi, by rw [Array.toArray_toList]; exact hS⟩
  have I3 := I1.turnedNew (t' := tk) (ch := [s1.heap.objs.size]) (h' := h') (fun b o hb e => hk b o (fun z => hb (by rw [z]; exact List.mem_singleton.mpr rfl)) (k0 b o e)) (fun b hb => by
    have e : b = s1.heap.objs.size := by simpa using hb
    subst e
    exact ⟨f0, f1, f2, f3, f4, f5⟩) hge new
  exact ⟨.ref _, _, I3, rfl, q _ (I1.hok.fresh hge)⟩
end
end L2
namespace L2
open PySem PySem.Spec PyProof.Rows
/-! ### ranges of any size -/
theorem turn_long {P : Program} {w : World} {K : PySem.W.Frag} {tg : Expr} (it : Addr) (lo : Int) (n : Nat) : Turn P w K tg (Itr lo n) [it] it (fun i h => IsLongIter h it (lo + (i : Nat) * 1) ((n : Int) - (i : Nat)) 1) where
  mem := by simp
  obj := fun i h st b hb => by
    have e : b = it := by simpa using hb
    subst e
    exact ⟨_, st, fun v z => by
      have z' : Data.fields _ = Data.cell v := z
      cases z'⟩
  keep := fun i h h' st k => k it (by simp) _ st
  item := by
    intro X hP hw hK hc i pins s σ H E I hf st hg
    subst hP hw hK
    obtain ⟨f0, f1, f2, f3, f4, f5⟩ := hf it (by simp)
    have W := Walks.longrange (prog := X.prog) (w := X.w) (I.ok.hd hc) it lo 1 n
    refine W.item i s _ _ hg st fun v h' tk hv st' kk => ?_
    obtain ⟨t, rfl⟩ := hv
    have I1 : Inv X pins σ H { s with heap := h', toks := tk } := I.turned (fun b o hb e => kk b o (by simpa using hb) e) f0 f1 f3 f4 f5
    refine ⟨_, rfl, go_of (s := { s with heap := h', toks := tk }) (n := "longrange_iterator") st' rfl rfl (by decide) ⟨.int (lo + i), H, I1, ⟨t, ?_⟩, ⟨rfl, rfl⟩, st', fun b hb => (hf b hb).1⟩⟩
    rw [Int.mul_one]
  done := by
    intro X hP hw hK hc i pins s σ H E I hf st hg
    subst hP hw hK
    obtain ⟨f0, f1, f2, f3, f4, f5⟩ := hf it (by simp)
    exact wpAny_pyNext_long_end (I.ok.hd hc) st (by have : n ≤ i := hg; omega) fun h' eb => ⟨rfl, I.turned (t' := s.toks) (fun b o hb e => eb b o hb e) f0 f1 f3 f4 f5⟩
  self := fun _ _ _ _ _ st h => wpAny_pyIter_longiter st h
section
variable {X : Cx} {tg : Expr}
theorem range_itA {pins : List (Addr × Obj)} {σ : St} {H : Hp} {s : Shared} {R : It → Hp → Prop} {E : Value → Shared → Prop} {lo hi : Int} {t u v : Tok} {tk : Nat} (I : Inv X pins σ H s)
    (q : R (Itr lo (hi - lo).toNat) H) : wpAny (model X.prog X.w) X.A (pyIter (.ref s.heap.objs.size)) (PIE X pins σ tg R) E { s with heap := s.heap.push { cls := .type "range", data := .fields #[.int lo t, .int hi u, .int 1 v] }, toks := tk } := by
  have I1 : Inv X pins σ H { s with heap := s.heap.push { cls := .type "range", data := .fields #[.int lo t, .int hi u, .int 1 v] }, toks := tk } := I.kept fun b o e => Heap.get?_push_of_some _ e
  have e1 : lo + ((0 : Nat) : Int) * 1 = lo := by simp
  have e2 : (((hi - lo).toNat : Nat) : Int) - ((0 : Nat) : Int) = Builtin.Range.rangeSize lo hi 1 := by rw [rangeSize_one]; split <;> omega
  have fp : ∀ b ∈ [(s.heap.push { cls := .type "range", data := .fields #[.int lo t, .int hi u, .int 1 v] }).objs.size], FpOk X pins H b := fun b hb => by
    have e : b = (s.heap.push { cls := .type "range", data := .fields #[.int lo t, .int hi u, .int 1 v] }).objs.size := by simpa using hb
    subst e
    exact I1.fpOk (Nat.le_refl _) (I1.hok.fresh (Nat.le_refl _))
  cases hs : Builtin.Range.small lo hi 1 with
  | true =>
    refine wpAny_pyIter_range (IsRange.new ..) hs ?_
    refine ⟨(s.heap.push { cls := .type "range", data := .fields #[.int lo t, .int hi u, .int 1 v] }).objs.size, [(s.heap.push { cls := .type "range", data := .fields #[.int lo t, .int hi u, .int 1 v] }).objs.size], _, _, H, rfl,
      I1.kept (t' := tk) fun b o e => Heap.get?_push_of_some _ e, turn_range _ lo (hi - lo).toNat, ?_, fp, q⟩
    show IsRangeIter _ _ (lo + ((0 : Nat) : Int) * 1) ((((hi - lo).toNat : Nat) : Int) - ((0 : Nat) : Int)) 1
    rw [e1, e2]
    exact Heap.get?_push_size _ rfl
  | false =>
    refine wpAny_pyIter_longrange (IsRange.new ..) hs ?_
    refine ⟨(s.heap.push { cls := .type "range", data := .fields #[.int lo t, .int hi u, .int 1 v] }).objs.size, [(s.heap.push { cls := .type "range", data := .fields #[.int lo t, .int hi u, .int 1 v] }).objs.size], _, _, H, rfl,
      I1.kept (t' := tk) fun b o e => Heap.get?_push_of_some _ e, turn_long _ lo (hi - lo).toNat, ?_, fp, q⟩
    show IsLongIter _ _ (lo + ((0 : Nat) : Int) * 1) ((((hi - lo).toNat : Nat) : Int) - ((0 : Nat) : Int)) 1
    rw [e1, e2]
    exact Heap.get?_push_size _ rfl
def iRng1A (ta : TA) : TI := fun σ H R => ta σ H fun vs H1 => ∃ j : Int, vs = [.int j] ∧ R (Itr 0 j.toNat) H1
def iRng2A (ta : TA) : TI := fun σ H R => ta σ H fun vs H1 => ∃ i j : Int, vs = [.int i, .int j] ∧ R (Itr i (j - i).toNat) H1
theorem pi_range1A {a : Expr} {ta : TA} {p pos : Pos} (hg : Gl X "range") (hm : X.mg "range" = none) (ha : PA X [a] ta) (hs : starEach [a] X.env = [(false, eval a X.env)] := by rfl) : PI X tg (.Call (.Name "range" p) [a] [] pos) (iRng1A ta) := by
  refine ⟨fun pins s σ H R I h => ?_⟩
  refine Call_ (ld_blt I hg hm boot_range (PyProof.Rows.callWith_type1 (thn (ha.run pos pins s σ H _ I h) fun us s1 ⟨vs, H1, I1, r1, q1⟩ => ?_) hs rfl))
  obtain ⟨j, e, q⟩ := q1
  subst e
  cases r1 with
  | cons r rr =>
    cases rr
    obtain ⟨t, rfl⟩ := r
    exact call_range_1 (range_itA I1 (by simpa using q))
theorem pi_range2A {a b : Expr} {ta : TA} {p pos : Pos} (hg : Gl X "range") (hm : X.mg "range" = none) (ha : PA X [a, b] ta) (hs : starEach [a, b] X.env = [(false, eval a X.env), (false, eval b X.env)] := by rfl) (hs2 : starEach [b] X.env = [(false, eval b X.env)] := by rfl) :
    PI X tg (.Call (.Name "range" p) [a, b] [] pos) (iRng2A ta) := by
  refine ⟨fun pins s σ H R I h => ?_⟩
  refine Call_ (ld_blt I hg hm boot_range (PyProof.Rows.callWith_type1 (thn (ha.run pos pins s σ H _ I h) fun us s1 ⟨vs, H1, I1, r1, q1⟩ => ?_) (by rw [hs, hs2]) (by rw [hs2]; rfl)))
  obtain ⟨i, j, e, q⟩ := q1
  subst e
  cases r1 with
  | cons r rr =>
    cases rr with
    | cons r' rr =>
      cases rr
      obtain ⟨t, rfl⟩ := r
      obtain ⟨t', rfl⟩ := r'
      exact call_range_2 (range_itA I1 q)
end
end L2
namespace DL
open PySem PySem.Spec PyProof.Rows L2
section
variable {C : Co} {a : Expr} {ta : TD}
theorem de_rvl (ok : C.Ok) (hcl : C.X.calm = true) {m : Bool} {p p2 pos pos2 : Pos} (hg : Gl C.X "list") (hm : C.X.mg "list" = none) (hg2 : Gl C.X "reversed") (hm2 : C.X.mg "reversed" = none) (ha : DE C a ta)
    (hs : starEach [a] C.X.env = (false, eval a C.X.env) :: starEach [] C.X.env) :
    DE C (.Call (.Name "list" p) [.Call (.Name "reversed" p2) [a] [] pos2] [] pos) (fun σ H Q => ta σ H fun x H1 => ∃ xs, lstAt H1 x = some xs ∧ freshL m xs.reverse H1 Q) :=
  PE.weak (pe_listRev hcl hg hm hg2 hm2 ha hs) fun σ H Q => by
    rintro ⟨σd, Hm, Qd, s, q, k⟩
    refine Lf.seq s q fun x H1 dx Hm1 n1 s1 ix q => ?_
    obtain ⟨xs, e, q⟩ := q
    obtain ⟨a, vs, rfl, sq, t⟩ := lst_of s1.rep ix e
    exact ⟨a, vs, rfl, sq, (k.cut n1).lst s1.rep t.reverse q⟩
end
end DL
namespace DL
open PySem PySem.Spec PyProof.Rows L2
/-! ### {int: v, ..}: a dict that is never read -/
inductive KeyIs : List Key → List (Option Expr) → Prop where
  | nil : KeyIs [] []
  | cons {i : Int} {n} {p : Pos} {ks : List Key} {keys : List (Option Expr)} (h : KeyIs ks keys) : KeyIs (.inl i :: ks) (some (.Constant (.int i) n p) :: keys)
  | conss {i : Str} {n} {p : Pos} {ks : List Key} {keys : List (Option Expr)} (h : KeyIs ks keys) : KeyIs (.inr i :: ks) (some (.Constant (.str i) n p) :: keys)
theorem KeyIs.some' {ks : List Key} {keys : List (Option Expr)} (h : KeyIs ks keys) : keys.all (·.isSome) = true := by
  induction h with
  | nil => rfl
  | cons h ih => rw [List.all_cons, ih]; rfl
  | conss h ih => rw [List.all_cons, ih]; rfl
theorem KeyIs.length {ks : List Key} {keys : List (Option Expr)} (h : KeyIs ks keys) : keys.length = ks.length := by
  induction h with
  | nil => rfl
  | cons h ih => rw [List.length_cons, List.length_cons, ih]
  | conss h ih => rw [List.length_cons, List.length_cons, ih]
def LfP (C : Co) (ks : List Key) (T : TAd) (σ : L2.St) (H : Hp) (Q : List (V × V) → Hp → Prop) : Prop := ∃ σd Hm Qd, Rs C σd Hm σ H ∧ T σd Hm Qd ∧
  ∀ vs H' ds Hm', NT Hm H Hm' H' → Rep C.K H' Hm' → Iss C.K H' Hm' ds vs → Qd ds Hm' → Q ((ks.zip vs).map fun kv => (kV kv.1, kv.2)) H'
def DPs (C : Co) (pos : Pos) (keys : List (Option Expr)) (values : List Expr) (ks : List Key) (T : TAd) : Prop := ∃ trs, PPs C.X pos keys values trs ∧ ∀ σ H Q, LfP C ks T σ H Q → tPairs trs σ H Q
section
variable {C : Co} {pos : Pos}
theorem dps_nil : DPs C pos [] [] [] (fun σ H Q => Q [] H) := ⟨[], pps_nil, fun σ H Q => by
  rintro ⟨σd, Hm, Qd, s, q, k⟩
  exact k [] H [] Hm .refl s.rep .nil q⟩
theorem dps_cons {keys : List (Option Expr)} {v : Expr} {vs : List Expr} {i : Int} {n} {p : Pos} {ks : List Key} {tv : TD} {T : TAd} (hv : DE C v tv) (hr : DPs C pos keys vs ks T) :
    DPs C pos (some (.Constant (.int i) n p) :: keys) (v :: vs) (.inl i :: ks) (fun σ H Q => tv σ H fun x H1 => T σ H1 fun xs H2 => Q (x :: xs) H2) := by
  obtain ⟨trs, pp, ht⟩ := hr
  refine ⟨_, pps_cons pe_int hv pp, fun σ H Q => ?_⟩
  rintro ⟨σd, Hm, Qd, s, q, k⟩
  refine Lf.seq s q fun x H1 dx Hm1 n1 s1 ix q => ?_
  refine ht _ _ _ ⟨σd, Hm1, _, s1, q, fun ws H2 ds Hm2 n2 r2 is q => ?_⟩
  exact k (x :: ws) H2 (dx :: ds) Hm2 (n1.trans n2) r2 (.cons (Is.nt s1.rep n2 dx x ix) is) q
theorem dps_conss {keys : List (Option Expr)} {v : Expr} {vs : List Expr} {i : Str} {n} {p : Pos} {ks : List Key} {tv : TD} {T : TAd} (hv : DE C v tv) (hr : DPs C pos keys vs ks T) :
    DPs C pos (some (.Constant (.str i) n p) :: keys) (v :: vs) (.inr i :: ks) (fun σ H Q => tv σ H fun x H1 => T σ H1 fun xs H2 => Q (x :: xs) H2) := by
  obtain ⟨trs, pp, ht⟩ := hr
  refine ⟨_, pps_cons pe_str hv pp, fun σ H Q => ?_⟩
  rintro ⟨σd, Hm, Qd, s, q, k⟩
  refine Lf.seq s q fun x H1 dx Hm1 n1 s1 ix q => ?_
  refine ht _ _ _ ⟨σd, Hm1, _, s1, q, fun ws H2 ds Hm2 n2 r2 is q => ?_⟩
  exact k (x :: ws) H2 (dx :: ds) Hm2 (n1.trans n2) r2 (.cons (Is.nt s1.rep n2 dx x ix) is) q
theorem iss_dk {K : Kz} {H : Hp} {Hm : MH} {p : Addr} {kv0 kv1 : List (Key × V)} (e : H p = some (.dK kv0)) (ds : List D) (vs : List V) (t : Iss K H Hm ds vs) : Iss K (upd H p (.dK kv1)) Hm ds vs :=
  Iss.tr rfl (fun a ys q => by
    rcases q with q | q
    · exact .inl (by rw [upd_ne (ne_of q e (by intro z; cases z))]; exact q)
    · exact .inr q) (fun a ys q => by
    rcases q with ⟨q, m, z⟩ | q
    · rcases q with q | ⟨u, q⟩
      · exact .inl ⟨.inl (by rw [upd_ne (ne_of q e (by intro z; cases z))]; exact q), m, z⟩
      · exact .inl ⟨.inr ⟨u, by rw [upd_ne (ne_of q e (by intro z; cases z))]; exact q⟩, m, z⟩
    · exact .inr q) (fun a C dx fs q m => ⟨by rw [upd_ne (ne_of q e (by intro z; cases z))]; exact q, m⟩) (fun a kvs q m => by
    by_cases h : a = p
    · subst h
      exact ⟨kv1, upd_same, m⟩
    · exact ⟨kvs, by rw [upd_ne h]; exact q, m⟩) (ExA.to rfl fun a o w q m z => ⟨by rw [upd_ne (ne_of q e (by rcases w with ⟨_, _, rfl⟩ | ⟨_, rfl⟩ <;> (intro z; cases z)))]; exact q, m, z⟩) ds vs t
theorem rep_dk {K : Kz} {H : Hp} {Hm : MH} {p : Addr} {kv0 kv1 : List (Key × V)} (e : H p = some (.dK kv0)) (m : Hm p = none) (hz : ¬ K.Z p) (r : Rep K H Hm) : Rep K (upd H p (.dK kv1)) Hm := by
  refine ⟨fun a u e' => ?_, fun a z => ?_⟩
  · have ne : a ≠ p := fun z => by rw [z, m] at e'; cases e'
    have := r.obj a u e'
    cases u with
    | lst ds => obtain ⟨vs, q, z⟩ := this; exact ⟨vs, by rw [upd_ne ne]; exact q, iss_dk e _ _ z⟩
    | ins C ns ds => obtain ⟨dx, fs, q, l, z⟩ := this; exact ⟨dx, fs, q.at_ (upd_ne ne), l, iss_dk e _ _ z⟩
    | dk kvs => obtain ⟨us, q, l, z⟩ := this; exact ⟨us, by rw [upd_ne ne]; exact q, l, iss_dk e _ _ z⟩
    | dt kvs => obtain ⟨us, q, l, z⟩ := this; exact ⟨us, by rw [upd_ne ne]; exact q, l, iss_dk e _ _ z⟩
    | ldk o us kvs => obtain ⟨q, l, z⟩ := this; exact ⟨by rw [upd_ne ne]; exact q, l, iss_dk e _ _ z⟩
    | ldt o us kvs => obtain ⟨q, l, z⟩ := this; exact ⟨by rw [upd_ne ne]; exact q, l, iss_dk e _ _ z⟩
  · have ne : a ≠ p := fun w => hz (w ▸ z)
    obtain ⟨u, q, m⟩ := r.hid a z
    exact ⟨u, by rw [upd_ne ne]; exact q, m⟩
/-- the dict's own place is written -/
theorem de_dct {keys : List (Option Expr)} {values : List Expr} {ks : List Key} {T : TAd} (hk : KeyIs ks keys) (hl : ks.length = values.length) (h0 : ks ≠ []) (h15 : ks.length ≤ 15) (h : DPs C pos keys values ks T) :
    DE C (.Dict keys values pos) (fun σ H Q => T σ H fun _ H1 => Q .dct H1) := by
  obtain ⟨trs, pp, ht⟩ := h
  refine PE.weak (pe_disp pp hk.some' (hk.length.trans hl) (fun e => h0 (by rw [e] at hk; cases hk; rfl)) (by rw [hk.length]; exact h15)) fun σ H Q => ?_
  rintro ⟨σd, Hm, Qd, s, q, k⟩
  intro p hp
  have n0 : NT Hm H Hm (upd H p (.dK [])) := fun a o e m => ⟨by rw [upd_ne (fun z => by rw [z, hp] at e; cases e)]; exact e, m⟩
  have hpm : Hm p = none := s.rep.free hp
  have r0 : Rep C.K (upd H p (.dK [])) Hm := s.rep.ext hp
  refine ht _ _ _ ⟨σd, Hm, _, s.nxt n0 r0, q, fun ws H2 ds Hm2 n2 r2 is q => ?_⟩
  obtain ⟨e2, m2⟩ := n2 p _ upd_same hpm
  refine ⟨e2, ks.zip ws, ?_, ?_, ?_⟩
  · rfl
  · rw [List.length_zip]; omega
  · have hz : ¬ C.K.Z p := fun z => by
      obtain ⟨u, q, _⟩ := s.rep.hid p z
      rw [hp] at q; cases q
    refine k _ _ .dct Hm2 (fun a o e m => ?_) (rep_dk e2 m2 hz r2) (by unfold Is; exact ⟨p, _, rfl, upd_same, m2, hz⟩) q
    have ne : a ≠ p := fun z => by rw [z, hp] at e; cases e
    obtain ⟨e3, m3⟩ := n2 a o (by rw [upd_ne ne]; exact e) m
    exact ⟨by rw [upd_ne ne]; exact e3, m3⟩
end
end DL

set_option maxHeartbeats 400000
namespace DL
open PySem PySem.Spec PyProof.Rows L2

/-! ### what is walked -/
/-- what stands, but for hidden lists -/
def NTz (Z : Addr → Prop) (Hm : MH) (H : Hp) (Hm' : MH) (H' : Hp) : Prop := ∀ a o, H a = some o → Hm a = none → (H' a = some o ∧ Hm' a = none) ∨ (Z a ∧ ∃ xs, o = .lst xs)
theorem NT.z {Z : Addr → Prop} {H H' : Hp} {Hm Hm' : MH} (n : NT Hm H Hm' H') : NTz Z Hm H Hm' H' := fun a o e m => .inl (n a o e m)
theorem NTz.nl {Z : Addr → Prop} {H H' : Hp} {Hm Hm' : MH} (n : NTz Z Hm H Hm' H') {a : Addr} {o : HO} (e : H a = some o) (m : Hm a = none) (h : ∀ xs, o ≠ .lst xs) : H' a = some o ∧ Hm' a = none :=
  (n a o e m).resolve_right fun ⟨_, xs, z⟩ => h xs z
theorem NTz.nz {Z : Addr → Prop} {H H' : Hp} {Hm Hm' : MH} (n : NTz Z Hm H Hm' H') {a : Addr} {o : HO} (e : H a = some o) (m : Hm a = none) (h : ¬ Z a) : H' a = some o ∧ Hm' a = none :=
  (n a o e m).resolve_right fun ⟨z, _⟩ => h z
theorem sqT_ntz {K : Kz} {Z : Addr → Prop} {H H' : Hp} {Hm Hm' : MH} (r : Rep K H Hm) (n : NTz Z Hm H Hm' H') {a : Addr} {xs : List V} (h : SqT K.K H a xs) : SqT K.K H' a xs := by
  rcases h with (h | ⟨o, h⟩) | h
  · exact .inl (.inl (n.nl h (r.tup h) (fun _ z => by cases z)).1)
  · exact .inl (.inr ⟨o, (n.nl h (r.frz h) (fun _ z => by cases z)).1⟩)
  · exact .inr h
theorem sqU_ntz {K : Kz} {Z : Addr → Prop} {H H' : Hp} {Hm Hm' : MH} (r : Rep K H Hm) (n : NTz Z Hm H Hm' H') {a : Addr} {xs : List V} (h : SqU K.K H a xs) : SqU K.K H' a xs := by
  rcases h with h | h
  · exact .inl (n.nl h (r.tup h) (fun _ z => by cases z)).1
  · exact .inr h
theorem frzL_ntz {K : Kz} {Z : Addr → Prop} {H H' : Hp} {Hm Hm' : MH} (hz : ∀ a, Z a → K.Z a ∨ H a = none) (n : NTz Z Hm H Hm' H') {a : Addr} {xs : List V} (h : FrzL K H Hm a xs) : SqL K.K H' a xs := by
  rcases h with ⟨h, m, z⟩ | h
  · have nz : ¬ Z a := fun w => by
      rcases hz a w with w | w
      · exact z w
      · rcases h with h | ⟨_, h⟩ <;> (rw [w] at h; cases h)
    rcases h with h | ⟨o, h⟩
    · exact .inl (.inl (n.nz h m nz).1)
    · exact .inl (.inr ⟨o, (n.nz h m nz).1⟩)
  · exact .inr h
theorem nt_issz {K : PySem.W.Frag} {Z Z' : Addr → Prop} {H H' : Hp} {Hm Hm' : MH} {ds : List D} {vs : List V} (r : Rep ⟨K, Z⟩ H Hm) (n : NTz Z' Hm H Hm' H') (h : Iss ⟨K, Z'⟩ H Hm ds vs) : Iss ⟨K, Z'⟩ H' Hm' ds vs :=
  Iss.tr (K := ⟨K, Z'⟩) (K' := ⟨K, Z'⟩) rfl (fun _ _ q => sqU_ntz r n q) (fun a xs q => by
    rcases q with ⟨q | ⟨o, q⟩, m, z⟩ | q
    · obtain ⟨e, e'⟩ := n.nz q m z
      exact .inl ⟨.inl e, e', z⟩
    · obtain ⟨e, e'⟩ := n.nz q m z
      exact .inl ⟨.inr ⟨o, e⟩, e', z⟩
    · exact .inr q) (fun a C dx fs q m => by
    obtain ⟨e, e'⟩ := n.nz q m.1 m.2
    exact ⟨e, e', m.2⟩) (fun a kvs q m => by
    obtain ⟨e, e'⟩ := n.nz q m.1 m.2
    exact ⟨kvs, e, e', m.2⟩) (ExA.to rfl fun a o _ q m z => by
    obtain ⟨e, e'⟩ := n.nz q m z
    exact ⟨e, e', z⟩) ds vs h
/-- from the state (Hm1, H1) on, where keep stands: J yields the items ds, then stops -/
structure ItIs (K : Kz) (J : L2.It) (ds : List D) (keep : MH → Prop) (Hm1 : MH) (H1 : Hp) : Prop where
  go : ∀ Hm H i d, NTz K.Z Hm1 H1 Hm H → Rep K H Hm → keep Hm → ds[i]? = some d → J.go i H
  yld : ∀ Hm H i d x H', NTz K.Z Hm1 H1 Hm H → Rep K H Hm → keep Hm → ds[i]? = some d → J.yld i H x H' → NT Hm H Hm H' ∧ Rep K H' Hm ∧ Is K H' Hm d x
  stop : ∀ Hm H i, NTz K.Z Hm1 H1 Hm H → Rep K H Hm → keep Hm → ds.length ≤ i → J.stop i H
abbrev TId := En → MH → (List D → (MH → Prop) → MH → Prop) → Prop
def LfI (C : Co) (T : TId) : TI := fun σ H R => ∃ σd Hm Qd, Rs C σd Hm σ H ∧ T σd Hm Qd ∧ ∀ J H' ds keep Hm', NT Hm H Hm' H' → Rep C.K H' Hm' → (∀ Z' : Addr → Prop, (∀ a, Z' a → C.Z a ∨ H' a = none) → ItIs ⟨C.X.K, Z'⟩ J ds keep Hm' H') → Qd ds keep Hm' → R J H'
def DI (C : Co) (tg e : Expr) (T : TId) : Prop := PI C.X tg e (LfI C T)
theorem PI.weak {X : Cx} {tg e : Expr} {t t' : TI} (h : PI X tg e t) (k : ∀ σ H Q, t' σ H Q → t σ H Q) : PI X tg e t' := ⟨fun pins s σ H Q I q => h.run pins s σ H Q I (k σ H Q q)⟩
section
variable {C : Co} {tg e a b : Expr} {te ta tb : TD} {pos p : Pos}
theorem pi_or {X : Cx} {l : Expr} {tl : TE} (hl : PE X l tl) : PI X tg l (fun σ H R => tl σ H fun x H1 => (∃ a, x = .ref a ∧ (∃ xs, SqL X.K H1 a xs) ∧ R (Itl X.K a) H1) ∨ ∃ a, x = .ref a ∧ (∃ xs, SqT X.K H1 a xs) ∧ R (Itt X.K a) H1) := by
  refine ⟨fun pins s σ H R I h => ?_⟩
  refine thn (hl.run pins s σ H _ I h) fun v s1 ⟨x, H1, I1, r1, q1⟩ => ?_
  rcases q1 with ⟨a, e, ⟨xs, hq⟩, q⟩ | ⟨a, e, ⟨xs, hq⟩, q⟩
  · subst e
    cases r1
    obtain ⟨its, rv, p, hz⟩ := I1.list hq
    refine wpAny_pyIter_list p.isList ?_
    refine ⟨s1.heap.objs.size, [s1.heap.objs.size], _, _, H1, rfl, I1.kept (t' := s1.toks) fun b o e => Heap.get?_push_of_some _ e, turn_list a _, ⟨_, Heap.get?_push_size _ rfl, rfl, rfl⟩, fun b hb => ?_, q⟩
    have e : b = s1.heap.objs.size := by simpa using hb
    subst e
    exact I1.fpOk (Nat.le_refl _) (I1.hok.fresh (Nat.le_refl _))
  · subst e
    cases r1
    obtain ⟨its, rv, p, hz⟩ := I1.tuple hq
    refine wpAny_pyIter_tuple (show s1.heap.IsTuple a its.toArray from p) ?_
    refine ⟨s1.heap.objs.size, [s1.heap.objs.size], _, _, H1, rfl, I1.kept (t' := s1.toks) fun b o e => Heap.get?_push_of_some _ e, turn_tuple a _, ⟨_, Heap.get?_push_size _ rfl, rfl, rfl⟩, fun b hb => ?_, q⟩
    have e : b = s1.heap.objs.size := by simpa using hb
    subst e
    exact I1.fpOk (Nat.le_refl _) (I1.hok.fresh (Nat.le_refl _))
theorem it_list {K : Kz} {a : Addr} {ds : List D} {keep : MH → Prop} {Hm1 : MH} {H1 : Hp} (h : ∀ Hm H, NTz K.Z Hm1 H1 Hm H → Rep K H Hm → keep Hm → ∃ vs, SqL K.K H a vs ∧ Iss K H Hm ds vs) : ItIs K (Itl K.K a) ds keep Hm1 H1 := by
  refine ⟨fun Hm H i d n r k e => ?_, fun Hm H i d x H' n r k e y => ?_, fun Hm H i n r k e => ?_⟩
  · obtain ⟨vs, s, t⟩ := h Hm H n r k
    obtain ⟨v, hv, _⟩ := t.get e
    exact ⟨vs, v, s, hv⟩
  · obtain ⟨vs, s, t⟩ := h Hm H n r k
    obtain ⟨v, hv, iv⟩ := t.get e
    obtain ⟨rfl, f⟩ := y
    have q := f vs s
    rw [hv] at q; cases q
    exact ⟨.refl, r, iv⟩
  · obtain ⟨vs, s, t⟩ := h Hm H n r k
    exact ⟨vs, s, by rw [t.length]; exact e⟩
theorem it_tup {K : Kz} {a : Addr} {ds : List D} {keep : MH → Prop} {Hm1 : MH} {H1 : Hp} (h : ∀ Hm H, NTz K.Z Hm1 H1 Hm H → Rep K H Hm → keep Hm → ∃ vs, SqT K.K H a vs ∧ Iss K H Hm ds vs) : ItIs K (Itt K.K a) ds keep Hm1 H1 := by
  refine ⟨fun Hm H i d n r k e => ?_, fun Hm H i d x H' n r k e y => ?_, fun Hm H i n r k e => ?_⟩
  · obtain ⟨vs, s, t⟩ := h Hm H n r k
    obtain ⟨v, hv, _⟩ := t.get e
    exact ⟨vs, v, s, hv⟩
  · obtain ⟨vs, s, t⟩ := h Hm H n r k
    obtain ⟨v, hv, iv⟩ := t.get e
    obtain ⟨rfl, f⟩ := y
    have q := f vs s
    rw [hv] at q; cases q
    exact ⟨.refl, r, iv⟩
  · obtain ⟨vs, s, t⟩ := h Hm H n r k
    exact ⟨vs, s, by rw [t.length]; exact e⟩
theorem it_rng {K : Kz} {lo : Int} {n : Nat} {keep : MH → Prop} {Hm1 : MH} {H1 : Hp} : ItIs K (Itr lo n) ((List.range n).map fun (k : Nat) => D.int (lo + (k : Int))) keep Hm1 H1 := by
  have get : ∀ (i : Nat) (d : D), ((List.range n).map fun (k : Nat) => D.int (lo + (k : Int)))[i]? = some d → i < n ∧ d = .int (lo + i) := fun i d e => by
    rw [List.getElem?_map] at e
    by_cases h : i < n
    · rw [List.getElem?_range h] at e
      cases e
      exact ⟨h, rfl⟩
    · rw [List.getElem?_eq_none (by rw [List.length_range]; omega)] at e; cases e
  refine ⟨fun Hm H i d _ r k e => (get i d e).1, fun Hm H i d x H' _ r k e y => ?_, fun Hm H i _ r k e => ?_⟩
  · obtain ⟨h1, rfl⟩ := get i d e
    obtain ⟨rfl, rfl⟩ := y
    exact ⟨.refl, r, is_int⟩
  · exact (by simpa using e : n ≤ i)
/-- fresh places hidden too -/
theorem Iss.hid {K : PySem.W.Frag} {Z Z' : Addr → Prop} {H : Hp} {Hm : MH} {ds : List D} {vs : List V} (hz : ∀ a, Z' a → Z a ∨ H a = none) (h : Iss ⟨K, Z⟩ H Hm ds vs) : Iss ⟨K, Z'⟩ H Hm ds vs :=
  Iss.tr (K := ⟨K, Z⟩) (K' := ⟨K, Z'⟩) rfl (fun _ _ q => q) (fun a xs q => by
    rcases q with ⟨q, m, z⟩ | q
    · refine .inl ⟨q, m, fun z' => ?_⟩
      rcases hz a z' with w | w
      · exact z w
      · rcases q with q | ⟨_, q⟩ <;> (rw [w] at q; cases q)
    · exact .inr q) (fun a C dx fs q m => ⟨q, m.1, fun z' => by
      rcases hz a z' with w | w
      · exact m.2 w
      · rw [w] at q; cases q⟩) (fun a kvs q m => ⟨kvs, q, m.1, fun z' => by
      rcases hz a z' with w | w
      · exact m.2 w
      · rw [w] at q; cases q⟩) (ExA.to rfl fun a o _ q m z => ⟨q, m, fun z' => by
      rcases hz a z' with w | w
      · exact z w
      · rw [w] at q; cases q⟩) ds vs h
theorem nt_iss {K : PySem.W.Frag} {Z Z' : Addr → Prop} {H H' : Hp} {Hm Hm' : MH} {ds : List D} {vs : List V} (r : Rep ⟨K, Z⟩ H Hm) (n : NT Hm H Hm' H') (h : Iss ⟨K, Z'⟩ H Hm ds vs) : Iss ⟨K, Z'⟩ H' Hm' ds vs :=
  Iss.tr (K := ⟨K, Z'⟩) (K' := ⟨K, Z'⟩) rfl (fun _ _ q => sqU_nt r n q) (fun _ _ q => frzL_nt n q) (fun a C dx fs q m => by
    obtain ⟨e, e'⟩ := n _ _ q m.1
    exact ⟨e, e', m.2⟩) (fun a kvs q m => by
    obtain ⟨e, e'⟩ := n _ _ q m.1
    exact ⟨kvs, e, e', m.2⟩) (fun _ _ _ x => x.nt n) ds vs h
/-- .. or over a dict, which is locked then -/
theorem pi_seqd {X : Cx} {l : Expr} {tl : TE} (hl : PE X l tl) : PI X tg l (fun σ H R => tl σ H fun x H1 => (∃ a, x = .ref a ∧ (∃ xs, SqL X.K H1 a xs) ∧ R (Itl X.K a) H1) ∨ (∃ a, x = .ref a ∧ (∃ xs, SqT X.K H1 a xs) ∧ R (Itt X.K a) H1) ∨
    ∃ a, x = .ref a ∧ ((∃ kvs, H1 a = some (.dK kvs) ∧ ∀ o, R (Itk a o kvs) (upd H1 a (.frz o (.dK kvs)))) ∨ (∃ kvs, H1 a = some (.dT kvs) ∧ ∀ o, R (Itkt a o kvs) (upd H1 a (.frz o (.dT kvs)))) ∨
      (∃ o kvs, H1 a = some (.frz o (.dK kvs)) ∧ R (Itk a o kvs) H1) ∨ ∃ o kvs, H1 a = some (.frz o (.dT kvs)) ∧ R (Itkt a o kvs) H1)) := by
  refine ⟨fun pins s σ H R I h => ?_⟩
  refine thn (hl.run pins s σ H _ I h) fun v s1 ⟨x, H1, I1, r1, q1⟩ => ?_
  have fk : ∀ (H1 : Hp) (a : Addr) (o : Obj) (kvs : List (Key × V)), Inv X pins σ H1 s1 → H1 a = some (.frz o (.dK kvs)) → R (Itk a o kvs) H1 → wpAny (model X.prog X.w) X.A (pyIter (.ref a)) (PIE X pins σ tg R) X.xe s1 := fun H1 a o kvs I1 hd q => by
    obtain ⟨hs, hgd, hx, es, ep, vs, hdt, hsz, kv, hm⟩ := I1.frzK hd
    refine iter_keys hs hgd hx hdt (pi_one (tk := s1.toks) I1 _ (turn_keys _ hdt) ⟨_, Heap.get?_push_size _ rfl, rfl, ?_⟩ q)
    rw [hsz] <;> rfl
  have ft : ∀ (H1 : Hp) (a : Addr) (o : Obj) (kvs : List (List Key × V)), Inv X pins σ H1 s1 → H1 a = some (.frz o (.dT kvs)) → R (Itkt a o kvs) H1 → wpAny (model X.prog X.w) X.A (pyIter (.ref a)) (PIE X pins σ tg R) X.xe s1 := fun H1 a o kvs I1 hd q => by
    obtain ⟨hs, hgd, hx, es, ep, hdt, hsz, ent⟩ := I1.frzT hd
    refine iter_keys hs hgd hx hdt (pi_one (tk := s1.toks) I1 _ (turn_keysT _ hdt) ⟨_, Heap.get?_push_size _ rfl, rfl, ?_⟩ q)
    rw [hsz] <;> rfl
  rcases q1 with ⟨a, e, ⟨xs, hq⟩, q⟩ | ⟨a, e, ⟨xs, hq⟩, q⟩ | ⟨a, e, ⟨kvs, hd, q⟩ | ⟨kvs, hd, q⟩ | ⟨o, kvs, hd, q⟩ | ⟨o, kvs, hd, q⟩⟩
  · subst e
    cases r1
    obtain ⟨its, rv, p, hz⟩ := I1.list hq
    refine wpAny_pyIter_list p.isList ?_
    refine ⟨s1.heap.objs.size, [s1.heap.objs.size], _, _, H1, rfl, I1.kept (t' := s1.toks) fun b o e => Heap.get?_push_of_some _ e, turn_list a _, ⟨_, Heap.get?_push_size _ rfl, rfl, rfl⟩, fun b hb => ?_, q⟩
    have e : b = s1.heap.objs.size := by simpa using hb
    subst e
    exact I1.fpOk (Nat.le_refl _) (I1.hok.fresh (Nat.le_refl _))
  · subst e
    cases r1
    obtain ⟨its, rv, p, hz⟩ := I1.tuple hq
    refine wpAny_pyIter_tuple (show s1.heap.IsTuple a its.toArray from p) ?_
    refine ⟨s1.heap.objs.size, [s1.heap.objs.size], _, _, H1, rfl, I1.kept (t' := s1.toks) fun b o e => Heap.get?_push_of_some _ e, turn_tuple a _, ⟨_, Heap.get?_push_size _ rfl, rfl, rfl⟩, fun b hb => ?_, q⟩
    have e : b = s1.heap.objs.size := by simpa using hb
    subst e
    exact I1.fpOk (Nat.le_refl _) (I1.hok.fresh (Nat.le_refl _))
  · subst e
    cases r1
    obtain ⟨od, I2⟩ := I1.lock hd True.intro
    exact fk _ a od kvs I2 upd_same (q od)
  · subst e
    cases r1
    obtain ⟨od, I2⟩ := I1.lock hd True.intro
    exact ft _ a od kvs I2 upd_same (q od)
  · subst e
    cases r1
    exact fk _ a o kvs I1 hd q
  · subst e
    cases r1
    exact ft _ a o kvs I1 hd q
theorem keys_at {κ : Type} {kvs : List (κ × D)} {us : List (κ × V)} (l : us.map (·.1) = kvs.map (·.1)) {i : Nat} {k : κ} {v : V} (h : us[i]? = some (k, v)) : ∃ d, kvs[i]? = some (k, d) := by
  have q := congrArg (fun z => z[i]?) l
  simp only [List.getElem?_map, h, Option.map_some] at q
  cases e : kvs[i]? with
  | none => rw [e] at q; cases q
  | some z =>
    rw [e] at q
    obtain ⟨k', d⟩ := z
    cases q
    exact ⟨d, rfl⟩
theorem it_dk {K : Kz} {Hm : MH} {H : Hp} {p : Addr} {o : Obj} {us : List (Key × V)} {kvs : List (Key × D)} : ItIs K (Itk p o us) (kvs.map fun kv => keyE kv.1) (fun H' => H' p = some (.ldk o us kvs)) Hm H := by
  refine ⟨fun Hm2 H2 j d _ r k e => ?_, fun Hm2 H2 j d x H' _ r k e y => ?_, fun Hm2 H2 j _ r k e => ?_⟩
  · obtain ⟨q, l, _⟩ := r.obj _ _ k
    have hj : j < (kvs.map fun kv => keyE kv.1).length := (List.getElem?_eq_some_iff.1 e).1
    have := congrArg List.length l
    simp only [List.length_map] at this hj
    exact ⟨q, by omega⟩
  · obtain ⟨q, l, _⟩ := r.obj _ _ k
    obtain ⟨rfl, key, v, hk, rfl⟩ := y
    obtain ⟨d', h'⟩ := keys_at l hk
    rw [List.getElem?_map, h'] at e
    cases e
    exact ⟨.refl, r, is_keyE key⟩
  · obtain ⟨q, l, _⟩ := r.obj _ _ k
    have := congrArg List.length l
    simp only [List.length_map] at this e
    exact ⟨q, by omega⟩
theorem it_dt {K : Kz} {Hm : MH} {H : Hp} {p : Addr} {o : Obj} {us : List (List Key × V)} {kvs : List (List Key × D)} : ItIs K (Itkt p o us) (kvs.map fun kv => .tup (kv.1.map keyE)) (fun H' => H' p = some (.ldt o us kvs)) Hm H := by
  refine ⟨fun Hm2 H2 j d _ r k e => ?_, fun Hm2 H2 j d x H' _ r k e y => ?_, fun Hm2 H2 j _ r k e => ?_⟩
  · obtain ⟨q, l, _⟩ := r.obj _ _ k
    have hj : j < (kvs.map fun kv => D.tup (kv.1.map keyE)).length := (List.getElem?_eq_some_iff.1 e).1
    have := congrArg List.length l
    simp only [List.length_map] at this hj
    exact ⟨q, by omega⟩
  · obtain ⟨q, l, _⟩ := r.obj _ _ k
    obtain ⟨rfl, key, v, b, hk, rfl, hb⟩ := y
    obtain ⟨d', h'⟩ := keys_at l hk
    rw [List.getElem?_map, h'] at e
    cases e
    refine ⟨.refl, r, ?_⟩
    refine (show Is K _ _ (.tup (key.map keyE)) (.ref b) from ?_)
    unfold Is
    exact ⟨b, _, rfl, .inl hb, is_keysE key⟩
  · obtain ⟨q, l, _⟩ := r.obj _ _ k
    have := congrArg List.length l
    simp only [List.length_map] at this e
    exact ⟨q, by omega⟩
theorem di_seq (h : DE C e te) : DI C tg e (fun σ H Q => te σ H fun x H1 => itW H1 x Q) := PI.weak (pi_seqd h) fun σ H R => by
  rintro ⟨σd, Hm, Qd, s, q, k⟩
  refine Lf.seq s q fun x H1 dx Hm1 n1 s1 ix q => ?_
  cases dx with
  | tup xs =>
    obtain ⟨ds, e, q⟩ := q
    unfold seqAt at e; cases e
    obtain ⟨a, vs, rfl, sq, t⟩ := ix.tup
    exact .inr (.inl ⟨a, rfl, ⟨vs, sq⟩, k _ H1 _ _ Hm1 n1 s1.rep (fun Z' hz => it_tup (K := ⟨C.X.K, Z'⟩) fun Hm2 H2 n2 r2 _ => ⟨vs, sqT_ntz s1.rep n2 sq, nt_issz s1.rep n2 (t.hid hz)⟩) q⟩)
  | rol xs =>
    obtain ⟨ds, e, q⟩ := q
    unfold seqAt lstAt at e; cases e
    unfold Is at ix
    obtain ⟨a, vs, rfl, sq, t⟩ := ix
    exact .inl ⟨a, rfl, ⟨vs, sq.sq⟩, k _ H1 _ _ Hm1 n1 s1.rep (fun Z' hz => it_list (K := ⟨C.X.K, Z'⟩) fun Hm2 H2 n2 r2 _ => ⟨vs, frzL_ntz (K := C.K) hz n2 sq, nt_issz s1.rep n2 (t.hid hz)⟩) q⟩
  | ref a =>
    replace q : itR Hm1 a Qd (Hm1 a) := q
    have e1 := ix.ref
    subst e1
    cases z : Hm1 a with
    | none => rw [z] at q; exact q.elim
    | some o =>
      rw [z] at q
      cases o with
      | ins C ns ds => exact q.elim
      | dk kvs =>
        obtain ⟨us, h, l, t⟩ := s1.rep.obj _ _ z
        have nn : Hm1 a ≠ none := by rw [z]; simp
        refine .inr (.inr ⟨a, rfl, .inl ⟨us, h, fun o => ?_⟩⟩)
        have nt : NT Hm1 H1 (updM Hm1 a (.ldk o us kvs)) (upd H1 a (.frz o (.dK us))) := wr_nt nn
        exact k _ _ _ _ _ (n1.trans nt) (wr_repO s1.rep nn ⟨upd_same, l, Iss.nt s1.rep nt _ _ t⟩) (fun Z' _ => it_dk) (q o us)
      | dt kvs =>
        obtain ⟨us, h, l, t⟩ := s1.rep.obj _ _ z
        have nn : Hm1 a ≠ none := by rw [z]; simp
        refine .inr (.inr ⟨a, rfl, .inr (.inl ⟨us, h, fun o => ?_⟩)⟩)
        have nt : NT Hm1 H1 (updM Hm1 a (.ldt o us kvs)) (upd H1 a (.frz o (.dT us))) := wr_nt nn
        exact k _ _ _ _ _ (n1.trans nt) (wr_repO s1.rep nn ⟨upd_same, l, Iss.nt s1.rep nt _ _ t⟩) (fun Z' _ => it_dt) (q o us)
      | ldk o us kvs =>
        obtain ⟨h, l, t⟩ := s1.rep.obj _ _ z
        exact .inr (.inr ⟨a, rfl, .inr (.inr (.inl ⟨o, us, h, k _ _ _ _ _ n1 s1.rep (fun Z' _ => it_dk) q⟩))⟩)
      | ldt o us kvs =>
        obtain ⟨h, l, t⟩ := s1.rep.obj _ _ z
        exact .inr (.inr ⟨a, rfl, .inr (.inr (.inr ⟨o, us, h, k _ _ _ _ _ n1 s1.rep (fun Z' _ => it_dt) q⟩))⟩)
      | lst xs =>
        obtain ⟨vs, h, t⟩ := s1.rep.obj _ _ z
        refine .inl ⟨a, rfl, ⟨vs, .inl (.inl h)⟩, k _ H1 _ _ Hm1 n1 s1.rep (fun Z' hz => it_list (K := ⟨C.X.K, Z'⟩) fun Hm2 H2 n2 r2 kp => ?_) q⟩
        have kp : Hm2 a = Hm1 a := kp
        rw [z] at kp
        obtain ⟨vs2, h2, t2⟩ := r2.obj _ _ kp
        exact ⟨vs2, .inl (.inl h2), t2⟩
  | _ => obtain ⟨ds, e, q⟩ := q; unfold seqAt lstAt at e; cases e
theorem di_rng1 (hg : Gl C.X "range") (hm : C.X.mg "range" = none) (ha : DE C a ta) (h1 : starEach [a] C.X.env = [(false, eval a C.X.env)]) :
    DI C tg (.Call (.Name "range" p) [a] [] pos) (fun σ H Q => ta σ H fun x H1 => ∃ j : Int, x = .int j ∧ Q ((List.range j.toNat).map fun (n : Nat) => D.int (0 + (n : Int))) (fun _ => True) H1) :=
  PI.weak (pi_range1A hg hm (da_cons ha da_nil h1) h1) fun σ H R => by
    rintro ⟨σd, Hm, Qd, s, q, k⟩
    refine LfA.seq s (F := fun ds H1 => ∃ j : Int, ds = [.int j] ∧ Qd ((List.range j.toNat).map fun (n : Nat) => D.int (0 + (n : Int))) (fun _ => True) H1) (T := fun σ H Q => ta σ H fun x H1 => Q [x] H1) ?_ fun vs H1 ds Hm1 n1 s1 is q => ?_
    · show ta σd Hm fun x H1 => ∃ j : Int, [x] = [.int j] ∧ _
      simp only [List.cons.injEq, and_true]
      exact q
    · obtain ⟨j, rfl, q⟩ := q
      obtain ⟨v, rfl, i⟩ := is.one
      exact ⟨j, by rw [i.int], k _ H1 _ _ Hm1 n1 s1.rep (fun Z' _ => it_rng) q⟩
theorem di_rng2 (hg : Gl C.X "range") (hm : C.X.mg "range" = none) (ha : DE C a ta) (hb : DE C b tb) (h2 : starEach [a, b] C.X.env = [(false, eval a C.X.env), (false, eval b C.X.env)]) (h1 : starEach [b] C.X.env = [(false, eval b C.X.env)]) :
    DI C tg (.Call (.Name "range" p) [a, b] [] pos) (fun σ H Q => ta σ H fun x H1 => tb σ H1 fun y H2 => ∃ i j : Int, x = .int i ∧ y = .int j ∧
      Q ((List.range (j - i).toNat).map fun (n : Nat) => D.int (i + (n : Int))) (fun _ => True) H2) :=
  PI.weak (pi_range2A hg hm (da_cons ha (da_cons hb da_nil h1) (by rw [h2, h1])) h2 h1) fun σ H R => by
    rintro ⟨σd, Hm, Qd, s, q, k⟩
    refine LfA.seq s (F := fun ds H2 => ∃ i j : Int, ds = [.int i, .int j] ∧ Qd ((List.range (j - i).toNat).map fun (n : Nat) => D.int (i + (n : Int))) (fun _ => True) H2) (T := fun σ H Q => ta σ H fun x H1 => tb σ H1 fun y H2 => Q [x, y] H2) ?_ fun vs H1 ds Hm1 n1 s1 is q => ?_
    · show ta σd Hm fun x H1 => tb σd H1 fun y H2 => ∃ i j : Int, [x, y] = [.int i, .int j] ∧ _
      simp only [List.cons.injEq, and_true, and_assoc]

      exact q
    · obtain ⟨i, j, rfl, q⟩ := q
      obtain ⟨v, w, rfl, iv, iw⟩ := is.two
      exact ⟨i, j, by rw [iv.int, iw.int], k _ H1 _ _ Hm1 n1 s1.rep (fun Z' _ => it_rng) q⟩

/-! ### statements -/
structure EndsOk (C : Co) (Hm : MH) (σ : L2.St) (H : Hp) (Dd : Ends') (D : Ends) : Prop where
  nx : ∀ σ' H' σd' Hm', NT Hm H Hm' H' → Rs C σd' Hm' σ' H' → Dd.nx σd' Hm' → D.nx σ' H'
  bk : ∀ σ' H' σd' Hm', NT Hm H Hm' H' → Rs C σd' Hm' σ' H' → Dd.bk σd' Hm' → D.bk σ' H'
  ct : ∀ σ' H' σd' Hm', NT Hm H Hm' H' → Rs C σd' Hm' σ' H' → Dd.ct σd' Hm' → D.ct σ' H'
  rt : Bh C.K Hm H Dd.rt D.rt
abbrev TSd := Ends' → En → MH → Prop
def LfS (C : Co) (T : TSd) : TS := fun D σ H => ∃ σd Hm Dd, Rs C σd Hm σ H ∧ T Dd σd Hm ∧ EndsOk C Hm σ H Dd D
def DS (C : Co) (st : Stmt) (T : TSd) : Prop := PS C.X st (LfS C T)
def DSs (C : Co) (st : List Stmt) (T : TSd) : Prop := PSs C.X st (LfS C T)
theorem PS.weak {X : Cx} {st : Stmt} {t t' : TS} (h : PS X st t) (k : ∀ D σ H, t' D σ H → t D σ H) : PS X st t' := ⟨fun pins s σ H D I q => h.run pins s σ H D I (k D σ H q)⟩
theorem PSs.weak {X : Cx} {st : List Stmt} {t t' : TS} (h : PSs X st t) (k : ∀ D σ H, t' D σ H → t D σ H) : PSs X st t' := ⟨fun pins s σ H D I q => h.run pins s σ H D I (k D σ H q)⟩
theorem EndsOk.cut {Hm Hm1 : MH} {σ σ1 : L2.St} {H H1 : Hp} {Dd : Ends'} {D : Ends} (e : EndsOk C Hm σ H Dd D) (n : NT Hm H Hm1 H1) : EndsOk C Hm1 σ1 H1 Dd D :=
  ⟨fun a b c d n' => e.nx a b c d (n.trans n'), fun a b c d n' => e.bk a b c d (n.trans n'), fun a b c d n' => e.ct a b c d (n.trans n'), e.rt.cut n⟩
theorem dss_nil : DSs C [] (fun D σ H => D.nx σ H) := PSs.weak pss_nil fun D σ H => by
  rintro ⟨σd, Hm, Dd, s, q, k⟩
  exact k.nx σ H σd Hm .refl s q
theorem dss_cons {st : Stmt} {rest : List Stmt} {t u : TSd} (h1 : DS C st t) (h2 : DSs C rest u) : DSs C (st :: rest) (fun D σ H => t { D with nx := fun σ1 H1 => u D σ1 H1 } σ H) :=
  PSs.weak (pss_cons h1 h2) fun D σ H => by
    rintro ⟨σd, Hm, Dd, s, q, k⟩
    exact ⟨σd, Hm, _, s, q, fun σ' H' σd' Hm' n s' q => ⟨σd', Hm', Dd, s', q, k.cut n⟩, k.bk, k.ct, k.rt⟩
theorem ds_asg {ts : List Nat} {t : TGd} (he : DE C e te) (hg : DG C ts tg t) (hs : swapsWithSole [tg] e pos.line C.X.env = pure false) (hw : swappedStores [tg] e C.X.env = pure none) (h1 : (assignEach [tg] C.X.env).map (·.2) = [assign tg C.X.env]) :
    DS C (.Assign [tg] e pos) (fun D σ H => te σ H fun x H1 => t x σ H1 D.nx) := PS.weak (ps_asg he hg hs hw h1) fun D σ H => by
  rintro ⟨σd, Hm, Dd, s, q, k⟩
  refine Lf.seq s q fun x H1 dx Hm1 n1 s1 ix q => ?_
  exact ⟨dx, σd, Hm1, _, ix, s1, q, fun σ' H' σd' Hm' n s' _ q => k.nx σ' H' σd' Hm' (n1.trans n) s' q⟩
theorem ds_aug (ok : C.Ok) {i : Nat} {x : Str} {o : Operator} {pos' : Pos} (hi : C.X.N[i]? = some x) (hx : Loc C.X.env.scope x) (he : DE C e te) (hf : C.X.fn x = true ∨ C.X.env.scope.names.lookup x = some .local) :
    DS C (.AugAssign (.Name x pos') o e pos) (fun D σ H => ∃ x, σ[i]? = some (some x) ∧ te σ H fun y H1 => augD o x y H1 fun z H2 => D.nx (σ.set i (some z)) H2) :=
  PS.weak (ps_aug ok.x.nd hi hx he (op_augD ok.x o) hf) fun D σ H => by
    rintro ⟨σd, Hm, Dd, s, ⟨x, hx, q⟩, k⟩
    obtain ⟨v, hv, iv⟩ := s.env.get _ _ hx
    refine ⟨v, hv, Lf.seq s q fun y H1 dy Hm1 n1 s1 iy q => ?_⟩
    refine ⟨C.Z, x, dy, Hm1, _, s1.rep, Is.nt s.rep n1 x v iv, iy, q, fun z H2 dz Hm2 n2 r2 iz q => ?_⟩
    exact k.nx _ H2 _ Hm2 (n1.trans n2) ((s1.nxt n2 r2).set i iz) q
theorem ds_ex (he : DE C e te) (hs : swapsWith e none pos.line C.X.env = pure false) : DS C (.Expr e pos) (fun D σ H => te σ H fun _ H1 => D.nx σ H1) := PS.weak (ps_expr he hs) fun D σ H => by
  rintro ⟨σd, Hm, Dd, s, q, k⟩
  exact Lf.seq s q fun y H1 dy Hm1 n1 s1 iy q => k.nx σ H1 σd Hm1 n1 s1 q
theorem ds_ret (he : DE C e te) : DS C (.Return (some e) pos) (fun D σ H => te σ H D.rt) := PS.weak (ps_ret he) fun D σ H => by
  rintro ⟨σd, Hm, Dd, s, q, k⟩
  exact Lf.seq s q fun y H1 dy Hm1 n1 s1 iy q => (k.rt.cut n1).here s1.rep iy q
theorem ds_retN : DS C (.Return none pos) (fun D _ H => D.rt .non H) := PS.weak ps_retN fun D σ H => by
  rintro ⟨σd, Hm, Dd, s, q, k⟩
  exact k.rt.here s.rep is_non q
theorem ds_if {c : Expr} {x y : List Stmt} {tc : TCd} {t u : TSd} (hc : DC C c tc) (ha : DSs C x t) (hb : DSs C y u) : DS C (.If c x y pos) (fun D σ H => tc σ H fun b H1 => br b (t D σ H1) (u D σ H1)) :=
  PS.weak (ps_if hc ha hb) fun D σ H => by
    rintro ⟨σd, Hm, Dd, s, q, k⟩
    refine LfC.seq s q fun b H1 Hm1 n1 s1 q => ?_
    cases b with
    | true => exact ⟨σd, Hm1, Dd, s1, q, k.cut n1⟩
    | false => exact ⟨σd, Hm1, Dd, s1, q, k.cut n1⟩
theorem ds_brk : DS C (.Break pos) (fun D σ H => D.bk σ H) := PS.weak ps_break fun D σ H => by
  rintro ⟨σd, Hm, Dd, s, q, k⟩
  exact k.bk σ H σd Hm .refl s q
theorem ds_ct : DS C (.Continue pos) (fun D σ H => D.ct σ H) := PS.weak ps_continue fun D σ H => by
  rintro ⟨σd, Hm, Dd, s, q, k⟩
  exact k.ct σ H σd Hm .refl s q
theorem ds_pass : DS C (.Pass pos) (fun D σ H => D.nx σ H) := PS.weak ps_pass fun D σ H => by
  rintro ⟨σd, Hm, Dd, s, q, k⟩
  exact k.nx σ H σd Hm .refl s q
theorem ds_loop (ok : C.Ok) (hcl : C.X.calm = true) (po : PassesOwn (model C.X.prog C.X.w) C.X.A C.X.env C.X.xe) {ts : List Nat} {body : List Stmt} {ti : TId} {t : TGd} {tb : TSd} (hi : DI C tg e ti) (hg : DG C ts tg t) (hb : DSs C body tb)
    (hs : ∀ x, foldedSetIterable e C.X.env x = pure x) :
    DS C (.For tg e body [] pos) (fun D σ H => ti σ H fun xs keep H1 => loopL (fun x σ H Q => t x σ H fun σ1 H1 => tb { D with nx := Q, ct := Q, bk := D.nx } σ1 H1) keep xs σ H1 D.nx) :=
  PS.weak (ps_for po hcl hi hg hb hs) fun D σ H => by
    rintro ⟨σd, Hm, Dd, s, q, k⟩
    refine ⟨σd, Hm, _, s, q, fun J H1 ds keep Hm1 n1 r1 J0 q => ?_⟩
    have J1 := J0 C.Z fun a z => .inl z
    have s1 := s.nxt n1 r1
    refine ⟨fun i m σ H => m = ds.length - i ∧ i ≤ ds.length ∧ ∃ σd Hm, Rs C σd Hm σ H ∧ NT Hm1 H1 Hm H ∧ loopL (fun x σ H Q => t x σ H fun σ1 H1 => tb { Dd with nx := Q, ct := Q, bk := Dd.nx } σ1 H1) keep (ds.drop i) σd Hm Dd.nx,
      ⟨ds.length, rfl, Nat.zero_le _, σd, Hm1, s1, .refl, by rw [List.drop_zero]; exact q⟩, ?_⟩
    rintro i m σ2 H2 ⟨rfl, hi, σd2, Hm2, s2, n2, q⟩
    by_cases hlt : i < ds.length
    · have e1 : ds.drop i = ds[i] :: ds.drop (i + 1) := List.drop_eq_getElem_cons hlt
      rw [e1] at q
      obtain ⟨kp, q⟩ := q
      have g : ds[i]? = some ds[i] := List.getElem?_eq_getElem hlt
      refine .inr ⟨J1.go Hm2 H2 i _ (NT.z n2) s2.rep kp g, fun σ H => ∃ σd Hm, Rs C σd Hm σ H ∧ NT Hm1 H1 Hm H ∧ loopL (fun x σ H Q => t x σ H fun σ1 H1 => tb { Dd with nx := Q, ct := Q, bk := Dd.nx } σ1 H1) keep (ds.drop (i + 1)) σd Hm Dd.nx,
        fun σ' H' ⟨σd', Hm', a, b, c⟩ => ⟨ds.length - (i + 1), by omega, rfl, hlt, σd', Hm', a, b, c⟩, fun x H3 y => ?_⟩
      obtain ⟨n3, r3, ix⟩ := J1.yld Hm2 H2 i _ x H3 (NT.z n2) s2.rep kp g y
      have s3 := s2.nxt n3 r3
      refine ⟨_, σd2, Hm2, _, ix, s3, q, fun σ4 H4 σd4 Hm4 n4 s4 _ q => ?_⟩
      have nn := (n2.trans n3).trans n4
      refine ⟨σd4, Hm4, _, s4, q, fun σ' H' σd' Hm' n s' q => ⟨σd', Hm', s', nn.trans n, q⟩, fun σ' H' σd' Hm' n s' q => k.nx σ' H' σd' Hm' (n1.trans (nn.trans n)) s' q, fun σ' H' σd' Hm' n s' q => ⟨σd', Hm', s', nn.trans n, q⟩, (k.rt.cut n1).cut nn⟩
    · have e0 : ds.drop i = [] := List.drop_eq_nil_of_le (by omega)
      rw [e0] at q
      obtain ⟨kp, q⟩ := q
      exact .inl ⟨J1.stop Hm2 H2 i (NT.z n2) s2.rep kp (by omega), k.nx σ2 H2 σd2 Hm2 (n1.trans n2) s2 q⟩
theorem ds_whl (po : PassesOwn (model C.X.prog C.X.w) C.X.A C.X.env C.X.xe) {c : Expr} {body : List Stmt} {tc : TCd} {tb : TSd} (hc : DC C c tc) (hb : DSs C body tb) :
    DS C (.While c body [] pos) (fun D σ H => ∃ n, whileN tc (fun σ H Q => tb { D with nx := Q, ct := Q, bk := D.nx } σ H) n σ H D.nx) :=
  PS.weak (ps_while po hc hb) fun D σ H => by
    rintro ⟨σd, Hm, Dd, s, ⟨n, q⟩, k⟩
    refine ⟨fun m σ' H' => ∃ σd' Hm', Rs C σd' Hm' σ' H' ∧ NT Hm H Hm' H' ∧ whileN tc (fun σ H Q => tb { Dd with nx := Q, ct := Q, bk := Dd.nx } σ H) m σd' Hm' Dd.nx, ⟨n, σd, Hm, s, .refl, q⟩, ?_⟩
    rintro m σ1 H1 ⟨σd1, Hm1, s1, n1, q⟩
    cases m with
    | zero => exact q.elim
    | succ m =>
      refine LfC.seq s1 q fun b H2 Hm2 n2 s2 q => ?_
      cases b with
      | false => exact k.nx σ1 H2 σd1 Hm2 (n1.trans n2) s2 q
      | true =>
        refine ⟨fun σ' H' => ∃ σd' Hm', Rs C σd' Hm' σ' H' ∧ NT Hm H Hm' H' ∧ whileN tc (fun σ H Q => tb { Dd with nx := Q, ct := Q, bk := Dd.nx } σ H) m σd' Hm' Dd.nx, fun σ' H' z => ⟨m, Nat.lt_succ_self _, z⟩, σd1, Hm2, _, s2, q, ?_⟩
        exact ⟨fun σ' H' σd' Hm' n s' q => ⟨σd', Hm', s', (n1.trans n2).trans n, q⟩, fun σ' H' σd' Hm' n s' q => k.nx σ' H' σd' Hm' ((n1.trans n2).trans n) s' q, fun σ' H' σd' Hm' n s' q => ⟨σd', Hm', s', (n1.trans n2).trans n, q⟩, (k.rt.cut n1).cut n2⟩
theorem ds_never {st : Stmt} : DS C st (fun _ _ _ => False) := PS.weak ps_never fun D σ H => by
  rintro ⟨σd, Hm, Dd, s, q, k⟩
  exact q.elim
/-! match on texts -/
def valS : Pattern → Option Str
  | .MatchValue (.Constant (.str x) _ _) _ => some x
  | _ => none
def valSs : List Pattern → Option (List Str)
  | [] => some []
  | p :: r => (valS p).bind fun x => (valSs r).map (x :: ·)
def patS : Pattern → Option (List Str)
  | .MatchOr ps _ => valSs ps
  | p => (valS p).map fun x => [x]
theorem valS_is {p : Pattern} {x : Str} (h : valS p = some x) : ∃ n q1 q2, p = .MatchValue (.Constant (.str x) n q1) q2 := by
  unfold valS at h
  split at h
  · cases h; exact ⟨_, _, _, rfl⟩
  · cases h
theorem val_run {X : Cx} {pins : List (Addr × Obj)} {s : Shared} {σ : L2.St} {H : Hp} {p : Pattern} {x a : Str} {u : Value} {Q : Option (List (Str × Value)) → Shared → Prop} (hp : valS p = some x) (I : Inv X pins σ H s) (r : RelV (.str a) u)
    (h : ∀ s', Inv X pins σ H s' → Q (if decide (a = x) then some [] else none) s') : wpAny (model X.prog X.w) X.A (matchPattern p X.env u) Q X.xe s := by
  obtain ⟨n, q1, q2, rfl⟩ := valS_is hp
  refine wpAny_matchPattern_Value (thn ((pe_str (X := X)).run pins s σ H (fun v H' => v = .str x ∧ H' = H) I ⟨rfl, rfl⟩) fun w s1 ⟨v', H', I', r', e1, e2⟩ => ?_)
  subst e1 e2
  refine thn (op_eq pins s1 σ H' (.str a) (.str x) u w (fun v H2 => v = .bl (decide (V.str a = V.str x)) ∧ H2 = H') I' r r' ⟨rfl, rfl, rfl⟩) fun c s2 ⟨v2, H2, I2, r2, e1, e2⟩ => ?_
  subst e1 e2
  have e3 : decide (V.str a = V.str x) = decide (a = x) := by simp
  rw [e3] at r2
  have e4 : c = Value.bool (decide (a = x)) := r2
  subst e4
  refine wpAny_truthy_bool ?_
  have := h s2 I2
  by_cases e : a = x
  · rw [decide_eq_true e] at this ⊢; exact this
  · rw [decide_eq_false e] at this ⊢; exact this
theorem first_run {X : Cx} {pins : List (Addr × Obj)} {σ : L2.St} {H : Hp} {a : Str} {u : Value} {Q : Option (List (Str × Value)) → Shared → Prop} (r : RelV (.str a) u) : ∀ {ps : List Pattern} {ks : List Str} {s : Shared}, valSs ps = some ks → Inv X pins σ H s →
    (∀ s', Inv X pins σ H s' → Q (if memS a ks then some [] else none) s') → wpAny (model X.prog X.w) X.A (matchFirst ps X.env u) Q X.xe s
  | [], ks, s, hp, I, h => by
    unfold valSs at hp; cases hp
    exact wpAny_matchFirst_nil (h s I)
  | p :: ps, ks, s, hp, I, h => by
    unfold valSs at hp
    simp only [Option.bind_eq_some_iff, Option.map_eq_some_iff] at hp
    obtain ⟨x, hx, ks', hk, rfl⟩ := hp
    have em : memS a (x :: ks') = (decide (a = x) || memS a ks') := by
      cases ks' with
      | nil => simp
      | cons y r => rfl
    rw [em] at h
    refine wpAny_matchFirst_cons (val_run hx I r fun s' I' => ?_)
    by_cases e : a = x
    · have := h s' I'
      rw [decide_eq_true e] at this ⊢
      exact this
    · rw [decide_eq_false e] at h ⊢
      exact first_run r hk I' h
theorem names_none : ∀ {ps : List Pattern} {ks : List Str}, valSs ps = some ks → namesOfAll ps = []
  | [], ks, _ => by unfold namesOfAll; rfl
  | p :: ps, ks, hp => by
    unfold valSs at hp
    simp only [Option.bind_eq_some_iff, Option.map_eq_some_iff] at hp
    obtain ⟨x, hx, ks', hk, rfl⟩ := hp
    obtain ⟨n, q1, q2, rfl⟩ := valS_is hx
    unfold namesOfAll
    rw [names_none hk]
    rfl
theorem take1_val {ps : List Pattern} {ks : List Str} (h : valSs ps = some ks) : ∃ ks', valSs (ps.take 1) = some ks' := by
  cases ps with
  | nil => exact ⟨[], rfl⟩
  | cons p r =>
    unfold valSs at h
    simp only [Option.bind_eq_some_iff, Option.map_eq_some_iff] at h
    obtain ⟨x, hx, ks', hk, rfl⟩ := h
    refine ⟨[x], ?_⟩
    show valSs [p] = _
    unfold valSs
    rw [hx]; rfl
theorem pat_run {X : Cx} {pins : List (Addr × Obj)} {s : Shared} {σ : L2.St} {H : Hp} {p : Pattern} {ks : List Str} {a : Str} {u : Value} {Q : Option (List (Str × Value)) → Shared → Prop} (hp : patS p = some ks) (I : Inv X pins σ H s) (r : RelV (.str a) u)
    (h : ∀ s', Inv X pins σ H s' → Q (if memS a ks then some [] else none) s') : wpAny (model X.prog X.w) X.A (matchPattern p X.env u) Q X.xe s := by
  unfold patS at hp
  split at hp
  · rename_i ps pos1
    refine wpAny_matchPattern_Or (first_run r hp I fun s' I' => ?_)
    have := h s' I'
    cases hm : memS a ks with
    | true =>
      rw [hm] at this
      obtain ⟨ks', h1⟩ := take1_val hp
      show Q (some ((namesOfAll (ps.take 1)).filterMap _)) s'
      rw [names_none h1]
      exact this
    | false =>
      rw [hm] at this
      exact this
  · simp only [Option.map_eq_some_iff] at hp
    obtain ⟨x, hx, rfl⟩ := hp
    exact val_run hx I r h
def DMs (C : Co) (cs : List MatchCase) (T : D → TSd) : Prop := ∀ (first : Bool) (pins : List (Addr × Obj)) (s : Shared) (σ : L2.St) (H : Hp) (Dn : Ends) (d : D) (v : V) (u : Value) (σd : En) (Hm : MH) (Dd : Ends'), Inv C.X pins σ H s → RelV v u → Is C.K H Hm d v → Rs C σd Hm σ H → T d Dd σd Hm → EndsOk C Hm σ H Dd Dn →
  wpAny (model C.X.prog C.X.w) C.X.A (matchCases cs C.X.env u first) (SP C.X pins Dn) C.X.xe s
theorem dms_nil : DMs C [] (fun _ D σ H => D.nx σ H) := fun first pins s σ H Dn d v u σd Hm Dd I r i s0 q k =>
  wpAny_matchCases_nil ⟨σ, H, I, k.nx σ H σd Hm .refl s0 q⟩
theorem dms_dflt {b : List Stmt} {tb : TSd} {q2 : Pos} {rest : List MatchCase} (hb : DSs C b tb) : DMs C (⟨.MatchAs none none q2, none, b⟩ :: rest) (fun _ D σ H => tb D σ H) := fun first pins s σ H Dn d v u σd Hm Dd I r i s0 q k =>
  wpAny_matchCases_cons (wpAny_matchPattern_Capture (wpAny_assignInOrder_none (hb.run pins s σ H Dn I ⟨σd, Hm, Dd, s0, q, k⟩)))
theorem dms_cons {p : Pattern} {ks : List Str} {b : List Stmt} {tb : TSd} {rest : List MatchCase} {tr : D → TSd} (hp : patS p = some ks) (hb : DSs C b tb) (hr : DMs C rest tr) :
    DMs C (⟨p, none, b⟩ :: rest) (fun d D σ H => ∃ c, eqStr d ks = some c ∧ br c (tb D σ H) (tr d D σ H)) := fun first pins s σ H Dn d v u σd Hm Dd I r i s0 q k => by
  obtain ⟨c, hc, q⟩ := q
  unfold eqStr at hc
  split at hc
  · rename_i a
    have e := i.str
    subst e
    cases hc
    refine wpAny_matchCases_cons (pat_run hp I r fun s' I' => ?_)
    cases hm : memS a ks with
    | true =>
      rw [hm] at q
      exact wpAny_assignInOrder_none (hb.run pins s' σ H Dn I' ⟨σd, Hm, Dd, s0, q, k⟩)
    | false =>
      rw [hm] at q
      exact hr false pins s' σ H Dn (.str a) (.str a) u σd Hm Dd I' r i s0 q k
  · cases hc
theorem ds_mtch {cs : List MatchCase} {tc : D → TSd} (he : DE C e te) (hc : DMs C cs tc) : DS C (.Match e cs pos) (fun D σ H => te σ H fun x H1 => tc x D σ H1) := ⟨fun pins s σ H Dn I q => by
  obtain ⟨σd, Hm, Dd, s0, q, k⟩ := q
  refine wpAny_Match (thn (he.run pins s σ H (fun v H' => ∃ d Hm', NT Hm H Hm' H' ∧ Rs C σd Hm' σ H' ∧ Is C.K H' Hm' d v ∧ tc d Dd σd Hm') I (Lf.seq s0 q fun v H' d Hm' n s1 i q => ⟨d, Hm', n, s1, i, q⟩)) fun u s1 ⟨v, H1, I1, r1, d, Hm1, n1, s2, i, q⟩ => ?_)
  exact hc true pins s1 σ H1 Dn d v u σd Hm1 Dd I1 r1 i s2 q (k.cut n1)⟩
end
end DL

set_option maxHeartbeats 400000
namespace DL
open PySem PySem.Spec PyProof.Rows L2

/-- the tests of a comprehension's clause -/
def DCs (C : Co) (es : List Expr) (T : TCd) : Prop := PTs C.X es (LfC C T)
theorem PTs.weak {X : Cx} {es : List Expr} {t t' : TT} (h : PTs X es t) (k : ∀ σ H Q, t' σ H Q → t σ H Q) : PTs X es t' := ⟨fun pins s σ H Q I q => h.run pins s σ H Q I (k σ H Q q)⟩
theorem dcs_nil {C : Co} : DCs C [] (fun _ H Q => Q true H) := PTs.weak pts_nil fun σ H Q => by
  rintro ⟨σd, Hm, Qd, s, q, k⟩
  exact k true H Hm .refl s.rep q
theorem dcs_one {C : Co} {c : Expr} {t : TCd} (h : DC C c t) : DCs C [c] (fun σ H Q => t σ H fun b H1 => br b (Q true H1) (Q false H1)) := PTs.weak (pts_one h) fun σ H Q => by
  rintro ⟨σd, Hm, Qd, s, q, k⟩
  refine LfC.seq s q fun b H1 Hm1 n1 s1 q => ?_
  cases b with
  | true => exact k true H1 Hm1 n1 s1.rep q
  | false => exact k false H1 Hm1 n1 s1.rep q

section
variable {K : PySem.W.Frag} {Z : Addr → Prop} {H : Hp} {Hm : MH} {D0 : Addr} {ds : List D} {vs : List V} {d : D} {v : V}
abbrev hidZ (Z : Addr → Prop) (D0 : Addr) : Addr → Prop := fun a => Z a ∨ a = D0
/-- a hidden list changes -/
theorem hw {K : Kz} (hz : K.Z D0) {xs : List V} (h : H D0 = some (.lst xs)) {o : HO} :
    (∀ a ys, SqU K.K H a ys → SqU K.K (upd H D0 o) a ys) ∧ (∀ a ys, FrzL K H Hm a ys → FrzL K (upd H D0 o) Hm a ys) ∧
      (∀ a C dx fs, H a = some (.ins C dx fs) → (Hm a = none ∧ ¬ K.Z a) → upd H D0 o a = some (.ins C dx fs) ∧ (Hm a = none ∧ ¬ K.Z a)) ∧
      (∀ a kvs, H a = some (.dK kvs) → (Hm a = none ∧ ¬ K.Z a) → ∃ kvs', upd H D0 o a = some (.dK kvs') ∧ (Hm a = none ∧ ¬ K.Z a)) ∧
      ∀ nm a fs, ExA K H Hm nm a fs → ExA K (upd H D0 o) Hm nm a fs := by
  refine ⟨fun a ys q => ?_, fun a ys q => ?_, fun a C dx fs q m => ?_, fun a kvs q m => ?_, ExA.to rfl fun a o _ q m z => ⟨by rw [upd_ne (fun e : a = D0 => z (by rw [e]; exact hz))]; exact q, m, z⟩⟩
  · rcases q with q | q
    · exact .inl (by rw [upd_ne (ne_of q h (by intro z; cases z))]; exact q)
    · exact .inr q
  · rcases q with ⟨q, m, z⟩ | q
    · have ne : a ≠ D0 := fun e => z (e ▸ hz)
      rcases q with q | ⟨u, q⟩
      · exact .inl ⟨.inl (by rw [upd_ne ne]; exact q), m, z⟩
      · exact .inl ⟨.inr ⟨u, by rw [upd_ne ne]; exact q⟩, m, z⟩
    · exact .inr q
  · have ne : a ≠ D0 := fun e => m.2 (e ▸ hz)
    exact ⟨by rw [upd_ne ne]; exact q, m⟩
  · have ne : a ≠ D0 := fun e => m.2 (e ▸ hz)
    exact ⟨kvs, by rw [upd_ne ne]; exact q, m⟩
theorem Iss.hw {K : Kz} (hz : K.Z D0) {xs : List V} (h : H D0 = some (.lst xs)) {o : HO} (t : Iss K H Hm ds vs) : Iss K (upd H D0 o) Hm ds vs :=
  let ⟨a, b, c, g, y⟩ := DL.hw (Hm := Hm) hz h (o := o); Iss.tr rfl a b c g y ds vs t
theorem Is.hw {K : Kz} (hz : K.Z D0) {xs : List V} (h : H D0 = some (.lst xs)) {o : HO} (t : Is K H Hm d v) : Is K (upd H D0 o) Hm d v :=
  let ⟨a, b, c, g, y⟩ := DL.hw (Hm := Hm) hz h (o := o); Is.tr rfl a b c g y d v t
theorem Rep.hw {K : Kz} (hz : K.Z D0) {xs : List V} (h : H D0 = some (.lst xs)) {o : HO} (r : Rep K H Hm) : Rep K (upd H D0 o) Hm := by
  obtain ⟨_, _, hm⟩ := r.hid D0 hz
  refine ⟨fun a u e => ?_, fun a z => ?_⟩
  · have ne : a ≠ D0 := fun q => by rw [q, hm] at e; cases e
    have := r.obj a u e
    cases u with
    | lst ds => obtain ⟨vs, q, t⟩ := this; exact ⟨vs, by rw [upd_ne ne]; exact q, t.hw hz h⟩
    | ins C ns ds => obtain ⟨dx, fs, q, l, t⟩ := this; exact ⟨dx, fs, q.at_ (upd_ne ne), l, t.hw hz h⟩
    | dk kvs => obtain ⟨us, q, l, t⟩ := this; exact ⟨us, by rw [upd_ne ne]; exact q, l, t.hw hz h⟩
    | dt kvs => obtain ⟨us, q, l, t⟩ := this; exact ⟨us, by rw [upd_ne ne]; exact q, l, t.hw hz h⟩
    | ldk o us kvs => obtain ⟨q, l, t⟩ := this; exact ⟨by rw [upd_ne ne]; exact q, l, t.hw hz h⟩
    | ldt o us kvs => obtain ⟨q, l, t⟩ := this; exact ⟨by rw [upd_ne ne]; exact q, l, t.hw hz h⟩
  · obtain ⟨u, q, m⟩ := r.hid a z
    by_cases e : a = D0
    · exact ⟨o, by rw [e, upd_same], m⟩
    · exact ⟨u, by rw [upd_ne e]; exact q, m⟩
theorem EnvIs.hw {K : Kz} (hz : K.Z D0) {xs : List V} (h : H D0 = some (.lst xs)) {o : HO} {σd : En} {σ : L2.St} (e : EnvIs K H Hm σd σ) : EnvIs K (upd H D0 o) Hm σd σ :=
  ⟨e.len, fun i d q => let ⟨v, a, b⟩ := e.get i d q; ⟨v, a, b.hw hz h⟩⟩
/-- a new list, hidden -/
theorem is_new (h : H D0 = none) {o : HO} (r : Rep ⟨K, Z⟩ H Hm) : (∀ d v, Is ⟨K, Z⟩ H Hm d v → Is ⟨K, hidZ Z D0⟩ (upd H D0 o) Hm d v) ∧ ∀ ds vs, Iss ⟨K, Z⟩ H Hm ds vs → Iss ⟨K, hidZ Z D0⟩ (upd H D0 o) Hm ds vs := by
  have a1 : ∀ a ys, SqU K H a ys → SqU K (upd H D0 o) a ys := fun a ys q => sqU_nt r (ext_nt h) q
  have a2 : ∀ a ys, FrzL ⟨K, Z⟩ H Hm a ys → FrzL ⟨K, hidZ Z D0⟩ (upd H D0 o) Hm a ys := fun a ys q => by
    rcases q with ⟨q, m, z⟩ | q
    · rcases q with q | ⟨u, q⟩
      · have ne := ne_of_none q h
        exact .inl ⟨.inl (by rw [upd_ne ne]; exact q), m, fun w => w.elim z ne⟩
      · have ne := ne_of_none q h
        exact .inl ⟨.inr ⟨u, by rw [upd_ne ne]; exact q⟩, m, fun w => w.elim z ne⟩
    · exact .inr q
  have a3 : ∀ a C dx fs, H a = some (.ins C dx fs) → (Hm a = none ∧ ¬ Z a) → upd H D0 o a = some (.ins C dx fs) ∧ (Hm a = none ∧ ¬ hidZ Z D0 a) := fun a C dx fs q m => by
    have ne := ne_of_none q h
    exact ⟨by rw [upd_ne ne]; exact q, m.1, fun w => w.elim m.2 ne⟩
  have a4 : ∀ a kvs, H a = some (.dK kvs) → (Hm a = none ∧ ¬ Z a) → ∃ kvs', upd H D0 o a = some (.dK kvs') ∧ (Hm a = none ∧ ¬ hidZ Z D0 a) := fun a kvs q m => by
    have ne := ne_of_none q h
    exact ⟨kvs, by rw [upd_ne ne]; exact q, m.1, fun w => w.elim m.2 ne⟩
  have a5 : ∀ nm a fs, ExA ⟨K, Z⟩ H Hm nm a fs → ExA ⟨K, hidZ Z D0⟩ (upd H D0 o) Hm nm a fs := ExA.to rfl fun a o _ q m z => by
    have ne := ne_of_none q h
    exact ⟨by rw [upd_ne ne]; exact q, m, fun w => w.elim z ne⟩
  exact ⟨fun d v => Is.tr (K := ⟨K, Z⟩) (K' := ⟨K, hidZ Z D0⟩) rfl a1 a2 a3 a4 a5 d v, fun ds vs => Iss.tr (K := ⟨K, Z⟩) (K' := ⟨K, hidZ Z D0⟩) rfl a1 a2 a3 a4 a5 ds vs⟩
theorem rep_new (h : H D0 = none) {o : HO} (r : Rep ⟨K, Z⟩ H Hm) : Rep ⟨K, hidZ Z D0⟩ (upd H D0 o) Hm := by
  have t := (is_new h (o := o) r).2
  refine ⟨fun a u e => ?_, fun a z => ?_⟩
  · obtain ⟨w, q, _⟩ := r.hit e
    have ne := ne_of_none q h
    have := r.obj a u e
    cases u with
    | lst ds => obtain ⟨vs, q, z⟩ := this; exact ⟨vs, by rw [upd_ne ne]; exact q, t _ _ z⟩
    | ins C ns ds => obtain ⟨dx, fs, q, l, z⟩ := this; exact ⟨dx, fs, q.at_ (upd_ne ne), l, t _ _ z⟩
    | dk kvs => obtain ⟨us, q, l, z⟩ := this; exact ⟨us, by rw [upd_ne ne]; exact q, l, t _ _ z⟩
    | dt kvs => obtain ⟨us, q, l, z⟩ := this; exact ⟨us, by rw [upd_ne ne]; exact q, l, t _ _ z⟩
    | ldk o us kvs => obtain ⟨q, l, z⟩ := this; exact ⟨by rw [upd_ne ne]; exact q, l, t _ _ z⟩
    | ldt o us kvs => obtain ⟨q, l, z⟩ := this; exact ⟨by rw [upd_ne ne]; exact q, l, t _ _ z⟩
  · rcases z with z | z
    · obtain ⟨u, q, m⟩ := r.hid a z
      have ne := ne_of_none q h
      exact ⟨u, by rw [upd_ne ne]; exact q, m⟩
    · rw [z]
      exact ⟨o, upd_same, r.free h⟩
/-- hidden no more -/
theorem iss_shown (t : Iss ⟨K, hidZ Z D0⟩ H Hm ds vs) : Iss ⟨K, Z⟩ H Hm ds vs :=
  Iss.tr (K := ⟨K, hidZ Z D0⟩) (K' := ⟨K, Z⟩) rfl (fun _ _ q => q) (fun a ys q => by
    rcases q with ⟨q, m, z⟩ | q
    · exact .inl ⟨q, m, fun w => z (.inl w)⟩
    · exact .inr q) (fun a C dx fs q m => ⟨q, m.1, fun w => m.2 (.inl w)⟩) (fun a kvs q m => ⟨kvs, q, m.1, fun w => m.2 (.inl w)⟩) (ExA.to rfl fun a o _ q m z => ⟨q, m, fun w => z (.inl w)⟩) ds vs t
theorem rep_shown (r : Rep ⟨K, hidZ Z D0⟩ H Hm) : Rep ⟨K, Z⟩ H Hm := by
  refine ⟨fun a u e => ?_, fun a z => r.hid a (.inl z)⟩
  have := r.obj a u e
  cases u with
  | lst ds => obtain ⟨vs, q, z⟩ := this; exact ⟨vs, q, iss_shown z⟩
  | ins C ns ds => obtain ⟨dx, fs, q, l, z⟩ := this; exact ⟨dx, fs, q, l, iss_shown z⟩
  | dk kvs => obtain ⟨us, q, l, z⟩ := this; exact ⟨us, q, l, iss_shown z⟩
  | dt kvs => obtain ⟨us, q, l, z⟩ := this; exact ⟨us, q, l, iss_shown z⟩
  | ldk o us kvs => obtain ⟨q, l, z⟩ := this; exact ⟨q, l, iss_shown z⟩
  | ldt o us kvs => obtain ⟨q, l, z⟩ := this; exact ⟨q, l, iss_shown z⟩
/-- .. and tracked -/
theorem iss_tracked (t : Iss ⟨K, hidZ Z D0⟩ H Hm ds vs) {u : MO} : Iss ⟨K, Z⟩ H (updM Hm D0 u) ds vs :=
  Iss.tr (K := ⟨K, hidZ Z D0⟩) (K' := ⟨K, Z⟩) rfl (fun _ _ q => q) (fun a ys q => by
    rcases q with ⟨q, m, z⟩ | q
    · exact .inl ⟨q, by rw [updM_ne fun e => z (.inr e)]; exact m, fun w => z (.inl w)⟩
    · exact .inr q) (fun a C dx fs q m => ⟨q, by rw [updM_ne fun e => m.2 (.inr e)]; exact m.1, fun w => m.2 (.inl w)⟩) (fun a kvs q m => ⟨kvs, q, by rw [updM_ne fun e => m.2 (.inr e)]; exact m.1, fun w => m.2 (.inl w)⟩) (ExA.to rfl fun a o _ q m z => ⟨q, by rw [updM_ne fun e => z (.inr e)]; exact m, fun w => z (.inl w)⟩) ds vs t
theorem rep_tracked (r : Rep ⟨K, hidZ Z D0⟩ H Hm) (hz : ¬ Z D0) {es : List D} {ws : List V} (h : H D0 = some (.lst ws)) (t : Iss ⟨K, hidZ Z D0⟩ H Hm es ws) : Rep ⟨K, Z⟩ H (updM Hm D0 (.lst es)) := by
  refine ⟨fun a u e => ?_, fun a z => ?_⟩
  · by_cases ha : a = D0
    · subst ha
      rw [updM_same] at e; cases e
      exact ⟨ws, h, iss_tracked t⟩
    · rw [updM_ne ha] at e
      have := r.obj a u e
      cases u with
      | lst ds => obtain ⟨vs, q, z⟩ := this; exact ⟨vs, q, iss_tracked z⟩
      | ins C ns ds => obtain ⟨dx, fs, q, l, z⟩ := this; exact ⟨dx, fs, q, l, iss_tracked z⟩
      | dk kvs => obtain ⟨us, q, l, z⟩ := this; exact ⟨us, q, l, iss_tracked z⟩
      | dt kvs => obtain ⟨us, q, l, z⟩ := this; exact ⟨us, q, l, iss_tracked z⟩
      | ldk o us kvs => obtain ⟨q, l, z⟩ := this; exact ⟨q, l, iss_tracked z⟩
      | ldt o us kvs => obtain ⟨q, l, z⟩ := this; exact ⟨q, l, iss_tracked z⟩
  · obtain ⟨u, q, m⟩ := r.hid a (.inl z)
    have ne : a ≠ D0 := fun e => hz (by rw [← e]; exact z)
    exact ⟨u, q, by rw [updM_ne ne]; exact m⟩
end
/-- a comprehension's own place -/
abbrev inBlk (X : Cx) (s : Shared) (H : Hp) (scope : Scope) (Ca : Addr) (cl : List (Str × Addr)) (fp : List Addr) (Z : Addr → Prop) (M0 : MH) (H0 : Hp) : Co :=
  ⟨X.blk s H scope (compEnvC scope cl Ca X.env) fp, Z, M0, H0, fun _ _ _ _ => False, fun _ _ _ _ => False⟩
theorem inBlk_ok {X : Cx} (x : Cok X) {s : Shared} {H : Hp} {scope : Scope} {Ca : Addr} {cl : List (Str × Addr)} {fp : List Addr} {Z : Addr → Prop} {M0 : MH} {H0 : Hp} : (inBlk X s H scope Ca cl fp Z M0 H0).Ok :=
  ⟨⟨x.nd, x.un, ⟨x.big.seer, x.big.tree, x.big.dp, x.big.fr⟩⟩, takes0, fun _ _ _ _ _ _ _ _ _ _ _ h => h⟩
section
variable {C : Co} {elt tg iter : Expr} {ifs : List Expr} {scope : Scope} {own : List (Str × Nat)} {pos : Pos} {ti : TId} {ts : List Nat} {t : TGd} {tc : TCd} {te : TD} {m : Bool}
def lcT (ti : TId) (t : TGd) (tc : TCd) (te : TD) (own : List Nat) (m : Bool) : TD := fun σ H Q => ti σ H fun xs keep H1 => xs.length ≤ sizeLine ∧
  lcL (fun x H Q => t x (wipeD σ own) H fun σ1 H1 => tc σ1 H1 fun b H2 => br b (te σ1 H2 fun y H3 => Q (some y) H3) (Q none H2)) keep xs H1 fun ys H2 => freshL m ys H2 Q
theorem lc_read (hts : ∀ i ∈ ts, i ∈ own.map (·.2)) {σ : L2.St} {H : Hp} {Q : VK} (h : Lf C (lcT ti t tc te (own.map (·.2)) m) σ H Q) :
    tLc (LfI C ti) (fun v σ H Q => ∃ Z M0 H0, LfG ⟨C.X, Z, M0, H0, fun _ _ _ _ => False, fun _ _ _ _ => False⟩ ts t v σ H Q) (fun σ H Q => ∃ Z M0 H0, LfC ⟨C.X, Z, M0, H0, fun _ _ _ _ => False, fun _ _ _ _ => False⟩ tc σ H Q)
      (fun σ H Q => ∃ Z M0 H0, Lf ⟨C.X, Z, M0, H0, fun _ _ _ _ => False, fun _ _ _ _ => False⟩ te σ H Q) (own.map (·.2)) σ H Q := by
  obtain ⟨σd, Hm, Qd, s, q, k⟩ := h
  refine ⟨σd, Hm, _, s, q, fun J H1 ds keep Hm1 n1 r1 J0 q D0 hD => ?_⟩
  have s1 := s.nxt n1 r1
  obtain ⟨hsz, q⟩ := q
  have J1 := J0 (hidZ C.Z D0) fun a z => z.imp id fun e => by rw [e]; exact hD
  have hzD : hidZ C.Z D0 D0 := .inr rfl
  have nzD : ¬ C.Z D0 := fun z => by
    obtain ⟨u, e, _⟩ := r1.hid D0 z
    rw [hD] at e; cases e
  have n0 : NT Hm1 H1 Hm1 (upd H1 D0 (.lst [])) := ext_nt hD
  have r0 : Rep ⟨C.X.K, hidZ C.Z D0⟩ (upd H1 D0 (.lst [])) Hm1 := rep_new hD r1
  have e0 : EnvIs ⟨C.X.K, hidZ C.Z D0⟩ (upd H1 D0 (.lst [])) Hm1 (wipeD σd (own.map (·.2))) (wipe σ (own.map (·.2))) := by
    have e1 := s1.env.wiped (own.map (·.2))
    exact ⟨e1.len, fun i d q => let ⟨v, a, b⟩ := e1.get i d q; ⟨v, a, (is_new hD r1).1 d v b⟩⟩
  let step : D → MH → (Option D → MH → Prop) → Prop := fun x H Q => t x (wipeD σd (own.map (·.2))) H fun σ1 H1 => tc σ1 H1 fun b H2 => br b (te σ1 H2 fun y H3 => Q (some y) H3) (Q none H2)
  let Inv' : Nat → Hp → Prop := fun i H => ∃ Hm accd accv, H D0 = some (.lst accv) ∧ Hm D0 = none ∧ EnvIs ⟨C.X.K, hidZ C.Z D0⟩ H Hm (wipeD σd (own.map (·.2))) (wipe σ (own.map (·.2))) ∧ Rep ⟨C.X.K, hidZ C.Z D0⟩ H Hm ∧ NT Hm1 H1 Hm H ∧
    Iss ⟨C.X.K, hidZ C.Z D0⟩ H Hm accd accv ∧ accv.length ≤ i ∧ lcL step keep (ds.drop i) Hm fun ys H2 => freshL m (accd ++ ys) H2 Qd
  refine ⟨fun i m H => m = ds.length - i ∧ i ≤ ds.length ∧ Inv' i H, ⟨ds.length, rfl, Nat.zero_le _, Hm1, [], [], upd_same, r1.free hD, e0, r0, n0, .nil, Nat.le_refl _, q⟩, ?_⟩
  rintro i m' H2 ⟨rfl, hi, Hm2, accd, accv, hA, hN, e2, r2, n2, t2, hl, q⟩
  by_cases hlt : i < ds.length
  · have e1 : ds.drop i = ds[i] :: ds.drop (i + 1) := List.drop_eq_getElem_cons hlt
    rw [e1] at q
    obtain ⟨kp, q⟩ := q
    have g : ds[i]? = some ds[i] := List.getElem?_eq_getElem hlt
    refine .inr ⟨J1.go Hm2 H2 i _ (NT.z n2) r2 kp g, Inv' (i + 1), fun H' z => ⟨ds.length - (i + 1), by omega, rfl, hlt, z⟩, fun x H3 y => ?_⟩
    obtain ⟨n3, r3, ix⟩ := J1.yld Hm2 H2 i _ x H3 (NT.z n2) r2 kp g y
    have hA3 := n3 D0 _ hA hN
    have env3 : EnvIs ⟨C.X.K, hidZ C.Z D0⟩ H3 Hm2 (wipeD σd (own.map (·.2))) (wipe σ (own.map (·.2))) := e2.nt r2 n3
    refine ⟨hidZ C.Z D0, Hm2, H3, ds[i], wipeD σd (own.map (·.2)), Hm2, _, ix, ⟨env3, r3, .refl⟩, q, fun σ4 H4 σd4 Hm4 n4 s4 out q => ?_⟩
    refine ⟨out.wiped hts, hidZ C.Z D0, Hm2, H3, σd4, Hm4, _, s4, q, fun b H5 Hm5 n5 r5 q => ?_⟩
    have s5 := s4.nxt n5 r5
    have nn := n4.trans n5
    have hA5 := nn D0 _ hA3.1 hA3.2
    cases b with
    | false => exact ⟨Hm5, accd, accv, hA5.1, hA5.2, env3.nt r3 nn, r5, (n2.trans n3).trans nn, Iss.nt r3 nn _ _ (Iss.nt r2 n3 _ _ t2), by omega, q⟩
    | true =>
      refine ⟨hidZ C.Z D0, Hm2, H3, σd4, Hm5, _, s5, q, fun y H6 dy Hm6 n6 r6 iy q => ?_⟩
      have nn6 := nn.trans n6
      have hA6 := nn6 D0 _ hA3.1 hA3.2
      refine ⟨accv, hA6.1, by omega, Hm6, accd ++ [dy], accv ++ [y], upd_same, hA6.2, (env3.nt r3 nn6).hw hzD hA6.1, r6.hw hzD hA6.1, ?_, ?_, by rw [List.length_append]; simp; omega, ?_⟩
      · refine fun a u e z => ?_
        obtain ⟨e', z'⟩ := ((n2.trans n3).trans nn6) a u e z
        exact ⟨by rw [upd_ne (ne_of_none e hD)]; exact e', z'⟩
      · exact ((Iss.nt r3 nn6 _ _ (Iss.nt r2 n3 _ _ t2)).append (.cons iy .nil)).hw hzD hA6.1
      · simp only [List.append_assoc, List.singleton_append]
        exact q
  · have e1 : ds.drop i = [] := List.drop_eq_nil_of_le (by omega)
    rw [e1] at q
    obtain ⟨kp, q⟩ := q
    have q : freshL m (accd ++ []) Hm2 Qd := q
    rw [List.append_nil] at q
    refine .inl ⟨J1.stop Hm2 H2 i (NT.z n2) r2 kp (by omega), ?_⟩
    obtain ⟨_, q⟩ := q
    cases m with
    | true =>
      have q : ∀ p, Hm2 p = none → Qd (.ref p) (updM Hm2 p (.lst accd)) := q
      refine k _ H2 (.ref D0) (updM Hm2 D0 (.lst accd)) (fun a u e z => ?_) (rep_tracked r2 nzD hA t2) is_ref (q D0 hN)
      obtain ⟨e3, z3⟩ := n1 a u e z
      obtain ⟨e4, z4⟩ := n2 a u e3 z3
      exact ⟨e4, by rw [updM_ne (ne_of_none e3 hD)]; exact z4⟩
    | false =>
      have q : Qd (.rol accd) Hm2 := q
      exact k _ H2 (.rol accd) Hm2 (n1.trans n2) (rep_shown r2) (by unfold Is; exact ⟨D0, accv, rfl, .inl ⟨.inl hA, hN, nzD⟩, iss_shown t2⟩) q
theorem de_lc (ok : C.Ok) (hcl : C.X.calm = true) (hi : DI C tg iter ti) (blk : BlkOk C.X.N C.X.env.scope scope own) (hts : ∀ i ∈ ts, i ∈ own.map (·.2))
    (hg : ∀ s H Ca cl fp Z M0 H0, DG (inBlk C.X s H scope Ca cl fp Z M0 H0) ts tg t) (ht : ∀ s H Ca cl fp Z M0 H0, DCs (inBlk C.X s H scope Ca cl fp Z M0 H0) ifs tc)
    (he : ∀ s H Ca cl fp Z M0 H0, DE (inBlk C.X s H scope Ca cl fp Z M0 H0) elt te) (hs : ∀ x, foldedSetIterable iter C.X.env x = pure x) :
    DE C (.ListComp elt [⟨tg, iter, ifs, 0⟩] scope pos) (lcT ti t tc te (own.map (·.2)) m) :=
  PE.weak (pe_lc (own := own) (g := fun v σ H Q => ∃ Z M0 H0, LfG ⟨C.X, Z, M0, H0, fun _ _ _ _ => False, fun _ _ _ _ => False⟩ ts t v σ H Q) (tt := fun σ H Q => ∃ Z M0 H0, LfC ⟨C.X, Z, M0, H0, fun _ _ _ _ => False, fun _ _ _ _ => False⟩ tc σ H Q)
      (te := fun σ H Q => ∃ Z M0 H0, Lf ⟨C.X, Z, M0, H0, fun _ _ _ _ => False, fun _ _ _ _ => False⟩ te σ H Q) hcl ok.x.nd hi blk
      (fun s H Ca cl fp => ⟨fun pins s' σ H' v u Q I r ⟨Z, M0, H0, q⟩ => (hg s H Ca cl fp Z M0 H0).run pins s' σ H' v u Q I r q⟩)
      (fun s H Ca cl fp => ⟨fun pins s' σ H' Q I ⟨Z, M0, H0, q⟩ => (ht s H Ca cl fp Z M0 H0).run pins s' σ H' Q I q⟩)
      (fun s H Ca cl fp => ⟨fun pins s' σ H' Q I ⟨Z, M0, H0, q⟩ => (he s H Ca cl fp Z M0 H0).run pins s' σ H' Q I q⟩) hs) fun σ H Q h => lc_read hts h
theorem ds_setLc (ok : C.Ok) (hcl : C.X.calm = true) {i : Nat} {y : Str} {py spos : Pos} (hy : C.X.N[i]? = some y) (hyl : C.X.env.scope.names.lookup y = some .local)
    (hsw : swapsWith (.ListComp elt [⟨tg, iter, ifs, 0⟩] scope pos) (some (.Name y py)) spos.line C.X.env = pure true) (hi : DI C tg iter ti) (blk : BlkOk C.X.N C.X.env.scope scope own) (hts : ∀ i ∈ ts, i ∈ own.map (·.2))
    (hg : ∀ s H Ca cl fp Z M0 H0, DG (inBlk C.X s H scope Ca cl fp Z M0 H0) ts tg t) (ht : ∀ s H Ca cl fp Z M0 H0, DCs (inBlk C.X s H scope Ca cl fp Z M0 H0) ifs tc)
    (he : ∀ s H Ca cl fp Z M0 H0, DE (inBlk C.X s H scope Ca cl fp Z M0 H0) elt te) (hs : ∀ x, foldedSetIterable iter C.X.env x = pure x) :
    DS C (.Assign [.Name y py] (.ListComp elt [⟨tg, iter, ifs, 0⟩] scope pos) spos) (fun D σ H => lcT ti t tc te (own.map (·.2)) m σ H fun x H1 => D.nx (σ.set i (some x)) H1) :=
  PS.weak (ps_setLc (own := own) (g := fun v σ H Q => ∃ Z M0 H0, LfG ⟨C.X, Z, M0, H0, fun _ _ _ _ => False, fun _ _ _ _ => False⟩ ts t v σ H Q) (tt := fun σ H Q => ∃ Z M0 H0, LfC ⟨C.X, Z, M0, H0, fun _ _ _ _ => False, fun _ _ _ _ => False⟩ tc σ H Q)
      (te := fun σ H Q => ∃ Z M0 H0, Lf ⟨C.X, Z, M0, H0, fun _ _ _ _ => False, fun _ _ _ _ => False⟩ te σ H Q) hcl ok.x.nd hy hyl hsw hi blk
      (fun s H Ca cl fp => ⟨fun pins s' σ H' v u Q I r ⟨Z, M0, H0, q⟩ => (hg s H Ca cl fp Z M0 H0).run pins s' σ H' v u Q I r q⟩)
      (fun s H Ca cl fp => ⟨fun pins s' σ H' Q I ⟨Z, M0, H0, q⟩ => (ht s H Ca cl fp Z M0 H0).run pins s' σ H' Q I q⟩)
      (fun s H Ca cl fp => ⟨fun pins s' σ H' Q I ⟨Z, M0, H0, q⟩ => (he s H Ca cl fp Z M0 H0).run pins s' σ H' Q I q⟩) hs) fun D σ H => by
    rintro ⟨σd, Hm, Dd, s, q, k⟩
    refine lc_read hts ⟨σd, Hm, _, s, q, fun x H1 dx Hm1 n1 r1 ix q => ?_⟩
    exact k.nx _ H1 _ Hm1 n1 ((s.nxt n1 r1).set i ix) q
end
end DL

set_option maxHeartbeats 1000000
namespace DL
open PySem PySem.Spec PyProof.Rows L2
abbrev supBody (msg F pn : Str) (n : Nat) (p0 p1 p2 p3 p4 p5 p6 p7 p8 p9 : Pos) : List Stmt :=
  [.Expr (.Call (.Attribute (.Call (.Name "super" p0) [] [] p1) "__init__" p2) [.Constant (.str msg) n p3] [] p4) p5, .Assign [.Attribute (.Name "self" p6) F p7] (.Name pn p8) p9]
/-- __init__ of an own exception: what it keeps -/
def supSp (C : Addr) (F : Str) : Sp := fun vs H Q _ => ∃ (a : Addr) (y : V), vs = [.ref a, y] ∧ H a = some (exo a C none) ∧ ∀ dx, H dx = none → dx ≠ a → Q .non (upd (upd H dx (exd dx [(F, y)])) a (exo a C (some dx)))
theorem int_f {env : Env} (h : env.scope.kind = .function) : interactive env = false := by
  unfold interactive
  simp [h]
section
open PySem.W PySem.Calls
variable {prog : Program} {w : World} {A : Around} {E : Value → Shared → Prop} {h : Heap} {g : Array GenState} {d : Drawn} {t : Nat} {os : OsState}
variable {nm q : Str} {C N : Addr} {bs bm : List Value} {hdct : Bool} {sn : List Str} {sub : List Value} {ab : Bool} {col : Option Bool} {dd : Option Addr} {k0 k1 k2 k3 k5 : Option Value}
theorem call_vw {u e t0 : Addr} {rest : List Value} {Q : Value → Shared → Prop}
    (hC : h.get? C = some (excClassObj nm q C N bs bm hdct sn sub ab col dd k0 k1 k2 k3 k5 "ValueError.__new__")) (he : h.get? e = some (HandSPX.excO C t0)) (hu : h.get? u = some (kxs_mw "ValueError.__init__" e)) (hrest : rest.length ≤ sizeLine)
    (hq : ∀ h' t1, (∀ b o, b ≠ e → h.get? b = some o → h'.get? b = some o) → h'.get? e = some (HandSPX.excO C t1) → Q .none ⟨h', g, d, t, os⟩) :
    wpAny (model prog w) A (call (.ref u) rest) Q E ⟨h, g, d, t, os⟩ := by
  refine wpAny_call (codeAny_of_tree ?_)
  show wpAny _ A.in1 (callAny (.ref u) ⟨rest, []⟩) _ _ _
  simp only [callAny]
  refine wpAny_bind (wpAny_load hu ?_)
  simp only [kxs_mw, show (Value.type "method-wrapper" == Value.type "method" || Value.type "method-wrapper" == Value.type "builtin_function_or_method" || Value.type "method-wrapper" == Value.type "method-wrapper") = true by decide, if_true]
  refine W.KFB.if_so (by decide) ?_
  refine wpAny_bind (check_bound_init F.excBase_ValueError.toExcCallFacts hC he rfl ?_)
  refine wpAny_bind (wpAny_pure (wpAny_pure ?_))
  refine ⟨Code.quiet_builtin _ (by decide +kernel), codeAny_builtin F.excBase_ValueError.initEntry ?_⟩
  rw [Around.under_plainId F.excBase_ValueError.init.plain _]
  wp_walk
  refine hq _ h.objs.size (fun b o hb ho => ?_) ?_
  · rw [Heap.get?_update_other _ _ (Ne.symm hb)]
    exact Heap.get?_push_of_some _ ho
  · rw [Heap.get?_update_self _ (Heap.get?_push_of_some _ he) rfl]
    rfl
end
theorem sup_fn {CX : CXT} {P : Program} {w : World} {K : PySem.W.Frag} {mg : Str → Option Value} {base : Heap} {k : Nat} {name qual : Str} {params : Arguments} {scope : Scope} {dV kV doc pm ct oc : Value} {an od : Option Addr} {osl : Array (Option Value)} {f C cc cda : Addr} {msg F pn : Str} {n : Nat} {p0 p1 p2 p3 p4 p5 p6 p7 p8 p9 : Pos}
    {ccl cl : Value} {cdd cld : Option Addr} {ccs csl : Array (Option Value)} {vs : Array Value} {file : Str} {tf : Tok} {ar : Arg}
    (T : OexC K C) (hno : PySem.W.findIn K (.ref C) F = some none) (lk : K.lookup f = some ⟨oc, od, .func (PySem.W.ksFn name qual params (supBody msg F pn n p0 p1 p2 p3 p4 p5 p6 p7 p8 p9) scope dV kV doc pm an (.ref cda) ct cc), osl⟩)
    (hcd : PySem.W.codeIn K (.ref cda) qual = true) (hcode : K.lookup cda = some ⟨ccl, cdd, .fields vs, ccs⟩) (hvs : vs[2]? = some (.str file tf)) (hfile : ((P.main.file : Str) == file) = true) (htop : (P.main.scope.names.lookup ("super" : Str)).isSome = false)
    (hcell : K.lookup cc = some ⟨cl, cld, .cell (some (.ref C)), csl⟩) (hm : PySem.W.ks_superIn K C C "__init__" = some (some (.builtin "ValueError.__init__"))) (hB : PySem.W.subIn K (.ref C) (.type "ValueError") = some true) (hsub : PySem.W.mroIn K C (.ref C) = some true)
    (hsuper : PySem.W.nsIn K mainGlobals "super" = some none) (hso : PySem.W.nsIn K cStatics "thirdparty.any" = some none)
    (hp : (params.posonlyargs ++ params.args).head? = some ar) (har : ar.arg = "self") (hpn : pn ≠ "self")
    (s1 : scope.names.lookup ("super" : Str) = some .globalImplicit) (s2 : scope.names.lookup ("__class__" : Str) = some .free) (s3 : scope.names.lookup ("self" : Str) = some .local) (s4 : scope.names.lookup pn = some .local)
    (s5 : ∀ x ∈ scope.names, x.2 ≠ .cell) (s6 : scope.isCoroutine = false) (s7 : scope.isGenerator = false) (s8 : scope.kind = .function)
    (hmc : ∀ env : Env, ∃ pl : Sem Bool, eval (.Call (.Attribute (.Call (.Name "super" p0) [] [] p1) "__init__" p2) [.Constant (.str msg) n p3] [] p4) env = (do
      let ov ← attributeBase (.Call (.Name "super" p0) [] [] p1) "__init__" env (eval (.Call (.Name "super" p0) [] [] p1) env)
      standAt p2.atName
      let (f, first) ← holding [ov] (getMethod ov "__init__" pl)
      callWith p4 f first (backTo p4 (starEach [.Constant (.str msg) n p3] env)) [])) (dbg : (pn == ("__debug__" : Str)) = false) :
    FnOk P w K mg base CX k f (PySem.W.ksFn name qual params (supBody msg F pn n p0 p1 p2 p3 p4 p5 p6 p7 p8 p9) scope dV kV doc pm an (.ref cda) ct cc) ["self", pn] (supSp C F) := by
  refine ⟨fun vs H Q E h => ?_, fun A outer s H args us vs' Q E hr e0 hb r hsp => ?_⟩
  · obtain ⟨a, y, rfl, _⟩ := h; rfl
  obtain ⟨a, y, rfl, ea, q⟩ := hsp
  obtain ⟨u0, us0, rfl, r1, rr⟩ : ∃ u0 us0, us = u0 :: us0 ∧ RelV (.ref a) u0 ∧ Vals [y] us0 := by
    cases r with
    | cons r1 rr => exact ⟨_, _, rfl, r1, rr⟩
  obtain ⟨u1, rfl, r2⟩ := vals1 rr
  obtain rfl : u0 = Value.ref a := r1
  have KX : K.In s.heap := e0.mod.kin.keeps fun b o e => (e0.bs b o e).1
  have lim : s.heap.NoLimit := e0.mod.nolimit.keeps fun b o e => (e0.bs b o e).1
  have gl : s.heap.Ns mainGlobals mg := e0.mod.glob.keeps fun b o e => (e0.bs b o e).1
  obtain ⟨mb, hmb0, hbb⟩ := e0.mod.blt
  have hmb : s.heap.Ns builtinsNs mb := hmb0.keeps fun b o e => (e0.bs b o e).1
  obtain ⟨t1, hx⟩ := exo_at e0.hok ea
  have T' := T
  obtain ⟨nm, q', N, bs, bm, sn, sub, ab, col, dd, k0, k1, k2, k3, k5, hC, hbm⟩ := T.cls
  have hcl : PySem.W.clsIn K C = some { name := nm, bases := bs, mro := .ref C :: bm, ns := N, qualname := q', hasDict := true, slotNames := sn, subclasses := sub, abstract := ab, collection := col, hasDel := false } := by unfold PySem.W.clsIn; rw [hC] <;> rfl
  have hloc : ∀ z ∈ (["self", pn] : List Str).zip [Value.ref a, u1], scope.names.lookup z.1 = some .local := by
    intro z hz
    simp only [List.zip_cons_cons, List.zip_nil_right, List.mem_cons, List.not_mem_nil, or_false] at hz
    rcases hz with rfl | rfl
    · exact s3
    · exact s4
  refine ks_codeAny_call_defAt (fd := PySem.W.ksFn name qual params (supBody msg F pn n p0 p1 p2 p3 p4 p5 p6 p7 p8 p9) scope dV kV doc pm an (.ref cda) ct cc) (body := supBody msg F pn n p0 p1 p2 p3 p4 p5 p6 p7 p8 p9) hr.depth (KX _ _ lk) rfl lim (PySem.W.codeRec_of KX hcd) rfl hb s5 hloc (fun h1 hns hk => ?_) s6 s7 s8
  have kk : ∀ {b o}, K.lookup b = some o → h1.get? b = some o := fun {b o} e => hk b o (KX b o e)
  have X1 : K.In h1 := fun b o e => hk b o (KX b o e)
  have n1 : (fun x => (((["self", pn] : List Str).zip [Value.ref a, u1]).reverse).lookup x) "self" = some (Value.ref a) := by
    show List.lookup ("self" : Str) [(pn, u1), ("self", Value.ref a)] = _
    rw [List.lookup_cons, show (("self" : Str) == pn) = false from beq_eq_false_iff_ne.2 (fun e => hpn e.symm)]
    rfl
  have n2 : (fun x => (((["self", pn] : List Str).zip [Value.ref a, u1]).reverse).lookup x) pn = some u1 := by
    show List.lookup pn [(pn, u1), ("self", Value.ref a)] = _
    rw [List.lookup_cons, beq_self_eq_true]
  obtain ⟨pl, hev⟩ := hmc (PySem.W.ksEnv qual scope s.heap.objs.size f (.ref cda) cc)
  refine ks_wpAt_execs_cons (ks_wpAt_Expr_any (ks_wpAt_MethodCall (pl := pl) ?_ hev) (int_f s8) (by rfl))
  refine ks_wpAt_super_base (f := f) (cc := cda) (env := PySem.W.ksEnv qual scope s.heap.objs.size f (.ref cda) cc) s1 s2 rfl rfl (kk lk) rfl hp rfl (kk hcode) rfl hvs hfile htop ?_
  refine PySem.W.ks_loadName_global s8 s1 (Calls.loadGlobal_builtin (gl.keeps hk) (PySem.W.mg_none_of KX gl hsuper) (hmb.keeps hk) ((hbb _ (by decide +kernel)).trans (by decide +kernel)) ⟨rfl, ?_⟩)
  refine wpAny_loadName_free s8 s2 rfl ⟨_, kk hcell, rfl⟩ ?_
  refine wpAny_loadName_local s8 (by rw [har]; exact s3) hns (by rw [har]; exact n1) ?_
  refine ks_wpAny_isType_cls (kk hC) rfl ⟨rfl, ?_⟩
  refine ks_wpAny_call_super (kk hC) rfl (hk _ _ hx) rfl (fun c e => by cases e) (PySem.W.looks_mroIn X1 hsub) fun h2 e2 k2 => ?_
  have X2 : K.In h2 := fun b o e => k2 b o (X1 b o e)
  have hx2 := k2 _ _ (hk _ _ hx)
  have I2 : PySem.W.InstAt h2 a _ C none := ⟨hx2, rfl, rfl, trivial⟩
  have hm' := hm
  unfold PySem.W.ks_superIn at hm'
  rw [hcl] at hm'
  refine PySem.W.kxs_getMethod PySem.W.kxs_ValueError e2 (PySem.W.looks_opaque X2 hso) (fun A Q E s k q => wpAny_bind ((PySem.W.looks_clsIn X2 hcl) A _ E s k (wpAny_pure q))) rfl X2 hm' (I2.type.andThen (PySem.W.looks_subIn X2 hB)) (PySem.W.ks_ne X2 I2 hcl) rfl ?_
  refine PySem.W.kxs_callWith (i := "ValueError.__init__") (x := a) rfl (Calls.evalArgs_plain (Calls.spliced_cons ?_))
  refine @Calls.Constant_str _ _ _ _ _ msg n p3 _ (Calls.spliced_nil ?_)
  have hu : (h2.push (PySem.W.kxs_mw "ValueError.__init__" a)).get? h2.objs.size = some (PySem.W.kxs_mw "ValueError.__init__" a) := Heap.get?_push_size _ rfl
  have k3 : ∀ b o, h2.get? b = some o → (h2.push (PySem.W.kxs_mw "ValueError.__init__" a)).get? b = some o := fun b o e => Heap.get?_push_of_some _ e
  refine ⟨hu, ?_⟩
  refine call_vw (t0 := t1) (k3 _ _ (k2 _ _ (kk hC))) (k3 _ _ hx2) hu (by show 1 ≤ sizeLine; decide) fun h4 t4 k4 hx4 => ?_
  -- from s to h4: all but a stays
  have kA : ∀ b o, b ≠ a → s.heap.get? b = some o → h4.get? b = some o := fun b o hb e => k4 b o hb (k3 b o (k2 b o (hk b o e)))
  have X4 : K.In h4 := fun b o e => kA b o (fun z => by
    have := (e0.bs b o (e0.mod.kin b o e)).2
    rw [z, ea] at this; cases this) (KX b o e)
  have aL : s.heap.objs.size ≠ a := Nat.ne_of_gt (Heap.lt_size hx)
  have hns4 : h4.Ns s.heap.objs.size (fun x => ((["self", pn] : List Str).zip [Value.ref a, u1]).reverse.lookup x) := by
    obtain ⟨oL, es, ep, hL, r⟩ := hns
    exact ⟨oL, es, ep, k4 _ _ aL (k3 _ _ (k2 _ _ hL)), r⟩
  refine ks_wpAt_execs_cons (ks_wpAt_Assign_Attr ?_)
  refine wpAt_of_wpAny (wpAny_Name (wpAny_loadName_local s8 s4 hns4 n2 ?_) dbg)
  refine wpAny_Name (wpAny_loadName_local s8 s3 hns4 n1 ?_) (by decide)
  refine PySem.W.set_plain X4 (ox := { cls := .ref C, dict := none, data := .fields #[.ref t4, .none, .none, .none, .bool false, .none] }) (od := none) ⟨hx4, rfl, rfl, trivial⟩ T'.sa ?_
  refine PySem.HandSPX.exc_osa X4 hx4 hcl (show PySem.HandSPX.refsVE (.ref C :: bm) = true from hbm) rfl hno (fun h5 tk dx k5 dn dne hx5 hn5 => ?_)
  have he0 : ∀ b o, b ≠ a → s.heap.get? b = some o → h5.get? b = some o := fun b o hb e => k5 b o hb (kA b o hb e)
  have hsz4 : s.heap.objs.size ≤ dx := by
    obtain ⟨oL, es, ep, hL, r⟩ := hns4
    exact Nat.le_trans (Nat.le_of_lt (Heap.lt_size hL)) dn
  have hnd : H dx = none := e0.hok.fresh hsz4
  have nd : ∀ {b : Addr} {o : Obj}, s.heap.get? b = some o → b ≠ dx := fun {b o} q => Nat.ne_of_lt (Nat.lt_of_lt_of_le (Heap.lt_size q) hsz4)
  have na : ∀ {b : Addr}, H b = none → b ≠ a := fun {b} n z => by
    rw [z, ea] at n
    cases n
  have Un1 : Un (frs outer) [] H (upd (upd H dx (exd dx [(F, y)])) a (exo a C (some dx))) s.heap h5 := {
    keep := fun b o q n _ _ => he0 b o (na n) q
    slot := fun b o q n _ _ => ⟨o.slots, he0 b o (na n) q⟩
    free := fun b o q n _ => by rw [upd_ne (na n), upd_ne (nd q)]; exact n
    there := fun b o q _ => by
      by_cases hb : b = a
      · exact ⟨_, by rw [hb]; exact hx5⟩
      · exact ⟨o, he0 b o hb q⟩
    tups := fun b xs q => by rw [upd_ne (at_ne ea q exo_tup), upd_ne (ne_of_none q hnd)]; exact q
    frzs := fun b o v q => by rw [upd_ne (at_ne ea q exo_frz), upd_ne (ne_of_none q hnd)]; exact q
    tbls := fun b ps q => ⟨#[], by rw [upd_ne (at_ne ea q exo_tbl), upd_ne (ne_of_none q hnd), q]; simp⟩ }
  have fin : CE outer P w H s Q .none ⟨h5, s.gens, s.drawn, tk, s.os⟩ := by
    refine ⟨.non, _, rfl, e0.bare, Un1, fun b o q => ?_, rfl, q dx hnd dne⟩
    by_cases hb : b = a
    · subst hb
      rw [upd_same] at q
      cases q
      exact exo_ok hx5
    · rw [upd_ne hb] at q
      by_cases hd : b = dx
      · subst hd
        rw [upd_same] at q
        cases q
        exact exd_ok hn5 (relO_put (fs := []) r2 fun g => True.intro)
      · rw [upd_ne hd] at q
        exact (e0.hok b o q).stay (fun c v hc z => he0 c v (by
            rcases hc with hc | hc
            · rw [hc]
              exact hb
            · exact at_ne ea hc exo_own) z)
          (fun c hc => by rw [upd_ne (at_ne ea hc exo_own), upd_ne (ne_of_none hc hnd)]; exact hc) (fun c xs hc => by rw [upd_ne (at_ne ea hc exo_tup), upd_ne (ne_of_none hc hnd)]; exact hc)
  refine wpAt_of_wpAny (wpAny_execs_nil ?_)
  exact fin
end DL

set_option maxHeartbeats 1000000
namespace DL
open PySem PySem.Spec PyProof.Rows L2

section
variable {X : Cx} {pins : List (Addr × Obj)} {σ : L2.St} {H : Hp} {s : Shared}
/-- an object that stands in the heap is told, and stays as it is -/
theorem inv_seen (I : Inv X pins σ H s) {a : Addr} {oe : Obj} {vs : Array Value} (ha : s.heap.get? a = some oe) (hd : oe.data = .fields vs) (na : H a = none) (nL : a ≠ X.env.locals) (n0 : a ∉ X.ex → X.s_0.heap.get? a = none) (np : ∀ p ∈ X.pn ++ pins, p.1 ≠ a) :
    Inv X pins σ (upd H a (.frz oe (.ext fun _ => True))) s := by
  have ne : ∀ {b : Addr} {o : HO}, H b = some o → b ≠ a := fun {b o} e => ne_of_none e na
  refine ⟨I.ok, I.os, I.bare, ⟨I.base.keep, I.base.slot, fun b o e n hx => ?_, I.base.there, fun b xs e => ?_, fun b o u e => ?_, fun b ps e => ?_⟩, I.loc, I.cell, ?_, fun x c e => ?_, fun p hp => ?_, fun b o q => ?_, I.len⟩
  · have nb : b ≠ a := fun z => by rw [z, n0 (z ▸ hx)] at e; cases e
    rw [upd_ne nb]
    exact I.base.free b o e n hx
  · have := I.base.tups b xs e
    rw [upd_ne (ne this)]
    exact this
  · have := I.base.frzs b o u e
    rw [upd_ne (ne this)]
    exact this
  · obtain ⟨more, q⟩ := I.base.tbls b ps e
    exact ⟨more, by rw [upd_ne (ne q)]; exact q⟩
  · rw [upd_ne (Ne.symm nL)]
    exact I.free
  · have nc : c ≠ a := fun z => by
      obtain ⟨v, o, q, d⟩ := I.cell x c e
      rw [z, ha] at q
      cases q
      rw [hd] at d
      cases d
    rw [upd_ne nc]
    exact I.freeC x c e
  · obtain ⟨h1, h2, h3⟩ := I.pin p hp
    exact ⟨h1, by rw [upd_ne (np p hp)]; exact h2, h3⟩
  · by_cases hb : b = a
    · subst hb
      rw [upd_same] at q
      cases q
      exact ⟨ha, True.intro, ⟨_, ha⟩, fun _ _ _ _ => True.intro⟩
    · rw [upd_ne hb] at q
      exact (I.hok b o q).stay (fun c v _ z => z) (fun c hc => by rw [upd_ne (ne hc)]; exact hc) (fun c xs hc => by rw [upd_ne (ne hc)]; exact hc)
theorem inv_suite (I : Inv X pins σ H s) (a : Addr) : Inv (X.suite a (X.pn ++ pins)) [] σ H s :=
  ⟨I.ok.suite _ _, I.os, I.bare, I.base, I.loc, I.cell, I.free, I.freeC, fun p hp => I.pin p (by rw [List.append_nil] at hp; exact hp), I.hok, I.len⟩
theorem inv_unsuite {a : Addr} {pn' : List (Addr × Obj)} (I : Inv (X.suite a (X.pn ++ pins)) pn' σ H s) (ok : X.Ok) : Inv X pins σ H s :=
  ⟨ok, I.os, I.bare, I.base, I.loc, I.cell, I.free, I.freeC, fun p hp => I.pin p (List.mem_append_left _ hp), I.hok, I.len⟩
end
/-- the ends of a suite whose name goes -/
@[reducible] def gone (i : Option Nat) (D : Ends) : Ends := match i with
  | some i => { nx := fun σ' H' => D.nx (σ'.set i none) H', rt := D.rt, bk := fun σ' H' => D.bk (σ'.set i none) H', ct := fun σ' H' => D.ct (σ'.set i none) H' }
  | none => D
@[reducible] def setV (i : Option Nat) (a : Addr) (σ : L2.St) : L2.St := match i with
  | some i => σ.set i (some (.ref a))
  | none => σ
/-- what 'except x (as n)' wishes of an exception of the body -/
def wTry (K : PySem.W.Frag) (c : Value) (i : Option Nat) (ts : TS) (Wout : WX) (D : Ends) : WX := fun cls d σ H =>
  ∃ b, PySem.W.exmOne K cls c = some b ∧ (b = true → ∀ a oe, H a = none → Zc cls d oe → (∃ vs, oe.data = .fields vs) → ts (gone i D) (setV i a σ) (upd H a (.frz oe (.ext fun _ => True)))) ∧ (b = false → Wout cls d σ H)
section
variable {X : Cx} {x : Str} {nm : Option Str} {c : Value} {i : Option Nat} {body suite : List Stmt} {b₀ : Stmt} {np pos pos' : Pos} {tb : WX → TS} {ts : TS} {Wout : WX}
theorem ps_try (hs : X.stack = X.env :: X.outer) (hf : X.env.frame = some X.env.locals) (hN : X.N.Nodup) (hi : (nm = none ∧ i = none) ∨ ∃ n j, nm = some n ∧ i = some j ∧ X.N[j]? = some n ∧ X.env.kindOf n = some .local) (hc : Names X x c) (tk : Takes X Wout)
    (hb : ∀ (W : WX) (pn : List (Addr × Obj)) (xe : Value → Shared → Prop), Takes (X.tr pn xe) W → PassesOwn (model X.prog X.w) X.A X.env xe → PSs (X.tr pn xe) body (tb W))
    (hsu : ∀ (a : Addr) (pn : List (Addr × Obj)), PSs (X.suite a pn) (b₀ :: suite) ts) :
    PS X (.Try body [.ExceptHandler (some (.Name x np)) nm (b₀ :: suite) pos'] [] [] pos) (fun D σ H => tb (wTry X.K c i ts Wout D) D σ H) := by
  refine ⟨fun pins s σ H D I h => ?_⟩
  have ok := I.ok
  have hfr : X.A.frames = some (X.env :: X.outer) := by rw [ok.frames, hs]
  refine wpAny_Try_except ?_
  refine wpAny_mono ((hb (wTry X.K c i ts Wout D) (X.pn ++ pins) (fun e s₁ => wpAny (model X.prog X.w) X.A (noteFrame e X.env) (fun _ s₂ => wpAny (model X.prog X.w) X.A (setFlight e none) (fun _ s₃ =>
    wpAny (model X.prog X.w) X.A (handleBy e X.env [.ExceptHandler (some (.Name x np)) nm (b₀ :: suite) pos']) (SP X pins D) X.xe s₃) X.xe s₂) X.xe s₁) (fun u s' xx => ?_) PassesOwn.looking).run [] s σ H D (I.toTry _) h) (fun f s1 hsp => ?_) (fun e s1 he => he)
  · -- the catch
    obtain ⟨a, B, sI, pins', σ', H', cls, d, rfl, J', nb, up, sky, na, os, ag, b, hb1, hyes, hno⟩ := xx
    have J : Inv X pins σ' H' sI := J'.ofTry ok
    have sky' : Sky B (X.env :: X.outer) a (Zc cls d) X.env.locals s'.heap := by rw [← hs]; exact sky
    show wpAny (model X.prog X.w) X.A (noteFrame (.ref a) X.env) _ _ _
    refine Sky.land Zc.steady hfr hf sky' fun h3 fl3 up3 => ?_
    have J3 : Inv X pins σ' H' { s' with heap := h3 } := J.landed nb fl3.1 (up.trans up3) os ag
    obtain ⟨oe3, vs3, he3, hz3, hd3⟩ := fl3.there
    have notFr : ∀ {h : Heap} {o : Obj} {vs : Array Value}, h.FunFrames B (X.env :: X.outer) → h.get? a = some o → o.data = .fields vs → a ∉ frs (X.env :: X.outer) := fun {h o vs} ff e dd hm => by
      obtain ⟨_, o', e', hnf⟩ := ff.mem hm
      rw [e] at e'; cases e'
      exact hnf _ dd
    have nfr := notFr fl3.2.2.1 he3 hd3
    have nL : a ≠ X.env.locals := fun z => nfr (List.mem_filterMap.mpr ⟨X.env, List.mem_cons_self, by rw [hf, z]⟩)
    have nF : a ∉ X.fs := fun hm => by
      obtain ⟨e, he, q⟩ := List.mem_filterMap.mp hm
      exact nfr (List.mem_filterMap.mpr ⟨e, List.mem_cons_of_mem _ he, q⟩)
    have nI : sI.heap.get? a = none := by
      cases q : sI.heap.get? a with
      | none => rfl
      | some o =>
        have := nb a o q (by rw [hs]; exact nfr)
        rw [fl3.2.1] at this
        cases this
    have n0 : a ∉ X.ex → X.s_0.heap.get? a = none := fun hx => by
      cases q : X.s_0.heap.get? a with
      | none => rfl
      | some o =>
        obtain ⟨o', q'⟩ := J.base.there a o q hx
        rw [nI] at q'
        cases q'
    have npins : ∀ p ∈ X.pn ++ pins, p.1 ≠ a := fun p hp z => by
      have := (J.pin p hp).1
      rw [z, nI] at this
      cases this
    have S3 := J3.suite he3 hd3 na nL nF
    refine wpAny_handleBy_cons (codeAny_handlers_test ?_) (by intro q; cases q)
    have LT : PySem.W.Looks (model X.prog X.w) h3 (typeOf (.ref a)) cls := fun A Q E s k q => wpAny_typeOf_ref (k _ _ he3) (by rw [hz3.1]; exact q)
    have LM := PySem.W.exm_one (M := model X.prog X.w) (J3.kIn) LT hb1
    have test : ∀ {Q : Value → Shared → Prop} {E : Value → Shared → Prop}, Q c { s' with heap := h3 } → wpAny (model X.prog X.w) (X.A.mark (some (.ref a))) (eval (.Name x np) X.env) Q E { s' with heap := h3 } := fun {Q E} q => by
      obtain ⟨hg, hdbg, hm | ⟨hm, hv, hnn⟩⟩ := hc
      · exact ld_glob (X := X.suite a ((a, oe3) :: (X.pn ++ pins))) S3 hg hm q hdbg
      · exact ld_blt (X := X.suite a ((a, oe3) :: (X.pn ++ pins))) S3 hg hm hv q hnn hdbg
    refine test (LM.here ?_)
    cases b with
    | true =>
      rcases hi with ⟨rfl, rfl⟩ | ⟨n, j, rfl, rfl, hij, hln⟩
      · refine codeAny_handlers_suite ?_
        refine HandSPX.lands_againZ fl3 fun h4 fl4 up4 => ?_
        have J4 : Inv X pins σ' H' { s' with heap := h4 } := J.landed nb fl4.1 ((up.trans up3).trans up4) os ag
        obtain ⟨oe4, vs4, he4, hz4, hd4⟩ := fl4.there
        have S4 := inv_suite (inv_seen J4 he4 hd4 na nL n0 npins) a
        refine wpAny_mono ((hsu a (X.pn ++ pins)).run [] _ _ _ _ S4 (hyes rfl a oe4 na hz4 ⟨_, hd4⟩)) (fun f s6 hsp => ?_) (fun _ _ z => False.elim z)
        cases f with
        | next =>
          obtain ⟨σ6, H6, S6, q6⟩ := hsp
          exact ⟨_, _, inv_unsuite S6 ok, q6⟩
        | brk =>
          obtain ⟨σ6, H6, S6, q6⟩ := hsp
          exact ⟨_, _, inv_unsuite S6 ok, q6⟩
        | cont =>
          obtain ⟨σ6, H6, S6, q6⟩ := hsp
          exact ⟨_, _, inv_unsuite S6 ok, q6⟩
        | ret u =>
          obtain ⟨v6, σ6, H6, S6, r6, q6⟩ := hsp
          exact ⟨_, _, _, inv_unsuite S6 ok, r6, q6⟩
      · have hloc : Loc X.env.scope n := .inl hln
        refine codeAny_handlers_suite_as ?_
        refine HandSPX.lands_againZ fl3 fun h4 fl4 up4 => ?_
        have J4 : Inv X pins σ' H' { s' with heap := h4 } := J.landed nb fl4.1 ((up.trans up3).trans up4) os ag
        obtain ⟨oe4, vs4, he4, hz4, hd4⟩ := fl4.there
        have S4 := inv_suite (inv_seen J4 he4 hd4 na nL n0 npins) a
        refine store_ok (X := X.suite a (X.pn ++ pins)) (v := .ref a) S4 hN hij hloc rfl (fun s5 S5 => ?_) (.inr hln)
        refine wpAny_mono ((hsu a (X.pn ++ pins)).run [] s5 _ _ _ S5 (hyes rfl a oe4 na hz4 ⟨_, hd4⟩)) (fun f s6 hsp => ?_) (fun _ _ z => False.elim z)
        have end_ : ∀ {σ6 : L2.St} {H6 : Hp} {Q : Shared → Prop}, Inv (X.suite a (X.pn ++ pins)) [] σ6 H6 s6 → (∀ s7, Inv X pins (σ6.set j none) H6 s7 → Q s7) →
            wpAny (model X.prog X.w) X.A (do bindName X.env n .none; unbindBehindTheSuite X.env n pos') (fun _ s7 => Q s7) X.xe s6 := fun {σ6 H6 Q} S6 hq => gone_ok (inv_unsuite S6 ok) hN hij hln hq
        cases f with
        | next =>
          obtain ⟨σ6, H6, S6, q6⟩ := hsp
          exact end_ S6 fun s7 J7 => ⟨_, _, J7, q6⟩
        | brk =>
          obtain ⟨σ6, H6, S6, q6⟩ := hsp
          exact end_ S6 fun s7 J7 => ⟨_, _, J7, q6⟩
        | cont =>
          obtain ⟨σ6, H6, S6, q6⟩ := hsp
          exact end_ S6 fun s7 J7 => ⟨_, _, J7, q6⟩
        | ret u =>
          obtain ⟨v6, σ6, H6, S6, r6, q6⟩ := hsp
          exact end_ S6 fun s7 J7 => ⟨_, _, _, J7, r6, q6⟩
    | false =>
      show wpAny _ X.A (handleBy (.ref a) X.env []) _ _ _
      refine wpAny_handleBy_nil ?_
      obtain ⟨k1, k2, k3, oe, vs, T, oT, ts', he, hz, hd, h1, hr⟩ := id fl3
      unfold PySem.passOn
      refine wpAny_bind (wpAny_field he hd h1 ?_)
      rw [if_neg (show ¬ ((Value.ref T == Value.none) = true) from by simp)]
      have fin : wpAny (model X.prog X.w) X.A (setFlight (.ref a) X.env.frame) (fun _ s4 => wpAny (model X.prog X.w) X.A (throw (.ref a) : Sem Flow) (SP X pins D) X.xe s4) X.xe { s' with heap := h3 } := by
        rw [hf]
        refine HandSPX.setFlight_upZ fl3 fun h4 hh4 up4 => wpAny_throw (tk _ _ ?_)
        exact ⟨a, B, sI, pins, σ', H', cls, d, rfl, J, nb, (up.trans up3).trans up4, .inr (.inr (by rw [hs]; exact hh4)), na, os, ag, hno rfl⟩
      first
        | exact wpAny_bind (wpAny_pure (wpAny_bind fin))
        | exact wpAny_bind fin
  · cases f with
    | next =>
      obtain ⟨σ', H', J', q⟩ := hsp
      exact wpAny_execs_nil ⟨σ', H', J'.ofTry ok, q⟩
    | brk =>
      obtain ⟨σ', H', J', q⟩ := hsp
      exact ⟨σ', H', J'.ofTry ok, q⟩
    | cont =>
      obtain ⟨σ', H', J', q⟩ := hsp
      exact ⟨σ', H', J'.ofTry ok, q⟩
    | ret u =>
      obtain ⟨v, σ', H', J', r, q⟩ := hsp
      exact ⟨v, σ', H', J'.ofTry ok, r, q⟩
end
end DL

set_option maxHeartbeats 1000000
namespace DL
open PySem PySem.Spec PyProof.Rows L2

/-! ### classes of errors -/
/-- what a name of a class stands for -/
def NamC (mg : Str → Option Value) (c : Str) (cv : Value) : Prop := (c == ("__debug__" : Str)) = false ∧ ((mg c = some cv ∧ ∃ C, cv = .ref C) ∨ (mg c = none ∧ bootBuiltins c = some cv ∧ c ≠ "__name__" ∧ ∃ n, cv = .type n))
theorem NamC.names {X : Cx} {c : Str} {cv : Value} (h : NamC X.mg c cv) (hg : Gl X c) : Names X c cv := ⟨hg, h.1, h.2.imp (·.1) fun z => ⟨z.1, z.2.1, z.2.2.1⟩⟩
theorem NamC.uniq {mg : Str → Option Value} {c : Str} {cv cw : Value} (h : NamC mg c cv) (h' : NamC mg c cw) : cv = cw := by
  obtain ⟨_, h⟩ := h
  obtain ⟨_, h'⟩ := h'
  rcases h with ⟨a, _⟩ | ⟨a, b, _⟩ <;> rcases h' with ⟨a', _⟩ | ⟨a', b', _⟩
  · rw [a] at a'; exact Option.some.inj a'
  · rw [a] at a'; cases a'
  · rw [a] at a'; cases a'
  · rw [b] at b'; exact Option.some.inj b'
theorem NamC.v {mg : Str → Option Value} {c : Str} {cv : Value} (h : NamC mg c cv) : ∃ v : V, RelV v cv ∧ ∀ u, RelV v u → u = cv := by
  obtain ⟨_, ⟨_, C, rfl⟩ | ⟨_, _, _, n, rfl⟩⟩ := h
  · exact ⟨.ref C, rfl, fun u r => r⟩
  · exact ⟨.ty n, rfl, fun u r => r⟩
theorem pe_namC {X : Cx} {c : Str} {cv : Value} {v : V} {pos : Pos} (h : NamC X.mg c cv) (hg : Gl X c) (r : RelV v cv) : PE X (.Name c pos) (tC v) := by
  obtain ⟨hd, ⟨a, _⟩ | ⟨a, b, n, _⟩⟩ := h
  · exact pe_glob hg a r hd
  · exact pe_bltn hg a b r n hd
/-- how an error of the class is made -/
def MkF (P : Program) (w : World) (K : PySem.W.Frag) (mg : Str → Option Value) (base : Heap) (C : Addr) : Option Str → Prop
  | some f => OexC K C ∧ ∃ fI fd ps, PySem.W.findIn K (.ref C) "__init__" = some (some (.ref fI)) ∧ PySem.W.typeIn K (.ref fI) = some (.type "function") ∧ FnOk P w K mg base (L2.CX P w) 0 fI fd ps (supSp C f) ∧ Binds K fd ps []
  | none => PySem.W.excIn K C [.type "ValueError", .type "Exception", .type "BaseException", .type "object"] "ValueError.__new__" = true ∧ PySem.W.keepIn K (.ref C) = true ∧ PySem.W.subIn K (.ref C) (.type "BaseException") = some true ∧ PySem.W.typeIn K (.ref C) = some (.type "type")
structure ClF (P : Program) (w : World) (K : PySem.W.Frag) (mg : Str → Option Value) (base : Heap) (pC : List Str) (nm : Str) (ci : CI) (C : Addr) : Prop where
  ns : PySem.W.nsIn K mainGlobals nm = some (some (.ref C))
  glo : mg nm = some (.ref C)
  ex : ExcC K C
  fl : ∀ f, ci.fld = some f → PySem.W.findIn K (.ref C) f = some none
  sup : ∀ c, pC.contains c = true → ∀ cv, NamC mg c cv → PySem.W.kitOne K (.ref C) cv = some (ci.sup.contains c) ∧ (ownNm.contains c = false → PySem.W.exmOne K (.ref C) cv = some (ci.sup.contains c))
  made : MkF P w K mg base C ci.fld
theorem excC_kit {K : PySem.W.Frag} {C x : Addr} {ox : Obj} {od : Option Obj} (E : ExcC K C) : PySem.W.KitX K (.ref x) (.ref C) (fun h => PySem.W.InstAt h x ox C od) :=
  PySem.W.kitx_exc (by
    obtain ⟨cd, hc, _⟩ := PySem.W.any_some E.hd
    rw [hc]; rfl) E.hg E.hk E.hs E.ha E.hn E.ht E.hm
section
variable {K : Kz} {H : Hp} {Hm : MH}
/-- the caught exception in the heap -/
theorem exa_at {P : Program} {w : World} {h : Heap} {nm : Str} {a C : Addr} {fs : List (Str × V)} (x : ExA K H Hm nm a fs) (hok : HOk P w H h) (hn : PySem.W.nsIn K.K mainGlobals nm = some (some (.ref C))) :
    ∃ oe od, PySem.W.InstAt h a oe C od ∧ (fs = [] ∨ ∃ dx mA o, oe.dict = some dx ∧ od = some o ∧ h.get? dx = some o ∧ h.Ns1 dx mA ∧ ∀ f, RelO (fs.lookup f) (mA f)) := by
  obtain ⟨oe, u, e, _, ⟨vs, hd⟩, ⟨C', hc, hn'⟩, hf⟩ := x
  have eC : C' = C := by
    rw [hn] at hn'
    exact (Value.ref.inj (Option.some.inj (Option.some.inj hn'))).symm
  subst eC
  have ha := (show ObjOk P w H h a (.frz oe u) from hok a _ e).1
  have no : PySem.W.notCls oe = true := by unfold PySem.W.notCls; rw [hd] <;> rfl
  rcases hf with ⟨d, rfl⟩ | ⟨dx, d, q, _⟩
  · exact ⟨oe, none, ⟨ha, hc, no, by rw [d]; trivial⟩, .inl rfl⟩
  · obtain ⟨mA, hns, hr⟩ := (show ObjOk P w H h dx (.xd fs) from hok dx _ q)
    obtain ⟨o, es, ep, ho, z⟩ := id hns
    exact ⟨oe, some o, ⟨ha, hc, no, by rw [d]; exact ho⟩, .inr ⟨dx, mA, o, d, rfl, ho, hns, hr⟩⟩
end
/-- isinstance(e, c) -/
def rIsx (K : Kz) (Hm : MH) : List V → Hp → VK → Prop := fun xs H Q => ∃ nm a fs C c cv b, xs = [.ref a, c] ∧ ExA K H Hm nm a fs ∧ PySem.W.nsIn K.K mainGlobals nm = some (some (.ref C)) ∧ ExcC K.K C ∧ (∀ u, RelV c u → u = cv) ∧ PySem.W.kitOne K.K (.ref C) cv = some b ∧ Q (.bl b) H
theorem call_isx {X : Cx} : CallR X (.builtin "isinstance") (fun xs H Q => ∃ Z Hm, rIsx ⟨X.K, Z⟩ Hm xs H Q) := by
  intro pins s σ H xs us Q I r h
  obtain ⟨Z, Hm, nm, a, fs, C, c, cv, b, rfl, x, hn, E, hcv, e, q⟩ := h
  obtain ⟨u1, u2, rfl, r1, r2⟩ := vals2 r
  obtain rfl : u1 = Value.ref a := r1
  have e2 := hcv _ r2
  subst e2
  obtain ⟨oe, od, J, _⟩ := exa_at x I.hok hn
  exact PySem.W.kia_one (excC_kit E) I.kIn J e (fun z => nomatch z) fun tk => ⟨.bl b, H, I.tok tk, rfl, q⟩
/-- isinstance(e, (c, ..)) -/
inductive UniqV : List V → List Value → Prop
  | nil : UniqV [] []
  | cons {v : V} {cv : Value} {vs : List V} {cs : List Value} (h : ∀ u, RelV v u → u = cv) (t : UniqV vs cs) : UniqV (v :: vs) (cv :: cs)
theorem UniqV.all {vs : List V} {cs us : List Value} (h : UniqV vs cs) (r : Vals vs us) : us = cs := by
  induction h generalizing us with
  | nil => cases r; rfl
  | cons h t ih =>
    cases r with
    | cons r1 r2 => rw [h _ r1, ih r2]
def rIsxT (K : Kz) (Hm : MH) : List V → Hp → VK → Prop := fun xs H Q => ∃ nm a fs C tp vs cvs b, xs = [.ref a, .ref tp] ∧ ExA K H Hm nm a fs ∧ PySem.W.nsIn K.K mainGlobals nm = some (some (.ref C)) ∧ ExcC K.K C ∧ H tp = some (.tup vs) ∧ UniqV vs cvs ∧ PySem.W.kitAny K.K (.ref C) cvs = some b ∧ Q (.bl b) H
theorem call_isxT {X : Cx} : CallR X (.builtin "isinstance") (fun xs H Q => ∃ Z Hm, rIsxT ⟨X.K, Z⟩ Hm xs H Q) := by
  intro pins s σ H xs us Q I r h
  obtain ⟨Z, Hm, nm, a, fs, C, tp, vs, cvs, b, rfl, x, hn, E, hT, hu, e, q⟩ := h
  obtain ⟨u1, u2, rfl, r1, r2⟩ := vals2 r
  obtain rfl : u1 = Value.ref a := r1
  cases (show u2 = Value.ref tp from r2)
  obtain ⟨oe, od, J, _⟩ := exa_at x I.hok hn
  obtain ⟨_, its, rv, o, h1, h2, n, h3⟩ := (show ObjOk X.prog X.w H s.heap tp (.tup vs) from I.hok tp _ hT)
  have e3 := hu.all rv
  subst e3
  obtain ⟨oc, od', dt, sl⟩ := o
  simp only at h2 h3
  subst h2 h3
  exact PySem.W.kia_tup (excC_kit E) I.kIn J h1 e (fun z => nomatch z) fun tk => ⟨.bl b, H, I.tok tk, rfl, q⟩
theorem kit_any {K : PySem.W.Frag} {t : Value} {sup : List Str} : ∀ {cs : List Str} {cvs : List Value}, Paired (fun c cv => PySem.W.kitOne K t cv = some (sup.contains c)) cs cvs → PySem.W.kitAny K t cvs = some (anyC sup cs)
  | [], [], .nil => rfl
  | c :: cs, cv :: cvs, .cons h r => by
    unfold PySem.W.kitAny anyC
    rw [h]
    cases sup.contains c with
    | true => rfl
    | false => exact kit_any r
/-- an exception's own field -/
theorem pe_fldx {X : Cx} {e : Expr} {te : TE} {pos : Pos} {n : Str} (he : PE X e te) (hb : attributeBase e n X.env (eval e X.env) = eval e X.env) :
    PE X (.Attribute e n pos) (fun σ H Q => te σ H fun x H1 => ∃ Z Hm nm a fs C v, x = .ref a ∧ ExA ⟨X.K, Z⟩ H1 Hm nm a fs ∧ PySem.W.nsIn X.K mainGlobals nm = some (some (.ref C)) ∧ ExcC X.K C ∧ PySem.W.findIn X.K (.ref C) n = some none ∧ fs.lookup n = some v ∧ Q v H1) := by
  refine ⟨fun pins s σ H Q I h => ?_⟩
  refine attr_of hb (thn (he.run pins s σ H _ I h) fun u s1 hh => ?_)
  obtain ⟨x, H1, I1, rx, Z, Hm, nm, a, fs, C, v, ex, xa, hn, E, hno, l, q⟩ := hh
  subst ex
  obtain rfl : u = Value.ref a := rx
  obtain ⟨oe, od, J, hf⟩ := exa_at xa I1.hok hn
  rcases hf with rfl | ⟨dx, mA, o, hd, rfl, ho, hns, hr⟩
  · cases l
  · obtain ⟨od, ho', hl⟩ := lookIn_ns hns
    rw [ho] at ho'
    cases ho'
    obtain ⟨u, hu, ru⟩ := RelO.some_of (v := v) (o := mA n) (by rw [← l]; exact hr n)
    exact HandSPX.exc_get I1.kIn J E.hg E.hk E.hs (PySem.W.findObj_own E.hd hno rfl (by rw [hl, hu])) (handed_of ru) ⟨v, H1, I1.tok _, ru, q⟩
section
variable {X : Cx} {C : Addr} {x : Str} {p pos : Pos}
/-- X() -/
theorem pmk_own0 (q : PySem.W.excIn X.K C [.type "ValueError", .type "Exception", .type "BaseException", .type "object"] "ValueError.__new__" = true) (gC : X.mg x = some (.ref C)) (kC : PySem.W.keepIn X.K (.ref C) = true) (r : Raises X (.ref C)) (hg : Gl X x)
    (hdb : (x == ("__debug__" : Str)) = false) : PMk X (.Call (.Name x p) [] [] pos) (fun _ H Q => Q (.ref C) none H) := by
  intro pins s σ H Q I h
  refine wpAny_Call_Name_kw (ld_glob I hg gC ?_ hdb)
  refine PySem.W.callWith_K0 I.kIn kC ?_
  show wpAny _ _ (call (.ref C) []) _ _ _
  obtain ⟨bm, N, nm, qn, bs, hdct, sn, sub, ab, col, dd, k0, k1, k2, k3, k5, mN, hC, hN, hni, T⟩ := exc_obj I.kIn q
  refine wpAny_call_exc_subT F.excBase_ValueError T hC hN hni (fun h' e hm => ?_) (by show 0 ≤ sizeLine; omega)
  exact mk_of I hm r h (I.hok.gone hm.new)
end
end DL

set_option maxHeartbeats 1000000
namespace DL
open PySem PySem.Spec PyProof.Rows L2

/-- the classes that are told -/
abbrev CF (X : Cx) (pC : List Str) (cl : Str → Option CI) : Prop := ∀ nm ci, cl nm = some ci → ∃ A, ClF X.prog X.w X.K X.mg X.base pC nm ci A
section
variable {C : Co} {a e : Expr} {es : List Expr} {ta te : TD} {t : TAd} {pos p p2 p3 pos2 : Pos} {x c : Str} {pC : List Str} {cl : Str → Option CI}
theorem Is.exc {K : Kz} {H : Hp} {Hm : MH} {nm : Str} {ns : List Str} {ds : List D} {v : V} (h : Is K H Hm (.exc nm ns ds) v) : ∃ a fs, v = .ref a ∧ ExA K H Hm nm a fs ∧ fs.map (·.1) = ns ∧ Iss K H Hm ds (fs.map (·.2)) := by unfold Is at h; exact h
theorem de_isx1 {cv : Value} (hcf : CF C.X pC cl) (hg : Gl C.X "isinstance") (hm : C.X.mg "isinstance" = none) (ha : DE C a ta) (hn : NamC C.X.mg c cv) (hgc : Gl C.X c) (hc : pC.contains c = true)
    (h2 : starEach [a, .Name c p2] C.X.env = (false, eval a C.X.env) :: starEach [.Name c p2] C.X.env) (h1 : starEach [.Name c p2] C.X.env = (false, eval (.Name c p2) C.X.env) :: starEach [] C.X.env) (hpl : (backTo pos (starEach [.Name c p2] C.X.env)).any (·.1) = false) :
    DE C (.Call (.Name "isinstance" p) [a, .Name c p2] [] pos) (fun σ H Q => ta σ H fun x H1 => ∃ nm ns xs ci, x = .exc nm ns xs ∧ cl nm = some ci ∧ Q (.bl (anyC ci.sup [c])) H1) := by
  obtain ⟨v, rv, ru⟩ := hn.v
  refine PE.weak (pe_callB call_isx hg hm (by decide +kernel) (pa_cons ha (pa_cons (pe_namC hn hgc rv) pa_nil h1) h2) (by decide) (by decide) h2 hpl) fun σ H Q => ?_
  rintro ⟨σd, Hm, Qd, s, q, k⟩
  refine Lf.seq s q fun x H1 dx Hm1 n1 s1 ix q => ?_
  obtain ⟨nm, ns, xs, ci, rfl, hci, q⟩ := q
  obtain ⟨b, fs, rfl, xa, _, _⟩ := ix.exc
  obtain ⟨A, F⟩ := hcf nm ci hci
  have e : anyC ci.sup [c] = ci.sup.contains c := by unfold anyC anyC; cases ci.sup.contains c <;> rfl
  exact ⟨C.Z, Hm1, nm, b, fs, A, v, cv, ci.sup.contains c, rfl, xa, F.ns, F.ex, ru, (F.sup c hc cv hn).1, (k.cut n1).here s1.rep is_bl (e ▸ q)⟩
/-- names of classes, one after the other -/
def NamsC (X : Cx) (pC : List Str) : List Expr → List Str → Prop
  | [], cs => cs = []
  | e :: r, cs => ∃ c p cs' cv, e = .Name c p ∧ cs = c :: cs' ∧ NamC X.mg c cv ∧ Gl X c ∧ pC.contains c = true ∧ NamsC X pC r cs'
theorem nams_pa {X : Cx} (hst : ∀ (e : Expr) (r : List Expr), (∃ c p, e = .Name c p) → starEach (e :: r) X.env = (false, eval e X.env) :: starEach r X.env) : ∀ {es : List Expr} {cs : List Str}, NamsC X pC es cs →
    ∃ vs cvs, UniqV vs cvs ∧ vs.length = cs.length ∧ Paired (fun c cv => NamC X.mg c cv ∧ pC.contains c = true) cs cvs ∧ PA X es (fun σ H Q => Q vs H)
  | [], cs, h => by
    unfold NamsC at h
    subst h
    exact ⟨[], [], .nil, rfl, .nil, pa_nil⟩
  | e :: r, cs, h => by
    unfold NamsC at h
    obtain ⟨c, p, cs', cv, rfl, rfl, hn, hg, hc, h⟩ := h
    obtain ⟨vs, cvs, u, l, pr, pa⟩ := nams_pa hst h
    obtain ⟨v, rv, ru⟩ := hn.v
    exact ⟨v :: vs, cv :: cvs, .cons ru u, by rw [List.length_cons, List.length_cons, l], .cons ⟨hn, hc⟩ pr, pa_cons (pe_namC hn hg rv) pa (hst _ _ ⟨_, _, rfl⟩)⟩
theorem sup_all {P : Program} {w : World} {K : PySem.W.Frag} {mg : Str → Option Value} {base : Heap} {nm : Str} {ci : CI} {A : Addr} (F : ClF P w K mg base pC nm ci A) : ∀ {cs : List Str} {cvs : List Value}, Paired (fun c cv => NamC mg c cv ∧ pC.contains c = true) cs cvs →
    Paired (fun c cv => PySem.W.kitOne K (.ref A) cv = some (ci.sup.contains c)) cs cvs
  | _, _, .nil => .nil
  | _, _, .cons h r => .cons (F.sup _ h.2 _ h.1).1 (sup_all F r)
theorem de_isxT {cs : List Str} {x1} (hcf : CF C.X pC cl) (hg : Gl C.X "isinstance") (hm : C.X.mg "isinstance" = none) (ha : DE C a ta) (hn : NamsC C.X pC es cs) (hl : cs.length ≤ 100)
    (hst : ∀ (e : Expr) (r : List Expr), (∃ c p, e = .Name c p) → starEach (e :: r) C.X.env = (false, eval e C.X.env) :: starEach r C.X.env)
    (h2 : starEach [a, .Tuple es x1 p2] C.X.env = (false, eval a C.X.env) :: starEach [.Tuple es x1 p2] C.X.env) (h1 : starEach [.Tuple es x1 p2] C.X.env = (false, eval (.Tuple es x1 p2) C.X.env) :: starEach [] C.X.env) (hpl : (backTo pos (starEach [.Tuple es x1 p2] C.X.env)).any (·.1) = false) :
    DE C (.Call (.Name "isinstance" p) [a, .Tuple es x1 p2] [] pos) (fun σ H Q => ta σ H fun x H1 => ∃ nm ns xs ci, x = .exc nm ns xs ∧ cl nm = some ci ∧ Q (.bl (anyC ci.sup cs)) H1) := by
  obtain ⟨vs, cvs, hu, hvl, pr, pa⟩ := nams_pa hst hn
  refine PE.weak (pe_callB call_isxT hg hm (by decide +kernel) (pa_cons ha (pa_cons (pe_tup pa) pa_nil h1) h2) (by decide) (by decide) h2 hpl) fun σ H Q => ?_
  rintro ⟨σd, Hm, Qd, s, q, k⟩
  refine Lf.seq s q fun x H1 dx Hm1 n1 s1 ix q => ?_
  obtain ⟨nm, ns, xs, ci, rfl, hci, q⟩ := q
  obtain ⟨b, fs, rfl, xa, _, _⟩ := ix.exc
  obtain ⟨A, F⟩ := hcf nm ci hci
  have pk := sup_all F pr
  refine ⟨by rw [hvl]; exact Nat.le_trans hl (by decide), fun tp htp => ?_⟩
  have n2 : NT Hm1 H1 Hm1 (upd H1 tp (.tup vs)) := ext_nt htp
  exact ⟨C.Z, Hm1, nm, b, fs, A, tp, vs, cvs, anyC ci.sup cs, rfl, xa.nt n2, F.ns, F.ex, upd_same, hu, kit_any pk, ((k.cut n1).cut n2).here (s1.rep.ext htp) is_bl q⟩
theorem de_fld (hcf : CF C.X pC cl) (ha : DE C a ta) (hb : attributeBase a x C.X.env (eval a C.X.env) = eval a C.X.env) :
    DE C (.Attribute a x pos) (fun σ H Q => ta σ H fun y H1 => ∃ nm d ci, y = .exc nm [x] [d] ∧ cl nm = some ci ∧ ci.fld = some x ∧ Q d H1) :=
  PE.weak (pe_fldx ha hb) fun σ H Q => by
    rintro ⟨σd, Hm, Qd, s, q, k⟩
    refine Lf.seq s q fun y H1 dx Hm1 n1 s1 ix q => ?_
    obtain ⟨nm, d, ci, rfl, hci, hf, q⟩ := q
    obtain ⟨b, fs, rfl, xa, hns, t⟩ := ix.exc
    obtain ⟨A, F⟩ := hcf nm ci hci
    obtain ⟨w, e, iw⟩ := t.one
    have e2 : fs = [(x, w)] := by
      cases fs with
      | nil => cases hns
      | cons y r =>
        obtain ⟨y1, y2⟩ := y
        simp only [List.map_cons, List.cons.injEq, List.map_eq_nil_iff] at hns e
        obtain ⟨rfl, rfl⟩ := hns
        obtain ⟨rfl, _⟩ := e
        rfl
    subst e2
    exact ⟨C.Z, Hm1, nm, b, _, A, w, rfl, xa, F.ns, F.ex, F.fl x hf, by simp [List.lookup], (k.cut n1).here s1.rep iw q⟩
theorem notZ {K : Kz} {H : Hp} {Hm : MH} {p : Addr} (r : Rep K H Hm) (h : H p = none) : ¬ K.Z p := fun z => by
  obtain ⟨o, q, _⟩ := r.hid p z
  rw [h] at q; cases q
theorem ds_rais1 {ci : CI} {f : Str} {A : Addr} (ok : C.Ok) (hcl : Calm C.X) (F : ClF C.X.prog C.X.w C.X.K C.X.mg C.X.base pC x ci A) (hci : cl x = some ci) (hf : ci.fld = some f) (hg : Gl C.X x) (hd : (x == ("__debug__" : Str)) = false) (ha : DA C (e :: es) t)
    (he : starEach (e :: es) C.X.env = (false, eval e C.X.env) :: starEach es C.X.env) (hpl : (backTo pos (starEach es C.X.env)).any (·.1) = false) :
    DS C (.Raise (some (.Call (.Name x p) (e :: es) [] pos)) none pos2) (fun D σ H => t σ H fun ds H1 => ∃ ci, cl x = some ci ∧ raisD ci ds fun fo => C.Ed σ x fo H1) := by
  have mk := F.made
  rw [hf] at mk
  obtain ⟨T, fI, fd, ps, i1, i2, FI, hb⟩ := mk
  refine PS.weak (ps_raise hcl.c ok.tk (pmk_oex T i1 i2 FI (hcl.room.mono (by omega)) hb .nil (fun pins σ H s e s' I z => by
    obtain ⟨_, _, _, _, _, _, _, _, _, _, _, _, z⟩ := (show L2.CX C.X.prog C.X.w C.X.stack H s (fun _ _ _ => False) e s' from z)
    exact z.elim) hg F.glo ha hd he hpl)) fun D σ H => ?_
  rintro ⟨σd, Hm, Dd, s, q, k⟩
  refine LfA.seq s q fun vs H1 ds Hm1 n1 s1 is q => ?_
  obtain ⟨ci', e', q⟩ := q
  rw [hci] at e'
  cases e'
  unfold raisD at q
  rw [hf] at q
  split at q
  · rename_i f' d e1
    cases e1
    obtain ⟨v, rfl, iv⟩ := is.one
    refine ⟨by show 1 ≤ 1000; omega, fun a na => ⟨a, v, rfl, upd_same, fun dx hdx hne => ?_⟩⟩
    have hdx1 : H1 dx = none := by rw [upd_ne hne] at hdx; exact hdx
    refine ⟨rfl, dx, [(f, v)], upd_same, by rw [upd_ne hne]; exact upd_same, hdx1, ?_⟩
    have eH : upd (del (upd (upd (upd H1 a (exo a A none)) dx (exd dx [(f, v)])) a (exo a A (some dx))) a) dx (.xd [(f, v)]) = upd H1 dx (.xd [(f, v)]) := by
      funext b
      by_cases h1 : b = dx
      · rw [h1, upd_same, upd_same]
      · rw [upd_ne h1, upd_ne h1]
        by_cases h2 : b = a
        · rw [h2, del_same, na]
        · rw [del_ne h2, upd_ne h2, upd_ne h1, upd_ne h2]
    rw [eH]
    have n2 : NT Hm1 H1 Hm1 (upd H1 dx (.xd [(f, v)])) := ext_nt hdx1
    exact ok.w σ _ σd Hm1 x (.ref A) (some dx) (some ([f], [d])) (s1.nxt n2 (s1.rep.ext hdx1)) ⟨A, rfl, F.ns⟩ ⟨[(f, v)], upd_same, ⟨s1.rep.free hdx1, notZ s1.rep hdx1⟩, rfl, .cons (Is.nt s1.rep n2 d v iv) .nil⟩ q
  · exact absurd ‹some f = none› (by simp)
  · exact q.elim
theorem ds_rais0 {ci : CI} {A : Addr} (ok : C.Ok) (hcl : Calm C.X) (F : ClF C.X.prog C.X.w C.X.K C.X.mg C.X.base pC x ci A) (hci : cl x = some ci) (hf : ci.fld = none) (hg : Gl C.X x) (hd : (x == ("__debug__" : Str)) = false) :
    DS C (.Raise (some (.Call (.Name x p) [] [] pos)) none pos2) (fun D σ H => ∃ ci, cl x = some ci ∧ raisD ci [] fun fo => C.Ed σ x fo H) := by
  have mk := F.made
  rw [hf] at mk
  obtain ⟨q1, q2, q3, q4⟩ := mk
  refine PS.weak (ps_raise hcl.c ok.tk (pmk_own0 q1 F.glo q2 (raises_own q3 q4) hg hd)) fun D σ H => ?_
  rintro ⟨σd, Hm, Dd, s, ⟨ci', e', q⟩, k⟩
  rw [hci] at e'
  cases e'
  unfold raisD at q
  rw [hf] at q
  exact ok.w σ H σd Hm x (.ref A) none none s ⟨A, rfl, F.ns⟩ True.intro q
end
/-! ### try -/
section
variable {C : Co} {x c : Str} {nm : Option Str} {i : Option Nat} {cv : Value} {body suite : List Stmt} {b₀ : Stmt} {np pos pos' : Pos} {tb : (En → XDK) → TSd} {tsu : TSd} {pC : List Str} {cl : Str → Option CI}
def goneD (i : Option Nat) (D : Ends') : Ends' := { nx := fun σ2 H2 => D.nx (delE i σ2) H2, rt := D.rt, bk := fun σ2 H2 => D.bk (delE i σ2) H2, ct := fun σ2 H2 => D.ct (delE i σ2) H2 }
theorem ds_try (ok : C.Ok) (hs : C.X.stack = C.X.env :: C.X.outer) (hf : C.X.env.frame = some C.X.env.locals) (hi : (nm = none ∧ i = none) ∨ ∃ n j, nm = some n ∧ i = some j ∧ C.X.N[j]? = some n ∧ C.X.env.kindOf n = some .local)
    (hcf : CF C.X pC cl) (hn : NamC C.X.mg c cv) (hgc : Gl C.X c) (hc : pC.contains c = true) (hown : ownNm.contains c = false)
    (hb : ∀ (pn : List (Addr × Obj)) (xe : Value → Shared → Prop) (M0 : MH) (H0 : Hp) (Ed : En → XDK) (W : WX), (⟨C.X.tr pn xe, C.Z, M0, H0, Ed, W⟩ : Co).Ok → PassesOwn (model C.X.prog C.X.w) C.X.A C.X.env xe → DSs ⟨C.X.tr pn xe, C.Z, M0, H0, Ed, W⟩ body (tb Ed))
    (hsu : ∀ (a : Addr) (pn : List (Addr × Obj)) (M0 : MH) (H0 : Hp), DSs ⟨C.X.suite a pn, C.Z, M0, H0, X0, fun _ _ _ _ => False⟩ (b₀ :: suite) tsu) :
    DS C (.Try body [.ExceptHandler (some (.Name c np)) nm (b₀ :: suite) pos'] [] [] pos) (fun D σ H => tb (fun σ1 nm fo H1 => ∃ ci, cl nm = some ci ∧ br (ci.sup.contains c) (tsu (goneD i D) (setE i (excD nm fo) σ1) H1) (C.Ed σ1 nm fo H1)) D σ H) := by
  refine PS.weak (ps_try (i := i) (tb := fun W D σ H => ∃ M0 H0 Ed, (∀ σ H σd Hm nm cls a fo, Rs0 C.K M0 H0 σd Hm σ H → ClsK C.X.K nm cls → XIs C.K H Hm a fo → Ed σd nm fo Hm → W cls a σ H) ∧ LfS ⟨C.X, C.Z, M0, H0, Ed, W⟩ (tb Ed) D σ H)
    (ts := fun D σ H => ∃ M0 H0, LfS ⟨C.X, C.Z, M0, H0, X0, fun _ _ _ _ => False⟩ tsu D σ H) (Wout := C.W) hs hf ok.x.nd hi (hn.names hgc) ok.tk (fun W pn xe tk po => ⟨fun pins s σ H D I => ?_⟩) (fun a pn => ⟨fun pins s σ H D I => ?_⟩)) fun D σ H => ?_
  · rintro ⟨M0, H0, Ed, hw, σd, Hm, Dd, s0, q, k⟩
    exact (hb pn xe M0 H0 Ed W ⟨⟨ok.x.nd, ok.x.un, ⟨ok.x.big.seer, ok.x.big.tree, ok.x.big.dp, ok.x.big.fr⟩⟩, tk, hw⟩ po).run pins s σ H D I ⟨σd, Hm, Dd, s0, q, ⟨k.nx, k.bk, k.ct, k.rt⟩⟩
  · rintro ⟨M0, H0, σd, Hm, Dd, s0, q, k⟩
    exact (hsu a pn M0 H0).run pins s σ H D I ⟨σd, Hm, Dd, s0, q, ⟨k.nx, k.bk, k.ct, k.rt⟩⟩
  rintro ⟨σd, Hm, Dd, s, q, k⟩
  refine ⟨Hm, H, _, fun σ1 H1 σd1 Hm1 nm cls a fo r ck xi ed => ?_, σd, Hm, Dd, ⟨s.env, s.rep, .refl⟩, q, ⟨fun σ' H' σd' Hm' n s' q => k.nx σ' H' σd' Hm' n ⟨s'.env, s'.rep, s.nt.trans n⟩ q, fun σ' H' σd' Hm' n s' q => k.bk σ' H' σd' Hm' n ⟨s'.env, s'.rep, s.nt.trans n⟩ q, fun σ' H' σd' Hm' n s' q => k.ct σ' H' σd' Hm' n ⟨s'.env, s'.rep, s.nt.trans n⟩ q, k.rt⟩⟩
  obtain ⟨ci, hci, q⟩ := ed
  obtain ⟨A, F⟩ := hcf nm ci hci
  obtain ⟨C', rfl, hns⟩ := id ck
  have eA : C' = A := by
    rw [F.ns] at hns
    exact (Value.ref.inj (Option.some.inj (Option.some.inj hns))).symm
  subst eA
  refine ⟨ci.sup.contains c, (F.sup c hc cv hn).2 hown, fun hbt ax oe na hz hd => ?_, fun hbf => ?_⟩
  · rw [hbt] at q
    have q : tsu (goneD i Dd) (setE i (excD nm fo) σd1) Hm1 := q
    have n2 : NT Hm1 H1 Hm1 (upd H1 ax (.frz oe (.ext fun _ => True))) := ext_nt na
    have r2 := r.rep.ext (p := ax) (o := .frz oe (.ext fun _ => True)) na
    have ix : Is C.K (upd H1 ax (.frz oe (.ext fun _ => True))) Hm1 (excD nm fo) (.ref ax) := by
      have base : ∀ fs, ((oe.dict = none ∧ fs = []) ∨ ∃ dx, oe.dict = some dx ∧ upd H1 ax (.frz oe (.ext fun _ => True)) dx = some (.xd fs) ∧ Hm1 dx = none ∧ ¬ C.K.Z dx) → ExA C.K (upd H1 ax (.frz oe (.ext fun _ => True))) Hm1 nm ax fs := fun fs h =>
        ⟨oe, _, upd_same, ⟨r.rep.free na, notZ r.rep na⟩, hd, by rw [hz.1]; exact ck, h⟩
      cases fo with
      | none =>
        cases a with
        | some _ => exact xi.elim
        | none =>
          unfold excD Is
          exact ⟨ax, [], rfl, base [] (.inl ⟨hz.2, rfl⟩), rfl, .nil⟩
      | some z =>
        cases a with
        | none => exact xi.elim
        | some dx =>
          obtain ⟨ns, ds⟩ := z
          obtain ⟨fs, e1, ⟨m1, z1⟩, e2, t⟩ := xi
          unfold excD Is
          exact ⟨ax, fs, rfl, base fs (.inr ⟨dx, hz.2, by rw [upd_ne (ne_of_none e1 na)]; exact e1, m1, z1⟩), e2, Iss.nt r.rep n2 _ _ t⟩
    have env2 : EnvIs C.K (upd H1 ax (.frz oe (.ext fun _ => True))) Hm1 (setE i (excD nm fo) σd1) (setV i ax σ1) := by
      cases i with
      | none => exact r.env.nt r.rep n2
      | some j => exact (r.env.nt r.rep n2).set j ix
    have k1 : EndsOk C Hm1 σ1 (upd H1 ax (.frz oe (.ext fun _ => True))) Dd D := k.cut (r.nt.trans n2)
    have nn : NT C.M0 C.H0 Hm1 (upd H1 ax (.frz oe (.ext fun _ => True))) := s.nt.trans (r.nt.trans n2)
    refine ⟨Hm1, _, _, Hm1, _, ⟨env2, r2, .refl⟩, q, ?_⟩
    have del : ∀ {σ' : L2.St} {H' : Hp} {σd' : En} {Hm' : MH}, EnvIs C.K H' Hm' σd' σ' → (∀ {j}, i = some j → EnvIs C.K H' Hm' (σd'.set j none) (σ'.set j none)) := fun e j _ => e.wiped [j]
    cases i with
    | none => exact ⟨fun σ' H' σd' Hm' n s' q => k1.nx σ' H' σd' Hm' n ⟨s'.env, s'.rep, nn.trans n⟩ q, fun σ' H' σd' Hm' n s' q => k1.bk σ' H' σd' Hm' n ⟨s'.env, s'.rep, nn.trans n⟩ q, fun σ' H' σd' Hm' n s' q => k1.ct σ' H' σd' Hm' n ⟨s'.env, s'.rep, nn.trans n⟩ q, k1.rt⟩
    | some j => exact ⟨fun σ' H' σd' Hm' n s' q => k1.nx _ H' _ Hm' n ⟨del s'.env rfl, s'.rep, nn.trans n⟩ q, fun σ' H' σd' Hm' n s' q => k1.bk _ H' _ Hm' n ⟨del s'.env rfl, s'.rep, nn.trans n⟩ q, fun σ' H' σd' Hm' n s' q => k1.ct _ H' _ Hm' n ⟨del s'.env rfl, s'.rep, nn.trans n⟩ q, k1.rt⟩
  · rw [hbf] at q
    exact ok.w σ1 H1 σd1 Hm1 nm _ a fo ⟨r.env, r.rep, s.nt.trans r.nt⟩ ck xi q
end
end DL

set_option maxHeartbeats 1000000
namespace DL
open PySem PySem.Spec PyProof.Rows L2

/-! ### a def that is called while an exception is handled, and that raises nothing itself -/
abbrev RoomH := L2H.RoomH
structure FnQ (P : Program) (w : World) (K : PySem.W.Frag) (mg : Str → Option Value) (base : Heap) (CX : CXT) (k : Nat) (f : Addr) (fd : FuncData) (ps : List Str) (sp : Sp) : Prop where
  len : ∀ vs H Q E, sp vs H Q E → vs.length = ps.length
  run : ∀ (A : Around) (outer : List Env) (s : Shared) (H : Hp) (args : Args) (us : List Value) (vs : List V) (Q : VK) (E : XK), RoomH k A → Env0 P w K mg base A outer s H → BindsTo s fd args (ps.zip us) → Vals vs us → sp vs H Q E →
    codeAny (model P w) A (.call (.ref f) args) (CR CX outer P w H s Q E) s
theorem FnQ.mono {P : Program} {w : World} {K : PySem.W.Frag} {mg : Str → Option Value} {base : Heap} {CX : CXT} {j k : Nat} {f : Addr} {fd : FuncData} {ps : List Str} {sp : Sp} (F : FnQ P w K mg base CX j f fd ps sp) (h : j ≤ k) : FnQ P w K mg base CX k f fd ps sp :=
  ⟨F.len, fun A outer s H args us vs Q E hr => F.run A outer s H args us vs Q E (hr.mono h)⟩
abbrev cxQ (CX : CXT) (P : Program) (w : World) (K : PySem.W.Frag) (mg : Str → Option Value) (base : Heap) (N : List Str) (qual : Str) (scope : Scope) (f : Addr) (cd : Value) (A : Around) (outer : List Env) (s : Shared) (H : Hp) (E : XK) : Cx :=
  { cxOf CX P w K mg base N qual scope f cd A outer s H E with calm := false }
theorem inv_startQ {CX : CXT} {P : Program} {w : World} {K : PySem.W.Frag} {mg : Str → Option Value} {base : Heap} {N ps : List Str} {qual : Str} {scope : Scope} {f : Addr} {cd : Value} {A : Around} {outer : List Env} {s s1 : Shared} {H : Hp} {E : XK} {us : List Value} {vs : List V}
    (S : FnScope N ps scope) (e0 : Env0 P w K mg base A outer s H) (hl : vs.length = ps.length) (r : Vals vs us)
    (x : InCallC s s.heap.objs.size (bindL (envOfC qual scope s.heap.objs.size f cd).kindOf (ps.zip us) fun _ => none) (cellsFrom (s.heap.objs.size + 1) scope.names []) (bindC (envOfC qual scope s.heap.objs.size f cd).kindOf (ps.zip us) fun _ => none) s1) :
    Inv (cxQ CX P w K mg base N qual scope f cd A outer s H E) [] (L2.start N vs) H s1 := by
  have hpl : ps.length ≤ N.length := by have := congrArg List.length S.pre; rw [List.length_take] at this; omega
  obtain ⟨h1, tk, rfl, hk⟩ := x.done
  have noA : ∀ b : Addr, b ∉ (cxQ CX P w K mg base N qual scope f cd A outer s H E).ex := fun b z => absurd (show b ∈ ([] : List Addr) from z) (by simp)
  refine ⟨⟨e0.mod, S.kind, rfl, rfl, Nat.le_refl _, fun y z c h1 h2 => ?_, fun y hy => ?_, fun y c _ h => ?_, (fun z => Bool.noConfusion (show false = true from z)), Around.frames_deeper e0.frames, .inr ⟨rfl, rfl⟩, fun b z => absurd z (noA b), e0.bs, e0.bsz, fun b _ _ => noA b, fun b z => absurd z (noA b), e0.funs, e0.frf⟩,
    rfl, e0.bare, Un.kept hk, ⟨_, x.toInCall.ns, fun i y v h1 h2 h3 => ?_⟩, fun y c h => ⟨_, x.cell y c h⟩, e0.hok.fresh (Nat.le_refl _), fun y c h => ?_, fun q hq => ?_, e0.hok.kept hk, ?_⟩
  · exact name_of_addr x.apart (PySem.mem_of_lookup h1) (PySem.mem_of_lookup h2)
  · have hy : scope.names.lookup y = some .cell ∨ scope.names.lookup y = some .free := hy
    rcases hy with hy | hy
    · exact cell_has hy
    · exact absurd rfl (S.nofree _ (PySem.mem_of_lookup hy))
  · exact Nat.le_of_lt (x.above y c (PySem.mem_of_lookup h))
  · have hi : i < vs.length := by
      unfold L2.start at h2
      by_cases hi : i < vs.length
      · exact hi
      · rw [List.getElem?_append_right (by simpa using hi)] at h2
        rw [List.getElem?_replicate] at h2
        split at h2 <;> cases h2
    have ha : vs[i]? = some v := by
      unfold L2.start at h2
      rw [List.getElem?_append_left (by simpa using hi), List.getElem?_map] at h2
      cases e : vs[i]? with
      | none => rw [e] at h2; cases h2
      | some a => rw [e] at h2; cases h2; rfl
    obtain ⟨u, hu, rv⟩ := r.get ha
    have hp : ps[i]? = some y := by
      rw [← S.pre, List.getElem?_take_of_lt (by omega)]; exact h1
    have ndP : ps.Nodup := by rw [← S.pre]; exact S.nd.sublist (List.take_sublist _ _)
    refine ⟨u, rv, ?_⟩
    rcases S.par y (List.mem_of_getElem? hp) with k | k
    · exact .inl ⟨k, bindL_get ndP hp hu k⟩
    · obtain ⟨c, e⟩ := cell_has (n := s.heap.objs.size + 1) k
      refine .inr ⟨.inl k, c, e, ?_⟩
      have q := x.cell y c e
      rw [bindC_get ndP hp hu (by show scope.names.lookup y ≠ _; rw [k]; decide)] at q
      exact q
  · exact e0.hok.fresh (Nat.le_of_lt (x.above y c (PySem.mem_of_lookup h)))
  · exact absurd (show q ∈ ([] : List (Addr × Obj)) from hq) (by simp)
  · unfold L2.start
    show _ = N.length
    rw [List.length_append, List.length_map, List.length_replicate]
    omega
theorem fn_ofQ {CX : CXT} {P : Program} {w : World} {K : PySem.W.Frag} {mg : Str → Option Value} {base : Heap} {k : Nat} {f : Addr} {name qual : Str} {params : Arguments} {body : List Stmt} {scope : Scope} {dV kV doc pm cdv ct oc : Value} {an od : Option Addr}
    {osl : Array (Option Value)} {N ps : List Str} {sp : Sp} (lk : K.lookup f = some ⟨oc, od, .func (PySem.W.fnOf name qual params body scope dV kV doc pm an cdv ct), osl⟩) (hcd : PySem.W.codeIn K cdv qual = true) (S : FnScope N ps scope)
    (len : ∀ vs H Q E, sp vs H Q E → vs.length = ps.length)
    (hbody : ∀ (A : Around) (outer : List Env) (s : Shared) (H : Hp) (vs : List V) (Q : VK) (E : XK), RoomH k (A.deeper (envOfC qual scope s.heap.objs.size f cdv)) → sp vs H Q E →
      ∃ t, PSs (cxQ CX P w K mg base N qual scope f cdv A outer s H E) body t ∧ t { nx := fun _ H' => Q .non H', rt := Q } (L2.start N vs) H) :
    FnQ P w K mg base CX (k + 1) f (PySem.W.fnOf name qual params body scope dV kV doc pm an cdv ct) ps sp := by
  refine ⟨len, fun A outer s H args us vs Q E hr e0 hb r hsp => ?_⟩
  have hl := len _ _ _ _ hsp
  have KX : K.In s.heap := e0.mod.kin.keeps fun b o e => (e0.bs b o e).1
  have lim : s.heap.NoLimit := e0.mod.nolimit.keeps fun b o e => (e0.bs b o e).1
  have hkind : ∀ y ∈ ps.zip us, scope.names.lookup y.1 = some .local ∨ (scope.names.lookup y.1 = some .cell ∧ ((cellsFrom (s.heap.objs.size + 1) scope.names []).lookup y.1).isSome = true) := fun ⟨n, v⟩ hy => by
    rcases S.par n (List.of_mem_zip hy).1 with q | q
    · exact .inl q
    · exact .inr ⟨q, PySem.W.cellsFrom_some _ _ _ (.inl q)⟩
  refine codeAny_call_function hr.depth (KX _ _ lk) rfl S.co S.gen rfl (PySem.W.codeRec_of KX hcd) (hb _ _ _ _ ?_)
  refine wpAny_newFunctionEnv_cells S.kind hkind fun env he s1 x => ?_
  subst he
  refine ⟨lim.keeps x.toInCall.keep, codeAny_func ?_⟩
  obtain ⟨t, ht, hq⟩ := hbody A outer s H vs Q E (hr.deeper _) hsp
  have I : Inv (cxQ CX P w K mg base N qual scope f cdv A outer s H E) [] (L2.start N vs) H s1 := inv_startQ S e0 hl r x
  refine wpAny_mono (ht.run [] s1 (L2.start N vs) H _ I hq) (fun fl s' hs => ?_) fun e s' hs => hs
  have fin : ∀ {σ' : L2.St} {H' : Hp} {v : V} {u : Value}, Inv (cxQ CX P w K mg base N qual scope f cdv A outer s H E) [] σ' H' s' → RelV v u → Q v H' → CE outer P w H s Q u s' :=
    fun {σ' H' v u} J rv q => ⟨v, H', J.os, J.bare, J.base, J.hok, rv, q⟩
  cases fl with
  | ret u =>
    obtain ⟨v, σ', H', J, rv, q⟩ := hs
    exact fin J rv q
  | next =>
    obtain ⟨σ', H', J, q⟩ := hs
    exact fin (v := V.non) (u := Value.none) J rfl q
  | brk =>
    obtain ⟨_, _, _, q⟩ := hs
    exact False.elim q
  | cont =>
    obtain ⟨_, _, _, q⟩ := hs
    exact False.elim q
theorem fun_okQ {P : Program} {w : World} {K : PySem.W.Frag} {mg : Str → Option Value} {base : Heap} {x qual : Str} {st : Stmt} {f : Addr} {fd : FuncData} {N ps : List Str} {k : Nat} {sp : Sp} (F : Fun K x qual st f fd) (S : FnScope N ps (defScope st)) (len : ∀ vs H Q E, sp vs H Q E → vs.length = ps.length)
    (hbody : ∀ (cdv : Value) (A : Around) (outer : List Env) (s : Shared) (H : Hp) (vs : List V) (Q : VK) (E : XK), RoomH k (A.deeper (envOfC qual (defScope st) s.heap.objs.size f cdv)) → sp vs H Q E →
      ∃ t, PSs (cxQ (L2.CX P w) P w K mg base N qual (defScope st) f cdv A outer s H E) (defBody st) t ∧ t { nx := fun _ H' => Q .non H', rt := Q } (L2.start N vs) H) : FnQ P w K mg base (L2.CX P w) (k + 1) f fd ps sp := by
  obtain ⟨oc, od, kV, doc, pm, an, cdv, ct, osl, rfl, lk, hcd⟩ := F.ex
  exact fn_ofQ lk hcd S len fun A outer s H vs Q E hr hsp => hbody cdv A outer s H vs Q E hr hsp
section
variable {X : Cx} {CX : CXT} {k : Nat} {f C : Addr} {fd : FuncData} {ps : List Str} {sp : Sp} {E : L2.St → XK} {x m : Str} {p pos apos : Pos} {e o : Expr} {es : List Expr} {ta : TE} {t : TA}
theorem run_fnQ {pins : List (Addr × Obj)} {σ : L2.St} {H : Hp} {s : Shared} {Q : VK} {us : List Value} {vs : List V} (F : FnQ X.prog X.w X.K X.mg X.base CX k f fd ps sp) (hr : RoomH k X.A) (hb : Binds X.K fd ps []) (hx : PassesAt CX X σ (E σ))
    (I : Inv X pins σ H s) (r : Vals vs us) (h : sp vs H Q (E σ)) : wpAny (model X.prog X.w) X.A (call (.ref f) us) (EP X pins σ Q) X.xe s := by
  have hl : us.length = ps.length := by rw [← r.length]; exact F.len _ _ _ _ h
  have b := hb s us I.kIn (by rw [List.append_nil]; exact hl)
  rw [List.append_nil] at b
  refine wpAny_call (codeAny_mono (F.run X.A X.stack s H ⟨us, []⟩ us vs Q (E σ) hr I.env0 b r h) fun r s' hq => ?_)
  cases r with
  | error e => exact hx pins H s e s' I hq
  | ok fl =>
    cases fl with
    | ret u => exact I.after hq
    | next => exact False.elim hq
    | brk => exact False.elim hq
    | cont => exact False.elim hq
theorem pe_callQ (F : FnQ X.prog X.w X.K X.mg X.base CX k f fd ps sp) (hr : RoomH k X.A) (hg : Gl X x) (hm : X.mg x = some (.ref f)) (hk : PySem.W.keepIn X.K (.ref f) = true) (hb : Binds X.K fd ps []) (hx : ∀ σ, PassesAt CX X σ (E σ))
    (ha : PA X (e :: es) t) (hdb : (x == ("__debug__" : Str)) = false) (he : starEach (e :: es) X.env = (false, eval e X.env) :: starEach es X.env) (hpl : (backTo pos (starEach es X.env)).any (·.1) = false) :
    PE X (.Call (.Name x p) (e :: es) [] pos) (tCallS sp E t) := by
  refine ⟨fun pins s σ H Q I h => ?_⟩
  refine wpAny_Call_Name_kw (ld_glob I hg hm ?_ hdb)
  refine PySem.W.callWith_K (h₀ := X.base) I.ok.mod.kin hk (thn (ha.run pos pins s σ H _ I h) fun us s1 ⟨vs, H1, I1, r, q⟩ => ⟨I1.kIn, ?_⟩) he hpl
  exact run_fnQ F hr hb (hx σ) I1 r q
end
/-- a def of the module that keeps its promise while an exception is handled -/
def HasQ (X : Cx) (x : Str) (n : Nat) (c : Ctr) : Prop := ∃ f fd ps k, ps.length = n ∧ X.mg x = some (.ref f) ∧ PySem.W.keepIn X.K (.ref f) = true ∧ Binds X.K fd ps [] ∧ FnQ X.prog X.w X.K X.mg X.base (L2.CX X.prog X.w) k f fd ps (Cl X.K n c) ∧ RoomH k X.A
section
variable {C : Co} {a e : Expr} {es : List Expr} {ta te : TD} {t : TAd} {pos p : Pos} {x : Str}
theorem de_callQ (ok : C.Ok) {n : Nat} {c : Ctr} (hF : HasQ C.X x n c) (hg : Gl C.X x) (ha : DA C (e :: es) t) (hdb : (x == ("__debug__" : Str)) = false)
    (he : starEach (e :: es) C.X.env = (false, eval e C.X.env) :: starEach es C.X.env) (hpl : (backTo pos (starEach es C.X.env)).any (·.1) = false) :
    DE C (.Call (.Name x p) (e :: es) [] pos) (fun σ H Q => t σ H fun ds H1 => ds.length = n ∧ c ds H1 Q (C.Ed σ)) := by
  obtain ⟨f, fd, ps, k, hl, hm, hk, hb, F, hr⟩ := hF
  refine PE.weak (pe_callQ F hr hg hm hk hb (fun σ => passAt ok.tk σ) ha hdb he hpl) fun σ H Q => ?_
  rintro ⟨σd, Hm, Qd, s, q, k⟩
  refine LfA.seq s q fun vs H1 ds Hm1 n1 s1 is q => ?_
  exact ⟨C.Z, ds, Hm1, Qd, C.Ed σd, q.1, s1.rep, is, q.2, k.cut n1, fun nm cls a fo H' Hm' n' r' c' x' h => ok.w σ H' σd Hm' nm cls a fo (s1.nxt n' r') c' x' h⟩
end
end DL

set_option maxHeartbeats 4000000
namespace PySem
open Sem (wp)
open AutoSeq1 (wpAny_loadPart')
theorem meets_enumerate_newT (l : Addr) (items : Array Value) (n : Nat) (dct : Option Addr) (sl : Array (Option Value)) :
    Meets (Builtin.«enumerate.__new__» ⟨[.type "enumerate", .ref l], []⟩) (fun _ R s => s.heap.get? l = some { cls := .type "tuple", dict := dct, data := .seq items n, slots := sl } ∧
      R (.ok (.ret (.ref (s.heap.push { cls := .type "tuple_iterator", data := .fields #[.ref l, .int 0 0] }).objs.size)))
        { s with heap := (s.heap.push { cls := .type "tuple_iterator", data := .fields #[.ref l, .int 0 0] }).push { cls := .type "enumerate", data := .fields #[.none, .bool false, .ref s.heap.objs.size, rawInt 0, .none, .none] } }) :=
  .of_wp fun prog w A R s h => by
    obtain ⟨hp, g, d, tk, os⟩ := s; obtain ⟨hl, h⟩ := h
    have hsub := sub_enumerate
    have hL : Heap.IsTuple (Shared.heap ⟨hp, g, d, tk, os⟩) l items := ⟨_, hl, rfl, n, rfl⟩
    wp_walk using wpAny_loadPart' hl
    refine wpAny_stack_any fun st => wpAny_pure ?_
    split
    · rename_i c _ _ _ _ _
      cases (c == Value.type "enumerate")
      · wp_walk using wpAny_loadPart' hl, wpAny_pyIter_tuple hL
        exact ⟨_, rfl, h⟩
      · wp_walk using wpAny_loadPart' hl, wpAny_pyIter_tuple hL
        exact ⟨_, rfl, h⟩
    · wp_walk using wpAny_loadPart' hl, wpAny_pyIter_tuple hL
      exact ⟨_, rfl, h⟩
section
variable {prog : Program} {w : World} {A : Around} {E : Value → Shared → Prop} {s : Shared}
theorem pyNext_enumT_end {e it l : Addr} {i : Nat} {items : Array Value} {old : Value} {Q : Option Value → Shared → Prop} (hh : A.handled = none)
    (he : IsEnum s.heap e it i old) (hit : s.heap.IsTupleIter it l i) (hl : s.heap.IsTuple l items) (hx : items[i]? = none)
    (hQ : ∀ h', Heap.ExtBut it s.heap h' → Q none { s with heap := h' }) : wpAny (model prog w) A (pyNext (.ref e)) Q E s := by
  have hT : s.TypeIs (.ref e) "enumerate" := ⟨_, he, rfl⟩
  unfold pyNext
  refine wpAny_bind (wpAny_attempt (wpAny_callSpecial?_slot (name := Str.ofString "__next__") hT F.slot_enumerate_next
    (wpAny_call_entry F.slot_enumerate_next hT F.entry_enumerate_next ?_ (F.args_enumerate_next_1 _))))
  show wpAny _ _ (field (.ref e) 2 >>= _) _ _ _
  refine wpAny_bind (wpAny_field he rfl (x := .ref it) rfl ?_)
  refine wpAny_bind (wpAny_nextOf_tuple_end hh hit hl hx fun h' x he' hx' => ?_)
  obtain ⟨o, ho, hc⟩ := hx'
  refine wpAny_bind (wpAny_isInstance (T := "StopIteration") (b := true) ⟨o, ho, hc⟩ isSubtype_stop ?_)
  exact wpAny_pure (hQ _ he')
theorem call_enumerate_tuple {l : Addr} {items : Array Value} {Q : Value → Shared → Prop} (hL : s.heap.IsTuple l items)
    (h : ∀ h', IsEnum h' (s.heap.objs.size + 1) s.heap.objs.size 0 .none → h'.IsTupleIter s.heap.objs.size l 0 → h'.objs.size = s.heap.objs.size + 2 →
      (∀ b o, s.heap.get? b = some o → h'.get? b = some o) → Q (.ref (s.heap.objs.size + 1)) { s with heap := h' }) :
    wpAny (model prog w) A (call (.type "enumerate") [.ref l]) Q E s := by
  obtain ⟨⟨c, dct, dt, sl⟩, hl, hc, n, hd⟩ := hL
  replace hc : c = .type "tuple" := hc
  replace hd : dt = .seq items n := hd
  subst hc hd
  refine callType_new F.called_enumerate (by decide) (F.typeCall_enumerate_1 _) (F.newCall_enumerate_1 _) (fun obj => F.args_object_init_2 obj _) F.entry_enumerate_new
    (meets_enumerate_newT l items n dct sl) ⟨hl, ?_⟩
  have hz : (s.heap.push { cls := .type "tuple_iterator", data := .fields #[.ref l, .int 0 0] }).objs.size = s.heap.objs.size + 1 := Heap.size_push ..
  show _ ∧ _
  rw [hz]
  have he : IsEnum ((s.heap.push { cls := .type "tuple_iterator", data := .fields #[.ref l, .int 0 0] }).push
      { cls := .type "enumerate", data := .fields #[.none, .bool false, .ref s.heap.objs.size, rawInt 0, .none, .none] }) (s.heap.objs.size + 1) s.heap.objs.size 0 .none := by
    have := Heap.get?_push_size (s.heap.push { cls := .type "tuple_iterator", data := .fields #[.ref l, .int 0 0] })
      (o := { cls := .type "enumerate", data := .fields #[.none, .bool false, .ref s.heap.objs.size, rawInt 0, .none, .none] }) rfl
    rw [hz] at this; exact this
  refine ⟨⟨_, he, rfl⟩, h _ he ⟨_, Heap.get?_push_of_some _ (Heap.get?_push_size _ rfl), rfl, rfl⟩ (by rw [Heap.size_push, hz]) fun b o x => Heap.get?_push_of_some _ (Heap.get?_push_of_some _ x)⟩
end
end PySem
namespace L2
open PySem PySem.Spec PyProof.Rows
section
/-- the tuple at a as it stands at each turn, its items with their places -/
def IteT (K : PySem.W.Frag) (a : Addr) : It :=
  ⟨fun i H => ∃ (xs : List V) (x : V), SqT K H a xs ∧ xs[i]? = some x, fun i H v H' => ∃ T x, v = .ref T ∧ H T = none ∧ H' = upd H T (.tup [.int (i : Nat), x]) ∧ ∀ xs, SqT K H a xs → xs[i]? = some x, fun i H => ∃ xs : List V, SqT K H a xs ∧ xs.length ≤ i⟩
theorem turn_enumT {P : Program} {w : World} {K : PySem.W.Frag} {elts : List Expr} {kk : Nat} {tpos : Pos} (a e it : Addr) (hae : a ≠ e) (hai : a ≠ it) :
    Turn P w K (.Tuple elts kk tpos) (IteT K a) [e, it] e (fun i h => (∃ old, IsEnum h e it ((i : Nat) : Int) old) ∧ h.IsTupleIter it a i ∧ e ≠ it) where
  mem := by simp
  obj := fun i h st b hb => by
    obtain ⟨⟨old, he⟩, ⟨o, ho, hc, hd⟩, _⟩ := st
    have e' : b = e ∨ b = it := by simpa using hb
    rcases e' with z | z
    · rw [z]; exact ⟨_, he, fun v q => nomatch q⟩
    · rw [z]; exact ⟨o, ho, fun v q => by rw [hd] at q; cases q⟩
  keep := fun i h h' st k => let ⟨⟨old, he⟩, hi, hne⟩ := st; ⟨⟨old, k e (by simp) _ he⟩, hi.at fun o q => k it (by simp) o q, hne⟩
  item := by
    intro X hP hw hK hc i pins s σ H E I hf st hg
    subst hP hw hK
    obtain ⟨⟨old, he⟩, hit, hne⟩ := st
    obtain ⟨xs, x, hq, hx⟩ := hg
    obtain ⟨its, rv, p, hz⟩ := I.tuple hq
    obtain ⟨u, hu, ru⟩ := rv.get hx
    have hel : e < s.heap.objs.size := Heap.lt_size he
    have hil : it < s.heap.objs.size := by obtain ⟨_, q, _⟩ := hit; exact Heap.lt_size q
    have D := Draws.tuple (prog := X.prog) (w := X.w) (A := X.A.in1) (show X.A.in1.handled = none from I.ok.hd hc) it a hai its.toArray
    have hlt : i < its.toArray.size := by
      have := (List.getElem?_eq_some_iff.mp hu).1
      simpa using this
    refine wpAny_pyNext_enum_itemD D he ⟨hit, p⟩ hlt hne (by simp [hne, Ne.symm hae]) fun x' h' tk hPx ho hit' hT hsz hk => ?_
    have hxu : x' = u := by
      have h1 : its[i]? = some x' := by simpa using hPx
      rw [hu] at h1
      exact (Option.some.inj h1).symm
    subst hxu
    refine ⟨_, rfl, wpAny_letOwnedTupleGo_enum (s := { s with heap := h', toks := tk + 1 }) ho fun h'' he' sb => ?_⟩
    have hT2 : h''.get? s.heap.objs.size = some { cls := .type "tuple", data := .seq #[.int i tk, x'] } := (sb.2 _ (Nat.ne_of_gt hel)).trans hT
    have new : ObjOk X.prog X.w (upd H s.heap.objs.size (.tup [.int (i : Nat), x])) h'' s.heap.objs.size (.tup [.int (i : Nat), x]) :=
      ⟨by show 2 ≤ sizeLine; decide, [.int i tk, x'], .cons ⟨_, rfl⟩ (.cons ru .nil), ⟨_, hT2, rfl, _, rfl⟩⟩
    have I1 : Inv X pins σ (upd H s.heap.objs.size (.tup [.int (i : Nat), x])) { s with heap := h'', toks := tk + 1 } :=
      I.turnedNew (ch := [e, it]) (fun b ob hb q => (sb.2 b (fun z => hb (by simp [z]))).trans (hk b ob (fun z => hb (by simp [z])) (fun z => hb (by simp [z])) q)) hf (Nat.le_refl _) new
    refine ⟨.ref s.heap.objs.size, _, I1, rfl, ⟨_, x, rfl, I.hok.fresh (Nat.le_refl _), rfl, fun ys hy => by rw [I.tuple_inj hy hq]; exact hx⟩, ⟨⟨x', ?_⟩, hit'.1.at fun o q => (sb.2 it (Ne.symm hne)).trans q, hne⟩, fun b hb => ?_⟩
    · have e1 : ((i + 1 : Nat) : Int) = (i : Int) + 1 := by omega
      rw [e1]; exact he'
    · have hb' : b < s.heap.objs.size := by
        have e' : b = e ∨ b = it := by simpa using hb
        rcases e' with z | z
        · rw [z]; exact hel
        · rw [z]; exact hil
      rw [upd_ne (Nat.ne_of_lt hb')]
      exact (hf b hb).1
  done := by
    intro X hP hw hK hc i pins s σ H E I hf st hg
    subst hP hw hK
    obtain ⟨⟨old, he⟩, hit, hne⟩ := st
    obtain ⟨xs, hq, hx⟩ := hg
    obtain ⟨its, rv, p, hz⟩ := I.tuple hq
    obtain ⟨f0, f1, f2, f3, f4, f5⟩ := hf it (by simp)
    have hl := rv.length
    exact pyNext_enumT_end (I.ok.hd hc) he hit p (by simp; omega) fun h' eb => ⟨rfl, I.turned (t' := s.toks) (fun b o hb q => eb b o hb q) f0 f1 f3 f4 f5⟩
  self := fun A i s Q E st h => let ⟨⟨_, he⟩, _⟩ := st; wpAny_pyIter_enum he h
theorem pi_enumA {X : Cx} {e : Expr} {ta : TA} {p pos tpos : Pos} {elts : List Expr} {kk : Nat} (hg : Gl X "enumerate") (hm : X.mg "enumerate" = none) (ha : PA X [e] ta) (hs : starEach [e] X.env = [(false, eval e X.env)] := by rfl) :
    PI X (.Tuple elts kk tpos) (.Call (.Name "enumerate" p) [e] [] pos) (fun σ H R => ta σ H fun vs H1 => ∃ a xs, vs = [.ref a] ∧ ((SqL X.K H1 a xs ∧ R (Ite X.K a) H1) ∨ (SqT X.K H1 a xs ∧ R (IteT X.K a) H1))) := by
  refine ⟨fun pins s σ H R I h => ?_⟩
  refine Call_ (ld_blt I hg hm boot_enumerate (PyProof.Rows.callWith_type1 (thn (ha.run pos pins s σ H _ I h) fun us s1 ⟨vs, H1, I1, r1, q1⟩ => ?_) hs rfl))
  obtain ⟨a, xs, ex, q⟩ := q1
  subst ex
  cases r1 with
  | cons r rr =>
    cases rr
    cases r
    rcases q with ⟨hq, q⟩ | ⟨hq, q⟩
    · obtain ⟨its, rv, p', hz⟩ := I1.list hq
      refine call_enumerate_list p'.isList fun h' he hit hsz hk => wpAny_pyIter_enum he ?_
      have I2 : Inv X pins σ H1 { s1 with heap := h' } := I1.kept (t' := s1.toks) hk
      refine ⟨s1.heap.objs.size + 1, [s1.heap.objs.size + 1, s1.heap.objs.size], _, _, H1, rfl, I2, turn_enum a (s1.heap.objs.size + 1) s1.heap.objs.size, ⟨⟨.none, he⟩, hit, Nat.succ_ne_self _⟩, fun b hb => ?_, q⟩
      have e' : b = s1.heap.objs.size + 1 ∨ b = s1.heap.objs.size := by simpa using hb
      have hle : s1.heap.objs.size ≤ b := by
        rcases e' with z | z
        · rw [z]; exact Nat.le_add_right _ _
        · rw [z]; exact Nat.le_refl _
      exact I1.fpOk hle (I1.hok.fresh hle)
    · obtain ⟨its, rv, p', hz⟩ := I1.tuple hq
      have hal : a < s1.heap.objs.size := by obtain ⟨_, q', _⟩ := p'; exact Heap.lt_size q'
      have n1 : a ≠ s1.heap.objs.size + 1 := Nat.ne_of_lt (Nat.lt_succ_of_lt hal)
      have n2 : a ≠ s1.heap.objs.size := Nat.ne_of_lt hal
      refine call_enumerate_tuple p' fun h' he hit hsz hk => wpAny_pyIter_enum he ?_
      have I2 : Inv X pins σ H1 { s1 with heap := h' } := I1.kept (t' := s1.toks) hk
      refine ⟨s1.heap.objs.size + 1, [s1.heap.objs.size + 1, s1.heap.objs.size], _, _, H1, rfl, I2, turn_enumT a (s1.heap.objs.size + 1) s1.heap.objs.size n1 n2, ⟨⟨.none, he⟩, hit, Nat.succ_ne_self _⟩, fun b hb => ?_, q⟩
      have e' : b = s1.heap.objs.size + 1 ∨ b = s1.heap.objs.size := by simpa using hb
      have hle : s1.heap.objs.size ≤ b := by
        rcases e' with z | z
        · rw [z]; exact Nat.le_add_right _ _
        · rw [z]; exact Nat.le_refl _
      exact I1.fpOk hle (I1.hok.fresh hle)
end
end L2

set_option maxHeartbeats 1000000
namespace DL
open PySem PySem.Spec PyProof.Rows L2

/-! ### more of dicts, ranges, zip -/
theorem isD_of {K : Kz} {H : Hp} {Hm : MH} {d : D} {v : V} (r : Rep K H Hm) (i : Is K H Hm d v) (h : isDct Hm d = true) : ∃ a, v = .ref a ∧ IsD H a := by
  unfold isDct at h
  split at h
  · unfold Is at i
    obtain ⟨a, kvs, e, z, _⟩ := i
    exact ⟨a, e, .inl ⟨kvs, .inl z⟩⟩
  · rename_i a
    refine ⟨a, i.ref, ?_⟩
    split at h
    · rename_i kvs e
      obtain ⟨us, z, _⟩ := dk_rep r e
      exact .inl ⟨us, .inl z⟩
    · rename_i kvs e
      obtain ⟨us, z, _⟩ := dt_rep r e
      exact .inr ⟨us, .inl z⟩
    · rename_i o us kvs e
      obtain ⟨z, _⟩ := r.obj _ _ e
      exact .inl ⟨us, .inr ⟨o, z⟩⟩
    · rename_i o us kvs e
      obtain ⟨z, _⟩ := r.obj _ _ e
      exact .inr ⟨us, .inr ⟨o, z⟩⟩
    · cases h
  · cases h
section
variable {C : Co} {a e f b o : Expr} {es : List Expr} {ta te tf tb to : TD} {t : TAd} {pos p apos cpos : Pos} {x : Str}
theorem de_dget (ok : C.Ok) {wt : List Key → Bool} (hw : WtOk C.X.K wt) (ho : DE C o to) (he : DE C e te) (hf : DE C f tf) (m : M2 C.X o "get" apos e f cpos) :
    DE C (.Call (.Attribute o "get" apos) [e, f] [] cpos) (fun σ H Q => to σ H fun x H1 => isDct H1 x = true ∧ te σ H1 fun y H2 => tf σ H2 fun z H3 => getW wt x y z H3 Q) :=
  PE.weak (pe_dget2 ok.units ho he hf m) fun σ H Q => by
    rintro ⟨σd, Hm, Qd, s, q, k⟩
    refine Lf.seq s q fun x H1 dx Hm1 n1 s1 ix q => ?_
    obtain ⟨hd, q⟩ := q
    obtain ⟨a, rfl, hD⟩ := isD_of s1.rep ix hd
    refine ⟨a, rfl, hD, ?_⟩
    refine Lf.seq s1 q fun y H2 dy Hm2 n2 s2 iy q => ?_
    refine Lf.seq s2 q fun z H3 dz Hm3 n3 s3 iz q => ?_
    have ix3 := Is.nt s1.rep (n2.trans n3) dx _ ix
    have iy3 := Is.nt s2.rep n3 dy y iy
    have kk := ((k.cut n1).cut n2).cut n3
    unfold getW at q
    split at q
    · obtain ⟨p, kvs, ks, e, hp, hk, h0, qq⟩ := q
      subst e
      obtain ⟨b, rfl, hb⟩ := key_tup (K := ⟨C.X.K, C.Z⟩) hw iy3 hk h0
      obtain ⟨us, e, t⟩ := dtr_rep s3.rep hp
      have ea := ix3.ref
      cases ea
      cases h : valD kvs ks with
      | none =>
        rw [h] at qq
        exact ⟨none, by rw [← KVs.none t h]; exact DGet.tR e hb, kk.here s3.rep iz qq⟩
      | some d =>
        rw [h] at qq
        obtain ⟨v, hv, iv⟩ := t.get h
        exact ⟨some v, by rw [← hv]; exact DGet.tR e hb, kk.here s3.rep iv qq⟩
    unfold getD2 at q
    split at q
    · obtain ⟨key, hk, q⟩ := q
      unfold Is at ix3
      obtain ⟨a', kvs, e1, e2, m1, z1⟩ := ix3
      cases e1
      have := key_of' iy3 hk
      subst this
      exact ⟨valV kvs key, DGet.k e2, kk.here s3.rep (by unfold Is; trivial) q⟩
    · obtain ⟨ov, hdg, q⟩ := q
      unfold dgetD at hdg
      split at hdg
      · have ex := ix3.ref
        cases ex
        obtain ⟨kvs, hm, hdg⟩ := Option.bind_eq_some_iff.1 hdg
        · obtain ⟨key, hk, rfl⟩ := Option.map_eq_some_iff.1 hdg
          have := key_of' iy3 hk
          subst this
          obtain ⟨us, e, t⟩ := dkr_rep s3.rep hm
          cases h : valD kvs key with
          | none =>
            rw [h] at q
            exact ⟨none, by rw [← KVs.none t h]; exact DGet.kR e, kk.here s3.rep iz q⟩
          | some d =>
            rw [h] at q
            obtain ⟨v, hv, iv⟩ := t.get h
            exact ⟨some v, by rw [← hv]; exact DGet.kR e, kk.here s3.rep iv q⟩
      · cases hdg
theorem de_dgetT (ok : C.Ok) {x1} {p2 : Pos} (ho : DE C o to) (he : DA C es t) (hf : DE C f tf) (m : M2 C.X o "get" apos (.Tuple es x1 p2) f cpos) :
    DE C (.Call (.Attribute o "get" apos) [.Tuple es x1 p2, f] [] cpos) (fun σ H Q => to σ H fun x H1 => isDct H1 x = true ∧ t σ H1 fun ds H2 => ds.length ≤ sizeLine ∧ tf σ H2 fun z H3 => ∃ o, dgetT H3 x ds = some o ∧ Q (o.getD z) H3) :=
  PE.weak (pe_dget2 ok.units ho (pe_tup he) hf m) fun σ H Q => by
    rintro ⟨σd, Hm, Qd, s, q, k⟩
    refine Lf.seq s q fun x H1 dx Hm1 n1 s1 ix q => ?_
    obtain ⟨hd, q⟩ := q
    obtain ⟨a, rfl, hD⟩ := isD_of s1.rep ix hd
    refine ⟨a, rfl, hD, ?_⟩
    refine LfA.seq s1 q fun vs H2 ds Hm2 n2 s2 is q => ?_
    obtain ⟨hl, q⟩ := q
    refine ⟨by rw [is.length]; exact hl, fun b hb => ?_⟩
    have n2' : NT Hm2 H2 Hm2 (upd H2 b (.tup vs)) := ext_nt hb
    have hb2 : Hm2 b = none := s2.rep.free hb
    have s2' := s2.nxt n2' (s2.rep.ext hb)
    refine Lf.seq s2' q fun z H3 dz Hm3 n3 s3 iz q => ?_
    have eb := (n3 b _ upd_same hb2).1
    have ix3 := Is.nt s1.rep ((n2.trans n2').trans n3) dx _ ix
    have is3 := Iss.nt s2.rep (n2'.trans n3) ds vs is
    have kk := ((k.cut n1).cut n2).cut (n2'.trans n3)
    obtain ⟨ov, hdg, q⟩ := q
    unfold dgetT at hdg
    split at hdg
    · have ex := ix3.ref
      cases ex
      obtain ⟨kvs, hm, hdg⟩ := Option.bind_eq_some_iff.1 hdg
      · obtain ⟨key, hk, rfl⟩ := Option.map_eq_some_iff.1 hdg
        have := keys_of is3 hk
        subst this
        obtain ⟨us, e, t⟩ := dtr_rep s3.rep hm
        cases h : valD kvs key with
        | none =>
          rw [h] at q
          exact ⟨none, by rw [← KVs.none t h]; exact DGet.tR e eb, kk.here s3.rep iz q⟩
        | some d =>
          rw [h] at q
          obtain ⟨v, hv, iv⟩ := t.get h
          exact ⟨some v, by rw [← hv]; exact DGet.tR e eb, kk.here s3.rep iv q⟩
    · cases hdg
theorem kvs_some {κ : Type} [DecidableEq κ] {K : Kz} {H : Hp} {Hm : MH} {kvs : List (κ × D)} {us : List (κ × V)} (t : KVs K H Hm kvs us) (k : κ) : (valV us k).isSome = (valD kvs k).isSome := by
  rw [← valV_any, ← valD_any]; exact t.any k
/-- (k, ..) in d -/
theorem din_core {K : Kz} {H : Hp} {Hm : MH} {d : D} {v : V} {ds : List D} {vs : List V} {b : Addr} {ov : Option D} (r : Rep K H Hm) (ix : Is K H Hm d v) (is : Iss K H Hm ds vs) (eb : H b = some (.tup vs)) (h : dgetT Hm d ds = some ov) :
    ∃ a w, v = .ref a ∧ DGet H a (.ref b) w ∧ w.isSome = ov.isSome := by
  unfold dgetT at h
  split at h
  · rename_i a
    obtain ⟨kvs, hm, h⟩ := Option.bind_eq_some_iff.1 h
    · obtain ⟨key, hk, rfl⟩ := Option.map_eq_some_iff.1 h
      have := keys_of is hk
      subst this
      obtain ⟨us, e, t⟩ := dtr_rep r hm
      exact ⟨a, _, ix.ref, DGet.tR e eb, kvs_some t key⟩
  · cases h
theorem de_dinT (ok : C.Ok) {x1} {p2 : Pos} (he : DA C es t) (ho : DE C o to) (hm : behindInMarks .In o = false) :
    DE C (.Compare (.Tuple es x1 p2) [.In] [o] pos) (fun σ H Q => t σ H fun ds H1 => ds.length ≤ sizeLine ∧ to σ H1 fun x H2 => ∃ o, dgetT H2 x ds = some o ∧ Q (.bl (o.isSome != false)) H2) :=
  PE.weak (pe_cmp (pc_din ok.units (pe_tup he) ho) hm) fun σ H Q => by
    rintro ⟨σd, Hm, Qd, s, q, k⟩
    refine LfA.seq s q fun vs H1 ds Hm1 n1 s1 is q => ?_
    obtain ⟨hl, q⟩ := q
    refine ⟨by rw [is.length]; exact hl, fun b hb => ?_⟩
    have n1' : NT Hm1 H1 Hm1 (upd H1 b (.tup vs)) := ext_nt hb
    have hb2 : Hm1 b = none := s1.rep.free hb
    refine Lf.seq (s1.nxt n1' (s1.rep.ext hb)) q fun x H2 dx Hm2 n2 s2 ix q => ?_
    obtain ⟨ov, hd, q⟩ := q
    obtain ⟨a, w, rfl, g, e⟩ := din_core s2.rep ix (Iss.nt s1.rep (n1'.trans n2) _ _ is) (n2 b _ upd_same hb2).1 hd
    refine ⟨a, w, rfl, g, ?_⟩
    rw [e]
    exact (k.cut (n1.trans (n1'.trans n2))).here s2.rep is_bl (by cases ov <;> exact q)
theorem de_dninT (ok : C.Ok) {x1} {p2 : Pos} (he : DA C es t) (ho : DE C o to) (hm : behindInMarks .NotIn o = false) :
    DE C (.Compare (.Tuple es x1 p2) [.NotIn] [o] pos) (fun σ H Q => t σ H fun ds H1 => ds.length ≤ sizeLine ∧ to σ H1 fun x H2 => ∃ o, dgetT H2 x ds = some o ∧ Q (.bl (o.isSome != true)) H2) :=
  PE.weak (pe_cmp (pc_dnotin ok.units (pe_tup he) ho) hm) fun σ H Q => by
    rintro ⟨σd, Hm, Qd, s, q, k⟩
    refine LfA.seq s q fun vs H1 ds Hm1 n1 s1 is q => ?_
    obtain ⟨hl, q⟩ := q
    refine ⟨by rw [is.length]; exact hl, fun b hb => ?_⟩
    have n1' : NT Hm1 H1 Hm1 (upd H1 b (.tup vs)) := ext_nt hb
    have hb2 : Hm1 b = none := s1.rep.free hb
    refine Lf.seq (s1.nxt n1' (s1.rep.ext hb)) q fun x H2 dx Hm2 n2 s2 ix q => ?_
    obtain ⟨ov, hd, q⟩ := q
    obtain ⟨a, w, rfl, g, e⟩ := din_core s2.rep ix (Iss.nt s1.rep (n1'.trans n2) _ _ is) (n2 b _ upd_same hb2).1 hd
    refine ⟨a, w, rfl, g, ?_⟩
    rw [e]
    exact (k.cut (n1.trans (n1'.trans n2))).here s2.rep is_bl (by cases ov <;> exact q)

theorem dc_dinT (ok : C.Ok) {x1} {p2 : Pos} (he : DA C es t) (ho : DE C o to) (hm : behindInMarks .In o = false) :
    DC C (.Compare (.Tuple es x1 p2) [.In] [o] pos) (fun σ H Q => (t σ H fun ds H1 => ds.length ≤ sizeLine ∧ to σ H1 fun x H2 => ∃ o, dgetT H2 x ds = some o ∧ ∃ c, truD H2 (.bl (o.isSome != false)) = some c ∧ Q c H2)) :=
  PT.weak (pt_cmp (pc_din ok.units (pe_tup he) ho) hm) fun σ H Q => by
    rintro ⟨σd, Hm, Qd, s, q, k⟩
    refine LfA.seq s q fun vs H1 ds Hm1 n1 s1 is q => ?_
    obtain ⟨hl, q⟩ := q
    refine ⟨by rw [is.length]; exact hl, fun b hb => ?_⟩
    have n1' : NT Hm1 H1 Hm1 (upd H1 b (.tup vs)) := ext_nt hb
    have hb2 : Hm1 b = none := s1.rep.free hb
    refine Lf.seq (s1.nxt n1' (s1.rep.ext hb)) q fun x H2 dx Hm2 n2 s2 ix q => ?_
    obtain ⟨ov, hd, c, hc, q⟩ := q
    cases hc
    obtain ⟨a, w, rfl, g, e⟩ := din_core s2.rep ix (Iss.nt s1.rep (n1'.trans n2) _ _ is) (n2 b _ upd_same hb2).1 hd
    refine ⟨a, w, rfl, g, _, rfl, ?_⟩
    rw [e]
    exact k _ H2 Hm2 (n1.trans (n1'.trans n2)) s2.rep (by cases ov <;> exact q)
theorem dc_dninT (ok : C.Ok) {x1} {p2 : Pos} (he : DA C es t) (ho : DE C o to) (hm : behindInMarks .NotIn o = false) :
    DC C (.Compare (.Tuple es x1 p2) [.NotIn] [o] pos) (fun σ H Q => (t σ H fun ds H1 => ds.length ≤ sizeLine ∧ to σ H1 fun x H2 => ∃ o, dgetT H2 x ds = some o ∧ ∃ c, truD H2 (.bl (o.isSome != true)) = some c ∧ Q c H2)) :=
  PT.weak (pt_cmp (pc_dnotin ok.units (pe_tup he) ho) hm) fun σ H Q => by
    rintro ⟨σd, Hm, Qd, s, q, k⟩
    refine LfA.seq s q fun vs H1 ds Hm1 n1 s1 is q => ?_
    obtain ⟨hl, q⟩ := q
    refine ⟨by rw [is.length]; exact hl, fun b hb => ?_⟩
    have n1' : NT Hm1 H1 Hm1 (upd H1 b (.tup vs)) := ext_nt hb
    have hb2 : Hm1 b = none := s1.rep.free hb
    refine Lf.seq (s1.nxt n1' (s1.rep.ext hb)) q fun x H2 dx Hm2 n2 s2 ix q => ?_
    obtain ⟨ov, hd, c, hc, q⟩ := q
    cases hc
    obtain ⟨a, w, rfl, g, e⟩ := din_core s2.rep ix (Iss.nt s1.rep (n1'.trans n2) _ _ is) (n2 b _ upd_same hb2).1 hd
    refine ⟨a, w, rfl, g, _, rfl, ?_⟩
    rw [e]
    exact k _ H2 Hm2 (n1.trans (n1'.trans n2)) s2.rep (by cases ov <;> exact q)
/-! ### walks -/
theorem it_rngC {K : Kz} {lo c : Int} {n : Nat} {ds : List D} {keep : MH → Prop} {Hm1 : MH} {H1 : Hp} (hds : ds = (List.range n).map fun (m : Nat) => D.int (lo + (m : Int) * c)) : ItIs K (Itc lo c n) ds keep Hm1 H1 := by
  subst hds
  have get : ∀ (i : Nat) (d : D), ((List.range n).map fun (k : Nat) => D.int (lo + (k : Int) * c))[i]? = some d → i < n ∧ d = .int (lo + i * c) := fun i d e => by
    rw [List.getElem?_map] at e
    by_cases h : i < n
    · rw [List.getElem?_range h] at e
      cases e
      exact ⟨h, rfl⟩
    · rw [List.getElem?_eq_none (by rw [List.length_range]; omega)] at e; cases e
  refine ⟨fun Hm H i d _ r k e => (get i d e).1, fun Hm H i d x H' _ r k e y => ?_, fun Hm H i _ r k e => ?_⟩
  · obtain ⟨h1, rfl⟩ := get i d e
    obtain ⟨rfl, rfl⟩ := y
    exact ⟨.refl, r, is_int⟩
  · exact (by simpa using e : n ≤ i)
theorem di_rng3 {tg c : Expr} {tc : TD} (hg : Gl C.X "range") (hm : C.X.mg "range" = none) (ha : DE C a ta) (hb : DE C b tb) (hc : DE C c tc)
    (h3 : starEach [a, b, c] C.X.env = (false, eval a C.X.env) :: starEach [b, c] C.X.env) (h2 : starEach [b, c] C.X.env = (false, eval b C.X.env) :: starEach [c] C.X.env) (h1 : starEach [c] C.X.env = [(false, eval c C.X.env)]) :
    DI C tg (.Call (.Name "range" p) [a, b, c] [] pos) (fun σ H Q => ta σ H fun x H1 => tb σ H1 fun y H2 => tc σ H2 fun z H3 => ∃ (i j k : Int) (n : Nat), x = .int i ∧ y = .int j ∧ z = .int k ∧ RgC i j k n ∧
      Q ((List.range n).map fun (m : Nat) => D.int (i + (m : Int) * k)) (fun _ => True) H3) :=
  PI.weak (pi_range3 hg hm (da_cons ha (da_cons hb (da_cons hc da_nil h1) h2) h3) h3 (by rw [h2, h1]; rfl)) fun σ H R => by
    rintro ⟨σd, Hm, Qd, s, q, k⟩
    refine LfA.seq s (F := fun ds H3 => ∃ (i j k : Int) (n : Nat), ds = [.int i, .int j, .int k] ∧ RgC i j k n ∧ Qd ((List.range n).map fun (m : Nat) => D.int (i + (m : Int) * k)) (fun _ => True) H3) (T := fun σ H Q => ta σ H fun x H1 => tb σ H1 fun y H2 => tc σ H2 fun z H3 => Q [x, y, z] H3) ?_ fun vs H1 ds Hm1 n1 s1 is q => ?_
    · show ta σd Hm fun x H1 => tb σd H1 fun y H2 => tc σd H2 fun z H3 => ∃ (i j k : Int) (n : Nat), [x, y, z] = [.int i, .int j, .int k] ∧ _
      simp only [List.cons.injEq, and_true, and_assoc]
      exact q
    · obtain ⟨i, j, c, n, rfl, hr, q⟩ := q
      obtain ⟨v, vs', rfl, iv, t⟩ := is.cons_of
      obtain ⟨w, u, rfl, iw, iu⟩ := t.two
      exact ⟨i, j, c, n, by rw [iv.int, iw.int, iu.int], hr, k _ H1 _ _ Hm1 n1 s1.rep (fun Z' _ => it_rngC rfl) q⟩
theorem di_rngR {tg : Expr} {p2 pos2 : Pos} (hg : Gl C.X "reversed") (hm : C.X.mg "reversed" = none) (hg2 : Gl C.X "range") (hm2 : C.X.mg "range" = none) (ha : DE C a ta) (h1 : starEach [a] C.X.env = [(false, eval a C.X.env)]) :
    DI C tg (.Call (.Name "reversed" p) [.Call (.Name "range" p2) [a] [] pos2] [] pos) (fun σ H Q => ta σ H fun x H1 => ∃ j : Int, x = .int j ∧ -(2 ^ 62) ≤ j ∧ j < 2 ^ 62 ∧ Q ((List.range j.toNat).map fun (m : Nat) => D.int (((j.toNat - 1 - m : Nat) : Int))) (fun _ => True) H1) :=
  PI.weak (pi_revR hg hm (prg_1 hg2 hm2 ha h1) rfl) fun σ H R => by
    rintro ⟨σd, Hm, Qd, s, q, k⟩
    refine Lf.seq s q fun x H1 dx Hm1 n1 s1 ix q => ?_
    obtain ⟨j, rfl, l0, l1, q⟩ := q
    refine ⟨j, ix.int, by decide, by decide, l0, l1, ?_⟩
    refine k _ H1 _ _ Hm1 n1 s1.rep (fun Z' _ => it_rngC ?_) q
    have e : (j - 0).toNat = j.toNat := by rw [Int.sub_zero]
    rw [e]
    refine List.map_congr_left fun m hm => ?_
    have := List.mem_range.1 hm
    congr 1
    omega
theorem keepI {K : Kz} {Z' : Addr → Prop} {Hm1 Hm2 : MH} {H1 H2 : Hp} {d : D} {v : V} {xs : List D} (r1 : Rep K H1 Hm1) (i : Is K H1 Hm1 d v) (hz : ∀ a, Z' a → K.Z a ∨ H1 a = none) (n : NTz Z' Hm1 H1 Hm2 H2) (r2 : Rep ⟨K.K, Z'⟩ H2 Hm2) (kp : keepOf Hm1 d Hm2) (e : lstAt Hm1 d = some xs) :
    ∃ a vs, v = .ref a ∧ SqL K.K H2 a vs ∧ Iss ⟨K.K, Z'⟩ H2 Hm2 xs vs := by
  cases d with
  | rol ys =>
    unfold lstAt at e; cases e
    unfold Is at i
    obtain ⟨a, vs, rfl, sq, t⟩ := i
    exact ⟨a, vs, rfl, frzL_ntz (K := K) hz n sq, nt_issz r1 n (t.hid hz)⟩
  | ref a =>
    unfold lstAt at e
    have e1 := i.ref
    subst e1
    cases z : Hm1 a with
    | none => simp only [z] at e; cases e
    | some o =>
      cases o with
      | ins C ns ds => simp only [z] at e; cases e
      | dk kvs => simp only [z] at e; cases e
      | dt kvs => simp only [z] at e; cases e
      | ldk o us kvs => simp only [z] at e; cases e
      | ldt o us kvs => simp only [z] at e; cases e
      | lst xs =>
        simp only [z] at e; cases e
        have kp : Hm2 a = Hm1 a := kp
        rw [z] at kp
        obtain ⟨vs2, h2, t2⟩ := r2.obj _ _ kp
        exact ⟨a, vs2, rfl, .inl (.inl h2), t2⟩
  | _ => unfold lstAt at e; cases e
theorem zip_at {xs ys : List D} {i : Nat} {d : D} (h : ((xs.zip ys).map fun p => D.tup [p.1, p.2])[i]? = some d) : ∃ x y, xs[i]? = some x ∧ ys[i]? = some y ∧ d = .tup [x, y] := by
  rw [List.getElem?_map] at h
  obtain ⟨p, hp, rfl⟩ := Option.map_eq_some_iff.1 h
  obtain ⟨x, y⟩ := p
  rw [List.getElem?_zip_eq_some] at hp
  exact ⟨x, y, hp.1, hp.2, rfl⟩
theorem zip_end {xs ys : List D} {i : Nat} (h : ((xs.zip ys).map fun p => D.tup [p.1, p.2]).length ≤ i) : xs.length ≤ i ∨ ys.length ≤ i := by
  rw [List.length_map, List.length_zip] at h
  omega
theorem it_zipL {K : Kz} {a b : Addr} {xs ys : List D} {keep : MH → Prop} {Hm1 : MH} {H1 : Hp} (h : ∀ Hm H, NTz K.Z Hm1 H1 Hm H → Rep K H Hm → keep Hm → ∃ vs ws, SqL K.K H a vs ∧ Iss K H Hm xs vs ∧ SqL K.K H b ws ∧ Iss K H Hm ys ws) :
    ItIs K (Itz K.K a b) ((xs.zip ys).map fun p => .tup [p.1, p.2]) keep Hm1 H1 := by
  refine ⟨fun Hm H i d n r k e => ?_, fun Hm H i d x H' n r k e y => ?_, fun Hm H i n r k e => ?_⟩
  · obtain ⟨vs, ws, s1, t1, s2, t2⟩ := h Hm H n r k
    obtain ⟨x, y, hx, hy, rfl⟩ := zip_at e
    obtain ⟨v, hv, _⟩ := t1.get hx
    obtain ⟨w, hw, _⟩ := t2.get hy
    exact ⟨vs, ws, v, w, s1, s2, hv, hw⟩
  · obtain ⟨vs, ws, s1, t1, s2, t2⟩ := h Hm H n r k
    obtain ⟨dx, dy, hx, hy, rfl⟩ := zip_at e
    obtain ⟨v, hv, iv⟩ := t1.get hx
    obtain ⟨w, hw, iw⟩ := t2.get hy
    obtain ⟨T, v', w', rfl, hT, rfl, f1, f2⟩ := y
    have q1 := f1 vs s1
    rw [hv] at q1; cases q1
    have q2 := f2 ws s2
    rw [hw] at q2; cases q2
    refine ⟨ext_nt hT, r.ext hT, ?_⟩
    unfold Is
    exact ⟨T, [v, w], rfl, .inl upd_same, Iss.nt r (ext_nt hT) _ _ (.cons iv (.cons iw .nil))⟩
  · obtain ⟨vs, ws, s1, t1, s2, t2⟩ := h Hm H n r k
    refine ⟨vs, ws, s1, s2, ?_⟩
    rw [t1.length, t2.length]
    exact zip_end e
theorem it_zipT {K : Kz} {a b : Addr} {xs ys : List D} {keep : MH → Prop} {Hm1 : MH} {H1 : Hp} (h : ∀ Hm H, NTz K.Z Hm1 H1 Hm H → Rep K H Hm → keep Hm → ∃ vs ws, SqT K.K H a vs ∧ Iss K H Hm xs vs ∧ SqT K.K H b ws ∧ Iss K H Hm ys ws) :
    ItIs K (RZ.ItzT K.K a b) ((xs.zip ys).map fun p => .tup [p.1, p.2]) keep Hm1 H1 := by
  refine ⟨fun Hm H i d n r k e => ?_, fun Hm H i d x H' n r k e y => ?_, fun Hm H i n r k e => ?_⟩
  · obtain ⟨vs, ws, s1, t1, s2, t2⟩ := h Hm H n r k
    obtain ⟨x, y, hx, hy, rfl⟩ := zip_at e
    obtain ⟨v, hv, _⟩ := t1.get hx
    obtain ⟨w, hw, _⟩ := t2.get hy
    exact ⟨vs, ws, v, w, s1, s2, hv, hw⟩
  · obtain ⟨vs, ws, s1, t1, s2, t2⟩ := h Hm H n r k
    obtain ⟨dx, dy, hx, hy, rfl⟩ := zip_at e
    obtain ⟨v, hv, iv⟩ := t1.get hx
    obtain ⟨w, hw, iw⟩ := t2.get hy
    obtain ⟨T, v', w', rfl, hT, rfl, f1, f2⟩ := y
    have q1 := f1 vs s1
    rw [hv] at q1; cases q1
    have q2 := f2 ws s2
    rw [hw] at q2; cases q2
    refine ⟨ext_nt hT, r.ext hT, ?_⟩
    unfold Is
    exact ⟨T, [v, w], rfl, .inl upd_same, Iss.nt r (ext_nt hT) _ _ (.cons iv (.cons iw .nil))⟩
  · obtain ⟨vs, ws, s1, t1, s2, t2⟩ := h Hm H n r k
    refine ⟨vs, ws, s1, s2, ?_⟩
    rw [t1.length, t2.length]
    exact zip_end e
theorem di_zip {elts : List Expr} {kk : Nat} {tpos : Pos} (hg : Gl C.X "zip") (hm : C.X.mg "zip" = none) (ha : DE C a ta) (hb : DE C b tb) (h2 : starEach [a, b] C.X.env = (false, eval a C.X.env) :: starEach [b] C.X.env) (h1 : starEach [b] C.X.env = [(false, eval b C.X.env)]) :
    DI C (.Tuple elts kk tpos) (.Call (.Name "zip" p) [a, b] [] pos) (fun σ H Q => ta σ H fun x H1 => tb σ H1 fun y H2 => ∃ xs ys, zipAt H2 x y = some (xs, ys) ∧ Q ((xs.zip ys).map fun p => .tup [p.1, p.2]) (fun H' => keepOf H2 x H' ∧ keepOf H2 y H') H2) :=
  PI.weak (RZ.pi_zipA hg hm (da_cons ha (da_cons hb da_nil h1) h2) h2 (by rw [h1]; rfl)) fun σ H R => by
    rintro ⟨σd, Hm, Qd, s, q, k⟩
    refine LfA.seq s (F := fun ds H2 => ∃ x y xs ys, ds = [x, y] ∧ zipAt H2 x y = some (xs, ys) ∧ Qd ((xs.zip ys).map fun p => .tup [p.1, p.2]) (fun H' => keepOf H2 x H' ∧ keepOf H2 y H') H2) (T := fun σ H Q => ta σ H fun x H1 => tb σ H1 fun y H2 => Q [x, y] H2) ?_ fun vs H1 ds Hm1 n1 s1 is q => ?_
    · show ta σd Hm fun x H1 => tb σd H1 fun y H2 => ∃ x' y' xs ys, [x, y] = [x', y'] ∧ _
      have e : (fun x H1 => tb σd H1 fun y H2 => ∃ x' y' xs ys, [x, y] = [x', y'] ∧ zipAt H2 x' y' = some (xs, ys) ∧ Qd ((xs.zip ys).map fun p => .tup [p.1, p.2]) (fun H' => keepOf H2 x' H' ∧ keepOf H2 y' H') H2) = fun x H1 => tb σd H1 fun y H2 => ∃ xs ys, zipAt H2 x y = some (xs, ys) ∧ Qd ((xs.zip ys).map fun p => .tup [p.1, p.2]) (fun H' => keepOf H2 x H' ∧ keepOf H2 y H') H2 := by
        funext x H1
        congr 1
        funext y H2
        apply propext
        constructor
        · rintro ⟨x', y', xs, ys, e, z⟩
          cases e
          exact ⟨xs, ys, z⟩
        · rintro ⟨xs, ys, z⟩
          exact ⟨x, y, xs, ys, rfl, z⟩
      rw [e]
      exact q
    · obtain ⟨x, y, xs, ys, rfl, hz, q⟩ := q
      obtain ⟨v, w, rfl, iv, iw⟩ := is.two
      unfold zipAt at hz
      split at hz
      · cases hz
        obtain ⟨a', vs, rfl, sa, t1⟩ := iv.tup
        obtain ⟨b', ws, rfl, sb, t2⟩ := iw.tup
        exact ⟨a', b', vs, ws, rfl, .inr ⟨sa, sb, k _ H1 _ _ Hm1 n1 s1.rep (fun Z' hz => it_zipT (K := ⟨C.X.K, Z'⟩) fun Hm2 H2 n2 r2 _ => ⟨vs, ws, sqT_ntz s1.rep n2 sa, nt_issz s1.rep n2 (t1.hid hz), sqT_ntz s1.rep n2 sb, nt_issz s1.rep n2 (t2.hid hz)⟩) q⟩⟩
      · obtain ⟨xs', h1, hz⟩ := Option.bind_eq_some_iff.1 hz
        obtain ⟨ys', h2, hz⟩ := Option.map_eq_some_iff.1 hz
        cases hz
        obtain ⟨a', vs, rfl, sa, t1⟩ := lst_of s1.rep iv h1
        obtain ⟨b', ws, rfl, sb, t2⟩ := lst_of s1.rep iw h2
        refine ⟨a', b', vs, ws, rfl, .inl ⟨sa, sb, k _ H1 _ _ Hm1 n1 s1.rep (fun Z' hz => it_zipL (K := ⟨C.X.K, Z'⟩) fun Hm2 H2 n2 r2 kp => ?_) q⟩⟩
        obtain ⟨a2, vs2, e2, sa2, ta2⟩ := keepI (K := C.K) s1.rep iv hz n2 r2 kp.1 h1
        cases e2
        obtain ⟨b2, ws2, e2, sb2, tb2⟩ := keepI (K := C.K) s1.rep iw hz n2 r2 kp.2 h2
        cases e2
        exact ⟨vs2, ws2, sa2, ta2, sb2, tb2⟩
theorem enum_at {xs : List D} {i : Nat} {d : D} (h : (xs.zipIdx.map fun p => D.tup [.int (p.2 : Int), p.1])[i]? = some d) : ∃ x, xs[i]? = some x ∧ d = .tup [.int (i : Int), x] := by
  rw [List.getElem?_map, List.getElem?_zipIdx] at h
  obtain ⟨p, hp, rfl⟩ := Option.map_eq_some_iff.1 h
  obtain ⟨x, hx, rfl⟩ := Option.map_eq_some_iff.1 hp
  exact ⟨x, hx, by simp⟩
theorem it_enum {K : Kz} {a : Addr} {xs : List D} {keep : MH → Prop} {Hm1 : MH} {H1 : Hp} (h : ∀ Hm H, NTz K.Z Hm1 H1 Hm H → Rep K H Hm → keep Hm → ∃ vs, SqL K.K H a vs ∧ Iss K H Hm xs vs) :
    ItIs K (Ite K.K a) (xs.zipIdx.map fun p => .tup [.int (p.2 : Int), p.1]) keep Hm1 H1 := by
  refine ⟨fun Hm H i d n r k e => ?_, fun Hm H i d x H' n r k e y => ?_, fun Hm H i n r k e => ?_⟩
  · obtain ⟨vs, s1, t1⟩ := h Hm H n r k
    obtain ⟨x, hx, rfl⟩ := enum_at e
    obtain ⟨v, hv, _⟩ := t1.get hx
    exact ⟨vs, v, s1, hv⟩
  · obtain ⟨vs, s1, t1⟩ := h Hm H n r k
    obtain ⟨dx, hx, rfl⟩ := enum_at e
    obtain ⟨v, hv, iv⟩ := t1.get hx
    obtain ⟨T, v', rfl, hT, rfl, f1⟩ := y
    have q1 := f1 vs s1
    rw [hv] at q1; cases q1
    refine ⟨ext_nt hT, r.ext hT, ?_⟩
    unfold Is
    exact ⟨T, [.int (i : Int), v], rfl, .inl upd_same, Iss.nt r (ext_nt hT) _ _ (.cons is_int (.cons iv .nil))⟩
  · obtain ⟨vs, s1, t1⟩ := h Hm H n r k
    refine ⟨vs, s1, ?_⟩
    rw [t1.length]
    rw [List.length_map, List.length_zipIdx] at e
    exact e
theorem it_enumT {K : Kz} {a : Addr} {xs : List D} {keep : MH → Prop} {Hm1 : MH} {H1 : Hp} (h : ∀ Hm H, NTz K.Z Hm1 H1 Hm H → Rep K H Hm → keep Hm → ∃ vs, SqT K.K H a vs ∧ Iss K H Hm xs vs) :
    ItIs K (IteT K.K a) (xs.zipIdx.map fun p => .tup [.int (p.2 : Int), p.1]) keep Hm1 H1 := by
  refine ⟨fun Hm H i d n r k e => ?_, fun Hm H i d x H' n r k e y => ?_, fun Hm H i n r k e => ?_⟩
  · obtain ⟨vs, s1, t1⟩ := h Hm H n r k
    obtain ⟨x, hx, rfl⟩ := enum_at e
    obtain ⟨v, hv, _⟩ := t1.get hx
    exact ⟨vs, v, s1, hv⟩
  · obtain ⟨vs, s1, t1⟩ := h Hm H n r k
    obtain ⟨dx, hx, rfl⟩ := enum_at e
    obtain ⟨v, hv, iv⟩ := t1.get hx
    obtain ⟨T, v', rfl, hT, rfl, f1⟩ := y
    have q1 := f1 vs s1
    rw [hv] at q1; cases q1
    refine ⟨ext_nt hT, r.ext hT, ?_⟩
    unfold Is
    exact ⟨T, [.int (i : Int), v], rfl, .inl upd_same, Iss.nt r (ext_nt hT) _ _ (.cons is_int (.cons iv .nil))⟩
  · obtain ⟨vs, s1, t1⟩ := h Hm H n r k
    refine ⟨vs, s1, ?_⟩
    rw [t1.length]
    rw [List.length_map, List.length_zipIdx] at e
    exact e
theorem di_enum {elts : List Expr} {kk : Nat} {tpos : Pos} (hg : Gl C.X "enumerate") (hm : C.X.mg "enumerate" = none) (ha : DE C a ta) (h1 : starEach [a] C.X.env = [(false, eval a C.X.env)]) :
    DI C (.Tuple elts kk tpos) (.Call (.Name "enumerate" p) [a] [] pos) (fun σ H Q => ta σ H fun x H1 => ∃ xs, seqAt H1 x = some xs ∧ Q (xs.zipIdx.map fun p => .tup [.int (p.2 : Int), p.1]) (keepOf H1 x) H1) :=
  PI.weak (pi_enumA hg hm (da_cons ha da_nil h1) h1) fun σ H R => by
    rintro ⟨σd, Hm, Qd, s, q, k⟩
    refine LfA.seq s (F := fun ds H1 => ∃ x xs, ds = [x] ∧ seqAt H1 x = some xs ∧ Qd (xs.zipIdx.map fun p => .tup [.int (p.2 : Int), p.1]) (keepOf H1 x) H1) (T := fun σ H Q => ta σ H fun x H1 => Q [x] H1) ?_ fun vs H1 ds Hm1 n1 s1 is q => ?_
    · show ta σd Hm fun x H1 => ∃ x' xs, [x] = [x'] ∧ _
      have e : (fun x H1 => ∃ x' xs, [x] = [x'] ∧ seqAt H1 x' = some xs ∧ Qd (xs.zipIdx.map fun p => .tup [.int (p.2 : Int), p.1]) (keepOf H1 x') H1) = fun x H1 => ∃ xs, seqAt H1 x = some xs ∧ Qd (xs.zipIdx.map fun p => .tup [.int (p.2 : Int), p.1]) (keepOf H1 x) H1 := by
        funext x H1
        apply propext
        constructor
        · rintro ⟨x', xs, e, z⟩
          cases e
          exact ⟨xs, z⟩
        · rintro ⟨xs, z⟩
          exact ⟨x, xs, rfl, z⟩
      rw [e]
      exact q
    obtain ⟨dx, xs, rfl, h1, q⟩ := q
    obtain ⟨x, rfl, ix⟩ := is.one
    by_cases ht : ∃ ys, dx = .tup ys
    · obtain ⟨ys, rfl⟩ := ht
      cases h1
      obtain ⟨a', vs, rfl, sa, t1⟩ := ix.tup
      exact ⟨a', vs, rfl, .inr ⟨sa, k _ H1 _ _ Hm1 n1 s1.rep (fun Z' hz => it_enumT (K := ⟨C.X.K, Z'⟩) fun Hm2 H2 n2 r2 _ => ⟨vs, sqT_ntz s1.rep n2 sa, nt_issz s1.rep n2 (t1.hid hz)⟩) q⟩⟩
    · have h1 : lstAt Hm1 dx = some xs := by
        cases dx <;> first | exact h1 | exact absurd ⟨_, rfl⟩ ht
      obtain ⟨a', vs, rfl, sa, t1⟩ := lst_of s1.rep ix h1
      refine ⟨a', vs, rfl, .inl ⟨sa, k _ H1 _ _ Hm1 n1 s1.rep (fun Z' hz => it_enum (K := ⟨C.X.K, Z'⟩) fun Hm2 H2 n2 r2 kp => ?_) q⟩⟩
      obtain ⟨a2, vs2, e2, sa2, ta2⟩ := keepI (K := C.K) s1.rep ix hz n2 r2 kp h1
      cases e2
      exact ⟨vs2, sa2, ta2⟩
theorem ds_asg2 {g1 g2 : Expr} {ts us : List Nat} {t1 t2 : TGd} (he : DE C e te) (h1 : DG C ts g1 t1) (h2 : DG C us g2 t2) (ha : (assignEach [g1, g2] C.X.env).map (·.2) = [assign g1 C.X.env, assign g2 C.X.env]) (hw : swappedStores [g1, g2] e C.X.env = pure none) :
    DS C (.Assign [g1, g2] e pos) (fun D σ H => te σ H fun x H1 => t1 x σ H1 fun σ1 H2 => t2 x σ1 H2 D.nx) := PS.weak (ps_asg2 he h1 h2 ha hw) fun D σ H => by
  rintro ⟨σd, Hm, Dd, s, q, k⟩
  refine Lf.seq s q fun x H1 dx Hm1 n1 s1 ix q => ?_
  refine ⟨dx, σd, Hm1, _, ix, s1, q, fun σ2 H2 σd2 Hm2 n2 s2 _ q => ?_⟩
  exact ⟨dx, σd2, Hm2, _, Is.nt s1.rep n2 dx x ix, s2, q, fun σ' H' σd' Hm' n s' _ q => k.nx σ' H' σd' Hm' ((n1.trans n2).trans n) s' q⟩
theorem ds_par (ok : C.Ok) (hcl : C.X.calm = true) {i j : Nat} {x y : Str} {px py pt : Pos} {kt k2 pt2} (hi : C.X.N[i]? = some x) (hj : C.X.N[j]? = some y) (hij : i ≠ j)
    (hx : C.X.env.scope.names.lookup x = some .local) (hy : C.X.env.scope.names.lookup y = some .local) (ha : DE C a ta) (hb : DE C b tb) (h2 : starEach [a, b] C.X.env = (false, eval a C.X.env) :: starEach [b] C.X.env) (h1 : starEach [b] C.X.env = [(false, eval b C.X.env)])
    (hw : swappedStores [.Tuple [.Name x px, .Name y py] kt pt] (.Tuple [a, b] k2 pt2) C.X.env = pure (some [x, y])) :
    DS C (.Assign [.Tuple [.Name x px, .Name y py] kt pt] (.Tuple [a, b] k2 pt2) pos) (fun D σ H => ta σ H fun x H1 => tb σ H1 fun y H2 => D.nx ((σ.set i (some x)).set j (some y)) H2) :=
  PS.weak (ps_par hcl ok.x.nd hi hj hij hx hy (da_cons ha (da_cons hb da_nil h1) h2) hw) fun D σ H => by
    rintro ⟨σd, Hm, Dd, s, q, k⟩
    refine LfA.seq s (F := fun ds H2 => ∃ x y, ds = [x, y] ∧ Dd.nx ((σd.set i (some x)).set j (some y)) H2) (T := fun σ H Q => ta σ H fun x H1 => tb σ H1 fun y H2 => Q [x, y] H2) ?_ fun vs H1 ds Hm1 n1 s1 is q => ?_
    · show ta σd Hm fun x H1 => tb σd H1 fun y H2 => ∃ x' y', [x, y] = [x', y'] ∧ _
      have e : (fun x H1 => tb σd H1 fun y H2 => ∃ x' y', [x, y] = [x', y'] ∧ Dd.nx ((σd.set i (some x')).set j (some y')) H2) = fun x H1 => tb σd H1 fun y H2 => Dd.nx ((σd.set i (some x)).set j (some y)) H2 := by
        funext x H1
        congr 1
        funext y H2
        apply propext
        constructor
        · rintro ⟨x', y', e, z⟩
          cases e
          exact z
        · intro z
          exact ⟨x, y, rfl, z⟩
      rw [e]
      exact q
    · obtain ⟨x, y, rfl, q⟩ := q
      obtain ⟨v, w, rfl, iv, iw⟩ := is.two
      exact ⟨v, w, rfl, k.nx _ _ _ _ n1 ((s1.set i iv).set j iw) q⟩
theorem rev_at {α : Type} {xs : List α} {i : Nat} {d : α} (h : xs.reverse[i]? = some d) : i < xs.length ∧ xs[xs.length - 1 - i]? = some d := by
  have hl : i < xs.reverse.length := (List.getElem?_eq_some_iff.1 h).1
  rw [List.length_reverse] at hl
  rw [List.getElem?_reverse hl] at h
  exact ⟨hl, h⟩
theorem it_rev {K : Kz} {a : Addr} {ds : List D} {n : Nat} (hn : n = ds.length) {keep : MH → Prop} {Hm1 : MH} {H1 : Hp} (h : ∀ Hm H, NTz K.Z Hm1 H1 Hm H → Rep K H Hm → keep Hm → ∃ vs, SqL K.K H a vs ∧ Iss K H Hm ds vs) : ItIs K (Itv K.K a n) ds.reverse keep Hm1 H1 := by
  subst hn
  refine ⟨fun Hm H i d n r k e => ?_, fun Hm H i d x H' n r k e y => ?_, fun Hm H i n r k e => ?_⟩
  · obtain ⟨vs, s, t⟩ := h Hm H n r k
    obtain ⟨hi, e⟩ := rev_at e
    obtain ⟨v, hv, _⟩ := t.get e
    exact ⟨hi, vs, v, s, hv⟩
  · obtain ⟨vs, s, t⟩ := h Hm H n r k
    obtain ⟨hi, e⟩ := rev_at e
    obtain ⟨v, hv, iv⟩ := t.get e
    obtain ⟨rfl, f⟩ := y
    have q := f vs s
    rw [hv] at q; cases q
    exact ⟨.refl, r, iv⟩
  · rw [List.length_reverse] at e
    exact e
theorem it_revT {K : Kz} {a : Addr} {ds : List D} {n : Nat} (hn : n = ds.length) {keep : MH → Prop} {Hm1 : MH} {H1 : Hp} (h : ∀ Hm H, NTz K.Z Hm1 H1 Hm H → Rep K H Hm → keep Hm → ∃ vs, SqT K.K H a vs ∧ Iss K H Hm ds vs) : ItIs K (RT.ItvT K.K a n) ds.reverse keep Hm1 H1 := by
  subst hn
  refine ⟨fun Hm H i d n r k e => ?_, fun Hm H i d x H' n r k e y => ?_, fun Hm H i n r k e => ?_⟩
  · obtain ⟨vs, s, t⟩ := h Hm H n r k
    obtain ⟨hi, e⟩ := rev_at e
    obtain ⟨v, hv, _⟩ := t.get e
    exact ⟨hi, vs, v, s, hv⟩
  · obtain ⟨vs, s, t⟩ := h Hm H n r k
    obtain ⟨hi, e⟩ := rev_at e
    obtain ⟨v, hv, iv⟩ := t.get e
    obtain ⟨rfl, f⟩ := y
    have q := f vs s
    rw [hv] at q; cases q
    exact ⟨.refl, r, iv⟩
  · rw [List.length_reverse] at e
    exact e
theorem di_revs {tg : Expr} (hg : Gl C.X "reversed") (hm : C.X.mg "reversed" = none) (h : DE C e te) (h1 : starEach [e] C.X.env = (false, eval e C.X.env) :: starEach [] C.X.env := by rfl) :
    DI C tg (.Call (.Name "reversed" p) [e] [] pos) (fun σ H Q => te σ H fun x H1 => ∃ xs, seqAt H1 x = some xs ∧ Q xs.reverse (keepOf H1 x) H1) := PI.weak (RT.pi_revA hg hm h h1) fun σ H R => by
  rintro ⟨σd, Hm, Qd, s, q, k⟩
  refine Lf.seq s q fun x H1 dx Hm1 n1 s1 ix q => ?_
  obtain ⟨ds, e, q⟩ := q
  cases dx with
  | tup xs =>
    unfold seqAt at e; cases e
    obtain ⟨a, vs, rfl, sq, t⟩ := ix.tup
    exact ⟨a, vs, rfl, .inr ⟨sq, k _ H1 _ _ Hm1 n1 s1.rep (fun Z' hz => it_revT (K := ⟨C.X.K, Z'⟩) t.length fun Hm2 H2 n2 r2 _ => ⟨vs, sqT_ntz s1.rep n2 sq, nt_issz s1.rep n2 (t.hid hz)⟩) q⟩⟩
  | rol xs =>
    unfold seqAt lstAt at e; cases e
    unfold Is at ix
    obtain ⟨a, vs, rfl, sq, t⟩ := ix
    exact ⟨a, vs, rfl, .inl ⟨sq.sq, k _ H1 _ _ Hm1 n1 s1.rep (fun Z' hz => it_rev (K := ⟨C.X.K, Z'⟩) t.length fun Hm2 H2 n2 r2 _ => ⟨vs, frzL_ntz (K := C.K) hz n2 sq, nt_issz s1.rep n2 (t.hid hz)⟩) q⟩⟩
  | ref a =>
    unfold seqAt lstAt at e
    have e1 := ix.ref
    subst e1
    cases z : Hm1 a with
    | none => simp only [z] at e; cases e
    | some o =>
      cases o with
      | lst xs =>
        simp only [z] at e; cases e
        obtain ⟨vs, h, t⟩ := s1.rep.obj _ _ z
        refine ⟨a, vs, rfl, .inl ⟨.inl (.inl h), k _ H1 _ _ Hm1 n1 s1.rep (fun Z' hz => it_rev (K := ⟨C.X.K, Z'⟩) t.length fun Hm2 H2 n2 r2 kp => ?_) q⟩⟩
        have kp : Hm2 a = Hm1 a := kp
        rw [z] at kp
        obtain ⟨vs2, h2, t2⟩ := r2.obj _ _ kp
        exact ⟨vs2, .inl (.inl h2), t2⟩
      | _ => simp only [z] at e; cases e
  | _ => unfold seqAt lstAt at e; cases e
end
end DL

set_option maxHeartbeats 1000000
/-! own instances: made, their methods, their fields; what is raised is wished for at the caller's slots -/
namespace L2
open PySem PySem.Spec PyProof.Rows
section
variable {X : Cx} {CX : CXT} {k : Nat} {f C : Addr} {fd : FuncData} {ps : List Str} {sp : Sp} {dvs : List V} {ds : List Value} {E : St → XK} {x m : Str} {p pos apos : Pos} {e o : Expr} {es : List Expr} {ta : TE} {t : TA}
theorem run_makeSD {pins : List (Addr × Obj)} {σ : St} {H : Hp} {s : Shared} {Q : VK} {us : List Value} {vs : List V} (M : Mk X.K C f) (F : FnOk X.prog X.w X.K X.mg X.base CX k f fd ps sp) (hr : Room (k + 1) X.A) (hb : Binds X.K fd ps ds) (hd : Vals dvs ds)
    (hx : PassesAt CX X σ (E σ)) (I : Inv X pins σ H s) (r : Vals vs us)
    (h : ∀ x dx, H x = none → H dx = none → dx ≠ x → sp (.ref x :: (vs ++ dvs)) (upd (upd H dx (.own x)) x (.ins C dx [])) (fun v H2 => v = .non ∧ Q (.ref x) H2) (E σ)) :
    wpAny (model X.prog X.w) X.A (call (.ref C) us) (EP X pins σ Q) X.xe s := by
  have hq := h (s.heap.objs.size + 1) s.heap.objs.size (I.hok.fresh (Nat.le_succ _)) (I.hok.fresh (Nat.le_refl _)) (Nat.ne_of_lt (Nat.lt_succ_self _))
  have I2 := Inv.made (C := C) I
  have r2 : Vals (V.ref (s.heap.objs.size + 1) :: (vs ++ dvs)) (Value.ref (s.heap.objs.size + 1) :: (us ++ ds)) := .cons rfl (r.append hd)
  have hl : (Value.ref (s.heap.objs.size + 1) :: us ++ ds).length = ps.length := by
    have e := r2.length
    rw [F.len _ _ _ _ hq] at e
    exact e.symm
  refine wpAny_call (make_map (f := f) I.kIn M.makes M.init (beq_iff_eq.mp M.fn) (codeAny_mono (F.run _ X.stack _ _ ⟨Value.ref (s.heap.objs.size + 1) :: us, []⟩ (Value.ref (s.heap.objs.size + 1) :: (us ++ ds)) _ _ (E σ) (hr.make C us [])
    (I2.env0.make C us []) (hb _ (Value.ref (s.heap.objs.size + 1) :: us) I2.kIn hl) r2 hq) fun r s' hq' => ?_))
  cases r with
  | error e => exact hx pins _ _ e s' I2 hq'
  | ok fl =>
    cases fl with
    | ret u =>
      obtain ⟨v, H', I3, rv, ev, q3⟩ := I2.after hq'
      subst ev
      exact ⟨rv, ⟨V.ref (s.heap.objs.size + 1), H', I3, rfl, q3⟩⟩
    | next => exact False.elim hq'
    | brk => exact False.elim hq'
    | cont => exact False.elim hq'
def tMakeSD (C : Addr) (sp : Sp) (dvs : List V) (E : St → XK) (t : TA) : TE := fun σ H Q => t σ H fun vs H1 => ∀ x dx, H1 x = none → H1 dx = none → dx ≠ x → sp (.ref x :: (vs ++ dvs)) (upd (upd H1 dx (.own x)) x (.ins C dx [])) (fun v H2 => v = .non ∧ Q (.ref x) H2) (E σ)
theorem pe_makeSD (M : Mk X.K C f) (F : FnOk X.prog X.w X.K X.mg X.base CX k f fd ps sp) (hr : Room (k + 1) X.A) (hg : Gl X x) (hm : X.mg x = some (.ref C)) (hb : Binds X.K fd ps ds) (hd : Vals dvs ds) (hx : ∀ σ, PassesAt CX X σ (E σ))
    (ha : PA X (e :: es) t) (hdb : (x == ("__debug__" : Str)) = false := by decide) (he : starEach (e :: es) X.env = (false, eval e X.env) :: starEach es X.env := by rfl) (hpl : (backTo pos (starEach es X.env)).any (·.1) = false := by rfl) :
    PE X (.Call (.Name x p) (e :: es) [] pos) (tMakeSD C sp dvs E t) := by
  refine ⟨fun pins s σ H Q I h => ?_⟩
  refine wpAny_Call_Name_kw (ld_glob I hg hm ?_ hdb)
  refine PySem.W.callWith_K (h₀ := X.base) I.ok.mod.kin M.kp (thn (ha.run pos pins s σ H _ I h) fun us s1 ⟨vs, H1, I1, r, q⟩ => ⟨I1.kIn, ?_⟩) he hpl
  exact run_makeSD M F hr hb hd (hx σ) I1 r q
theorem pe_makeSD0 (M : Mk X.K C f) (F : FnOk X.prog X.w X.K X.mg X.base CX k f fd ps sp) (hr : Room (k + 1) X.A) (hg : Gl X x) (hm : X.mg x = some (.ref C)) (hb : Binds X.K fd ps ds) (hd : Vals dvs ds) (hx : ∀ σ, PassesAt CX X σ (E σ))
    (hdb : (x == ("__debug__" : Str)) = false := by decide) : PE X (.Call (.Name x p) [] [] pos) (tMakeSD C sp dvs E tNil) := by
  refine ⟨fun pins s σ H Q I h => ?_⟩
  refine wpAny_Call_Name_kw (ld_glob I hg hm ?_ hdb)
  exact PySem.W.callWith_K0 I.kIn M.kp (run_makeSD (us := []) M F hr hb hd (hx σ) I .nil h)
def tMethSD (C : Addr) (m : Str) (sp : Sp) (dvs : List V) (E : St → XK) (ta : TE) (t : TA) : TE := fun σ H Q => ta σ H fun x H1 => ∃ a dx fs, x = .ref a ∧ H1 a = some (.ins C dx fs) ∧ fs.lookup m = none ∧ t σ H1 fun vs H2 => sp (x :: (vs ++ dvs)) H2 Q (E σ)
theorem pe_methSD {pl : Sem Bool} (he : PE X o ta) (c : Cls X.K C) (hm : Meth X.K C m f) (F : FnOk X.prog X.w X.K X.mg X.base CX k f fd ps sp) (hr : Room k X.A) (hb : Binds X.K fd ps ds) (hd : Vals dvs ds) (hx : ∀ σ, PassesAt CX X σ (E σ)) (ha : PA X (e :: es) t)
    (hst : starEach (e :: es) X.env = (false, eval e X.env) :: starEach es X.env := by rfl) (hpl : (backTo pos (starEach es X.env)).any (·.1) = false := by rfl)
    (ht : eval (.Call (.Attribute o m apos) (e :: es) [] pos) X.env = (do
      let ov ← eval o X.env
      standAt apos.atName
      let (f, first) ← holding [ov] (getMethod ov m pl)
      callWith pos f first (backTo pos (starEach (e :: es) X.env)) (backToKw pos (keywordEach [] X.env))) := by rfl) :
    PE X (.Call (.Attribute o m apos) (e :: es) [] pos) (tMethSD C m sp dvs E ta t) := by
  refine ⟨fun pins s σ H Q I h => ?_⟩
  refine PySem.W.methodCall_KW (pl := pl) (thn (he.run pins s σ H _ I h) fun u s1 ⟨x, H1, I1, rx, a, dx, fs, ex, ea, l, q⟩ => ?_) ht
  subst ex
  obtain rfl : u = Value.ref a := rx
  refine getmeth_ok I1 ea c hm l ?_
  refine PySem.W.callWith_K (first := [.ref a]) (h₀ := X.base) I.ok.mod.kin hm.kp (thn (ha.run pos pins s1 σ H1 _ I1 q) fun us s2 ⟨vs, H2, I2, r, q2⟩ => ⟨I2.kIn, ?_⟩) hst hpl
  exact run_fnSD (us := .ref a :: us) (vs := .ref a :: vs) F hr hb hd (hx σ) I2 (.cons rfl r) q2
theorem pe_methSD0 {pl : Sem Bool} (he : PE X o ta) (c : Cls X.K C) (hm : Meth X.K C m f) (F : FnOk X.prog X.w X.K X.mg X.base CX k f fd ps sp) (hr : Room k X.A) (hb : Binds X.K fd ps ds) (hd : Vals dvs ds) (hx : ∀ σ, PassesAt CX X σ (E σ))
    (ht : eval (.Call (.Attribute o m apos) [] [] pos) X.env = (do
      let ov ← eval o X.env
      standAt apos.atName
      let (f, first) ← holding [ov] (getMethod ov m pl)
      callWith pos f first (backTo pos (starEach [] X.env)) (backToKw pos (keywordEach [] X.env))) := by rfl) :
    PE X (.Call (.Attribute o m apos) [] [] pos) (tMethSD C m sp dvs E ta tNil) := by
  refine ⟨fun pins s σ H Q I h => ?_⟩
  refine PySem.W.methodCall_KW (pl := pl) (thn (he.run pins s σ H _ I h) fun u s1 ⟨x, H1, I1, rx, a, dx, fs, ex, ea, l, q⟩ => ?_) ht
  subst ex
  obtain rfl : u = Value.ref a := rx
  refine getmeth_ok I1 ea c hm l ?_
  exact PySem.W.callWith_K0 (first := [.ref a]) I1.kIn hm.kp (run_fnSD (us := [.ref a]) (vs := [.ref a]) F hr hb hd (hx σ) I1 (.cons rfl .nil) q)
end
end L2
namespace DL
open PySem PySem.Spec PyProof.Rows L2
/-- isinstance of such an object can be asked -/
def IsO (K : PySem.W.Frag) (C : Addr) : Prop := PySem.W.findIn K (.ref C) "__class__" = some (some (.builtin "object.__class__")) ∧ PySem.W.specialIn K (.builtin "object.__class__") "__get__" = some (some (.builtin "getset_descriptor.__get__")) ∧ PySem.W.takesIn K (.builtin "object.__class__") = some true ∧ PySem.W.mroIn K C (.type "object") = some true ∧ (["NoneType", "bool", "int", "str", "tuple", "list"].all fun T => PySem.W.kitOne K (.type T) (.ref C) == some false) = true
/-- the facts of a class of the module -/
def NoSub (K : PySem.W.Frag) (C : Addr) : Prop := (["NoneType", "bool", "int", "str", "tuple", "list"].all fun T => PySem.W.subIn K (.ref C) (.type T) == some false) = true
theorem NoSub.is {K : PySem.W.Frag} {C : Addr} (h : NoSub K C) {T : String} (hT : T ∈ ["NoneType", "bool", "int", "str", "tuple", "list"]) : PySem.W.subIn K (.ref C) (.type T) = some false := eq_of_beq (List.all_eq_true.1 h _ hT)
def ObF (K : PySem.W.Frag) (nm : Str) (fs : List Str) : Prop := ∃ C, PySem.W.nsIn K mainGlobals nm = some (some (.ref C)) ∧ Cls K C ∧ (∀ f, fs.contains f = true → NoAttr K C f) ∧ PySem.W.selfFirst K C = true ∧ IsO K C ∧ NoSub K C
def HasM (X : Cx) (cn m : Str) (n : Nat) (c : Ctr) : Prop := ∃ C f fd ps k, ps.length = n ∧ PySem.W.nsIn X.K mainGlobals cn = some (some (.ref C)) ∧ Cls X.K C ∧ Meth X.K C m f ∧ Binds X.K fd ps [] ∧ FnOk X.prog X.w X.K X.mg X.base (L2.CX X.prog X.w) k f fd ps (Cl X.K n c) ∧ Room (k + 1) X.A
def HasN (X : Cx) (cn : Str) (n : Nat) (c : Ctr) : Prop := ∃ C f fd ps k, ps.length = n ∧ PySem.W.nsIn X.K mainGlobals cn = some (some (.ref C)) ∧ X.mg cn = some (.ref C) ∧ Mk X.K C f ∧ Binds X.K fd ps [] ∧ FnOk X.prog X.w X.K X.mg X.base (L2.CX X.prog X.w) k f fd ps (Cl X.K n c) ∧ Room (k + 1) X.A
theorem ins_of {K : Kz} {H : Hp} {Hm : MH} {d : D} {v : V} {nm : Str} {ns : List Str} {xs : List D} (r : Rep K H Hm) (i : Is K H Hm d v) (h : insAt Hm d = some (nm, ns, xs)) : ∃ a dx fs, v = .ref a ∧ InsA K.K H nm a dx fs ∧ fs.map (·.1) = ns ∧ Iss K H Hm xs (fs.map (·.2)) := by
  unfold insAt at h
  split at h
  · cases h
    unfold Is at i
    obtain ⟨a, dx, fs, e, q, _, l, t⟩ := i
    exact ⟨a, dx, fs, e, q, l, t⟩
  · rename_i a
    split at h
    · rename_i e
      cases h
      obtain ⟨dx, fs, q, l, t⟩ := r.obj _ _ e
      exact ⟨a, dx, fs, i.ref, q, l, t⟩
    · cases h
  · cases h
theorem nsIn_inj {K : PySem.W.Frag} {nm : Str} {C C' : Addr} (h : PySem.W.nsIn K mainGlobals nm = some (some (.ref C))) (g : PySem.W.nsIn K mainGlobals nm = some (some (.ref C'))) : C = C' := by
  rw [h] at g
  cases g
  rfl
theorem fld_get {K : Kz} {H : Hp} {Hm : MH} {f : Str} : ∀ {fs : List (Str × V)} {ns : List Str} {xs : List D} {d : D}, fs.map (·.1) = ns → Iss K H Hm xs (fs.map (·.2)) → fldV ns xs f = some d → ∃ v, fs.lookup f = some v ∧ Is K H Hm d v
  | [], ns, xs, d, hn, t, h => by
    subst hn
    cases xs <;> cases h
  | (n, v) :: fs, ns, xs, d, hn, t, h => by
    subst hn
    cases xs with
    | nil => cases h
    | cons x xs =>
      obtain ⟨v', r, e, i, t⟩ := t.cons_of
      cases e
      rw [List.map_cons] at h
      unfold fldV at h
      by_cases q : n = f
      · rw [if_pos q] at h
        cases h
        subst q
        refine ⟨v, ?_, i⟩
        rw [List.lookup_cons]
        simp
      · rw [if_neg q] at h
        obtain ⟨w, hw, iw⟩ := fld_get rfl t h
        refine ⟨w, ?_, iw⟩
        rw [List.lookup_cons]
        have : (f == n) = false := by simpa using fun z => q z.symm
        rw [this]
        exact hw
theorem fld_put {K : Kz} {H : Hp} {Hm : MH} {f : Str} {d : D} {v : V} (i : Is K H Hm d v) : ∀ {fs : List (Str × V)} {xs : List D}, Iss K H Hm xs (fs.map (·.2)) → (putF f v fs).map (·.1) = putNs (fs.map (·.1)) f ∧ Iss K H Hm (putXs (fs.map (·.1)) xs f d) ((putF f v fs).map (·.2))
  | [], xs, t => by
    cases xs with
    | nil => exact ⟨rfl, .cons i .nil⟩
    | cons x xs =>
      obtain ⟨_, _, e, _⟩ := t.cons_of
      cases e
  | (n, w) :: fs, xs, t => by
    cases xs with
    | nil => have := t.nil_of; cases this
    | cons x xs =>
      obtain ⟨w', r, e, j, t⟩ := t.cons_of
      cases e
      by_cases q : n = f
      · have e1 : putF f v ((n, w) :: fs) = (n, v) :: fs := if_pos q
        rw [e1]
        refine ⟨?_, ?_⟩
        · show n :: fs.map (·.1) = if n = f then n :: fs.map (·.1) else _
          rw [if_pos q]
        · show Iss K H Hm (if n = f then d :: xs else _) _
          rw [if_pos q]
          exact .cons i t
      · have e1 : putF f v ((n, w) :: fs) = (n, w) :: putF f v fs := if_neg q
        obtain ⟨a, b⟩ := fld_put i t
        rw [e1]
        refine ⟨?_, ?_⟩
        · show n :: (putF f v fs).map (·.1) = if n = f then _ else n :: putNs (fs.map (·.1)) f
          rw [if_neg q, a]
        · show Iss K H Hm (if n = f then _ else x :: putXs (fs.map (·.1)) xs f d) _
          rw [if_neg q]
          exact .cons j b
theorem no_lookup {m : Str} : ∀ {fs : List (Str × V)} {ns : List Str}, fs.map (·.1) = ns → ns.contains m = false → fs.lookup m = none
  | [], _, _, _ => rfl
  | (n, v) :: fs, ns, hn, h => by
    subst hn
    rw [List.map_cons, List.contains_cons, Bool.or_eq_false_iff] at h
    rw [List.lookup_cons]
    have : (m == n) = false := h.1
    rw [this]
    exact no_lookup rfl h.2
section
variable {C : Co} {a e o : Expr} {es : List Expr} {ta te to : TD} {t : TAd} {pos p apos : Pos} {x m f cn : Str} {ob : Str → Option (List Str)}
theorem de_ofld (hob : ∀ nm fs, ob nm = some fs → ObF C.X.K nm fs) (ha : DE C a ta) (hb : attributeBase a f C.X.env (eval a C.X.env) = eval a C.X.env) :
    DE C (.Attribute a f pos) (fun σ H Q => ta σ H fun x H1 => ∃ nm ns xs fs d, insAt H1 x = some (nm, ns, xs) ∧ ob nm = some fs ∧ fs.contains f = true ∧ fldV ns xs f = some d ∧ Q d H1) :=
  PE.weak (pe_fld ha hb) fun σ H Q => by
    rintro ⟨σd, Hm, Qd, s, q, k⟩
    refine Lf.seq s q fun x H1 dx Hm1 n1 s1 ix q => ?_
    obtain ⟨nm, ns, xs, fs, d, h1, h2, h3, h4, q⟩ := q
    obtain ⟨a, dx', gs, e, ⟨C', c', ha⟩, l, t⟩ := ins_of s1.rep ix h1
    obtain ⟨C2, c2, cl, na, _⟩ := hob _ _ h2
    have := nsIn_inj c' c2
    subst this
    obtain ⟨v, hv, iv⟩ := fld_get l t h4
    exact ⟨a, C', dx', gs, v, e, ha, cl, na _ h3, hv, (k.cut n1).here s1.rep iv q⟩
theorem call_isxO {X : Cx} : CallR X (.builtin "isinstance") (fun xs H Q => (∃ Z Hm, rIsx ⟨X.K, Z⟩ Hm xs H Q) ∨ rIsi X.K xs H Q) := fun pins s σ H xs us Q I r h => by
  rcases h with h | h
  · exact call_isx pins s σ H xs us Q I r h
  · exact call_isi pins s σ H xs us Q I r h
theorem tyx_of {K : Kz} {H : Hp} {Hm : MH} {d : D} {v : V} {T : String} (h : Is K H Hm d v) (e : isxP d = some T) : TyX K.K H v (.type T) ∧ T ∈ ["NoneType", "bool", "int", "str", "tuple", "list"] := by
  unfold isxP at e
  split at e
  · cases e; rw [h.non]; exact ⟨.base .non, by decide⟩
  · cases e; rw [h.bl]; exact ⟨.base (.bl _), by decide⟩
  · cases e; rw [h.int]; exact ⟨.base (.int _), by decide⟩
  · cases e; rw [h.str]; exact ⟨.base (.str _), by decide⟩
  · cases e
    obtain ⟨a, vs, rfl, s, _⟩ := h.tup
    refine ⟨?_, by decide⟩
    rcases s with (s | ⟨o, s⟩) | ⟨o, its, n, k, c, _⟩
    · exact .base (.tup s)
    · exact .fTuple s
    · exact .kTuple k c
  · cases e
    unfold Is at h
    obtain ⟨a, vs, rfl, s, _⟩ := h
    refine ⟨?_, by decide⟩
    rcases s with ⟨s | ⟨o, s⟩, _⟩ | ⟨o, its, n, k, c, _⟩
    · exact .base (.lst s)
    · exact .base (.frz s)
    · exact .kList k c
  · cases e
theorem de_isx1O {cv : Value} {pC : List Str} {cl : Str → Option CI} {c : Str} {p2 : Pos} (hob : ∀ nm fs, ob nm = some fs → ObF C.X.K nm fs) (hK : ∀ C', PySem.W.nsIn C.X.K mainGlobals c = some (some (.ref C')) → cv = .ref C') (hcf : CF C.X pC cl) (hg : Gl C.X "isinstance") (hm : C.X.mg "isinstance" = none) (ha : DE C a ta) (hn : NamC C.X.mg c cv) (hgc : Gl C.X c) (hc : pC.contains c = true)
    (h2 : starEach [a, .Name c p2] C.X.env = (false, eval a C.X.env) :: starEach [.Name c p2] C.X.env) (h1 : starEach [.Name c p2] C.X.env = (false, eval (.Name c p2) C.X.env) :: starEach [] C.X.env) (hpl : (backTo pos (starEach [.Name c p2] C.X.env)).any (·.1) = false) :
    DE C (.Call (.Name "isinstance" p) [a, .Name c p2] [] pos) (fun σ H Q => ta σ H fun x H1 => isxD cl ob H1 x [c] Q) := by
  obtain ⟨v, rv, ru⟩ := hn.v
  refine PE.weak (pe_callB call_isxO hg hm (by decide +kernel) (pa_cons ha (pa_cons (pe_namC hn hgc rv) pa_nil h1) h2) (by decide) (by decide) h2 hpl) fun σ H Q => ?_
  rintro ⟨σd, Hm, Qd, s, q, k⟩
  refine Lf.seq s q fun x H1 dx Hm1 n1 s1 ix q => ?_
  unfold isxD at q
  split at q
  · rename_i nm ns xs hi
    obtain ⟨e1, ⟨fs, hfs⟩, q⟩ := q
    cases e1
    obtain ⟨b, dx', gs, rfl, ⟨C', c', hb⟩, l, t⟩ := ins_of s1.rep ix hi
    obtain ⟨C2, c2, cl2, _, _, ⟨i1, i2, i3, i4, _⟩, _⟩ := hob _ _ hfs
    have := nsIn_inj c' c2
    subst this
    have e := hK _ c'
    subst e
    have hv : ClsV v (.ref C') := by
      cases v with
      | ref z => cases rv; exact .own _
      | _ => first | (cases rv; done) | (obtain ⟨_, z⟩ := rv; cases z; done) | skip
    refine .inr ⟨.ref b, v, .ref C', .ref C', true, rfl, hv, .base (.ins hb cl2 i1 i2 i3 i4), ?_, (k.cut n1).here s1.rep is_bl q⟩
    unfold PySem.W.kitOne
    simp
  · split at q
    · rename_i T hT
      obtain ⟨c2, fs, e1, hfs, q⟩ := q
      cases e1
      obtain ⟨C', c', cl2, _, _, ⟨i1, i2, i3, i4, i6⟩, _⟩ := hob _ _ hfs
      have e := hK _ c'
      subst e
      have hv : ClsV v (.ref C') := by
        cases v with
        | ref z => cases rv; exact .own _
        | _ => first | (cases rv; done) | (obtain ⟨_, z⟩ := rv; cases z; done) | skip
      obtain ⟨ht, hm⟩ := tyx_of ix hT
      exact .inr ⟨x, v, .type T, .ref C', false, rfl, hv, ht, eq_of_beq (List.all_eq_true.1 i6 _ hm), (k.cut n1).here s1.rep is_bl q⟩
    obtain ⟨nm, ns, xs, ci, rfl, hci, q⟩ := q
    obtain ⟨b, fs, rfl, xa, _, _⟩ := ix.exc
    obtain ⟨A, F⟩ := hcf nm ci hci
    have e : anyC ci.sup [c] = ci.sup.contains c := by unfold anyC anyC; cases ci.sup.contains c <;> rfl
    exact .inl ⟨C.Z, Hm1, nm, b, fs, A, v, cv, ci.sup.contains c, rfl, xa, F.ns, F.ex, ru, (F.sup c hc cv hn).1, (k.cut n1).here s1.rep is_bl (e ▸ q)⟩
theorem de_isxTO {cs : List Str} {x1 : Nat} {pC : List Str} {cl : Str → Option CI} {p2 : Pos} (hcf : CF C.X pC cl) (hg : Gl C.X "isinstance") (hm : C.X.mg "isinstance" = none) (ha : DE C a ta) (hn : NamsC C.X pC es cs) (hl : cs.length ≤ 100) (hl1 : cs.length ≠ 1)
    (hst : ∀ (e : Expr) (r : List Expr), (∃ c p, e = .Name c p) → starEach (e :: r) C.X.env = (false, eval e C.X.env) :: starEach r C.X.env)
    (h2 : starEach [a, .Tuple es x1 p2] C.X.env = (false, eval a C.X.env) :: starEach [.Tuple es x1 p2] C.X.env) (h1 : starEach [.Tuple es x1 p2] C.X.env = (false, eval (.Tuple es x1 p2) C.X.env) :: starEach [] C.X.env) (hpl : (backTo pos (starEach [.Tuple es x1 p2] C.X.env)).any (·.1) = false) :
    DE C (.Call (.Name "isinstance" p) [a, .Tuple es x1 p2] [] pos) (fun σ H Q => ta σ H fun x H1 => isxD cl ob H1 x cs Q) := by
  obtain ⟨vs, cvs, hu, hvl, pr, pa⟩ := nams_pa hst hn
  refine PE.weak (pe_callB call_isxT hg hm (by decide +kernel) (pa_cons ha (pa_cons (pe_tup pa) pa_nil h1) h2) (by decide) (by decide) h2 hpl) fun σ H Q => ?_
  rintro ⟨σd, Hm, Qd, s, q, k⟩
  refine Lf.seq s q fun x H1 dx Hm1 n1 s1 ix q => ?_
  unfold isxD at q
  split at q
  · obtain ⟨e1, _⟩ := q
    exact absurd (congrArg List.length e1) hl1
  split at q
  · obtain ⟨c2, fs, e1, _⟩ := q
    exact absurd (congrArg List.length e1) hl1
  obtain ⟨nm, ns, xs, ci, rfl, hci, q⟩ := q
  obtain ⟨b, fs, rfl, xa, _, _⟩ := ix.exc
  obtain ⟨A, F⟩ := hcf nm ci hci
  have pk := sup_all F pr
  refine ⟨by rw [hvl]; exact Nat.le_trans hl (by decide), fun tp htp => ?_⟩
  have n2 : NT Hm1 H1 Hm1 (upd H1 tp (.tup vs)) := ext_nt htp
  exact ⟨C.Z, Hm1, nm, b, fs, A, tp, vs, cvs, anyC ci.sup cs, rfl, xa.nt n2, F.ns, F.ex, upd_same, hu, kit_any pk, ((k.cut n1).cut n2).here (s1.rep.ext htp) is_bl q⟩
theorem ds_setf (hob : ∀ nm fs, ob nm = some fs → ObF C.X.K nm fs) (ho : DE C o to) (he : DE C e te) (hs : swapsWith e (some (.Attribute o f p)) pos.line C.X.env = pure false) :
    DS C (.Assign [.Attribute o f p] e pos) (fun D σ H => te σ H fun y H1 => to σ H1 fun x H2 => ∃ p nm ns xs fs, x = .ref p ∧ H2 p = some (.ins nm ns xs) ∧ ob nm = some fs ∧ fs.contains f = true ∧ ns.length < 1000 ∧ D.nx σ (updM H2 p (.ins nm (putNs ns f) (putXs ns xs f y)))) :=
  PS.weak (ps_fld ho he hs) fun D σ H => by
    rintro ⟨σd, Hm, Dd, s, q, k⟩
    refine Lf.seq s q fun y H1 dy Hm1 n1 s1 iy q => ?_
    refine Lf.seq s1 q fun x H2 dx Hm2 n2 s2 ix q => ?_
    obtain ⟨p, nm, ns, xs, fs, rfl, h1, h2, h3, hl, q⟩ := q
    obtain ⟨dx', gs, ⟨C', c', ha⟩, l, t⟩ := s2.rep.obj _ _ h1
    obtain ⟨C2, c2, cl, na, _⟩ := hob _ _ h2
    have := nsIn_inj c' c2
    subst this
    refine ⟨p, C', dx', gs, ix.ref, ha, cl, na _ h3, ?_, ?_⟩
    · have := congrArg List.length l
      rw [List.length_map] at this
      omega
    · subst l
      have nn : Hm2 p ≠ none := by rw [h1]; simp
      have n3 := wr_nt (H := H2) (p := p) (o := .ins C' dx' (putF f y gs)) nn (u := .ins nm (putNs (gs.map (·.1)) f) (putXs (gs.map (·.1)) xs f dy))
      obtain ⟨z1, z2⟩ := fld_put (f := f) (Is.nt s2.rep n3 dy y (Is.nt s1.rep n2 dy y iy)) (Iss.nt s2.rep n3 _ _ t)
      refine k.nx _ _ σd _ ((n1.trans n2).trans n3) (s2.nxt n3 (wr_repO s2.rep nn ?_)) q
      exact ⟨dx', putF f y gs, ⟨C', c', upd_same⟩, z1, z2⟩
theorem new_ins {K : Kz} {H : Hp} {Hm : MH} {x dx C : Addr} {nm : Str} (r : Rep K H Hm) (hx : H x = none) (hd : H dx = none) (hne : dx ≠ x) (hc : PySem.W.nsIn K.K mainGlobals nm = some (some (.ref C))) :
    NT Hm H (updM Hm x (.ins nm [] [])) (upd (upd H dx (.own x)) x (.ins C dx [])) ∧ Rep K (upd (upd H dx (.own x)) x (.ins C dx [])) (updM Hm x (.ins nm [] [])) := by
  have n : NT Hm H (updM Hm x (.ins nm [] [])) (upd (upd H dx (.own x)) x (.ins C dx [])) := fun a u e m => by
    have h1 := ne_of_none e hx
    have h2 := ne_of_none e hd
    exact ⟨by rw [upd_ne h1, upd_ne h2]; exact e, by rw [updM_ne h1]; exact m⟩
  refine ⟨n, r.step n fun a u e => ?_⟩
  by_cases h : a = x
  · subst h
    rw [updM_same] at e; cases e
    exact .inr ⟨dx, [], ⟨C, hc, upd_same⟩, rfl, .nil⟩
  · rw [updM_ne h] at e
    obtain ⟨w, q, _⟩ := r.hit e
    exact .inl ⟨e, by rw [upd_ne h, upd_ne (ne_of_none q hd)]⟩
theorem de_new (ok : C.Ok) {n : Nat} {c : Ctr} (hF : HasN C.X x n c) (hg : Gl C.X x) (ha : DA C (e :: es) t) (hdb : (x == ("__debug__" : Str)) = false)
    (he : starEach (e :: es) C.X.env = (false, eval e C.X.env) :: starEach es C.X.env) (hpl : (backTo pos (starEach es C.X.env)).any (·.1) = false) :
    DE C (.Call (.Name x p) (e :: es) [] pos) (fun σ H Q => t σ H fun ds H1 => ds.length + 1 = n ∧ ∀ p, H1 p = none → c (.ref p :: ds) (updM H1 p (.ins x [] [])) (fun v H2 => v = .non ∧ Q (.ref p) H2) (C.Ed σ)) := by
  obtain ⟨C', f, fd, ps, k, hl, hc, hm, M, hb, F, hr⟩ := hF
  refine PE.weak (pe_makeSD M F hr hg hm hb .nil (fun σ => passAt ok.tk σ) ha hdb he hpl) fun σ H Q => ?_
  rintro ⟨σd, Hm, Qd, s, q, k⟩
  refine LfA.seq s q fun vs H1 ds Hm1 n1 s1 is q => ?_
  intro y dy hy hd hne
  rw [List.append_nil]
  obtain ⟨hlen, q⟩ := q
  obtain ⟨n2, r2⟩ := new_ins (K := C.K) s1.rep hy hd hne hc
  refine ⟨C.Z, .ref y :: ds, _, fun v H2 => v = .non ∧ Qd (.ref y) H2, C.Ed σd, by rw [List.length_cons]; exact hlen, r2, .cons is_ref (Iss.nt s1.rep n2 _ _ is), q y (s1.rep.free hy), fun v H' d Hm' n' r' i' q' => ?_, fun nm cls a fo H' Hm' n' r' c' x' h => ok.w σ H' σd Hm' nm cls a fo (s1.nxt (n2.trans n') r') c' x' h⟩
  obtain ⟨rfl, q'⟩ := q'
  exact ⟨i'.non, k _ H' (.ref y) Hm' ((n1.trans n2).trans n') r' is_ref q'⟩
theorem de_new0 (ok : C.Ok) {n : Nat} {c : Ctr} (hF : HasN C.X x n c) (hg : Gl C.X x) (hdb : (x == ("__debug__" : Str)) = false) :
    DE C (.Call (.Name x p) [] [] pos) (fun σ H Q => 1 = n ∧ ∀ p, H p = none → c [.ref p] (updM H p (.ins x [] [])) (fun v H2 => v = .non ∧ Q (.ref p) H2) (C.Ed σ)) := by
  obtain ⟨C', f, fd, ps, k, hl, hc, hm, M, hb, F, hr⟩ := hF
  refine PE.weak (pe_makeSD0 (E := fun σ => WE C.W σ) M F hr hg hm hb .nil (fun σ => passAt ok.tk σ) hdb) fun σ H Q => ?_
  rintro ⟨σd, Hm, Qd, s1, q, k⟩
  intro y dy hy hd hne
  obtain ⟨hlen, q⟩ := q
  obtain ⟨n2, r2⟩ := new_ins (K := C.K) s1.rep hy hd hne hc
  refine ⟨C.Z, [.ref y], _, fun v H2 => v = .non ∧ Qd (.ref y) H2, C.Ed σd, hlen, r2, .cons is_ref .nil, q y (s1.rep.free hy), fun v H' d Hm' n' r' i' q' => ?_, fun nm cls a fo H' Hm' n' r' c' x' h => ok.w σ H' σd Hm' nm cls a fo (s1.nxt (n2.trans n') r') c' x' h⟩
  obtain ⟨rfl, q'⟩ := q'
  exact ⟨i'.non, k _ H' (.ref y) Hm' (n2.trans n') r' is_ref q'⟩
theorem de_omth (ok : C.Ok) {n : Nat} {c : Ctr} {pl : Sem Bool} (hF : HasM C.X cn m n c) (ho : DE C a ta) (ha : DA C (e :: es) t)
    (he : starEach (e :: es) C.X.env = (false, eval e C.X.env) :: starEach es C.X.env) (hpl : (backTo pos (starEach es C.X.env)).any (·.1) = false)
    (ht : eval (.Call (.Attribute a m apos) (e :: es) [] pos) C.X.env = (do
      let ov ← eval a C.X.env
      standAt apos.atName
      let (f, first) ← holding [ov] (getMethod ov m pl)
      callWith pos f first (backTo pos (starEach (e :: es) C.X.env)) (backToKw pos (keywordEach [] C.X.env)))) :
    DE C (.Call (.Attribute a m apos) (e :: es) [] pos) (fun σ H Q => ta σ H fun x H1 => (∃ ns xs, insAt H1 x = some (cn, ns, xs) ∧ ns.contains m = false) ∧ t σ H1 fun ds H2 => ds.length + 1 = n ∧ c (x :: ds) H2 Q (C.Ed σ)) := by
  obtain ⟨C', f, fd, ps, k, hl, hc, cl, M, hb, F, hr'⟩ := hF
  have hr := hr'.mono (Nat.le_succ k)
  refine PE.weak (pe_methSD ho cl M F hr hb .nil (fun σ => passAt ok.tk σ) ha he hpl ht) fun σ H Q => ?_
  rintro ⟨σd, Hm, Qd, s, q, k⟩
  refine Lf.seq s q fun x H1 dx Hm1 n1 s1 ix q => ?_
  obtain ⟨⟨ns, xs, h1, h2⟩, q⟩ := q
  obtain ⟨b, dx', gs, rfl, ⟨C2, c2, hb2⟩, l, tt⟩ := ins_of s1.rep ix h1
  have := nsIn_inj hc c2
  subst this
  refine ⟨b, dx', gs, rfl, hb2, no_lookup l h2, ?_⟩
  refine LfA.seq s1 q fun vs H2 ds Hm2 n2 s2 is q => ?_
  rw [List.append_nil]
  exact ⟨C.Z, dx :: ds, Hm2, Qd, C.Ed σd, by rw [List.length_cons]; exact q.1, s2.rep, .cons (Is.nt s1.rep n2 dx _ ix) is, q.2, (k.cut n1).cut n2, fun nm cls a fo H' Hm' n' r' c' x' h => ok.w σ H' σd Hm' nm cls a fo (s2.nxt n' r') c' x' h⟩
theorem de_omth0 (ok : C.Ok) {n : Nat} {c : Ctr} {pl : Sem Bool} (hF : HasM C.X cn m n c) (ho : DE C a ta)
    (ht : eval (.Call (.Attribute a m apos) [] [] pos) C.X.env = (do
      let ov ← eval a C.X.env
      standAt apos.atName
      let (f, first) ← holding [ov] (getMethod ov m pl)
      callWith pos f first (backTo pos (starEach [] C.X.env)) (backToKw pos (keywordEach [] C.X.env)))) :
    DE C (.Call (.Attribute a m apos) [] [] pos) (fun σ H Q => ta σ H fun x H1 => (∃ ns xs, insAt H1 x = some (cn, ns, xs) ∧ ns.contains m = false) ∧ (1 = n ∧ c [x] H1 Q (C.Ed σ))) := by
  obtain ⟨C', f, fd, ps, k, hl, hc, cl, M, hb, F, hr'⟩ := hF
  have hr := hr'.mono (Nat.le_succ k)
  refine PE.weak (pe_methSD0 (E := fun σ => WE C.W σ) ho cl M F hr hb .nil (fun σ => passAt ok.tk σ) ht) fun σ H Q => ?_
  rintro ⟨σd, Hm, Qd, s, q, k⟩
  refine Lf.seq s q fun x H1 dx Hm1 n1 s1 ix q => ?_
  obtain ⟨⟨ns, xs, h1, h2⟩, q⟩ := q
  obtain ⟨b, dx', gs, rfl, ⟨C2, c2, hb2⟩, l, tt⟩ := ins_of s1.rep ix h1
  have := nsIn_inj hc c2
  subst this
  refine ⟨b, dx', gs, rfl, hb2, no_lookup l h2, ?_⟩
  exact ⟨C.Z, [dx], Hm1, Qd, C.Ed σd, q.1, s1.rep, .cons ix .nil, q.2, k.cut n1, fun nm cls a fo H' Hm' n' r' c' x' h => ok.w σ H' σd Hm' nm cls a fo (s1.nxt n' r') c' x' h⟩
end
end DL
namespace DL
open PySem PySem.Spec PyProof.Rows L2
theorem meth_eval {a : Expr} {m : Str} {apos pos : Pos} {es : List Expr} {env : Env} (hb : attributeBase a m env (eval a env) = eval a env)
    (hf : ((backTo pos (starEach es env)).all (fun x => !x.1) && (backToKw pos (keywordEach [] env)).all (fun x => x.1.isSome) && decide (es.length + ([] : List Keyword).length + (if ([] : List Keyword).isEmpty then 0 else 1) < 30)) = true)
    (hl : (apos.endLine == pos.line) = true) : eval (.Call (.Attribute a m apos) es [] pos) env = (do
      let ov ← eval a env
      standAt apos.atName
      let (f, first) ← holding [ov] (getMethod ov m (do return (← importBound a env).getD true))
      callWith pos f first (backTo pos (starEach es env)) (backToKw pos (keywordEach [] env))) := by
  rw [arm_eval_Call, hb]
  have h2 : methodCallForm (es.length + ([] : List Keyword).length) (backTo pos (starEach es env)) (backToKw pos (keywordEach [] env)) = true := hf
  have h3 : methodCallPos true a env apos pos = pure pos := by
    unfold methodCallPos
    rw [hl]
    rfl
  unfold methodCall
  rw [h2, h3]
  rfl
end DL

set_option maxHeartbeats 1000000
/-! the call of an own instance; static methods; dicts in a for -/
namespace L2
open PySem PySem.Spec PyProof.Rows
section
variable {X : Cx} {CX : CXT} {k : Nat} {f C : Addr} {fd : FuncData} {ps : List Str} {sp : Sp} {dvs : List V} {ds : List Value} {E : St → XK} {x m : Str} {p pos apos : Pos} {e o : Expr} {es : List Expr} {ta : TE} {t : TA}
theorem looks_keepI {M : Model} {h : Heap} {a dx : Addr} (ho : h.get? a = some (PySem.W.instObj C dx)) : PySem.W.Looks M h (keeperOf (.ref a)) .caller := by
  unfold keeperOf
  exact (PySem.W.Looks.ld (part := none) ho).andThen .now
theorem callWith_I {M : Model} {A : Around} {E : Value → Shared → Prop} {s : Shared} {f : Value} {first : List Value} {Q : Value → Shared → Prop} {P : Heap → Prop} {args : List (Bool × Sem Value)} {keywords : List (Option Str × Sem Value)} (hplain : (args.any (·.1) || keywords.any (·.1.isNone)) = false)
    (hk : ∀ h, P h → PySem.W.Looks M h (keeperOf f) .caller)
    (h : wpAny M A (evalArgs f true args keywords) (fun a s₁ => P s₁.heap ∧ wpAny M A (call f (first ++ a.pos) a.kw) Q E s₁) E s) : wpAny M A (callWith pos f first args keywords) Q E s := by
  unfold callWith
  refine wpAny_bind (wpAny_holding (wpAny_mono h (fun a s₁ h₁ => wpAny_bind (wpAny_standAt ?_)) fun _ _ x => x))
  have L := hk _ h₁.1
  simp only [hplain]
  refine wpAny_bind (L.here ?_)
  dsimp only
  exact wpAny_bind (wpAny_mono (wpAny_operate' h₁.2) (fun r s₂ hr => wpAny_bind (wpAny_holding (wpAny_point (wpAny_pure hr)))) fun _ _ x => x)
theorem fn_func {K : PySem.W.Frag} (hm : Meth K C m f) : ∃ c d sl fd, K.lookup f = some ⟨c, d, .func fd, sl⟩ := by
  have hk := hm.kp
  have ht : PySem.W.typeIn K (.ref f) = some (.type "function") := beq_iff_eq.mp hm.fn
  unfold PySem.W.keepIn at hk
  dsimp only at hk
  split at hk
  · rename_i q
    exact ⟨_, _, _, _, q⟩
  · rename_i q
    have h2 := beq_iff_eq.mp hk
    unfold PySem.W.specialIn at h2
    rw [ht, Option.bind_some] at h2
    exfalso
    have e : PySem.W.findIn K (.type "function") "__call__" = some (some (.builtin "function.__call__")) := by
      first | kernel_rfl | (unfold PySem.W.findIn; kernel_rfl)
    rw [e] at h2
    exact absurd (Value.builtin.inj (Option.some.inj (Option.some.inj h2))) (by decide)
  · cases hk
/-- a(..) runs its class's __call__ -/
theorem inst_call {prog : Program} {w : World} {A : Around} {s : Shared} {K : PySem.W.Frag} {a dx : Addr} {od : Option Obj} {vs : List Value} {R : Result → Shared → Prop} (X : K.In s.heap) (I : PySem.W.InstAt s.heap a (PySem.W.instObj C dx) C od) (hm : Meth K C "__call__" f)
    (h : codeAny (model prog w) A (.call (.ref f) ⟨.ref a :: vs, []⟩) R s) : codeAny (model prog w) A (.call (.ref a) ⟨vs, []⟩) R s := by
  have ho := I.at_
  obtain ⟨c0, d0, sl0, fd0, hf⟩ := fn_func hm
  obtain ⟨hh, g, dr, t, os⟩ := s
  refine codeAny_of_tree ?_
  show wpAny _ _ (callAny (.ref a) _) _ _ _
  dsimp only at ho
  refine PySem.W.nd_load ho ?_
  show wpAny _ _ (callAny.viaDunder (.ref a) ⟨vs, []⟩) _ _ _
  unfold callAny.viaDunder specialOf
  refine wpAny_bind (wpAny_bind (I.type.here ((PySem.W.looks_findIn X hm.at_).here ?_)))
  dsimp only
  refine wpAny_bind ((PySem.W.bind_fn X _ (beq_iff_eq.mp hm.fn)).here ?_)
  dsimp only
  unfold callAny.plainCallee
  refine wpAny_bind (PySem.W.nd_load (X _ _ hf) ?_)
  refine wpAny_pure ?_
  rw [if_pos rfl]
  exact wpAny_pure ⟨rfl, h⟩
def tICall (C : Addr) (sp : Sp) (dvs : List V) (E : St → XK) (ta : TE) (t : TA) : TE := fun σ H Q => ta σ H fun x H1 => t σ H1 fun vs H2 => (∃ a dx fs, x = .ref a ∧ H2 a = some (.ins C dx fs)) ∧ sp (x :: (vs ++ dvs)) H2 Q (E σ)
theorem run_icall {pins : List (Addr × Obj)} {σ : St} {H : Hp} {s : Shared} {Q : VK} {a dx : Addr} {fs : List (Str × V)} {us : List Value} {vs : List V} (hm : Meth X.K C "__call__" f) (F : FnOk X.prog X.w X.K X.mg X.base CX k f fd ps sp) (hr : Room k X.A) (hb : Binds X.K fd ps ds) (hd : Vals dvs ds) (hx : PassesAt CX X σ (E σ))
    (I : Inv X pins σ H s) (ea : H a = some (.ins C dx fs)) (r : Vals vs us) (h : sp (.ref a :: (vs ++ dvs)) H Q (E σ)) : wpAny (model X.prog X.w) X.A (call (.ref a) us) (EP X pins σ Q) X.xe s := by
  obtain ⟨mA, O, _⟩ := ins_get I.hok ea
  obtain ⟨od, J, _⟩ := O.look
  have r2 : Vals (.ref a :: (vs ++ dvs)) (Value.ref a :: (us ++ ds)) := .cons rfl (r.append hd)
  have hl : (Value.ref a :: us ++ ds).length = ps.length := by
    have := F.len _ _ _ _ h
    rw [← this]
    exact r2.length.symm
  refine wpAny_call (inst_call I.kIn J hm (codeAny_mono (F.run X.A X.stack s H ⟨Value.ref a :: us, []⟩ (Value.ref a :: (us ++ ds)) (.ref a :: (vs ++ dvs)) Q (E σ) hr I.env0 (hb s (Value.ref a :: us) I.kIn hl) r2 h) fun r s' hq => ?_))
  cases r with
  | error e => exact hx pins H s e s' I hq
  | ok fl =>
    cases fl with
    | ret u => exact I.after hq
    | next => exact False.elim hq
    | brk => exact False.elim hq
    | cont => exact False.elim hq
theorem pe_icall (hm : Meth X.K C "__call__" f) (F : FnOk X.prog X.w X.K X.mg X.base CX k f fd ps sp) (hr : Room k X.A) (hb : Binds X.K fd ps ds) (hd : Vals dvs ds) (hx : ∀ σ, PassesAt CX X σ (E σ))
    (ho : PE X (.Name x p) ta) (ha : PA X (e :: es) t) (he : starEach (e :: es) X.env = (false, eval e X.env) :: starEach es X.env) (hpl : (backTo pos (starEach es X.env)).any (·.1) = false) :
    PE X (.Call (.Name x p) (e :: es) [] pos) (tICall C sp dvs E ta t) := by
  refine ⟨fun pins s σ H Q I h => ?_⟩
  refine wpAny_Call_Name_kw (thn (ho.run pins s σ H _ I h) fun u s1 ⟨x, H1, I1, rx, q⟩ => ?_)
  have z := thn (ha.run pos pins s1 σ H1 _ I1 q) (Q' := fun us s2 => (∃ a dx, u = .ref a ∧ s2.heap.get? a = some (PySem.W.instObj C dx)) ∧ wpAny (model X.prog X.w) X.A (call u ([] ++ us)) (EP X pins σ Q) X.xe s2) fun us s2 ⟨vs, H2, I2, r, ⟨a, dx, fs, ex, ea⟩, q2⟩ => by
    subst ex
    obtain rfl : u = Value.ref a := rx
    obtain ⟨mA, O, _⟩ := ins_get I2.hok ea
    obtain ⟨od, J, _⟩ := O.look
    exact ⟨⟨a, dx, rfl, J.at_⟩, run_icall hm F hr hb hd (hx σ) I2 ea r q2⟩
  rw [he] at z ⊢
  refine callWith_I (P := fun h => ∃ a dx, u = .ref a ∧ h.get? a = some (PySem.W.instObj C dx)) (by show ((false || (backTo pos (starEach es X.env)).any (·.1)) || false) = false; rw [hpl]; rfl) (fun h hp => ?_) (Calls.evalArgs_plain z)
  obtain ⟨a, dx, rfl, hp⟩ := hp
  exact looks_keepI hp
/-- C.m is a staticmethod: its record at p, its def at f -/
structure SMet (K : PySem.W.Frag) (C : Addr) (mc : Value) (m : Str) (p f : Addr) : Prop where
  ga : PySem.W.specialIn K (.ref C) "__getattribute__" = some (some (.builtin "type.__getattribute__"))
  rd : PySem.W.readsIn K C mc = true
  at_ : PySem.W.findCls K (.ref C) mc m = some (.get (.builtin "staticmethod.__get__") (.ref p) .none (.ref C))
  rc : ∃ rest, PySem.W.recIn K p "staticmethod" = some (.ref f :: rest)
  kp : PySem.W.keepIn K (.ref f) = true
theorem getmeth_sm {pins : List (Addr × Obj)} {σ : St} {H : Hp} {s : Shared} {A : Around} {E : Value → Shared → Prop} {mc : Value} {q : Addr} {pl : Sem Bool} {Q : Value × List Value → Shared → Prop} (I : Inv X pins σ H s) (k : SMet X.K C mc m q f)
    (h : ∀ s', Inv X pins σ H s' → Q (.ref f, []) s') : wpAny (model X.prog X.w) A (getMethod (.ref C) m pl) Q E s := by
  obtain ⟨rest, hp⟩ := k.rc
  refine PySem.W.method_cls I.kIn k.ga ?_
  refine PySem.W.cls_bind I.kIn k.rd k.at_ ?_
  refine wpAny_call (PySem.W.sm_get (s := { s with toks := s.toks + 1 }) I.kIn hp (PySem.W.handed_on rfl ?_))
  exact h _ (I.tok _)
theorem pe_smeth {mc : Value} {q : Addr} {pl : Sem Bool} {cn : Str} {np : Pos} (k1 : SMet X.K C mc m q f) (F : FnOk X.prog X.w X.K X.mg X.base CX k f fd ps sp) (hr : Room k X.A) (hb : Binds X.K fd ps ds) (hd : Vals dvs ds) (hx : ∀ σ, PassesAt CX X σ (E σ)) (hg : Gl X cn) (hm : X.mg cn = some (.ref C)) (hdb : (cn == ("__debug__" : Str)) = false)
    (ha : PA X (e :: es) t) (hst : starEach (e :: es) X.env = (false, eval e X.env) :: starEach es X.env) (hpl : (backTo pos (starEach es X.env)).any (·.1) = false)
    (ht : eval (.Call (.Attribute (.Name cn np) m apos) (e :: es) [] pos) X.env = (do
      let ov ← eval (.Name cn np) X.env
      standAt apos.atName
      let (f, first) ← holding [ov] (getMethod ov m pl)
      callWith pos f first (backTo pos (starEach (e :: es) X.env)) (backToKw pos (keywordEach [] X.env)))) :
    PE X (.Call (.Attribute (.Name cn np) m apos) (e :: es) [] pos) (fun σ H Q => t σ H fun vs H1 => sp (vs ++ dvs) H1 Q (E σ)) := by
  refine ⟨fun pins s σ H Q I h => ?_⟩
  refine PySem.W.methodCall_KW (pl := pl) (ld_glob I hg hm ?_ hdb) ht
  refine getmeth_sm I k1 fun s1 I1 => ?_
  refine PySem.W.callWith_K (first := []) (h₀ := X.base) I.ok.mod.kin k1.kp (thn (ha.run pos pins s1 σ H _ I1 h) fun us s2 ⟨vs, H2, I2, r, q2⟩ => ⟨I2.kIn, ?_⟩) hst hpl
  exact run_fnSD F hr hb hd (hx σ) I2 r q2
theorem pe_smeth0 {mc : Value} {q : Addr} {pl : Sem Bool} {cn : Str} {np : Pos} (k1 : SMet X.K C mc m q f) (F : FnOk X.prog X.w X.K X.mg X.base CX k f fd ps sp) (hr : Room k X.A) (hb : Binds X.K fd ps ds) (hd : Vals dvs ds) (hx : ∀ σ, PassesAt CX X σ (E σ)) (hg : Gl X cn) (hm : X.mg cn = some (.ref C)) (hdb : (cn == ("__debug__" : Str)) = false)
    (ht : eval (.Call (.Attribute (.Name cn np) m apos) [] [] pos) X.env = (do
      let ov ← eval (.Name cn np) X.env
      standAt apos.atName
      let (f, first) ← holding [ov] (getMethod ov m pl)
      callWith pos f first (backTo pos (starEach [] X.env)) (backToKw pos (keywordEach [] X.env)))) :
    PE X (.Call (.Attribute (.Name cn np) m apos) [] [] pos) (fun σ H Q => sp dvs H Q (E σ)) := by
  refine ⟨fun pins s σ H Q I h => ?_⟩
  refine PySem.W.methodCall_KW (pl := pl) (ld_glob I hg hm ?_ hdb) ht
  refine getmeth_sm I k1 fun s1 I1 => ?_
  exact PySem.W.callWith_K0 (first := []) I1.kIn k1.kp (run_fnSD (us := []) (vs := []) F hr hb hd (hx σ) I1 .nil h)
/-- the call of C.m's record, C.m a classmethod -/
theorem run_cmD {pins : List (Addr × Obj)} {σ : St} {H : Hp} {s : Shared} {q : Addr} {Q : VK} {us : List Value} {vs : List V} (F : FnOk X.prog X.w X.K X.mg X.base CX k f fd ps sp) (hr : Room k X.A) (hb : Binds X.K fd ps ds) (hd : Vals dvs ds) (hx : PassesAt CX X σ (E σ))
    (I : Inv X ((q, PySem.W.methodObj (.ref f) (.ref C)) :: pins) σ H s) (r : Vals vs us) (h : sp (.ref C :: (vs ++ dvs)) H Q (E σ)) : wpAny (model X.prog X.w) X.A (call (.ref q) us) (EP X pins σ Q) X.xe s := by
  have r2 : Vals (.ref C :: (vs ++ dvs)) (Value.ref C :: (us ++ ds)) := .cons rfl (r.append hd)
  have hl : (Value.ref C :: us ++ ds).length = ps.length := by
    have := F.len _ _ _ _ h
    rw [← this]
    exact r2.length.symm
  have z : wpAny (model X.prog X.w) X.A (call (.ref q) us) (EP X ((q, PySem.W.methodObj (.ref f) (.ref C)) :: pins) σ Q) X.xe s := by
    refine wpAny_call (PySem.W.method_call (ClX.pin_at I) (codeAny_mono (F.run X.A X.stack s H ⟨Value.ref C :: us, []⟩ (Value.ref C :: (us ++ ds)) (.ref C :: (vs ++ dvs)) Q (E σ) hr I.env0 (hb s (Value.ref C :: us) I.kIn hl) r2 h) fun r s' hq => ?_))
    cases r with
    | error e => exact hx _ H s e s' I hq
    | ok fl =>
      cases fl with
      | ret u => exact I.after hq
      | next => exact False.elim hq
      | brk => exact False.elim hq
      | cont => exact False.elim hq
  exact thn z fun _ _ y => ClX.unpinE y
theorem pe_cmethD {mc : Value} {g : Addr} {pl : Sem Bool} {cn : Str} {np : Pos} (rd : ClX.CRead X.K C mc) (cm : ClX.CMet X.K C mc m g f) (F : FnOk X.prog X.w X.K X.mg X.base CX k f fd ps sp) (hr : Room k X.A) (hb : Binds X.K fd ps ds) (hd : Vals dvs ds) (hx : ∀ σ, PassesAt CX X σ (E σ)) (hg : Gl X cn) (hm : X.mg cn = some (.ref C)) (hdb : (cn == ("__debug__" : Str)) = false)
    (ha : PA X (e :: es) t) (hst : starEach (e :: es) X.env = (false, eval e X.env) :: starEach es X.env) (hpl : (backTo pos (starEach es X.env)).any (·.1) = false)
    (ht : eval (.Call (.Attribute (.Name cn np) m apos) (e :: es) [] pos) X.env = (do
      let ov ← eval (.Name cn np) X.env
      standAt apos.atName
      let (f, first) ← holding [ov] (getMethod ov m pl)
      callWith pos f first (backTo pos (starEach (e :: es) X.env)) (backToKw pos (keywordEach [] X.env)))) :
    PE X (.Call (.Attribute (.Name cn np) m apos) (e :: es) [] pos) (fun σ H Q => t σ H fun vs H1 => sp (.ref C :: (vs ++ dvs)) H1 Q (E σ)) := by
  refine ⟨fun pins s σ H Q I h => ?_⟩
  refine PySem.W.methodCall_KW (pl := pl) (ld_glob I hg hm ?_ hdb) ht
  refine ClX.getmethcm_ok I rd cm fun s2 I2 => ?_
  refine ClX.callwith_cm I2 (ClX.base_none I (Nat.le_refl _)) cm.fi (thn (ha.run pos _ s2 σ H _ I2 h) fun us s3 ⟨vs, H2, I3, rv, q2⟩ => ⟨⟨ClX.pin_at I3, I3.kIn⟩, ?_⟩) hst hpl
  exact run_cmD F hr hb hd (hx σ) I3 rv q2
/-- cls(..), cls a local that holds the class -/
theorem pe_makeSDL {x : Str} (M : Mk X.K C f) (F : FnOk X.prog X.w X.K X.mg X.base CX k f fd ps sp) (hr : Room (k + 1) X.A) (hb : Binds X.K fd ps ds) (hd : Vals dvs ds) (hx : ∀ σ, PassesAt CX X σ (E σ))
    (ho : PE X (.Name x p) ta) (ha : PA X (e :: es) t) (he : starEach (e :: es) X.env = (false, eval e X.env) :: starEach es X.env) (hpl : (backTo pos (starEach es X.env)).any (·.1) = false) :
    PE X (.Call (.Name x p) (e :: es) [] pos) (fun σ H Q => ta σ H fun x H1 => x = .ref C ∧ tMakeSD C sp dvs E t σ H1 Q) := by
  refine ⟨fun pins s σ H Q I h => ?_⟩
  refine wpAny_Call_Name_kw (thn (ho.run pins s σ H _ I h) fun u s1 ⟨x, H1, I1, rx, ex, q⟩ => ?_)
  subst ex
  obtain rfl : u = Value.ref C := rx
  refine PySem.W.callWith_K (h₀ := X.base) I1.ok.mod.kin M.kp (thn (ha.run pos pins s1 σ H1 _ I1 q) fun us s2 ⟨vs, H2, I2, r, q⟩ => ⟨I2.kIn, ?_⟩) he hpl
  exact run_makeSD M F hr hb hd (hx σ) I2 r q
theorem meets_bool_any {prog : Program} {w : World} (v : Value) : MeetsIn prog w (Builtin.«bool.__new__» ⟨[.type "bool", v], []⟩) (fun A R s => wpAny (model prog w) A.in1 (truthy v) (fun b s' => R (.ok (.ret (.bool b))) s') (fun e s' => R (.error e) s') s) :=
  .of_wp fun A R s h => by
    have f1 := F.conv_sub_bool
    obtain ⟨hp, g, d, tk, os⟩ := s
    repeat (any_goals (first | assumption | (with_reducible refine wpAny_bind (wpAny_mono h ?_ ?_)) | wp_step))
    all_goals first | exact fun _ _ z => z | exact fun _ _ z => wpAny_pure ⟨_, rfl, z⟩ | skip
/-- bool(a), a an instance of the class at C -/
theorem call_boolI {E : XK} (hm : Meth X.K C "__bool__" f) (F : FnOk X.prog X.w X.K X.mg X.base CX k f fd ps sp) (hr : Room (k + 1) X.A) (hb : Binds X.K fd ps []) (hx : ∀ σ, PassesAt CX X σ E) :
    CallR X (.type "bool") (fun xs H Q => ∃ a dx fs, xs = [.ref a] ∧ H a = some (.ins C dx fs) ∧ sp xs H (fun v H' => (∃ b, v = .bl b) ∧ Q v H') E) := by
  intro pins s σ H xs us Q I r h
  obtain ⟨a, dx, fs, rfl, ha, hsp⟩ := h
  obtain rfl := Vals.ref1 r
  refine callType_newIn PySem.F.called_bool PySem.F.newNe_bool (PySem.F.typeCall_bool_1 _) (PySem.F.newCall_bool_1 _) (fun obj => PySem.F.args_object_init_2 obj _) PySem.F.entry_bool_new (meets_bool_any _) ?_
  obtain ⟨mA, J, _⟩ := ins_get I.hok ha
  obtain ⟨od, J, _⟩ := J.look
  obtain ⟨m, hF⟩ := I.fr
  have hr2 : Room k X.A.in1.in1 := ⟨hr.hd, by have := hr.dp; show X.A.depth + 3 * k + 5 < _; omega, by have := hr.un; show X.A.units + 1 + 1 + 16 * k + 200 < _; omega⟩
  have r2 : Vals [V.ref a] [Value.ref a] := .cons rfl .nil
  refine PySem.W.truthy_K hF I.ok.mod.kin J hm.at_ hm.fn ?_
  have hl : ([Value.ref a] ++ ([] : List Value)).length = ps.length := by
    have := F.len _ _ _ _ hsp
    rw [← this]; rfl
  refine wpAny_call (codeAny_mono (F.run X.A.in1.in1 X.stack s H ⟨[Value.ref a], []⟩ [Value.ref a] [.ref a] _ E hr2 I.env0.in1.in1 (hb s [Value.ref a] I.kIn hl) r2 hsp) fun r s' hq => ?_)
  cases r with
  | error e => exact hx σ pins H s e s' I hq
  | ok fl =>
    cases fl with
    | ret u =>
      obtain ⟨z, H', I', rz, ⟨b, rfl⟩, q⟩ := I.after hq
      obtain rfl : u = Value.bool b := rz
      exact ⟨rfl, .bl b, H', I', rfl, q⟩
    | next => exact False.elim hq
    | brk => exact False.elim hq
    | cont => exact False.elim hq
end
end L2
namespace DL
open PySem PySem.Spec PyProof.Rows L2
theorem pe_none {X : Cx} {e : Expr} : PE X e (fun _ _ _ => False) := ⟨fun _ _ _ _ _ _ h => h.elim⟩
/-- the class itself comes first -/
@[simp] def clsC (cn : Str) (c : Ctr) : Ctr := fun ds H Q E => ∃ r, ds = .kls cn :: r ∧ c r H Q E
def HasS (X : Cx) (cn m : Str) (n : Nat) (c : Ctr) : Prop := (∃ C mc q f fd ps k, ps.length = n ∧ X.mg cn = some (.ref C) ∧ SMet X.K C mc m q f ∧ Binds X.K fd ps [] ∧ FnOk X.prog X.w X.K X.mg X.base (L2.CX X.prog X.w) k f fd ps (Cl X.K n c) ∧ Room k X.A) ∨
  ∃ C mc q f fd ps k, 1 ≤ n ∧ ps.length = n + 1 ∧ X.mg cn = some (.ref C) ∧ PySem.W.nsIn X.K mainGlobals cn = some (some (.ref C)) ∧ ClX.CRead X.K C mc ∧ ClX.CMet X.K C mc m q f ∧ Binds X.K fd ps [] ∧ FnOk X.prog X.w X.K X.mg X.base (L2.CX X.prog X.w) k f fd ps (Cl X.K (n + 1) (clsC cn c)) ∧ Room k X.A
section
variable {C : Co} {a e o : Expr} {es : List Expr} {ta te to : TD} {t : TAd} {pos p apos : Pos} {x m f cn : Str}
theorem de_icall (ok : C.Ok) {n : Nat} {c : Ctr} (hF : HasM C.X cn "__call__" n c) (ho : DE C (.Name x p) ta) (ha : DA C (e :: es) t)
    (he : starEach (e :: es) C.X.env = (false, eval e C.X.env) :: starEach es C.X.env) (hpl : (backTo pos (starEach es C.X.env)).any (·.1) = false) :
    DE C (.Call (.Name x p) (e :: es) [] pos) (fun σ H Q => ta σ H fun x H1 => t σ H1 fun ds H2 => (∃ ns xs, insAt H2 x = some (cn, ns, xs)) ∧ ds.length + 1 = n ∧ c (x :: ds) H2 Q (C.Ed σ)) := by
  obtain ⟨C', f, fd, ps, k, hl, hc, cl, M, hb, F, hr'⟩ := hF
  have hr := hr'.mono (Nat.le_succ k)
  refine PE.weak (pe_icall M F hr hb .nil (fun σ => passAt ok.tk σ) ho ha he hpl) fun σ H Q => ?_
  rintro ⟨σd, Hm, Qd, s, q, k⟩
  refine Lf.seq s q fun x H1 dx Hm1 n1 s1 ix q => ?_
  refine LfA.seq s1 q fun vs H2 ds Hm2 n2 s2 is q => ?_
  obtain ⟨⟨ns, xs, h1⟩, q⟩ := q
  have ix2 := Is.nt s1.rep n2 dx _ ix
  obtain ⟨b, dx', gs, rfl, ⟨C2, c2, hb2⟩, l, tt⟩ := ins_of s2.rep ix2 h1
  have := nsIn_inj hc c2
  subst this
  refine ⟨⟨b, dx', gs, rfl, hb2⟩, ?_⟩
  rw [List.append_nil]
  exact ⟨C.Z, dx :: ds, Hm2, Qd, C.Ed σd, by rw [List.length_cons]; exact q.1, s2.rep, .cons ix2 is, q.2, (k.cut n1).cut n2, fun nm cls a fo H' Hm' n' r' c' x' h => ok.w σ H' σd Hm' nm cls a fo (s2.nxt n' r') c' x' h⟩
theorem de_smeth (ok : C.Ok) {n : Nat} {c : Ctr} {pl : Sem Bool} {np : Pos} (hF : HasS C.X cn m n c) (hg : Gl C.X cn) (hdb : (cn == ("__debug__" : Str)) = false) (ha : DA C (e :: es) t)
    (he : starEach (e :: es) C.X.env = (false, eval e C.X.env) :: starEach es C.X.env) (hpl : (backTo pos (starEach es C.X.env)).any (·.1) = false)
    (ht : eval (.Call (.Attribute (.Name cn np) m apos) (e :: es) [] pos) C.X.env = (do
      let ov ← eval (.Name cn np) C.X.env
      standAt apos.atName
      let (f, first) ← holding [ov] (getMethod ov m pl)
      callWith pos f first (backTo pos (starEach (e :: es) C.X.env)) (backToKw pos (keywordEach [] C.X.env)))) :
    DE C (.Call (.Attribute (.Name cn np) m apos) (e :: es) [] pos) (fun σ H Q => t σ H fun ds H1 => ds.length = n ∧ c ds H1 Q (C.Ed σ)) := by
  rcases hF with ⟨C', mc, q, f, fd, ps, k, hl, hm, S, hb, F, hr⟩ | ⟨C', mc, q, f, fd, ps, k, h1, hl, hm, hc, rd, cm, hb, F, hr⟩
  rotate_left
  · refine PE.weak (pe_cmethD rd cm F hr hb .nil (fun σ => passAt ok.tk σ) hg hm hdb ha he hpl ht) fun σ H Q => ?_
    rintro ⟨σd, Hm, Qd, s, q, k⟩
    refine LfA.seq s q fun vs H1 ds Hm1 n1 s1 is q => ?_
    rw [List.append_nil]
    exact ⟨C.Z, .kls cn :: ds, Hm1, Qd, C.Ed σd, by rw [List.length_cons, q.1], s1.rep, .cons (by unfold Is; exact ⟨C', rfl, hc⟩) is, ⟨ds, rfl, q.2⟩, k.cut n1, fun nm cls a fo H' Hm' n' r' c' x' h => ok.w σ H' σd Hm' nm cls a fo (s1.nxt n' r') c' x' h⟩
  refine PE.weak (pe_smeth S F hr hb .nil (fun σ => passAt ok.tk σ) hg hm hdb ha he hpl ht) fun σ H Q => ?_
  rintro ⟨σd, Hm, Qd, s, q, k⟩
  refine LfA.seq s q fun vs H1 ds Hm1 n1 s1 is q => ?_
  rw [List.append_nil]
  exact ⟨C.Z, ds, Hm1, Qd, C.Ed σd, q.1, s1.rep, is, q.2, k.cut n1, fun nm cls a fo H' Hm' n' r' c' x' h => ok.w σ H' σd Hm' nm cls a fo (s1.nxt n' r') c' x' h⟩
theorem de_smeth0 (ok : C.Ok) {n : Nat} {c : Ctr} {pl : Sem Bool} {np : Pos} (hF : HasS C.X cn m n c) (hg : Gl C.X cn) (hdb : (cn == ("__debug__" : Str)) = false)
    (ht : eval (.Call (.Attribute (.Name cn np) m apos) [] [] pos) C.X.env = (do
      let ov ← eval (.Name cn np) C.X.env
      standAt apos.atName
      let (f, first) ← holding [ov] (getMethod ov m pl)
      callWith pos f first (backTo pos (starEach [] C.X.env)) (backToKw pos (keywordEach [] C.X.env)))) :
    DE C (.Call (.Attribute (.Name cn np) m apos) [] [] pos) (fun σ H Q => 0 = n ∧ c [] H Q (C.Ed σ)) := by
  rcases hF with ⟨C', mc, q, f, fd, ps, k, hl, hm, S, hb, F, hr⟩ | ⟨C', mc, q, f, fd, ps, k, h1, hl, hm, hc, rd, cm, hb, F, hr⟩
  rotate_left
  · refine PE.weak pe_none fun σ H Q => ?_
    rintro ⟨σd, Hm, Qd, s, q, k⟩
    exact absurd q.1 (by omega)
  refine PE.weak (pe_smeth0 (E := fun σ => WE C.W σ) S F hr hb .nil (fun σ => passAt ok.tk σ) hg hm hdb ht) fun σ H Q => ?_
  rintro ⟨σd, Hm, Qd, s, q, k⟩
  exact ⟨C.Z, [], Hm, Qd, C.Ed σd, q.1, s.rep, .nil, q.2, k, fun nm cls a fo H' Hm' n' r' c' x' h => ok.w σ H' σd Hm' nm cls a fo (s.nxt n' r') c' x' h⟩
theorem de_newL (ok : C.Ok) {n : Nat} {c : Ctr} (hF : HasN C.X cn n c) (ho : DE C (.Name x p) ta) (ha : DA C (e :: es) t)
    (he : starEach (e :: es) C.X.env = (false, eval e C.X.env) :: starEach es C.X.env) (hpl : (backTo pos (starEach es C.X.env)).any (·.1) = false) :
    DE C (.Call (.Name x p) (e :: es) [] pos) (fun σ H Q => ta σ H fun x H1 => x = .kls cn ∧ t σ H1 fun ds H1 => ds.length + 1 = n ∧ ∀ p, H1 p = none → c (.ref p :: ds) (updM H1 p (.ins cn [] [])) (fun v H2 => v = .non ∧ Q (.ref p) H2) (C.Ed σ)) := by
  obtain ⟨C', f, fd, ps, k, hl, hc, hm, M, hb, F, hr⟩ := hF
  refine PE.weak (pe_makeSDL M F hr hb .nil (fun σ => passAt ok.tk σ) ho ha he hpl) fun σ H Q => ?_
  rintro ⟨σd, Hm, Qd, s, q, k⟩
  refine Lf.seq s q fun x H1 dx Hm1 n0 s0 ix q => ?_
  obtain ⟨rfl, q⟩ := q
  unfold Is at ix
  obtain ⟨a, rfl, ha⟩ := ix
  have := nsIn_inj hc ha
  subst this
  refine ⟨rfl, ?_⟩
  refine LfA.seq s0 q fun vs H1 ds Hm1 n1 s1 is q => ?_
  intro y dy hy hd hne
  rw [List.append_nil]
  obtain ⟨hlen, q⟩ := q
  obtain ⟨n2, r2⟩ := new_ins (K := C.K) s1.rep hy hd hne hc
  refine ⟨C.Z, .ref y :: ds, _, fun v H2 => v = .non ∧ Qd (.ref y) H2, C.Ed σd, by rw [List.length_cons]; exact hlen, r2, .cons is_ref (Iss.nt s1.rep n2 _ _ is), q y (s1.rep.free hy), fun v H' d Hm' n' r' i' q' => ?_, fun nm cls a fo H' Hm' n' r' c' x' h => ok.w σ H' σd Hm' nm cls a fo (s1.nxt (n2.trans n') r') c' x' h⟩
  obtain ⟨rfl, q'⟩ := q'
  exact ⟨i'.non, k _ H' (.ref y) Hm' (((n0.trans n1).trans n2).trans n') r' is_ref q'⟩
/-- bool(a) of an own instance -/
theorem de_obool (ok : C.Ok) {n : Nat} {c : Ctr} {np : Pos} (hF : HasM C.X cn "__bool__" n c) (hg : Gl C.X "bool") (hm : C.X.mg "bool" = none) (ha : DE C e te)
    (he : starEach [e] C.X.env = (false, eval e C.X.env) :: starEach [] C.X.env) :
    DE C (.Call (.Name "bool" np) [e] [] pos) (fun σ H Q => te σ H fun x H1 => (∃ ns xs, insAt H1 x = some (cn, ns, xs)) ∧ 1 = n ∧ c [x] H1 (fun d H3 => ∃ b, d = .bl b ∧ Q (.bl b) H3) (fun _ _ _ => False)) := by
  obtain ⟨C', f, fd, ps, k, hl, hc, cl, M, hb, F, hr⟩ := hF
  refine PE.weak (pe_callTy (call_boolI (E := fun _ _ _ => False) M F hr hb (fun σ => passAt takes0 σ)) hg hm (by decide +kernel) (da_cons ha da_nil he) (by decide) (by decide) he rfl) fun σ H Q => ?_
  rintro ⟨σd, Hm, Qd, s, q, k⟩
  refine LfA.seq s (F := fun ds H1 => ∃ x, ds = [x] ∧ (∃ ns xs, insAt H1 x = some (cn, ns, xs)) ∧ 1 = n ∧ c [x] H1 (fun d H3 => ∃ b, d = .bl b ∧ Qd (.bl b) H3) (fun _ _ _ => False)) (T := fun σ H Q => te σ H fun x H1 => Q [x] H1) ?_ fun vs H1 ds Hm1 n1 s1 is q => ?_
  · show te σd Hm fun x H1 => ∃ x', [x] = [x'] ∧ _
    have e : (fun x H1 => ∃ x', [x] = [x'] ∧ (∃ ns xs, insAt H1 x' = some (cn, ns, xs)) ∧ 1 = n ∧ c [x'] H1 (fun d H3 => ∃ b, d = .bl b ∧ Qd (.bl b) H3) (fun _ _ _ => False)) = fun x H1 => (∃ ns xs, insAt H1 x = some (cn, ns, xs)) ∧ 1 = n ∧ c [x] H1 (fun d H3 => ∃ b, d = .bl b ∧ Qd (.bl b) H3) (fun _ _ _ => False) := by
      funext x H1
      apply propext
      constructor
      · rintro ⟨x', e, z⟩
        cases e
        exact z
      · exact fun z => ⟨x, rfl, z⟩
    rw [e]
    exact q
  obtain ⟨dx, rfl, ⟨ns, xs, h1⟩, hn, q⟩ := q
  obtain ⟨v, rfl, ix⟩ := is.one
  obtain ⟨b, dx', gs, rfl, ⟨C2, c2, hb2⟩, l, tt⟩ := ins_of s1.rep ix h1
  have := nsIn_inj hc c2
  subst this
  refine ⟨b, dx', gs, rfl, hb2, ?_⟩
  exact ⟨C.Z, [dx], Hm1, _, fun _ _ _ => False, by rw [← hn]; rfl, s1.rep, .cons ix .nil, q, fun v H' d Hm' n' r' i' q' => by
    obtain ⟨b, rfl, q'⟩ := q'
    exact ⟨⟨b, i'.bl⟩, (k.cut n1) v H' (.bl b) Hm' n' r' i' q'⟩, fun nm cls a fo H' Hm' n' r' c' x' h => h.elim⟩
end
end DL

set_option maxHeartbeats 1000000
/-! a comprehension over a dict's keys: the dict is locked meanwhile -/
namespace DL
open PySem PySem.Spec PyProof.Rows L2
section
variable {C : Co} {e : Expr} {i : Nat}
theorem pe_or {X : Cx} {e : Expr} {t1 t2 : TE} (h1 : PE X e t1) (h2 : PE X e t2) : PE X e (fun σ H Q => t1 σ H Q ∨ t2 σ H Q) :=
  ⟨fun pins s σ H Q I q => q.elim (h1.run pins s σ H Q I) (h2.run pins s σ H Q I)⟩
theorem de_lcd {run : En → List D → (MH → Prop) → MH → DK → Prop} (h : DE C e (fun σ H Q => ∃ d, σ[i]? = some (some d) ∧ itW H d fun xs keep H1 => run σ xs keep H1 Q)) :
    DE C e (fun σ H Q => ∃ p, σ[i]? = some (some (.ref p)) ∧ lcdR H p Q (run σ) (H p)) := by
  refine PE.weak (pe_or (pe_lock h) h) fun σ H Q => ?_
  rintro ⟨σd, Hm, Qd, s, ⟨p, hi, q⟩, k⟩
  cases z : Hm p with
  | none => rw [z] at q; exact q.elim
  | some o =>
    rw [z] at q
    have nn : Hm p ≠ none := by rw [z]; simp
    cases o with
    | ins C ns ds => exact q.elim
    | lst xs => exact q.elim
    | dk kvs =>
      obtain ⟨us, h, l, t⟩ := s.rep.obj _ _ z
      refine .inl ⟨p, .dK us, h, True.intro, fun od => ?_⟩
      have nt : NT Hm H (updM Hm p (.ldk od us kvs)) (upd H p (.frz od (.dK us))) := wr_nt nn
      have rp : Rep C.K (upd H p (.frz od (.dK us))) (updM Hm p (.ldk od us kvs)) := wr_repO s.rep nn ⟨upd_same, l, Iss.nt s.rep nt _ _ t⟩
      refine ⟨σd, updM Hm p (.ldk od us kvs), fun d H3 => H3 p = some (.ldk od us kvs) ∧ Qd d (updM H3 p (.dk kvs)), s.nxt nt rp, ⟨.ref p, hi, ?_⟩, fun v H' d Hm' n r iv qq => ?_⟩
      · rw [itW_ref]
        rw [updM_same]
        exact q od us
      · obtain ⟨kp, qq⟩ := qq
        obtain ⟨hp', l', t'⟩ := r.obj _ _ kp
        have nn' : Hm' p ≠ none := by rw [kp]; simp
        have nt' : NT Hm' H' (updM Hm' p (.dk kvs)) (upd H' p (.dK us)) := wr_nt nn'
        exact ⟨hp', k v _ d _ ((nt.trans n).trans nt') (wr_repO r nn' ⟨us, upd_same, l', Iss.nt r nt' _ _ t'⟩) (Is.nt r nt' _ _ iv) qq⟩
    | dt kvs =>
      obtain ⟨us, h, l, t⟩ := s.rep.obj _ _ z
      refine .inl ⟨p, .dT us, h, True.intro, fun od => ?_⟩
      have nt : NT Hm H (updM Hm p (.ldt od us kvs)) (upd H p (.frz od (.dT us))) := wr_nt nn
      have rp : Rep C.K (upd H p (.frz od (.dT us))) (updM Hm p (.ldt od us kvs)) := wr_repO s.rep nn ⟨upd_same, l, Iss.nt s.rep nt _ _ t⟩
      refine ⟨σd, updM Hm p (.ldt od us kvs), fun d H3 => H3 p = some (.ldt od us kvs) ∧ Qd d (updM H3 p (.dt kvs)), s.nxt nt rp, ⟨.ref p, hi, ?_⟩, fun v H' d Hm' n r iv qq => ?_⟩
      · rw [itW_ref]
        rw [updM_same]
        exact q od us
      · obtain ⟨kp, qq⟩ := qq
        obtain ⟨hp', l', t'⟩ := r.obj _ _ kp
        have nn' : Hm' p ≠ none := by rw [kp]; simp
        have nt' : NT Hm' H' (updM Hm' p (.dt kvs)) (upd H' p (.dT us)) := wr_nt nn'
        exact ⟨hp', k v _ d _ ((nt.trans n).trans nt') (wr_repO r nn' ⟨us, upd_same, l', Iss.nt r nt' _ _ t'⟩) (Is.nt r nt' _ _ iv) qq⟩
    | ldk o us kvs =>
      refine .inr ⟨σd, Hm, Qd, s, ⟨.ref p, hi, ?_⟩, k⟩
      rw [itW_ref]
      rw [z]
      exact q
    | ldt o us kvs =>
      refine .inr ⟨σd, Hm, Qd, s, ⟨.ref p, hi, ?_⟩, k⟩
      rw [itW_ref]
      rw [z]
      exact q
end
end DL

set_option maxHeartbeats 1000000
/-! == of a plain value and an own instance at its right -/
namespace L2
open PySem PySem.Spec PyProof.Rows
open PySem.AutoSeq1 (wpAny_loadPart')
theorem slot_none_eq : Slot "NoneType" (cmpInfo .Eq).2.1 "NoneType.__eq__" :=
  .of (owner := "NoneType") (n := "__eq__") (by rw [typeLookup_type, builtinLookup_eq_fast]; kernel_rfl) (by decide +kernel) (by decide +kernel) (by decide +kernel)
    (by first | exact .inl (by decide +kernel) | exact .inr (by decide +kernel)) (by rw [isSubtype_type]; kernel_rfl)
theorem entry_none_eq : entryFor table "NoneType.__eq__" = some Builtin.«NoneType.__eq__» := entryFor_of_tree (by kernel_rfl)
theorem args_none_eq (a b : Value) : argsOk "NoneType.__eq__" ⟨[a, b], []⟩ := by unfold argsOk; kernel_rfl
section
variable {prog : Program} {w : World} {A : Around} {E : Value → Shared → Prop} {s : Shared} {K : PySem.W.Frag} {b C dx f : Addr} {Q : Option Value → Shared → Prop}
theorem decl_int {i : Int} {t : Tok} (J : s.heap.get? b = some (PySem.W.instObj C dx)) (hq : Q none s) : wpAny (model prog w) A (tryCompare (.int i t) (cmpInfo .Eq).2.1 (.ref b)) Q E s := by
  refine wpAny_tryCompare_declines (T := "int") rfl slot_int_eq (wpAny_call_entry slot_int_eq rfl entry_int_eq ?_ (args_int_eq _ _))
  obtain ⟨hp, g, d, tk, os⟩ := s
  wp_walk using wpAny_loadPart' J
  exact ⟨_, rfl, rfl, hq⟩
theorem decl_str {i : Str} {t : Tok} (J : s.heap.get? b = some (PySem.W.instObj C dx)) (hq : Q none s) : wpAny (model prog w) A (tryCompare (.str i t) (cmpInfo .Eq).2.1 (.ref b)) Q E s := by
  refine wpAny_tryCompare_declines (T := "str") rfl F.slot_str_eq (wpAny_call_entry F.slot_str_eq rfl F.entry_str_eq ?_ (F.args_str_eq_2 _ _))
  obtain ⟨hp, g, d, tk, os⟩ := s
  wp_walk using wpAny_loadPart' J
  exact ⟨_, rfl, rfl, hq⟩
theorem decl_none (hq : Q none s) : wpAny (model prog w) A (tryCompare .none (cmpInfo .Eq).2.1 (.ref b)) Q E s := by
  refine wpAny_tryCompare_declines (T := "NoneType") rfl slot_none_eq (wpAny_call_entry slot_none_eq rfl entry_none_eq ?_ (args_none_eq _ _))
  obtain ⟨hp, g, d, tk, os⟩ := s
  wp_walk
  exact ⟨_, rfl, rfl, hq⟩
theorem decl_tup {a : Addr} (X : K.In s.heap) (hT : s.TypeIs (.ref a) "tuple") (J : s.heap.get? b = some (PySem.W.instObj C dx)) (hsub : PySem.W.subIn K (.ref C) (.type "tuple") = some false) (hq : Q none s) : wpAny (model prog w) A (tryCompare (.ref a) (cmpInfo .Eq).2.1 (.ref b)) Q E s := by
  refine wpAny_tryCompare_declines (T := "tuple") hT F.slot_tuple_eq (wpAny_call_entry F.slot_tuple_eq hT F.entry_tuple_eq ?_ (F.args_tuple_eq_2 _ _))
  obtain ⟨hp, g, d, tk, os⟩ := s
  wp_walk using wpAny_loadPart' J
  refine (PySem.W.looks_subIn X hsub).here ?_
  wp_walk
  exact ⟨_, rfl, rfl, hq⟩
theorem decl_list {a : Addr} (X : K.In s.heap) (hT : s.TypeIs (.ref a) "list") (J : s.heap.get? b = some (PySem.W.instObj C dx)) (hsub : PySem.W.subIn K (.ref C) (.type "list") = some false) (hq : Q none s) : wpAny (model prog w) A (tryCompare (.ref a) (cmpInfo .Eq).2.1 (.ref b)) Q E s := by
  refine wpAny_tryCompare_declines (T := "list") hT F.slot_list_eq (wpAny_call_entry F.slot_list_eq hT F.entry_list_eq ?_ (F.args_list_eq_2 _ _))
  obtain ⟨hp, g, d, tk, os⟩ := s
  wp_walk using wpAny_loadPart' J
  refine (PySem.W.looks_subIn X hsub).here ?_
  wp_walk
  exact ⟨_, rfl, rfl, hq⟩
end
section
variable {prog : Program} {w : World} {A : Around} {E : Value → Shared → Prop} {s : Shared} {K : PySem.W.Frag} {x C L f : Addr} {h₀ : Heap} {m : Str → Option Value} {ox : Obj} {od : Option Obj} {a : Value}
theorem cmp_back {T : String} {Q : Value → Shared → Prop} (hu : A.units < cLine) (F : Fr h₀ L s.heap m) (X₀ : K.In h₀) (I : PySem.W.InstAt s.heap x ox C od) (ho : oneThing? .Eq a (.ref x) = none)
    (hT : PySem.W.Looks (model prog w) s.heap (typeOf a) (.type T)) (hsub : PySem.W.subIn K (.ref C) (.type T) = some false) (hs : PySem.W.findIn K (.ref C) (cmpInfo .Eq).2.2 = some (some (.ref f))) (hf : PySem.W.isFn K (.ref f) = true)
    (hd : ∀ R : Option Value → Shared → Prop, R none s → wpAny (model prog w) A (tryCompare a (cmpInfo .Eq).2.1 (.ref x)) R E s)
    (h : wpAny (model prog w) A (call (.ref f) [.ref x, a]) (PySem.W.CmpBack Q) E s) : wpAny (model prog w) A (richCompare .Eq a (.ref x)) Q E s := by
  have X := X₀.keeps F.keep
  have one : wpAny (model prog w) A (tryCompare (.ref x) (cmpInfo .Eq).2.2 a) (fun r s' => ∃ v, r = some v ∧ Q v s') E s := by
    unfold tryCompare
    refine wpAny_bind (PySem.W.ifBound_K X I hs hf (wpAny_mono h (fun v s' hv => ?_) fun _ _ e => e))
    cases v <;> first | exact hv.elim | exact wpAny_pure ⟨_, rfl, hv⟩
  unfold richCompare
  simp only [ho]
  refine wpAny_holding (wpAny_bind (wpAny_cRoomFor hu ?_))
  refine wpAny_bind (hT.here (wpAny_bind (I.type.here ?_)))
  have e : ((Value.type T : Value) != .ref C) = true := rfl
  rw [if_pos e]
  refine wpAny_bind ((PySem.W.looks_subIn X hsub).here ?_)
  simp only [Bool.false_eq_true, if_false]
  refine wpAny_bind (hd _ ?_)
  simp only [Bool.not_false, if_true]
  refine wpAny_bind (wpAny_mono one (fun r s' z => ?_) fun _ _ e => e)
  obtain ⟨v, rfl, hq⟩ := z
  exact wpAny_pure hq
end
section
variable {X : Cx} {CX : CXT} {k : Nat} {f C : Addr} {fd : FuncData} {ps : List Str} {sp : Sp} {E : XK} {pins : List (Addr × Obj)} {σ : St} {H : Hp} {s : Shared}
def LeftOf (K : PySem.W.Frag) (H : Hp) (y : V) : Prop :=
  (∃ b xs, y = .ref b ∧ SqT K H b xs) ∨ (∃ b xs, y = .ref b ∧ SqL K H b xs) ∨ (∃ i, y = .int i) ∨ (∃ z, y = .str z) ∨ y = .non
/-- y == a, a an instance of the class at C with an own == that gives a bool, y plain -/
def rBackEq (K : PySem.W.Frag) (C : Addr) (sp : Sp) (E : XK) : R2 := fun y x H Q => LeftOf K H y ∧ (∃ a dx fs, x = .ref a ∧ H a = some (.ins C dx fs)) ∧ sp [x, y] H (fun v H' => (∃ b, v = .bl b) ∧ Q v H') E
theorem op_backEq (hm : Meth X.K C "__eq__" f) (hn : DL.NoSub X.K C) (F : FnOk X.prog X.w X.K X.mg X.base CX k f fd ps sp) (hr : Room k X.A) (hb : Binds X.K fd ps []) (hx : ∀ σ, PassesAt CX X σ E) : OpR X (compareOp .Eq) (rBackEq X.K C sp E) := by
  intro pins s σ H y x u v Q I ry rx hq
  obtain ⟨hy, ⟨a, dx, fs, rfl, ha⟩, hsp⟩ := hq
  obtain rfl : v = Value.ref a := rx
  show wpAny (model X.prog X.w) X.A (richCompare .Eq u (.ref a)) (EP X pins σ Q) X.xe s
  obtain ⟨mA, J0, _⟩ := ins_get I.hok ha
  obtain ⟨od, J, _⟩ := J0.look
  obtain ⟨m, hF⟩ := I.fr
  have fin : wpAny (model X.prog X.w) X.A (call (.ref f) [.ref a, u]) (PySem.W.CmpBack (EP X pins σ Q)) X.xe s := by
    refine thn (run_fnSD (E := fun _ => E) (us := [.ref a, u]) (vs := [.ref a, y]) (dvs := []) (ds := []) F hr hb .nil (hx σ) I (.cons rfl (.cons ry .nil)) hsp) fun w s' hw => ?_
    obtain ⟨z, H', I', rz, ⟨b, rfl⟩, q⟩ := hw
    obtain rfl : w = Value.bool b := rz
    exact ⟨.bl b, H', I', rfl, q⟩
  have KX : X.K.In s.heap := I.ok.mod.kin.keeps hF.keep
  rcases hy with ⟨b, xs, rfl, hb'⟩ | ⟨b, xs, rfl, hb'⟩ | ⟨i, rfl⟩ | ⟨z, rfl⟩ | rfl
  · obtain rfl : u = Value.ref b := ry
    obtain ⟨its, _, ⟨o, e, c, _, _⟩, _⟩ := I.tuple hb'
    have hT : s.TypeIs (.ref b) "tuple" := ⟨o, e, c⟩
    refine cmp_back (T := "tuple") hr.units0 hF I.ok.mod.kin J (oneThing_ref ..) ?_ (hn.is (by decide)) hm.at_ hm.fn (fun R hR => decl_tup KX hT J0.obj (hn.is (by decide)) hR) fin
    rw [← c]
    exact (PySem.W.Looks.ld (part := none) e).andThen .now
  · obtain rfl : u = Value.ref b := ry
    obtain ⟨its, _, ⟨o, n, e, c, _, _⟩, _⟩ := I.list hb'
    have hT : s.TypeIs (.ref b) "list" := ⟨o, e, c⟩
    refine cmp_back (T := "list") hr.units0 hF I.ok.mod.kin J (oneThing_ref ..) ?_ (hn.is (by decide)) hm.at_ hm.fn (fun R hR => decl_list KX hT J0.obj (hn.is (by decide)) hR) fin
    rw [← c]
    exact (PySem.W.Looks.ld (part := none) e).andThen .now
  · obtain ⟨t, rfl⟩ := (show ∃ t, u = Value.int i t from ry)
    exact cmp_back (T := "int") hr.units0 hF I.ok.mod.kin J rfl .now (hn.is (by decide)) hm.at_ hm.fn (fun R hR => decl_int J0.obj hR) fin
  · obtain ⟨t, rfl⟩ := (show ∃ t, u = Value.str z t from ry)
    exact cmp_back (T := "str") hr.units0 hF I.ok.mod.kin J rfl .now (hn.is (by decide)) hm.at_ hm.fn (fun R hR => decl_str J0.obj hR) fin
  · obtain rfl : u = Value.none := ry
    exact cmp_back (T := "NoneType") hr.units0 hF I.ok.mod.kin J rfl .now (hn.is (by decide)) hm.at_ hm.fn (fun R hR => decl_none hR) fin
end
end L2

set_option maxHeartbeats 1000000
/-! own == and own binary operators, an instance at the left -/
namespace L2
open PySem PySem.Spec PyProof.Rows
section
variable {X : Cx} {CX : CXT} {k : Nat} {f C : Addr} {fd : FuncData} {ps : List Str} {sp : Sp} {E : XK} {pins : List (Addr × Obj)} {σ : St} {H : Hp} {s : Shared}
/-- what may stand right of an own == -/
def RightOf (K : PySem.W.Frag) (C : Addr) (H : Hp) (y : V) : Prop :=
  (∃ b dx fs, y = .ref b ∧ H b = some (.ins C dx fs)) ∨ (∃ b xs, y = .ref b ∧ SqT K H b xs) ∨ (∃ b xs, y = .ref b ∧ SqL K H b xs) ∨ (∃ i, y = .int i) ∨ (∃ z, y = .str z) ∨ y = .non
theorem notFirst_ty {K : PySem.W.Frag} {C : Addr} {T : String} (h : ((fastBuiltinMro T).any fun l => l.all fun v => match v with | .type _ => true | _ => false) = true) : PySem.W.notFirst K C (.type T) = true := by
  unfold PySem.W.notFirst PySem.W.subIn
  dsimp only
  cases e : fastBuiltinMro T with
  | none => rw [e] at h; cases h
  | some l =>
    rw [e] at h
    have h : (l.all fun v => match v with | .type _ => true | _ => false) = true := h
    have : l.contains (.ref C) = false := by
      rw [Bool.eq_false_iff]
      intro c
      rw [List.contains_iff_mem] at c
      have := List.all_eq_true.1 h _ c
      cases this
    show ((Value.type T == Value.ref C) || ((some l).map (·.contains (.ref C)) == some false)) = true
    rw [Option.map_some, this]
    simp
theorem right_type {y : V} {u : Value} (I : Inv X pins σ H s) (ry : RelV y u) (h : RightOf X.K C H y) : ∃ tb, PySem.W.Looks (model X.prog X.w) s.heap (typeOf u) tb ∧ PySem.W.notFirst X.K C tb = true := by
  rcases h with ⟨b, dx, fs, rfl, hb⟩ | ⟨b, xs, rfl, hb⟩ | ⟨b, xs, rfl, hb⟩ | ⟨i, rfl⟩ | ⟨z, rfl⟩ | rfl
  · obtain rfl : u = Value.ref b := ry
    obtain ⟨mB, J', _⟩ := ins_get I.hok hb
    obtain ⟨od', J', _⟩ := J'.look
    exact ⟨.ref C, J'.type, by simp [PySem.W.notFirst]⟩
  · obtain rfl : u = Value.ref b := ry
    obtain ⟨its, _, ⟨o, e, c, _, _⟩, _⟩ := I.tuple hb
    refine ⟨.type "tuple", ?_, notFirst_ty (by decide +kernel)⟩
    rw [← c]
    exact (PySem.W.Looks.ld (part := none) e).andThen .now
  · obtain rfl : u = Value.ref b := ry
    obtain ⟨its, _, ⟨o, n, e, c, _, _⟩, _⟩ := I.list hb
    refine ⟨.type "list", ?_, notFirst_ty (by decide +kernel)⟩
    rw [← c]
    exact (PySem.W.Looks.ld (part := none) e).andThen .now
  · obtain ⟨t, rfl⟩ := (show ∃ t, u = Value.int i t from ry)
    exact ⟨.type "int", .now, notFirst_ty (by decide +kernel)⟩
  · obtain ⟨t, rfl⟩ := (show ∃ t, u = Value.str z t from ry)
    exact ⟨.type "str", .now, notFirst_ty (by decide +kernel)⟩
  · obtain rfl : u = Value.none := ry
    exact ⟨.type "NoneType", .now, notFirst_ty (by decide +kernel)⟩
/-- a == y, a an instance of the class at C with an own == that gives a bool -/
def rOwnEq (K : PySem.W.Frag) (C : Addr) (sp : Sp) (E : XK) : R2 := fun x y H Q => (∃ a dx fs, x = .ref a ∧ H a = some (.ins C dx fs)) ∧ RightOf K C H y ∧ sp [x, y] H (fun v H' => (∃ b, v = .bl b) ∧ Q v H') E
theorem op_ownEq (hm : Meth X.K C "__eq__" f) (F : FnOk X.prog X.w X.K X.mg X.base CX k f fd ps sp) (hr : Room k X.A) (hb : Binds X.K fd ps []) (hx : ∀ σ, PassesAt CX X σ E) : OpR X (compareOp .Eq) (rOwnEq X.K C sp E) := by
  intro pins s σ H x y v u Q I rx ry hq
  obtain ⟨⟨a, dx, fs, rfl, ha⟩, hy, hsp⟩ := hq
  obtain rfl : v = Value.ref a := rx
  show wpAny (model X.prog X.w) X.A (richCompare .Eq (.ref a) u) (EP X pins σ Q) X.xe s
  obtain ⟨mA, J, _⟩ := ins_get I.hok ha
  obtain ⟨od, J, _⟩ := J.look
  obtain ⟨m, hF⟩ := I.fr
  obtain ⟨tb, ht, hn⟩ := right_type I ry hy
  refine PySem.W.cmp_K (op := .Eq) (tb := tb) hr.units0 hF I.ok.mod.kin J ht hn hm.at_ hm.fn ?_
  refine thn (run_fnSD (E := fun _ => E) (us := [.ref a, u]) (vs := [.ref a, y]) (dvs := []) (ds := []) F hr hb .nil (hx σ) I (.cons rfl (.cons ry .nil)) hsp) fun w s' hw => ?_
  obtain ⟨z, H', I', rz, ⟨b, rfl⟩, q⟩ := hw
  obtain rfl : w = Value.bool b := rz
  exact ⟨.bl b, H', I', rfl, q⟩
theorem run_ownBin {o : Operator} {E : St → XK} {x y : V} {v u : Value} {Q : VK} (hs : PySem.W.selfFirst X.K C = true) (hm : Meth X.K C (PySem.dunder o.info.2) f) (F : FnOk X.prog X.w X.K X.mg X.base CX k f fd ps sp) (hr : Room k X.A) (hb : Binds X.K fd ps []) (hx : PassesAt CX X σ (E σ))
    (I : Inv X pins σ H s) (rx : RelV x v) (ry : RelV y u) (h1 : ∃ a dx fs, x = .ref a ∧ H a = some (.ins C dx fs)) (h2 : ∃ a dx fs, y = .ref a ∧ H a = some (.ins C dx fs)) (h : sp [x, y] H (fun v H' => (∃ p, v = .ref p) ∧ Q v H') (E σ)) :
    wpAny (model X.prog X.w) X.A (binaryOp o v u) (EP X pins σ Q) X.xe s := by
  obtain ⟨a, dx, fs, rfl, ha⟩ := h1
  obtain ⟨b, dy, gs, rfl, hb'⟩ := h2
  obtain rfl : v = Value.ref a := rx
  obtain rfl : u = Value.ref b := ry
  obtain ⟨mA, J, _⟩ := ins_get I.hok ha
  obtain ⟨od, J, _⟩ := J.look
  obtain ⟨mB, J', _⟩ := ins_get I.hok hb'
  obtain ⟨od', J', _⟩ := J'.look
  obtain ⟨m, hF⟩ := I.fr
  refine PySem.W.binop_K hF I.ok.mod.kin J J'.type hs hm.at_ hm.fn ?_
  refine thn (run_fnSD (us := [.ref a, .ref b]) (vs := [.ref a, .ref b]) (dvs := []) (ds := []) F hr hb .nil hx I (.cons rfl (.cons rfl .nil)) h) fun w s' hw => ?_
  obtain ⟨z, H', I', rz, ⟨p, rfl⟩, q⟩ := hw
  obtain rfl : w = Value.ref p := rz
  exact ⟨.ref p, H', I', rfl, q⟩
theorem pe_ownBinS {o : Operator} {E : St → XK} {a b : Expr} {ta tb : TE} {pos : Pos} (hm : Meth X.K C (PySem.dunder o.info.2) f) (F : FnOk X.prog X.w X.K X.mg X.base CX k f fd ps sp) (hr : Room k X.A) (hb : Binds X.K fd ps []) (hx : ∀ σ, PassesAt CX X σ (E σ)) (ha : PE X a ta) (hb2 : PE X b tb) :
    PE X (.BinOp a o b pos) (fun σ H Q => ta σ H fun x H1 => tb σ H1 fun y H2 => PySem.W.selfFirst X.K C = true ∧ (∃ a dx fs, x = .ref a ∧ H2 a = some (.ins C dx fs)) ∧ (∃ a dx fs, y = .ref a ∧ H2 a = some (.ins C dx fs)) ∧ sp [x, y] H2 (fun v H' => (∃ p, v = .ref p) ∧ Q v H') (E σ)) := by
  refine ⟨fun pins s σ H Q I h => ?_⟩
  exact wpAny_BinOp (binT ha hb2 I h fun v u s2 x y H2 I2 rx ry q => run_ownBin q.1 hm F hr hb (hx σ) I2 rx ry q.2.1 q.2.2.1 q.2.2.2)
end
section
variable {X : Cx} {a b c e : Expr} {ta tb tc te : TE} {pos : Pos}
def tChain3 (r r' r2 : R2) (ta tb tc te : TE) : TE := fun σ H Q => ta σ H fun x H1 => tb σ H1 fun y H2 => r x y H2 fun z H3 => ∃ k, z = .bl k ∧
  (if k = true then tc σ H3 fun w H4 => r' y w H4 fun z2 H5 => ∃ k2, z2 = .bl k2 ∧ (if k2 = true then te σ H5 fun v H6 => r2 w v H6 Q else Q (.bl false) H5) else Q (.bl false) H3)
theorem pe_chain3 {op op' op2 : CmpOp} {r r' r2 : R2} (ho : OpR X (compareOp op) r) (ho' : OpR X (compareOp op') r') (ho2 : OpR X (compareOp op2) r2) (ha : PE X a ta) (hb : PE X b tb) (hc : PE X c tc) (he : PE X e te)
    (hm : lastMarks [op, op', op2] [b, c, e] = false) : PE X (.Compare a [op, op', op2] [b, c, e] pos) (tChain3 r r' r2 ta tb tc te) := by
  refine ⟨fun pins s σ H Q I h => ?_⟩
  refine Compare_chain (thn (ha.run pins s σ H _ I h) fun v s1 ⟨x, H1, I1, r1, q1⟩ => chain_link (thn (hb.run pins s1 σ H1 _ I1 q1) fun u s2 ⟨y, H2, I2, ry, q2⟩ =>
    thn (ho pins s2 σ H2 x y v u _ I2 r1 ry q2) fun d s3 ⟨z, H3, I3, r3, k, e, q3⟩ => ?_)) hm
  subst e
  cases r3
  refine wpAny_truthy_bool ?_
  cases k with
  | false => exact ite_ff ⟨.bl false, H3, I3, rfl, q3⟩
  | true =>
    refine ite_tt (chain_link (thn (hc.run pins s3 σ H3 _ I3 q3) fun w' s4 ⟨z', H4, I4, r4, q4⟩ => thn (ho' pins s4 σ H4 y z' u w' _ I4 ry r4 q4) fun d' s5 ⟨z2, H5, I5, r5, k2, e2, q5⟩ => ?_))
    subst e2
    cases r5
    refine wpAny_truthy_bool ?_
    cases k2 with
    | false => exact ite_ff ⟨.bl false, H5, I5, rfl, q5⟩
    | true => exact ite_tt (chain_last (thn (he.run pins s5 σ H5 _ I5 q5) fun w2 s6 ⟨v2, H6, I6, r6, q6⟩ => ho2 pins s6 σ H6 z' v2 w' w2 Q I6 r4 r6 q6))
theorem pt_chain3 {op op' op2 : CmpOp} {r r' r2 : R2} (ho : OpR X (compareOp op) r) (ho' : OpR X (compareOp op') r') (ho2 : OpR X (compareOp op2) r2) (ha : PE X a ta) (hb : PE X b tb) (hc : PE X c tc) (he : PE X e te)
    (hm : lastMarks [op, op', op2] [b, c, e] = false) : PT X (.Compare a [op, op', op2] [b, c, e] pos) (tTest (tChain3 r r' r2 ta tb tc te)) := by
  refine ⟨fun pins s σ H Q I h => ?_⟩
  refine isTrue_chain (thn (ha.run pins s σ H _ I h) fun v s1 ⟨x, H1, I1, r1, q1⟩ => test_link (thn (hb.run pins s1 σ H1 _ I1 q1) fun u s2 ⟨y, H2, I2, ry, q2⟩ =>
    thn (ho pins s2 σ H2 x y v u _ I2 r1 ry q2) fun d s3 ⟨z, H3, I3, r3, k, e, q3⟩ => ?_)) hm
  subst e
  cases r3
  refine wpAny_truthy_bool ?_
  cases k with
  | false =>
    obtain ⟨k', e', q'⟩ := q3
    cases e'
    exact ite_ff ⟨H3, I3, q'⟩
  | true =>
    refine ite_tt (test_link (thn (hc.run pins s3 σ H3 _ I3 q3) fun w' s4 ⟨z', H4, I4, r4, q4⟩ => thn (ho' pins s4 σ H4 y z' u w' _ I4 ry r4 q4) fun d' s5 ⟨z2, H5, I5, r5, k2, e2, q5⟩ => ?_))
    subst e2
    cases r5
    refine wpAny_truthy_bool ?_
    cases k2 with
    | false =>
      obtain ⟨k', e', q'⟩ := q5
      cases e'
      exact ite_ff ⟨H5, I5, q'⟩
    | true =>
      refine ite_tt (test_last (thn (he.run pins s5 σ H5 _ I5 q5) fun w2 s6 ⟨v2, H6, I6, r6, q6⟩ => thn (ho2 pins s6 σ H6 z' v2 w' w2 _ I6 r4 r6 q6) fun d2 s7 ⟨z3, H7, I7, r7, k3, e3, q7⟩ => ?_))
      subst e3
      cases r7
      exact wpAny_truthy_bool ⟨H7, I7, q7⟩
end
end L2
namespace DL
open PySem PySem.Spec PyProof.Rows L2
theorem right_of {K : Kz} {H : Hp} {Hm : MH} {cn : Str} {C : Addr} {d : D} {v : V} (r : Rep K H Hm) (i : Is K H Hm d v) (hc : PySem.W.nsIn K.K mainGlobals cn = some (some (.ref C))) (h : rightD Hm cn d) : RightOf K.K C H v := by
  rcases h with h | ⟨ns, xs, h⟩
  · cases d <;> first | (cases h; done) | skip
    · exact .inr (.inr (.inr (.inr (.inr i.non))))
    · exact .inr (.inr (.inr (.inl ⟨_, i.int⟩)))
    · exact .inr (.inr (.inr (.inr (.inl ⟨_, i.str⟩))))
    · obtain ⟨a, vs, e, sq, _⟩ := i.tup
      exact .inr (.inl ⟨a, vs, e, sq⟩)
    · unfold Is at i
      obtain ⟨a, vs, e, sq, _⟩ := i
      exact .inr (.inr (.inl ⟨a, vs, e, sq.sq⟩))
  · obtain ⟨b, dx, fs, e, ⟨C2, c2, hb⟩, _⟩ := ins_of r i h
    have := nsIn_inj hc c2
    subst this
    exact .inl ⟨b, dx, fs, e, hb⟩
theorem left_of {K : Kz} {H : Hp} {Hm : MH} {d : D} {v : V} (i : Is K H Hm d v) (h : rightB d = true) : LeftOf K.K H v := by
  cases d <;> first | (cases h; done) | skip
  · exact .inr (.inr (.inr (.inr i.non)))
  · exact .inr (.inr (.inl ⟨_, i.int⟩))
  · exact .inr (.inr (.inr (.inl ⟨_, i.str⟩)))
  · obtain ⟨a, vs, e, sq, _⟩ := i.tup
    exact .inl ⟨a, vs, e, sq⟩
  · unfold Is at i
    obtain ⟨a, vs, e, sq, _⟩ := i
    exact .inr (.inl ⟨a, vs, e, sq.sq⟩)
theorem op_or {X : Cx} {o : CmpOp} {r r' : R2} (h : OpR X (compareOp o) r) (h' : OpR X (compareOp o) r') : OpR X (compareOp o) (fun x y H Q => r x y H Q ∨ r' x y H Q) := fun pins s σ H x y v u Q I rx ry q =>
  q.elim (fun q => h pins s σ H x y v u Q I rx ry q) (fun q => h' pins s σ H x y v u Q I rx ry q)
/-- an own == in the heap's terms, from the data's -/
theorem ocmp_is {C : Co} {n : Nat} {c : Ctr} {C' : Addr} {cn : Str} {ob : Str → Option (List Str)} (hc : PySem.W.nsIn C.X.K mainGlobals cn = some (some (.ref C'))) {x y : V} {dx dy : D} {H2 : Hp} {Hm2 : MH} (rep : Rep C.K H2 Hm2) (ix : Is C.K H2 Hm2 dx x) (iy : Is C.K H2 Hm2 dy y) {k : DK} {Q : VK}
    (hk : ∀ v H' d Hm', NT Hm2 H2 Hm' H' → Rep C.K H' Hm' → Is C.K H' Hm' d v → k d Hm' → (∃ b, v = .bl b) ∧ Q v H')
    (q : ((∃ ns xs, insAt Hm2 dx = some (cn, ns, xs)) ∧ rightD Hm2 cn dy ∧ 2 = n ∧ c [dx, dy] Hm2 k (fun _ _ _ => False)) ∨ (rightB dx = true ∧ (∃ ns xs, insAt Hm2 dy = some (cn, ns, xs)) ∧ (∃ fs, ob cn = some fs) ∧ 2 = n ∧ c [dy, dx] Hm2 k (fun _ _ _ => False))) :
    rOwnEq C.X.K C' (Cl C.X.K n c) (fun _ _ _ => False) x y H2 Q ∨ (rBackEq C.X.K C' (Cl C.X.K n c) (fun _ _ _ => False) x y H2 Q ∧ ∃ fs, ob cn = some fs) := by
  have hb : Bh C.K Hm2 H2 k (fun v H' => (∃ b, v = .bl b) ∧ Q v H') := fun v H' d Hm' n r i q => hk v H' d Hm' n r i q
  rcases q with ⟨⟨ns, xs, h1⟩, hy, hn, q⟩ | ⟨hx, ⟨ns, xs, h1⟩, hfs, hn, q⟩
  · obtain ⟨bb, dx', gs, rfl, ⟨C2, c2, hb2⟩, l, tt⟩ := ins_of rep ix h1
    have := nsIn_inj hc c2
    subst this
    exact .inl ⟨⟨bb, dx', gs, rfl, hb2⟩, right_of rep iy hc hy, C.Z, [dx, dy], Hm2, k, fun _ _ _ => False, hn, rep, .cons ix (.cons iy .nil), q, hb, fun nm cls a fo H' Hm' n' r' c' x' h => h.elim⟩
  · obtain ⟨bb, dx', gs, rfl, ⟨C2, c2, hb2⟩, l, tt⟩ := ins_of rep iy h1
    have := nsIn_inj hc c2
    subst this
    exact .inr ⟨⟨left_of ix hx, ⟨bb, dx', gs, rfl, hb2⟩, C.Z, [dy, dx], Hm2, k, fun _ _ _ => False, hn, rep, .cons iy (.cons ix .nil), q, hb, fun nm cls a fo H' Hm' n' r' c' x' h => h.elim⟩, hfs⟩
section
variable {C : Co} {a b : Expr} {ta tb : TD} {pos : Pos} {cn : Str}
theorem op_both {C' f : Addr} {fd : FuncData} {ps : List Str} {k n : Nat} {c : Ctr} {ob : Str → Option (List Str)} (hob : ∀ nm fs, ob nm = some fs → ObF C.X.K nm fs) (hc : PySem.W.nsIn C.X.K mainGlobals cn = some (some (.ref C'))) (M : Meth C.X.K C' "__eq__" f) (hb : Binds C.X.K fd ps []) (F : FnOk C.X.prog C.X.w C.X.K C.X.mg C.X.base (L2.CX C.X.prog C.X.w) k f fd ps (Cl C.X.K n c)) (hr : Room k C.X.A) :
    OpR C.X (compareOp .Eq) (fun x y H Q => rOwnEq C.X.K C' (Cl C.X.K n c) (fun _ _ _ => False) x y H Q ∨ (rBackEq C.X.K C' (Cl C.X.K n c) (fun _ _ _ => False) x y H Q ∧ ∃ fs, ob cn = some fs)) := by
  intro pins s σ H x y v u Q I rx ry q
  rcases q with q | ⟨q, fs, hfs⟩
  · exact op_ownEq (E := fun _ _ _ => False) M F hr hb (fun σ => passAt takes0 σ) pins s σ H x y v u Q I rx ry q
  · obtain ⟨C2, c2, _, _, _, _, hn⟩ := hob _ _ hfs
    have := nsIn_inj hc c2
    subst this
    exact op_backEq (E := fun _ _ _ => False) M hn F hr hb (fun σ => passAt takes0 σ) pins s σ H x y v u Q I rx ry q
theorem de_ocmp (ok : C.Ok) {n : Nat} {c : Ctr} {ob : Str → Option (List Str)} (hob : ∀ nm fs, ob nm = some fs → ObF C.X.K nm fs) (hF : HasM C.X cn "__eq__" n c) (ha : DE C a ta) (hb2 : DE C b tb) (hmk : behindInMarks .Eq b = false) :
    DE C (.Compare a [.Eq] [b] pos) (fun σ H Q => ta σ H fun x H1 => tb σ H1 fun y H2 => ((∃ ns xs, insAt H2 x = some (cn, ns, xs)) ∧ rightD H2 cn y ∧ 2 = n ∧ c [x, y] H2 (fun d H3 => ∃ b, d = .bl b ∧ Q (.bl b) H3) (fun _ _ _ => False)) ∨
      (rightB x = true ∧ (∃ ns xs, insAt H2 y = some (cn, ns, xs)) ∧ (∃ fs, ob cn = some fs) ∧ 2 = n ∧ c [y, x] H2 (fun d H3 => ∃ b, d = .bl b ∧ Q (.bl b) H3) (fun _ _ _ => False))) := by
  obtain ⟨C', f, fd, ps, k, hl, hc, cl, M, hb, F, hr'⟩ := hF
  have hr := hr'.mono (Nat.le_succ k)
  refine PE.weak (pe_cmpR (op_both hob hc M hb F hr) ha hb2 hmk) fun σ H Q => ?_
  rintro ⟨σd, Hm, Qd, s, q, k⟩
  refine Lf.seq s q fun x H1 dx Hm1 n1 s1 ix q => ?_
  refine Lf.seq s1 q fun y H2 dy Hm2 n2 s2 iy q => ?_
  have ix2 := Is.nt s1.rep n2 dx _ ix
  exact ocmp_is (ob := ob) hc s2.rep ix2 iy (fun v H' d Hm' n' r' i' q' => by
    obtain ⟨b, rfl, q'⟩ := q'
    exact ⟨⟨b, i'.bl⟩, (k.cut n1).cut n2 v H' (.bl b) Hm' n' r' i' q'⟩) q
theorem dc_ocmp (ok : C.Ok) {n : Nat} {c : Ctr} {ob : Str → Option (List Str)} (hob : ∀ nm fs, ob nm = some fs → ObF C.X.K nm fs) (hF : HasM C.X cn "__eq__" n c) (ha : DE C a ta) (hb2 : DE C b tb) (hmk : behindInMarks .Eq b = false) :
    DC C (.Compare a [.Eq] [b] pos) (fun σ H Q => ta σ H fun x H1 => tb σ H1 fun y H2 => ((∃ ns xs, insAt H2 x = some (cn, ns, xs)) ∧ rightD H2 cn y ∧ 2 = n ∧ c [x, y] H2 (fun d H3 => ∃ b, d = .bl b ∧ Q b H3) (fun _ _ _ => False)) ∨
      (rightB x = true ∧ (∃ ns xs, insAt H2 y = some (cn, ns, xs)) ∧ (∃ fs, ob cn = some fs) ∧ 2 = n ∧ c [y, x] H2 (fun d H3 => ∃ b, d = .bl b ∧ Q b H3) (fun _ _ _ => False))) := by
  obtain ⟨C', f, fd, ps, k, hl, hc, cl, M, hb, F, hr'⟩ := hF
  have hr := hr'.mono (Nat.le_succ k)
  refine PT.weak (pt_cmpR (op_both hob hc M hb F hr) ha hb2 hmk) fun σ H Q => ?_
  rintro ⟨σd, Hm, Qd, s, q, k⟩
  refine Lf.seq s q fun x H1 dx Hm1 n1 s1 ix q => ?_
  refine Lf.seq s1 q fun y H2 dy Hm2 n2 s2 iy q => ?_
  have ix2 := Is.nt s1.rep n2 dx _ ix
  exact ocmp_is (ob := ob) hc s2.rep ix2 iy (fun v H' d Hm' n' r' i' q' => by
    obtain ⟨b, rfl, q'⟩ := q'
    exact ⟨⟨b, i'.bl⟩, b, i'.bl, k b H' Hm' ((n1.trans n2).trans n') r' q'⟩) q
theorem DE.weak {e : Expr} {T T' : TD} (h : DE C e T) (k : ∀ σ H Q, T' σ H Q → T σ H Q) : DE C e T' := PE.weak h fun σ H Q ⟨σd, Hm, Qd, s, q, kk⟩ => ⟨σd, Hm, Qd, s, k _ _ _ q, kk⟩
theorem DC.weak {e : Expr} {T T' : TCd} (h : DC C e T) (k : ∀ σ H Q, T' σ H Q → T σ H Q) : DC C e T' := PT.weak h fun σ H Q ⟨σd, Hm, Qd, s, q, kk⟩ => ⟨σd, Hm, Qd, s, k _ _ _ q, kk⟩
/-- own |, &, -, * -/
theorem de_obin (ok : C.Ok) {o : Operator} {n : Nat} {c : Ctr} {ob : Str → Option (List Str)} (hob : ∀ nm fs, ob nm = some fs → ObF C.X.K nm fs) (hF : HasM C.X cn (PySem.dunder o.info.2) n c) (ha : DE C a ta) (hb2 : DE C b tb) :
    DE C (.BinOp a o b pos) (fun σ H Q => ta σ H fun x H1 => tb σ H1 fun y H2 => (∃ ns xs, insAt H2 x = some (cn, ns, xs)) ∧ (∃ ns xs, insAt H2 y = some (cn, ns, xs)) ∧ (∃ fs, ob cn = some fs) ∧ 2 = n ∧ c [x, y] H2 (fun d H3 => (∃ p, d = .ref p) ∧ Q d H3) (C.Ed σ)) := by
  obtain ⟨C', f, fd, ps, k, hl, hc, cl, M, hb, F, hr'⟩ := hF
  have hr := hr'.mono (Nat.le_succ k)
  refine PE.weak (pe_ownBinS M F hr hb (fun σ => passAt ok.tk σ) ha hb2) fun σ H Q => ?_
  rintro ⟨σd, Hm, Qd, s, q, k⟩
  refine Lf.seq s q fun x H1 dx Hm1 n1 s1 ix q => ?_
  refine Lf.seq s1 q fun y H2 dy Hm2 n2 s2 iy q => ?_
  obtain ⟨⟨ns, xs, h1⟩, ⟨ns', xs', h2⟩, ⟨fs, hfs⟩, hn, q⟩ := q
  obtain ⟨C5, c5, _, _, hs, _⟩ := hob _ _ hfs
  have := nsIn_inj hc c5
  subst this
  have ix2 := Is.nt s1.rep n2 dx _ ix
  obtain ⟨bb, dx', gs, rfl, ⟨C2, c2, hb2⟩, l, tt⟩ := ins_of s2.rep ix2 h1
  have := nsIn_inj hc c2
  subst this
  obtain ⟨be, dx2, gs2, rfl, ⟨C3, c3, hb3⟩, _, _⟩ := ins_of s2.rep iy h2
  have := nsIn_inj hc c3
  subst this
  refine ⟨hs, ⟨bb, dx', gs, rfl, hb2⟩, ⟨be, dx2, gs2, rfl, hb3⟩, ?_⟩
  refine ⟨C.Z, [dx, dy], Hm2, _, C.Ed σd, by exact hn, s2.rep, .cons ix2 (.cons iy .nil), q, fun v H' d Hm' n' r' i' q' => ?_, fun nm cls a fo H' Hm' n' r' c' x' h => ok.w σ H' σd Hm' nm cls a fo (s2.nxt n' r') c' x' h⟩
  obtain ⟨⟨p, rfl⟩, q'⟩ := q'
  exact ⟨⟨p, i'.ref⟩, (k.cut n1).cut n2 v H' (.ref p) Hm' n' r' i' q'⟩
theorem de_ch3 (ok : C.Ok) {o o' o2 : CmpOp} {c e : Expr} {tc te : TD} (ha : DE C a ta) (hb : DE C b tb) (hc : DE C c tc) (he : DE C e te) (hm : lastMarks [o, o', o2] [b, c, e] = false) :
    DE C (.Compare a [o, o', o2] [b, c, e] pos) (fun σ H Q => ta σ H fun x H1 => tb σ H1 fun y H2 => ∃ c1, cmpD o x y H2 = some c1 ∧
      br c1 (tc σ H2 fun z H3 => ∃ c2, cmpD o' y z H3 = some c2 ∧ br c2 (te σ H3 fun w H4 => ∃ c3, cmpD o2 z w H4 = some c3 ∧ Q (.bl c3) H4) (Q (.bl false) H3)) (Q (.bl false) H2)) :=
  PE.weak (pe_chain3 (op_cmpD ok.x o) (op_cmpD ok.x o') (op_cmpD ok.x o2) ha hb hc he hm) fun σ H Q => by
    rintro ⟨σd, Hm, Qd, s, q, k⟩
    refine Lf.seq s q fun x H1 dx Hm1 n1 s1 ix q => ?_
    refine Lf.seq s1 q fun y H2 dy Hm2 n2 s2 iy q => ?_
    obtain ⟨c1, hc1, q⟩ := q
    refine ⟨C.Z, dx, dy, Hm2, fun z Hz => z = .bl c1 ∧ Hz = Hm2, s2.rep, Is.nt s1.rep n2 dx x ix, iy, ⟨c1, hc1, rfl, rfl⟩, fun v H3 d Hm3 n3 r3 i z => ?_⟩
    obtain ⟨rfl, rfl⟩ := z
    have s3 := s2.nxt n3 r3
    refine ⟨c1, i.bl, ?_⟩
    cases c1 with
    | false => exact (((k.cut n1).cut n2).cut n3).here s3.rep is_bl q
    | true =>
      refine Lf.seq s3 q fun z H4 dz Hm4 n4 s4 iz q => ?_
      obtain ⟨c2, hc2, q⟩ := q
      have iy4 := Is.nt s3.rep n4 dy y (Is.nt s2.rep n3 dy y iy)
      refine ⟨C.Z, dy, dz, Hm4, fun z Hz => z = .bl c2 ∧ Hz = Hm4, s4.rep, iy4, iz, ⟨c2, hc2, rfl, rfl⟩, fun v H5 d Hm5 n5 r5 i5 z => ?_⟩
      obtain ⟨rfl, rfl⟩ := z
      have s5 := s4.nxt n5 r5
      have nn := (n1.trans n2).trans ((n3.trans n4).trans n5)
      refine ⟨c2, i5.bl, ?_⟩
      cases c2 with
      | false => exact (k.cut nn).here s5.rep is_bl q
      | true =>
        refine Lf.seq s5 q fun w H6 dw Hm6 n6 s6 iw q => ?_
        have iz6 := Is.nt s5.rep n6 dz z (Is.nt s4.rep n5 dz z iz)
        exact ⟨C.Z, dz, dw, Hm6, Qd, s6.rep, iz6, iw, q, (k.cut nn).cut n6⟩
theorem dc_ch3 (ok : C.Ok) {o o' o2 : CmpOp} {c e : Expr} {tc te : TD} (ha : DE C a ta) (hb : DE C b tb) (hc : DE C c tc) (he : DE C e te) (hm : lastMarks [o, o', o2] [b, c, e] = false) :
    DC C (.Compare a [o, o', o2] [b, c, e] pos) (fun σ H Q => ta σ H fun x H1 => tb σ H1 fun y H2 => ∃ c1, cmpD o x y H2 = some c1 ∧
      br c1 (tc σ H2 fun z H3 => ∃ c2, cmpD o' y z H3 = some c2 ∧ br c2 (te σ H3 fun w H4 => ∃ c3, cmpD o2 z w H4 = some c3 ∧ Q c3 H4) (Q false H3)) (Q false H2)) :=
  PT.weak (pt_chain3 (op_cmpD ok.x o) (op_cmpD ok.x o') (op_cmpD ok.x o2) ha hb hc he hm) fun σ H Q => by
    rintro ⟨σd, Hm, Qd, s, q, k⟩
    refine Lf.seq s q fun x H1 dx Hm1 n1 s1 ix q => ?_
    refine Lf.seq s1 q fun y H2 dy Hm2 n2 s2 iy q => ?_
    obtain ⟨c1, hc1, q⟩ := q
    refine ⟨C.Z, dx, dy, Hm2, fun z Hz => z = .bl c1 ∧ Hz = Hm2, s2.rep, Is.nt s1.rep n2 dx x ix, iy, ⟨c1, hc1, rfl, rfl⟩, fun v H3 d Hm3 n3 r3 i z => ?_⟩
    obtain ⟨rfl, rfl⟩ := z
    have s3 := s2.nxt n3 r3
    refine ⟨c1, i.bl, ?_⟩
    cases c1 with
    | false => exact ⟨false, rfl, k false H3 _ ((n1.trans n2).trans n3) r3 q⟩
    | true =>
      refine Lf.seq s3 q fun z H4 dz Hm4 n4 s4 iz q => ?_
      obtain ⟨c2, hc2, q⟩ := q
      have iy4 := Is.nt s3.rep n4 dy y (Is.nt s2.rep n3 dy y iy)
      refine ⟨C.Z, dy, dz, Hm4, fun z Hz => z = .bl c2 ∧ Hz = Hm4, s4.rep, iy4, iz, ⟨c2, hc2, rfl, rfl⟩, fun v H5 d Hm5 n5 r5 i5 z => ?_⟩
      obtain ⟨rfl, rfl⟩ := z
      have s5 := s4.nxt n5 r5
      have nn := (n1.trans n2).trans ((n3.trans n4).trans n5)
      refine ⟨c2, i5.bl, ?_⟩
      cases c2 with
      | false => exact ⟨false, rfl, k false H5 _ nn r5 q⟩
      | true =>
        refine Lf.seq s5 q fun w H6 dw Hm6 n6 s6 iw q => ?_
        have iz6 := Is.nt s5.rep n6 dz z (Is.nt s4.rep n5 dz z iz)
        obtain ⟨c3, hc3, q⟩ := q
        refine ⟨C.Z, dz, dw, Hm6, fun z Hz => z = .bl c3 ∧ Qd c3 Hz, s6.rep, iz6, iw, ⟨c3, hc3, rfl, q⟩, fun v H' d Hm' n r i z => ?_⟩
        obtain ⟨rfl, z⟩ := z
        exact ⟨c3, i.bl, k c3 H' Hm' ((nn.trans n6).trans n) r z⟩
end
end DL

set_option maxHeartbeats 1000000
/-! comprehensions of two clauses -/
namespace DL
open PySem PySem.Spec PyProof.Rows L2
section
variable {C : Co} {elt tg iter tg1 iter1 : Expr} {ifs ifs1 : List Expr} {scope : Scope} {own : List (Str × Nat)} {pos : Pos} {ti ti1 : TId} {ts ts1 vs1 : List Nat} {t t1 : TGd} {tc tc1 : TCd} {te : TD} {m : Bool}
/-- the second clause's turns -/
def in2 (ti1 : TId) (t1 : TGd) (tc1 : TCd) (te : TD) (vs1 : List Nat) (B : Nat) : En → MH → (List D → MH → Prop) → Prop := fun σ H Q => ti1 σ H fun xs keep H1 => xs.length ≤ B ∧
  lcL (fun x H Q => t1 x (wipeD σ vs1) H fun σ1 H1 => tc1 σ1 H1 fun b H2 => br b (te σ1 H2 fun y H3 => Q (some y) H3) (Q none H2)) keep xs H1 Q
def lcT2 (ti : TId) (t : TGd) (tc : TCd) (ti1 : TId) (t1 : TGd) (tc1 : TCd) (te : TD) (own vs1 : List Nat) (m : Bool) : TD := fun σ H Q => ti σ H fun xs keep H1 => ∃ B : Nat, xs.length * B ≤ sizeLine ∧
  lcM (fun x H Q => t x (wipeD σ own) H fun σ1 H1 => tc σ1 H1 fun b H2 => br b (in2 ti1 t1 tc1 te vs1 B σ1 H2 Q) (Q [] H2)) keep xs H1 fun ys H2 => freshL m ys H2 Q
theorem lc2_read (hts : ∀ i ∈ ts, i ∈ own.map (·.2)) (hts1 : ∀ i ∈ ts1, i ∈ vs1) {σ : L2.St} {H : Hp} {Q : VK} (h : Lf C (lcT2 ti t tc ti1 t1 tc1 te (own.map (·.2)) vs1 m) σ H Q) :
    tLc2 (LfI C ti) (fun v σ H Q => ∃ Z M0 H0, LfG ⟨C.X, Z, M0, H0, fun _ _ _ _ => False, fun _ _ _ _ => False⟩ ts t v σ H Q) (fun σ H Q => ∃ Z M0 H0, LfC ⟨C.X, Z, M0, H0, fun _ _ _ _ => False, fun _ _ _ _ => False⟩ tc σ H Q)
      (fun σ H Q => ∃ Z M0 H0, LfI ⟨C.X, Z, M0, H0, fun _ _ _ _ => False, fun _ _ _ _ => False⟩ ti1 σ H Q)
      (fun v σ H Q => ∃ Z M0 H0, LfG ⟨C.X, Z, M0, H0, fun _ _ _ _ => False, fun _ _ _ _ => False⟩ ts1 t1 v σ H Q) (fun σ H Q => ∃ Z M0 H0, LfC ⟨C.X, Z, M0, H0, fun _ _ _ _ => False, fun _ _ _ _ => False⟩ tc1 σ H Q)
      (fun σ H Q => ∃ Z M0 H0, Lf ⟨C.X, Z, M0, H0, fun _ _ _ _ => False, fun _ _ _ _ => False⟩ te σ H Q) (own.map (·.2)) vs1 σ H Q := by
  obtain ⟨σd, Hm, Qd, s, q, k⟩ := h
  refine ⟨σd, Hm, _, s, q, fun J H1 ds keep Hm1 n1 r1 J0 q D0 hD => ?_⟩
  have s1 := s.nxt n1 r1
  obtain ⟨B, hsz, q⟩ := q
  have J1 := J0 (hidZ C.Z D0) fun a z => z.imp id fun e => by rw [e]; exact hD
  have hzD : hidZ C.Z D0 D0 := .inr rfl
  have nzD : ¬ C.Z D0 := fun z => by
    obtain ⟨u, e, _⟩ := r1.hid D0 z
    rw [hD] at e; cases e
  have n0 : NT Hm1 H1 Hm1 (upd H1 D0 (.lst [])) := ext_nt hD
  have r0 : Rep ⟨C.X.K, hidZ C.Z D0⟩ (upd H1 D0 (.lst [])) Hm1 := rep_new hD r1
  have e0 : EnvIs ⟨C.X.K, hidZ C.Z D0⟩ (upd H1 D0 (.lst [])) Hm1 (wipeD σd (own.map (·.2))) (wipe σ (own.map (·.2))) := by
    have e1 := s1.env.wiped (own.map (·.2))
    exact ⟨e1.len, fun i d q => let ⟨v, a, b⟩ := e1.get i d q; ⟨v, a, (is_new hD r1).1 d v b⟩⟩
  let step : D → MH → (List D → MH → Prop) → Prop := fun x H Q => t x (wipeD σd (own.map (·.2))) H fun σ1 H1 => tc σ1 H1 fun b H2 => br b (in2 ti1 t1 tc1 te vs1 B σ1 H2 Q) (Q [] H2)
  let Inv' : Nat → Hp → Prop := fun i H => ∃ Hm accd accv, H D0 = some (.lst accv) ∧ Hm D0 = none ∧ EnvIs ⟨C.X.K, hidZ C.Z D0⟩ H Hm (wipeD σd (own.map (·.2))) (wipe σ (own.map (·.2))) ∧ Rep ⟨C.X.K, hidZ C.Z D0⟩ H Hm ∧ NT Hm1 H1 Hm H ∧
    Iss ⟨C.X.K, hidZ C.Z D0⟩ H Hm accd accv ∧ accv.length ≤ i * B ∧ lcM step keep (ds.drop i) Hm fun ys H2 => freshL m (accd ++ ys) H2 Qd
  refine ⟨fun i m H => m = ds.length - i ∧ i ≤ ds.length ∧ Inv' i H, ⟨ds.length, rfl, Nat.zero_le _, Hm1, [], [], upd_same, r1.free hD, e0, r0, n0, .nil, Nat.zero_le _, q⟩, ?_⟩
  rintro i m' H2 ⟨rfl, hi, Hm2, accd, accv, hA, hN, e2, r2, n2, t2, hl, q⟩
  by_cases hlt : i < ds.length
  · have e1 : ds.drop i = ds[i] :: ds.drop (i + 1) := List.drop_eq_getElem_cons hlt
    rw [e1] at q
    obtain ⟨kp, q⟩ := q
    have g : ds[i]? = some ds[i] := List.getElem?_eq_getElem hlt
    have hB1 : (i + 1) * B ≤ sizeLine := Nat.le_trans (Nat.mul_le_mul_right B hlt) hsz
    have hBs : (i + 1) * B = i * B + B := Nat.succ_mul i B
    refine .inr ⟨J1.go Hm2 H2 i _ (NT.z n2) r2 kp g, Inv' (i + 1), fun H' z => ⟨ds.length - (i + 1), by omega, rfl, hlt, z⟩, fun x H3 y => ?_⟩
    obtain ⟨n3, r3, ix⟩ := J1.yld Hm2 H2 i _ x H3 (NT.z n2) r2 kp g y
    have hA3 := n3 D0 _ hA hN
    have env3 : EnvIs ⟨C.X.K, hidZ C.Z D0⟩ H3 Hm2 (wipeD σd (own.map (·.2))) (wipe σ (own.map (·.2))) := e2.nt r2 n3
    refine ⟨hidZ C.Z D0, Hm2, H3, ds[i], wipeD σd (own.map (·.2)), Hm2, _, ix, ⟨env3, r3, .refl⟩, q, fun σ4 H4 σd4 Hm4 n4 s4 out q => ?_⟩
    refine ⟨out.wiped hts, hidZ C.Z D0, Hm2, H3, σd4, Hm4, _, s4, q, fun b H5 Hm5 n5 r5 q => ?_⟩
    have s5 := s4.nxt n5 r5
    have nn := n4.trans n5
    have hA5 := nn D0 _ hA3.1 hA3.2
    have i5 := Iss.nt r3 nn _ _ (Iss.nt r2 n3 _ _ t2)
    cases b with
    | false =>
      have q : lcM step keep (ds.drop (i + 1)) Hm5 fun ys H2 => freshL m (accd ++ ([] ++ ys)) H2 Qd := q
      exact ⟨Hm5, accd, accv, hA5.1, hA5.2, env3.nt r3 nn, r5, (n2.trans n3).trans nn, i5, by omega, by simpa only [List.nil_append] using q⟩
    | true =>
      refine ⟨hidZ C.Z D0, Hm2, H3, σd4, Hm5, _, s5, q, fun J1' H6 ds1 keep1 Hm6 n6 r6 J0' q => ?_⟩
      have J2 := J0' (hidZ C.Z D0) fun a z => .inl z
      have s6 := s5.nxt n6 r6
      obtain ⟨hsz1, q⟩ := q
      have nn6 := nn.trans n6
      have hA6 := nn6 D0 _ hA3.1 hA3.2
      have i6 := Iss.nt r3 nn6 _ _ (Iss.nt r2 n3 _ _ t2)
      have env6 := env3.nt r3 nn6
      let step1 : D → MH → (Option D → MH → Prop) → Prop := fun x H Q => t1 x (wipeD σd4 vs1) H fun σ1 H1 => tc1 σ1 H1 fun b H2 => br b (te σ1 H2 fun y H3 => Q (some y) H3) (Q none H2)
      let Inv1 : Nat → Hp → Prop := fun j H => ∃ Hm zd accv', H D0 = some (.lst accv') ∧ Hm D0 = none ∧ EnvIs ⟨C.X.K, hidZ C.Z D0⟩ H Hm (wipeD σd (own.map (·.2))) (wipe σ (own.map (·.2))) ∧ EnvIs ⟨C.X.K, hidZ C.Z D0⟩ H Hm (wipeD σd4 vs1) (wipe σ4 vs1) ∧
        Rep ⟨C.X.K, hidZ C.Z D0⟩ H Hm ∧ NT Hm1 H1 Hm H ∧ NTz (hidZ C.Z D0) Hm6 H6 Hm H ∧ Iss ⟨C.X.K, hidZ C.Z D0⟩ H Hm (accd ++ zd) accv' ∧ accv'.length ≤ i * B + j ∧
        lcL step1 keep1 (ds1.drop j) Hm fun ys H2 => lcM step keep (ds.drop (i + 1)) H2 fun ws H3 => freshL m (accd ++ ((zd ++ ys) ++ ws)) H3 Qd
      refine ⟨fun j k H => k = ds1.length - j ∧ j ≤ ds1.length ∧ Inv1 j H, ⟨ds1.length, rfl, Nat.zero_le _, Hm6, [], accv, hA6.1, hA6.2, env6, s6.env.wiped vs1, r6, (n2.trans n3).trans nn6, NT.z .refl, by rw [List.append_nil]; exact i6, by omega, by rw [List.drop_zero]; exact q⟩, ?_⟩
      rintro j k' H7 ⟨rfl, hj, Hm7, zd, accv7, hA7, hN7, ea7, eb7, r7, nt7, nz7, t7, hl7, q⟩
      by_cases hlj : j < ds1.length
      · have e1 : ds1.drop j = ds1[j] :: ds1.drop (j + 1) := List.drop_eq_getElem_cons hlj
        rw [e1] at q
        obtain ⟨kp1, q⟩ := q
        have g1 : ds1[j]? = some ds1[j] := List.getElem?_eq_getElem hlj
        refine .inr ⟨J2.go Hm7 H7 j _ nz7 r7 kp1 g1, Inv1 (j + 1), fun H' z => ⟨ds1.length - (j + 1), by omega, rfl, hlj, z⟩, fun x' H8 y' => ?_⟩
        obtain ⟨n8, r8, ix8⟩ := J2.yld Hm7 H7 j _ x' H8 nz7 r7 kp1 g1 y'
        have hA8 := n8 D0 _ hA7 hN7
        have ea8 := ea7.nt r7 n8
        have eb8 := eb7.nt r7 n8
        refine ⟨hidZ C.Z D0, Hm7, H8, ds1[j], wipeD σd4 vs1, Hm7, _, ix8, ⟨eb8, r8, .refl⟩, q, fun σ9 H9 σd9 Hm9 n9 s9 out9 q => ?_⟩
        refine ⟨out9.wiped hts1, hidZ C.Z D0, Hm7, H8, σd9, Hm9, _, s9, q, fun b H10 Hm10 n10 r10 q => ?_⟩
        have s10 := s9.nxt n10 r10
        have mm := n9.trans n10
        have hA10 := mm D0 _ hA8.1 hA8.2
        have i10 := Iss.nt r8 mm _ _ (Iss.nt r7 n8 _ _ t7)
        have z10 : NTz (hidZ C.Z D0) Hm6 H6 Hm10 H10 := fun a o e z => by
          rcases nz7 a o e z with w | w
          · exact .inl ((n8.trans mm) a o w.1 w.2)
          · exact .inr w
        cases b with
        | false => exact ⟨Hm10, zd, accv7, hA10.1, hA10.2, ea8.nt r8 mm, eb8.nt r8 mm, r10, (nt7.trans n8).trans mm, z10, i10, by omega, q⟩
        | true =>
          refine ⟨hidZ C.Z D0, Hm7, H8, σd9, Hm10, _, s10, q, fun y H11 dy Hm11 n11 r11 iy q => ?_⟩
          have mm11 := mm.trans n11
          have hA11 := mm11 D0 _ hA8.1 hA8.2
          refine ⟨accv7, hA11.1, by omega, Hm11, zd ++ [dy], accv7 ++ [y], upd_same, hA11.2, (ea8.nt r8 mm11).hw hzD hA11.1, (eb8.nt r8 mm11).hw hzD hA11.1, r11.hw hzD hA11.1, ?_, ?_, ?_, by rw [List.length_append]; simp; omega, ?_⟩
          · refine fun a u e z => ?_
            obtain ⟨e', z'⟩ := ((nt7.trans n8).trans mm11) a u e z
            exact ⟨by rw [upd_ne (ne_of_none e hD)]; exact e', z'⟩
          · refine fun a u e z => ?_
            by_cases ha : a = D0
            · subst ha
              rw [hA6.1] at e
              cases e
              exact .inr ⟨hzD, _, rfl⟩
            · rcases nz7 a u e z with w | w
              · obtain ⟨e', z'⟩ := (n8.trans mm11) a u w.1 w.2
                exact .inl ⟨by rw [upd_ne ha]; exact e', z'⟩
              · exact .inr w
          · have t := ((Iss.nt r8 mm11 _ _ (Iss.nt r7 n8 _ _ t7)).append (.cons iy .nil)).hw (o := .lst (accv7 ++ [y])) hzD hA11.1
            simpa only [List.append_assoc] using t
          · simp only [List.append_assoc, List.singleton_append] at q ⊢
            exact q
      · have e1 : ds1.drop j = [] := List.drop_eq_nil_of_le (by omega)
        rw [e1] at q
        obtain ⟨kp1, q⟩ := q
        refine .inl ⟨J2.stop Hm7 H7 j nz7 r7 kp1 (by omega), Hm7, accd ++ zd, accv7, hA7, hN7, ea7, r7, nt7, t7, by omega, ?_⟩
        simp only [List.append_nil, List.append_assoc] at q ⊢
        exact q
  · have e1 : ds.drop i = [] := List.drop_eq_nil_of_le (by omega)
    rw [e1] at q
    obtain ⟨kp, q⟩ := q
    have q : freshL m (accd ++ []) Hm2 Qd := q
    rw [List.append_nil] at q
    refine .inl ⟨J1.stop Hm2 H2 i (NT.z n2) r2 kp (by omega), ?_⟩
    obtain ⟨_, q⟩ := q
    cases m with
    | true =>
      have q : ∀ p, Hm2 p = none → Qd (.ref p) (updM Hm2 p (.lst accd)) := q
      refine k _ H2 (.ref D0) (updM Hm2 D0 (.lst accd)) (fun a u e z => ?_) (rep_tracked r2 nzD hA t2) is_ref (q D0 hN)
      obtain ⟨e3, z3⟩ := n1 a u e z
      obtain ⟨e4, z4⟩ := n2 a u e3 z3
      exact ⟨e4, by rw [updM_ne (ne_of_none e3 hD)]; exact z4⟩
    | false =>
      have q : Qd (.rol accd) Hm2 := q
      exact k _ H2 (.rol accd) Hm2 (n1.trans n2) (rep_shown r2) (by unfold Is; exact ⟨D0, accv, rfl, .inl ⟨.inl hA, hN, nzD⟩, iss_shown t2⟩) q
theorem de_lc2 (ok : C.Ok) (hcl : C.X.calm = true) (hi : DI C tg iter ti) (blk : BlkOk C.X.N C.X.env.scope scope own) (hts : ∀ i ∈ ts, i ∈ own.map (·.2)) (hts1 : ∀ i ∈ ts1, i ∈ vs1) (hv : ∀ i ∈ vs1, i ∈ own.map (·.2))
    (hg : ∀ s H Ca cl fp Z M0 H0, DG (inBlk C.X s H scope Ca cl fp Z M0 H0) ts tg t) (ht : ∀ s H Ca cl fp Z M0 H0, DCs (inBlk C.X s H scope Ca cl fp Z M0 H0) ifs tc)
    (hi1 : ∀ s H Ca cl fp Z M0 H0, DI (inBlk C.X s H scope Ca cl fp Z M0 H0) tg1 iter1 ti1)
    (hg1 : ∀ s H Ca cl fp Z M0 H0, DG (inBlk C.X s H scope Ca cl fp Z M0 H0) ts1 tg1 t1) (ht1 : ∀ s H Ca cl fp Z M0 H0, DCs (inBlk C.X s H scope Ca cl fp Z M0 H0) ifs1 tc1)
    (he : ∀ s H Ca cl fp Z M0 H0, DE (inBlk C.X s H scope Ca cl fp Z M0 H0) elt te) (hs : ∀ x, foldedSetIterable iter C.X.env x = pure x) (hs1 : ∀ env x, foldedSetIterable iter1 env x = pure x) :
    DE C (.ListComp elt [⟨tg, iter, ifs, 0⟩, ⟨tg1, iter1, ifs1, 0⟩] scope pos) (lcT2 ti t tc ti1 t1 tc1 te (own.map (·.2)) vs1 m) :=
  PE.weak (pe_lc2 (own := own) (vs1 := vs1) (g := fun v σ H Q => ∃ Z M0 H0, LfG ⟨C.X, Z, M0, H0, fun _ _ _ _ => False, fun _ _ _ _ => False⟩ ts t v σ H Q) (tt := fun σ H Q => ∃ Z M0 H0, LfC ⟨C.X, Z, M0, H0, fun _ _ _ _ => False, fun _ _ _ _ => False⟩ tc σ H Q)
      (wi1 := fun σ H Q => ∃ Z M0 H0, LfI ⟨C.X, Z, M0, H0, fun _ _ _ _ => False, fun _ _ _ _ => False⟩ ti1 σ H Q)
      (g1 := fun v σ H Q => ∃ Z M0 H0, LfG ⟨C.X, Z, M0, H0, fun _ _ _ _ => False, fun _ _ _ _ => False⟩ ts1 t1 v σ H Q) (tt1 := fun σ H Q => ∃ Z M0 H0, LfC ⟨C.X, Z, M0, H0, fun _ _ _ _ => False, fun _ _ _ _ => False⟩ tc1 σ H Q)
      (te := fun σ H Q => ∃ Z M0 H0, Lf ⟨C.X, Z, M0, H0, fun _ _ _ _ => False, fun _ _ _ _ => False⟩ te σ H Q) hcl ok.x.nd hi blk hv
      (fun s H Ca cl fp => ⟨fun pins s' σ H' v u Q I r ⟨Z, M0, H0, q⟩ => (hg s H Ca cl fp Z M0 H0).run pins s' σ H' v u Q I r q⟩)
      (fun s H Ca cl fp => ⟨fun pins s' σ H' Q I ⟨Z, M0, H0, q⟩ => (ht s H Ca cl fp Z M0 H0).run pins s' σ H' Q I q⟩)
      (fun s H Ca cl fp => ⟨fun pins s' σ H' Q I ⟨Z, M0, H0, q⟩ => (hi1 s H Ca cl fp Z M0 H0).run pins s' σ H' Q I q⟩)
      (fun s H Ca cl fp => ⟨fun pins s' σ H' v u Q I r ⟨Z, M0, H0, q⟩ => (hg1 s H Ca cl fp Z M0 H0).run pins s' σ H' v u Q I r q⟩)
      (fun s H Ca cl fp => ⟨fun pins s' σ H' Q I ⟨Z, M0, H0, q⟩ => (ht1 s H Ca cl fp Z M0 H0).run pins s' σ H' Q I q⟩)
      (fun s H Ca cl fp => ⟨fun pins s' σ H' Q I ⟨Z, M0, H0, q⟩ => (he s H Ca cl fp Z M0 H0).run pins s' σ H' Q I q⟩) hs hs1) fun σ H Q h => lc2_read hts hts1 h
end
end DL

set_option maxHeartbeats 1000000
namespace DL
open PySem PySem.Spec PyProof.Rows L2

/-- the module's own classes: their methods, their makers, and which class a method's call is of -/
structure Om where
  M : List ((Str × Str) × (Str × Bool))
  W : List (Str × Str)
  P : List ((Nat × Nat) × Str)
  O : List ((Nat × Nat) × Str)
structure Pm where
  N : List Str
  B : List Str
  F : List Str
  mu : List (Nat × Nat)
  fz : List (Nat × Nat)
  C : List Str
  R : List (Str × Bool)
  Q : List Str
  hot : Bool
  o : Om
def Pm.m (p : Pm) (pos : Pos) : Bool := p.mu.contains (pos.line, pos.col)
def Pm.z (p : Pm) (pos : Pos) : Bool := p.fz.contains (pos.line, pos.col)
def vOr (b : Bool) (i : Nat) : E := match b with
  | true => .vf i
  | false => .v i
def slot (N : List Str) (x : Str) : Option Nat := if N[N.idxOf x]? = some x then some (N.idxOf x) else none
def visOk (sc : Scope) (x : Str) : Bool := match sc.names.lookup x with
  | some .local => true | some .cell => true | some .free => true | _ => false
def locOk (blk : Bool) (sc : Scope) (x : Str) : Bool := match sc.names.lookup x with
  | some .local => true | some .cell => !blk | _ => false
def glOk (sc : Scope) (x : Str) : Bool := match sc.names.lookup x with
  | some .globalImplicit => true | _ => false
def plainN (x : Str) : Bool := !(x == ("__debug__" : Str)) && !(x == ("__classdict__" : Str)) && !(x == ("__name__" : Str))
def biTab : List (Str × Bi) := [("len", .len), ("min", .min), ("max", .max), ("abs", .abs), ("int", .int), ("bool", .bool), ("str", .str), ("sorted", .sorted), ("list", .list), ("tuple", .tuple), ("sum", .sum), ("isinstance", .isi), ("all", .all), ("any", .any), ("gcd", .gcd)]
def tyTab : List (Str × String) := [("int", "int"), ("bool", "bool"), ("str", "str"), ("tuple", "tuple"), ("list", "list"), ("dict", "dict")]
def mtTab : List (Str × Mt) := [("append", .append), ("pop", .pop), ("upper", .upper), ("insert", .insert), ("extend", .extend), ("rstrip", .rstrip), ("join", .join), ("reverse", .reverse)]
def starred : Expr → Bool
  | .Starred .. => true | _ => false
def isComp : Expr → Bool
  | .ListComp .. => true | .SetComp .. => true | .DictComp .. => true | _ => false
def isSet : Expr → Bool
  | .Set .. => true | _ => false
def isSlice : Expr → Bool
  | .Slice .. => true | _ => false
def isAttr : Expr → Bool
  | .Attribute .. => true | _ => false
def isCall0 : Expr → Bool
  | .Call (.Name _ _) [] [] _ => true | _ => false
def ownOf (N : List Str) : Expr → List (Str × Nat)
  | .Name x _ => [(x, N.idxOf x)]
  | .Tuple es _ _ => es.flatMap fun
    | .Name x _ => [(x, N.idxOf x)]
    | .Tuple fs _ _ => fs.flatMap fun
      | .Name x _ => [(x, N.idxOf x)]
      | _ => []
    | _ => []
  | _ => []
/-- list(reversed(a)) -/
def revArg (p : Pm) (sc : Scope) (x : Str) (es : List Expr) : Option Expr := match es with
  | [.Call (.Name y _) [a] [] _] => if x == ("list" : Str) && y == ("reversed" : Str) && glOk sc y && p.B.contains y && !starred a then some a else none
  | _ => none
def keyInts : List (Option Expr) → Option (List Key)
  | [] => some []
  | some (.Constant (.int i) _ _) :: r => (keyInts r).map (.inl i :: ·)
  | some (.Constant (.str i) _ _) :: r => (keyInts r).map (.inr i :: ·)
  | _ => none
def isTup : Expr → Bool
  | .Tuple .. => true | _ => false
def revOr (o : Option Expr) (f : Expr → Option E) (g : Option E) : Option E := match o with
  | some a => f a
  | none => g
/-- names of classes -/
def namesOf (p : Pm) (sc : Scope) : List Expr → Option (List Str)
  | [] => some []
  | .Name c _ :: r => if plainN c && glOk sc c && p.C.contains c then (namesOf p sc r).map (c :: ·) else none
  | _ => none
/-- isinstance(a, c), isinstance(a, (c, ..)) of classes of errors -/
def isxArg (p : Pm) (sc : Scope) (x : Str) (es : List Expr) : Option (Expr × List Str) := match es with
  | [a, b] => if x == ("isinstance" : Str) && !starred a then
      match b with
      | .Name c _ => if plainN c && glOk sc c && p.C.contains c then some (a, [c]) else none
      | .Tuple fs _ _ => (namesOf p sc fs).bind fun cs => if decide (cs.length ≤ 100) && decide (cs.length ≠ 1) then some (a, cs) else none
      | _ => none
    else none
  | _ => none
/-- bool(a) of an own instance -/
def boolK (p : Pm) (x : Str) (es : List Expr) (pos : Pos) : Option (Expr × Str × Str) := match es with
  | [e] => if x == ("bool" : Str) && !p.hot && !starred e then (p.o.P.lookup (pos.line, pos.col)).bind fun cn => (match p.o.M.lookup (cn, ("__bool__" : Str)) with
    | some (q, false) => some (e, cn, q)
    | _ => none) else none
  | _ => none
def boolOr (o : Option (Expr × Str × Str)) (f : Expr → Str → Str → Option E) (g : Option E) : Option E := match o with
  | some z => f z.1 z.2.1 z.2.2
  | none => g
def isxOr (o : Option (Expr × List Str)) (f : Expr → List Str → Option E) (g : Option E) : Option E := match o with
  | some (a, cs) => f a cs
  | none => g
def methOr (o : Option Str) (f : Str → Option E) (g : Option E) : Option E := match o with
  | some cn => f cn
  | none => g
/-- C.m(..) of a static method -/
def statK (p : Pm) (sc : Scope) (a : Expr) (x : Str) : Option Str := match a with
  | .Name cn _ => if p.hot || !plainN cn || !glOk sc cn then none else (match p.o.M.lookup (cn, x) with
    | some (q, true) => some q
    | _ => none)
  | _ => none
def callOr (o : Option (Str × Bool)) (f : Str × Bool → Option E) (g : Option E) : Option E := match o with
  | some q => f q
  | none => g
def statOr (o : Option Str) (f : Str → Option E) (g : Option E) : Option E := match o with
  | some q => f q
  | none => g
/-- a dict that a comprehension runs over -/
def keyK (p : Pm) (sc : Scope) (e : Expr) : Option Nat := match e with
  | .Name x pos => if p.m pos && plainN x && visOk sc x then slot p.N x else none
  | _ => none
def lcOr (k : Option Nat) (m : Bool) (e : E) (t : T) (i : It) (c : Es) (own : List Nat) : E := match k, m with
  | some j, false => .lcd e t j c own
  | _, _ => .lc m e t i c own
def isLcd : E → Bool
  | .lcd .. => true
  | .lc2 .. => true
  | _ => false
/-- own operators, by their place -/
def opK (p : Pm) (pos : Pos) : Option Str := if p.hot then none else p.o.O.lookup (pos.line, pos.col)
def eqK (p : Pm) (o : CmpOp) (pos : Pos) : Option Str := match o with
  | .Eq => opK p pos
  | _ => none
/-- by the number of clauses -/
def gsOr (gs : List Comprehension) (f : Expr → Expr → List Expr → Option E) (g : Expr → Expr → List Expr → Expr → Expr → List Expr → Option E) : Option E := match gs with
  | [⟨tg, iter, ifs, 0⟩] => f tg iter ifs
  | [⟨tg, iter, ifs, 0⟩, ⟨tg1, iter1, ifs1, 0⟩] => g tg iter ifs tg1 iter1 ifs1
  | _ => none
def fldOr (m : Bool) (x : Str) (a : E) : E := match m with
  | true => .ofld a x
  | false => .fld a x
def subOr (m : Bool) (a b : E) : T := match m with
  | true => .dsub a b
  | false => .sub a b
mutual
def compE (p : Pm) : Nat → Scope → Expr → Option E
  | 0, _, _ => none
  | n + 1, sc, e => match e with
    | .Constant (.int i) _ _ => some (.k (.int i))
    | .Constant (.bool b) _ _ => some (.k (.bl b))
    | .Constant (.str x) _ _ => some (.k (.str x))
    | .Constant .none _ _ => some (.k .non)
    | .Name x pos => if plainN x then
        if visOk sc x then (slot p.N x).map (vOr (p.z pos)) else if glOk sc x then
          if p.B.contains x then (tyTab.lookup x).map .ty else some (.g x)
        else none
      else none
    | .BinOp a o b pos => methOr (opK p pos) (fun cn => (p.o.M.lookup (cn, PySem.dunder o.info.2)).bind fun q => if q.2 then none else (compE p n sc a).bind fun a' => (compE p n sc b).map fun b' => .obin cn q.1 o a' b') ((compE p n sc a).bind fun a' => (compE p n sc b).map fun b' => .bin (p.m pos) o a' b')
    | .UnaryOp .USub a _ => (compE p n sc a).map .neg
    | .UnaryOp .Not a _ => (compE p n sc a).map .not
    | .BoolOp _ [a] _ => compE p n sc a
    | .BoolOp .And (a :: b :: r) pos => (compE p n sc a).bind fun a' => (compE p n sc (.BoolOp .And (b :: r) pos)).map fun b' => .and a' b'
    | .BoolOp .Or (a :: b :: r) pos => (compE p n sc a).bind fun a' => (compE p n sc (.BoolOp .Or (b :: r) pos)).map fun b' => .or a' b'
    | .Compare (.Tuple es _ _) [.In] [b] _ => if behindInMarks .In b then none else (compEs p n sc es).bind fun es' => (compE p n sc b).map fun b' => .dinT false es' b'
    | .Compare (.Tuple es _ _) [.NotIn] [b] _ => if behindInMarks .NotIn b then none else (compEs p n sc es).bind fun es' => (compE p n sc b).map fun b' => .dinT true es' b'
    | .Compare a [o] [b] pos => if behindInMarks o b then none else methOr (eqK p o pos) (fun cn => (p.o.M.lookup (cn, ("__eq__" : Str))).bind fun q => if q.2 then none else (compE p n sc a).bind fun a' => (compE p n sc b).map fun b' => .ocmp cn q.1 a' b') ((compE p n sc a).bind fun a' => (compE p n sc b).map fun b' => .cmp o a' b')
    | .Compare a [o, o'] [b, c] _ => if lastMarks [o, o'] [b, c] then none else (compE p n sc a).bind fun a' => (compE p n sc b).bind fun b' => (compE p n sc c).map fun c' => .ch a' o b' o' c'
    | .Compare a [o, o', o2] [b, c, e] _ => if lastMarks [o, o', o2] [b, c, e] then none else (compE p n sc a).bind fun a' => (compE p n sc b).bind fun b' => (compE p n sc c).bind fun c' => (compE p n sc e).map fun e' => .ch3 a' o b' o' c' o2 e'
    | .IfExp t a b _ => (compE p n sc t).bind fun t' => (compE p n sc a).bind fun a' => (compE p n sc b).map fun b' => .ite t' a' b'
    | .Tuple es _ _ => (compEs p n sc es).map .tup
    | .List es pos => (compEs p n sc es).map (.lst (p.m pos))
    | .Subscript a (.Slice lo hi none _) pos => (compE p n sc a).bind fun a' => (compO p n sc lo).bind fun l' => (compO p n sc hi).map fun h' => .sl (p.m pos) a' l' h'
    | .Subscript a (.Tuple es _ _) _ => (compE p n sc a).bind fun a' => (compEs p n sc es).map fun es' => .dixT a' es'
    | .Subscript a b _ => if isSlice b then none else (compE p n sc a).bind fun a' => (compE p n sc b).map fun b' => .ix a' b'
    | .Call (.Name x np) (e :: es) [] pos => if plainN x && glOk sc x then
        if p.B.contains x then boolOr (boolK p x (e :: es) pos) (fun a cn q => (compE p n sc a).map (.obool cn q)) (isxOr (isxArg p sc x (e :: es)) (fun a cs => (compE p n sc a).map (.isx · cs)) (revOr (revArg p sc x (e :: es)) (fun a => if p.hot then none else (compE p n sc a).map (.rvl (p.m pos))) ((biTab.lookup x).bind fun f => if p.hot && !f.cool then none else (compEs p n sc (e :: es)).map fun es' => .bi (p.m pos) f es')))
        else if p.F.contains x then (compEs p n sc (e :: es)).map fun es' => .call x es' else if p.hot then none else (p.o.W.lookup x).bind fun q => (compEs p n sc (e :: es)).map fun es' => .new x q es'
      else if p.hot then none else (p.o.P.lookup (pos.line, pos.col)).bind fun cn => callOr (p.o.M.lookup (cn, ("__call__" : Str))) (fun q => if q.2 then none else (compE p n sc (.Name x np)).bind fun a' => (compEs p n sc (e :: es)).map fun es' => .icall cn q.1 a' es')
        ((p.o.W.lookup cn).bind fun q => (compE p n sc (.Name x np)).bind fun a' => (compEs p n sc (e :: es)).map fun es' => .newc cn q a' es')
    | .Call (.Name x _) [] [] _ => if plainN x && glOk sc x && !p.hot then (if p.F.contains x then some (.call x .nil) else (p.o.W.lookup x).map fun q => .new x q .nil) else none
    | .Call (.Attribute a x apos) [] [] pos => if isCall0 a || !(apos.endLine == pos.line) then none else
        statOr (statK p sc a x) (fun q => some (.call q .nil)) (methOr (p.o.P.lookup (pos.line, pos.col)) (fun cn => if p.hot then none else (p.o.M.lookup (cn, x)).bind fun q => if q.2 then none else (compE p n sc a).map fun a' => .omth cn x q.1 a' .nil)
          ((mtTab.lookup x).bind fun f => (compE p n sc a).map fun a' => .mth (p.m pos) a' f .nil))
    | .Call (.Attribute a x apos) (e :: es) [] pos => if isCall0 a || !(apos.endLine == pos.line) || !decide ((e :: es).length < 30) then none else
        statOr (statK p sc a x) (fun q => (compEs p n sc (e :: es)).map fun es' => .call q es') (methOr (p.o.P.lookup (pos.line, pos.col)) (fun cn => if p.hot then none else (p.o.M.lookup (cn, x)).bind fun q => if q.2 then none else (compE p n sc a).bind fun a' => (compEs p n sc (e :: es)).map fun es' => .omth cn x q.1 a' es')
        (if x == ("get" : Str) then (match e, es with
          | .Tuple ks _ _, [d] => if starred d then none else (compE p n sc a).bind fun a' => (compEs p n sc ks).bind fun k' => (compE p n sc d).map fun d' => .dgetT a' k' d'
          | k, [d] => if starred k || starred d then none else (compE p n sc a).bind fun a' => (compE p n sc k).bind fun k' => (compE p n sc d).map fun d' => .dget a' k' d'
          | _, _ => none)
        else (mtTab.lookup x).bind fun f => (compE p n sc a).bind fun a' => (compEs p n sc (e :: es)).map fun es' => .mth (p.m pos) a' f es'))
    | .ListComp elt gs scope pos => gsOr gs (fun tg iter ifs => if p.hot || isSet iter || !blkC p.N sc scope (ownOf p.N tg) then none else
        (compI p n (isTup tg) sc iter).bind fun i' => (compT p n true (relS scope sc) tg).bind fun t' => if !(t'.slots.all ((ownOf p.N tg).map (·.2)).contains) then none else
          (compCs p n (relS scope sc) ifs).bind fun c' => (compE p n (relS scope sc) elt).map fun e' => lcOr (keyK p sc iter) (p.m pos) e' t' i' c' ((ownOf p.N tg).map (·.2)))
        (fun tg iter ifs tg1 iter1 ifs1 => if p.hot || isSet iter || isSet iter1 || !blkC p.N sc scope (ownOf p.N tg ++ ownOf p.N tg1) then none else
        (compI p n (isTup tg) sc iter).bind fun i' => (compT p n true (relS scope sc) tg).bind fun t' => (compI p n (isTup tg1) (relS scope sc) iter1).bind fun i1' => (compT p n true (relS scope sc) tg1).bind fun t1' =>
          if !(t'.slots.all ((ownOf p.N tg ++ ownOf p.N tg1).map (·.2)).contains) || !(t1'.slots.all ((ownOf p.N tg1).map (·.2)).contains) then none else
          (compCs p n (relS scope sc) ifs).bind fun c' => (compCs p n (relS scope sc) ifs1).bind fun c1' => (compE p n (relS scope sc) elt).map fun e' => .lc2 (p.m pos) e' t' i' c' t1' i1' c1' ((ownOf p.N tg ++ ownOf p.N tg1).map (·.2)) ((ownOf p.N tg1).map (·.2)))
    | .Dict [] [] pos => some (.dnew (p.m pos))
    | .Attribute a x pos => if isCall0 a then none else (compE p n sc a).map (fldOr (p.m pos) x)
    | .Dict keys values _ => (keyInts keys).bind fun ks => if ks.length == values.length && !ks.isEmpty && decide (ks.length ≤ 15) then (compEs p n sc values).map (.dct ks) else none
    | _ => none
def compEs (p : Pm) : Nat → Scope → List Expr → Option Es
  | 0, _, _ => none
  | n + 1, sc, es => match es with
    | [] => some .nil
    | e :: r => if starred e then none else (compE p n sc e).bind fun e' => (compEs p n sc r).map fun r' => .cons e' r'
def compCs (p : Pm) : Nat → Scope → List Expr → Option Es
  | 0, _, _ => none
  | n + 1, sc, es => match es with
    | [] => some .nil
    | [e] => (compE p n sc e).map fun e' => .cons e' .nil
    | _ => none
def compO (p : Pm) : Nat → Scope → Option Expr → Option Oe
  | 0, _, _ => none
  | n + 1, sc, o => match o with
    | none => some .no
    | some e => (compE p n sc e).map .so
def compT (p : Pm) : Nat → Bool → Scope → Expr → Option T
  | 0, _, _, _ => none
  | n + 1, blk, sc, e => match e with
    | .Name x _ => if locOk blk sc x then (slot p.N x).map .nm else none
    | .Tuple es _ _ => if p.hot then none else (compTs p n blk sc es).map .tup
    | .Subscript a (.Tuple es _ _) _ => (compE p n sc a).bind fun a' => (compEs p n sc es).map fun es' => .dsubT a' es'
    | .Subscript a b pos => if isSlice b then none else (compE p n sc a).bind fun a' => (compE p n sc b).map fun b' => subOr (p.m pos && !isAttr a) a' b'
    | _ => none
def compTs (p : Pm) : Nat → Bool → Scope → List Expr → Option Ts
  | 0, _, _, _ => none
  | n + 1, blk, sc, es => match es with
    | [] => some .nil
    | e :: r => if starred e then none else (compT p n blk sc e).bind fun e' => (compTs p n blk sc r).map fun r' => .cons e' r'
def compI (p : Pm) : Nat → Bool → Scope → Expr → Option It
  | 0, _, _, _ => none
  | n + 1, tu, sc, e => match e with
    | .Call (.Name x _) [a] [] _ => if x == ("range" : Str) then
        if glOk sc x && p.B.contains x && !starred a then (compE p n sc a).map .rng1 else none
      else if x == ("reversed" : Str) then (match a with
        | .Call (.Name y _) [b] [] _ => if glOk sc x && p.B.contains x && y == ("range" : Str) && glOk sc y && p.B.contains y && !starred b then (compE p n sc b).map .rngR else none
        | .Name y py => if glOk sc x && p.B.contains x then (compE p n sc (.Name y py)).map .revs else none
        | _ => none)
      else if x == ("enumerate" : Str) then
        if tu && glOk sc x && p.B.contains x && !starred a then (compE p n sc a).map .enum else none
      else (compE p n sc e).map .seq
    | .Call (.Name x _) [a, b] [] _ => if x == ("range" : Str) then
        if glOk sc x && p.B.contains x && !starred a && !starred b then (compE p n sc a).bind fun a' => (compE p n sc b).map fun b' => .rng2 a' b' else none
      else if x == ("zip" : Str) then
        if tu && glOk sc x && p.B.contains x && !starred a && !starred b then (compE p n sc a).bind fun a' => (compE p n sc b).map fun b' => .zip a' b' else none
      else (compE p n sc e).map .seq
    | .Call (.Name x _) [a, b, c] [] _ => if x == ("range" : Str) then
        if glOk sc x && p.B.contains x && !starred a && !starred b && !starred c then (compE p n sc a).bind fun a' => (compE p n sc b).bind fun b' => (compE p n sc c).map fun c' => .rng3 a' b' c' else none
      else (compE p n sc e).map .seq
    | e => (compE p n sc e).map .seq
end
def parTup : List Expr → Expr → Bool
  | [.Tuple ts _ _], .Tuple _ _ _ => true | [.List _ _], .Tuple _ _ _ => true | _, _ => false
/-- x, y = a, b: stored without a tuple -/
def parC (sc : Scope) (x y : Str) (px py : Pos) (a b : Expr) : Bool := decide (sc.names.lookup x = some .local) && decide (sc.names.lookup y = some .local) && (py.line == px.line) && !(x == y) &&
  !([a, b].all (foldedForSure 8)) && !([a, b].all (constantsAlone 8))
/-- whether the list of a comprehension is stored within its frame -/
def lcUsed (sc : Scope) (tg : Expr) (e : Expr) : Option Bool := match e, tg with
  | .ListComp _ _ scope pos, .Name t tpos => some (decide (sc.names.lookup t = some .local) && (tpos.line == pos.line) && !(scope.names.any fun (n, k) => n == t && (k == .local || k == .cell)))
  | .SetComp .., _ => none | .DictComp .., _ => none
  | _, _ => some false
def raisOr (o : Option Bool) (es : List Expr) (c : Option Es) (x : Str) : Option S := match o, es with
  | some true, [_] => c.map (.rais x)
  | some false, [] => some (.rais x .nil)
  | _, _ => some .fail
/-- the slot of the handler's name -/
def nmSlot (p : Pm) (sc : Scope) : Option Str → Option (Option Nat)
  | none => some none
  | some n => match sc.names.lookup n with
    | some .local => (slot p.N n).map some
    | _ => none
mutual
def compS : Pm → Nat → Scope → Stmt → Option S
  | _, 0, _, _ => none
  | p, n + 1, sc, s => match s with
    | .Assign [.Tuple [.Name x px, .Name y py] kt pt] (.Tuple [a, b] k2 pt2) pos => if p.hot || starred a || starred b || !parC sc x y px py a b then none else
        (slot p.N x).bind fun i => (slot p.N y).bind fun j => if i == j then none else (compE p n sc a).bind fun a' => (compE p n sc b).map fun b' => .par i j a' b'
    | .Assign [.Attribute o f ap] e _ => if starred e then none else (compE p n sc e).bind fun e' => (compE p n sc o).bind fun o' => if lcUsed sc (.Attribute o f ap) e != some false then none else some (.setf o' f e')
    | .Assign [tg] e _ => if parTup [tg] e || starred tg then none else (compE p n sc e).bind fun e' => (compT p n false sc tg).bind fun t' => (lcUsed sc tg e).bind fun u => if u && isLcd e' then none else some (.asg t' e')
    | .Assign [t1, t2] e _ => if starred t1 || starred t2 then none else (compE p n sc e).bind fun e' => (compT p n false sc t1).bind fun t' => (compT p n false sc t2).map fun u' => .asg2 t' u' e'
    | .AugAssign (.Name x _) o e _ => if locOk false sc x then (slot p.N x).bind fun i => (compE p n sc e).map fun e' => .aug i o e' else none
    | .Expr e _ => if isComp e then none else (compE p n sc e).map .ex
    | .Return (some e) _ => (compE p n sc e).map .ret
    | .Return none _ => some .retN
    | .If c a b _ => (compE p n sc c).bind fun c' => (compSs p n sc a).bind fun a' => (compSs p n sc b).map fun b' => .cond c' a' b'
    | .For tg i b [] _ => if p.hot || isSet i then none else (compI p n (isTup tg) sc i).bind fun i' => (compT p n false sc tg).bind fun t' => (compSs p n sc b).map fun b' => .loop t' i' b'
    | .While c b [] _ => if p.hot then none else (compE p n sc c).bind fun c' => (compSs p n sc b).map fun b' => .whl c' b'
    | .Break _ => some .brk
    | .Continue _ => some .ct
    | .Pass _ => some .pass
    | .Raise (some (.Call (.Name x _) es [] _)) none _ => if p.hot || !plainN x || !glOk sc x then some .fail else raisOr (p.R.lookup x) es (compEs p n sc es) x
    | .Raise _ _ _ => some .fail
    | .Try b [.ExceptHandler (some (.Name c _)) nm (b₀ :: su) _] [] [] _ => if p.hot || !plainN c || !glOk sc c || !p.C.contains c || ownNm.contains c then none else
        (nmSlot p sc nm).bind fun i => (compSs p n sc b).bind fun b' => (compSs { p with F := p.Q, hot := true } n sc (b₀ :: su)).map fun su' => .tryx b' c i su'
    | .Match e cs _ => (compE p n sc e).bind fun e' => (compMs p n sc cs).map fun cs' => .mtch e' cs'
    | _ => none
def compMs : Pm → Nat → Scope → List MatchCase → Option Ms
  | _, 0, _, _ => none
  | p, n + 1, sc, cs => match cs with
    | [] => some .nil
    | c :: r => match c with
      | ⟨.MatchAs none none _, none, b⟩ => (compSs p n sc b).map .dflt
      | ⟨q, none, b⟩ => (patS q).bind fun ks => (compSs p n sc b).bind fun b' => (compMs p n sc r).map fun r' => .cons ks b' r'
      | _ => none
def compSs : Pm → Nat → Scope → List Stmt → Option Ss
  | _, 0, _, _ => none
  | p, n + 1, sc, ss => match ss with
    | [] => some .nil
    | s :: r => (compS p n sc s).bind fun s' => (compSs p n sc r).map fun r' => .cons s' r'
end
end DL

set_option maxHeartbeats 1000000
namespace DL
open PySem PySem.Spec PyProof.Rows L2

structure GOk (p : Pm) (G : Gm) (X : Cx) : Prop where
  fn : ∀ x, p.F.contains x = true → ∃ n c, G.fn x = some (n, c) ∧ (p.hot = false → Has X x n c) ∧ (p.hot = true → HasQ X x n c)
  fq : ∀ x, p.Q.contains x = true → ∃ n c, G.fn x = some (n, c) ∧ HasQ X x n c
  gv : ∀ x d, G.gv x = some d → ∃ u v, X.mg x = some u ∧ RelV v u ∧ ∀ (Z : Addr → Prop) H Hm, Is ⟨X.K, Z⟩ H Hm d v
  bl : ∀ x, p.B.contains x = true → BlF X.mg x
  cl : CF X p.C G.cl
  nmc : ∀ c, p.C.contains c = true → ∃ cv, NamC X.mg c cv ∧ ∀ C', PySem.W.nsIn X.K mainGlobals c = some (some (.ref C')) → cv = .ref C'
  rs : ∀ x b, p.R.lookup x = some b → ∃ ci, G.cl x = some ci ∧ ci.fld.isSome = b
  ob : ∀ nm fs, G.ob nm = some fs → ObF X.K nm fs
  wt : WtOk X.K G.wt
  me : p.hot = false → ∀ cn m q, p.o.M.lookup (cn, m) = some (q, false) → ∃ n c, G.fn q = some (n, c) ∧ HasM X cn m n c
  nw : p.hot = false → ∀ cn q, p.o.W.lookup cn = some q → ∃ n c, G.fn q = some (n, c) ∧ HasN X cn n c
  ms : p.hot = false → ∀ cn m q, p.o.M.lookup (cn, m) = some (q, true) → ∃ n c, G.fn q = some (n, c) ∧ HasS X cn m n c
structure At (p : Pm) (G : Gm) (blk : Bool) (sc : Scope) (C : Co) : Prop where
  ok : C.Ok
  N : C.X.N = p.N
  sc : C.X.env.scope = sc
  g : GOk p G C.X
  fn : blk = false → ∀ x, C.X.fn x = true
  kind : C.X.env.scope.kind = .function
  calm : p.hot = false → Calm C.X
  stk : blk = false → C.X.stack = C.X.env :: C.X.outer ∧ C.X.env.frame = some C.X.env.locals
theorem At.blk {p : Pm} {G : Gm} {b : Bool} {sc : Scope} {C : Co} (h : At p G b sc C) {s : Shared} {H : Hp} {scope : Scope} {Ca : Addr} {cl : List (Str × Addr)} {fp : List Addr} {Z : Addr → Prop} {M0 : MH} {H0 : Hp} (hk : scope.kind = .function) :
    At p G true (relS scope sc) (inBlk C.X s H scope Ca cl fp Z M0 H0) :=
  ⟨inBlk_ok h.ok.x, h.N, by show relS scope C.X.env.scope = _; rw [h.sc], ⟨h.g.fn, h.g.fq, h.g.gv, h.g.bl, h.g.cl, h.g.nmc, h.g.rs, h.g.ob, h.g.wt, h.g.me, h.g.nw, h.g.ms⟩, (fun z => Bool.noConfusion z), hk, fun z => ⟨(h.calm z).c, (h.calm z).room⟩, fun z => Bool.noConfusion z⟩
section
variable {p : Pm} {G : Gm} {blk : Bool} {sc : Scope} {C : Co} {pos0 : Pos}
theorem slot_of {N : List Str} {x : Str} {i : Nat} (h : slot N x = some i) : N[i]? = some x := by
  unfold slot at h
  split at h
  · cases h; assumption
  · cases h
theorem vis_of (a : At p G blk sc C) {x : Str} (h : visOk sc x = true) : Vis C.X.env.scope x := by
  rw [a.sc]
  unfold visOk at h
  split at h
  · exact .inl (by assumption)
  · exact .inr (.inl (by assumption))
  · exact .inr (.inr (by assumption))
  · cases h
theorem loc_of (a : At p G blk sc C) {x : Str} (h : locOk blk sc x = true) : Loc C.X.env.scope x ∧ (C.X.fn x = true ∨ C.X.env.scope.names.lookup x = some .local) := by
  rw [a.sc]
  unfold locOk at h
  split at h
  · exact ⟨.inl (by assumption), .inr (by assumption)⟩
  · exact ⟨.inr (by assumption), .inl (a.fn (by simpa using h) x)⟩
  · cases h
theorem gl_of (a : At p G blk sc C) {x : Str} (h : glOk sc x = true) : Gl C.X x := by
  show C.X.env.scope.names.lookup x = _
  rw [a.sc]
  unfold glOk at h
  split at h
  · assumption
  · cases h
theorem plain_of {x : Str} (h : plainN x = true) : (x == ("__debug__" : Str)) = false ∧ (x == ("__classdict__" : Str)) = false ∧ x ≠ "__name__" := by
  unfold plainN at h
  simp only [Bool.and_eq_true, Bool.not_eq_true'] at h
  exact ⟨h.1.1, h.1.2, fun e => by rw [e] at h; simp at h⟩
theorem lookup_memS {α : Type} : ∀ {l : List (Str × α)} {x : Str} {v : α}, l.lookup x = some v → (x, v) ∈ l
  | [], _, _, h => by simp at h
  | (y, w) :: r, x, v, h => by
    rw [List.lookup_cons] at h
    split at h
    · rename_i e
      have : x = y := by simpa using e
      cases h
      rw [this]; exact List.mem_cons_self
    · exact List.mem_cons_of_mem _ (lookup_memS h)
def Bi.isG : Bi → Bool
  | .gcd => true | _ => false
theorem bi_how {mg : Str → Option Value} {x : Str} {f : Bi} (hb : BlF mg x) (h : biTab.lookup x = some f) : (mg x = none ∧ bootBuiltins x = some f.val) ∨ (mg x = some f.val ∧ f = .gcd) := by
  have all : ∀ q ∈ biTab, (q.1 ≠ ("gcd" : Str) ∧ bootBuiltins q.1 = some q.2.val) ∨ (q.1 = ("gcd" : Str) ∧ q.2.isG = true) := by decide +kernel
  rcases all _ (lookup_memS h) with ⟨z, e⟩ | ⟨z, e⟩
  · exact .inl ⟨hb.1 z, e⟩
  · have e : f = .gcd := by cases f <;> first | rfl | cases e
    subst e
    exact .inr ⟨hb.2 z, rfl⟩
theorem ty_ngcd {x : Str} {n : String} (h : tyTab.lookup x = some n) : x ≠ "gcd" := by
  have all : ∀ q ∈ tyTab, q.1 ≠ ("gcd" : Str) := by decide +kernel
  exact all _ (lookup_memS h)
theorem ty_boot {x : Str} {n : String} (h : tyTab.lookup x = some n) : bootBuiltins x = some (.type n) := by
  have all : ∀ q ∈ tyTab, bootBuiltins q.1 = some (.type q.2) := by decide +kernel
  exact all _ (lookup_memS h)
theorem mt_facts {x : Str} {f : Mt} (h : mtTab.lookup x = some f) : PlainAttrs f.ty ∧ Slot f.ty x f.id ∧ typeOf (.builtin f.id) = pure (.type "method_descriptor") := by
  have m := lookup_memS h
  simp only [mtTab, List.mem_cons, List.not_mem_nil, or_false, Prod.mk.injEq] at m
  rcases m with ⟨rfl, rfl⟩ | ⟨rfl, rfl⟩ | ⟨rfl, rfl⟩ | ⟨rfl, rfl⟩ | ⟨rfl, rfl⟩ | ⟨rfl, rfl⟩ | ⟨rfl, rfl⟩ | ⟨rfl, rfl⟩
  · exact ⟨PySem.F.plainAttrs_list, PySem.F.slot_list_append, PySem.F.type_list_append⟩
  · exact ⟨PySem.F.plainAttrs_list, PySem.F.slot_list_pop, PySem.F.type_list_pop⟩
  · exact ⟨PySem.F.plainAttrs_str, PySem.F.slot_str_upper, PySem.F.type_str_upper⟩
  · exact ⟨PySem.F.plainAttrs_list, PySem.F.slot_list_insert, PySem.F.type_list_insert⟩
  · exact ⟨PySem.F.plainAttrs_list, PySem.F.slot_list_extend, PySem.F.type_list_extend⟩
  · exact ⟨PySem.F.plainAttrs_str, PySem.F.slot_str_rstrip, PySem.F.type_str_rstrip⟩
  · exact ⟨PySem.F.plainAttrs_str, PySem.F.slot_str_join, PySem.F.type_str_join⟩
  · exact ⟨PySem.F.plainAttrs_list, PySem.F.slot_list_reverse, PySem.F.type_list_reverse⟩
theorem star1 {e : Expr} {es : List Expr} {env : Env} (h : starred e = false) : starEach (e :: es) env = (false, eval e env) :: starEach es env := by
  cases e <;> first | rfl | cases h
theorem star_any {es : List Expr} {env : Env} {pos : Pos} (h : es.all (fun e => !starred e) = true) : (backTo pos (starEach es env)).any (·.1) = false := by
  induction es with
  | nil => rfl
  | cons e r ih =>
    rw [List.all_cons, Bool.and_eq_true] at h
    rw [star1 (by simpa using h.1)]
    show (false || (backTo pos (starEach r env)).any (·.1)) = false
    rw [ih h.2]; rfl
theorem star_few {es : List Expr} {env : Env} {pos : Pos} (h : es.all (fun e => !starred e) = true) (hl : decide (es.length < 30) = true) :
    ((backTo pos (starEach es env)).all (fun x => !x.1) && (backToKw pos (keywordEach [] env)).all (fun x => x.1.isSome) && decide (es.length + ([] : List Keyword).length + (if ([] : List Keyword).isEmpty then 0 else 1) < 30)) = true := by
  have h1 : (backTo pos (starEach es env)).all (fun x => !x.1) = true := by
    have := star_any (env := env) (pos := pos) h
    rw [List.any_eq_false] at this
    rw [List.all_eq_true]
    intro x hx
    have := this x hx
    simpa using this
  rw [h1]
  have h2 : (backToKw pos (keywordEach [] env)).all (fun x => x.1.isSome) = true := rfl
  rw [h2]
  have h3 : es.length < 30 := of_decide_eq_true hl
  simp
  omega
theorem assign1 {e : Expr} {es : List Expr} {env : Env} (h : starred e = false) : assignEach (e :: es) env = (false, assign e env) :: assignEach es env := by
  cases e <;> first | rfl | cases h
theorem assign_len {es : List Expr} {env : Env} (h : es.all (fun e => !starred e) = true) : (assignEach es env).length = es.length ∧ (assignEach es env).findIdx? (·.1) = none := by
  induction es with
  | nil => exact ⟨rfl, rfl⟩
  | cons e r ih =>
    rw [List.all_cons, Bool.and_eq_true] at h
    rw [assign1 (by simpa using h.1)]
    obtain ⟨a, b⟩ := ih h.2
    refine ⟨by rw [List.length_cons, List.length_cons, a], ?_⟩
    rw [List.findIdx?_cons]
    simp only [b]
    rfl
theorem set_free {e : Expr} {env : Env} (h : isSet e = false) : ∀ x, foldedSetIterable e env x = pure x := by
  intro x
  cases e <;> first | rfl | cases h
theorem attr_free {a : Expr} {x : Str} {env : Env} (h : isCall0 a = false) : attributeBase a x env (eval a env) = eval a env := by
  unfold attributeBase
  split
  · cases h
  · rfl
theorem plainIx {b : Expr} (h : isSlice b = false) : PlainIx b := by
  intro o i
  cases b <;> first | rfl | cases h
theorem pt_ite {X : Cx} {c a b : Expr} {tc ta tb : TT} {pos : Pos} (hc : PT X c tc) (ha : PT X a ta) (hb : PT X b tb) : PT X (.IfExp c a b pos) (fun σ H Q => tc σ H fun k H1 => if k = true then ta σ H1 Q else tb σ H1 Q) := by
  refine ⟨fun pins s σ H Q I h => ?_⟩
  rw [PySem.isTrue]
  refine wpAny_bind (thn (hc.run pins s σ H _ I h) fun k s1 ⟨H1, I1, q1⟩ => ?_)
  cases k with
  | true => exact ha.run pins s1 σ H1 Q I1 q1
  | false => exact hb.run pins s1 σ H1 Q I1 q1
theorem dc_ite {c a b : Expr} {tc ta tb : TCd} {pos : Pos} (hc : DC C c tc) (ha : DC C a ta) (hb : DC C b tb) : DC C (.IfExp c a b pos) (fun σ H Q => tc σ H fun k H1 => br k (ta σ H1 Q) (tb σ H1 Q)) :=
  PT.weak (pt_ite hc ha hb) fun σ H Q => by
    rintro ⟨σd, Hm, Qd, s, q, k⟩
    refine LfC.seq s q fun c H1 Hm1 n1 s1 q => ?_
    cases c with
    | true => exact LfC.seq s1 q fun y H2 Hm2 n2 s2 q => k y H2 Hm2 (n1.trans n2) s2.rep q
    | false => exact LfC.seq s1 q fun y H2 Hm2 n2 s2 q => k y H2 Hm2 (n1.trans n2) s2.rep q
theorem ts_len : ∀ {n : Nat} {es : List Expr} {ts : Ts} {blk : Bool} {sc : Scope}, compTs p n blk sc es = some ts → ts.len = es.length ∧ es.all (fun e => !starred e) = true := by
  intro n
  induction n with
  | zero => intro es ts blk sc h; unfold compTs at h; cases h
  | succ n ih =>
    intro es ts blk sc h
    unfold compTs at h
    split at h
    · cases h; exact ⟨rfl, rfl⟩
    · split at h
      · cases h
      · rename_i hs
        simp only [Option.bind_eq_some_iff, Option.map_eq_some_iff] at h
        obtain ⟨e', _, r', hr, rfl⟩ := h
        obtain ⟨h1, h2⟩ := ih hr
        refine ⟨by rw [Ts.len, h1, List.length_cons], ?_⟩
        rw [List.all_cons, h2]
        simpa using hs
theorem es_star : ∀ {n : Nat} {es : List Expr} {c : Es} {sc : Scope}, compEs p n sc es = some c → es.all (fun e => !starred e) = true := by
  intro n
  induction n with
  | zero => intro es ts sc h; unfold compEs at h; cases h
  | succ n ih =>
    intro es ts sc h
    unfold compEs at h
    split at h
    · rfl
    · split at h
      · cases h
      · rename_i hs
        simp only [Option.bind_eq_some_iff, Option.map_eq_some_iff] at h
        obtain ⟨e', _, r', hr, rfl⟩ := h
        rw [List.all_cons, ih hr]
        simpa using hs
/-- the call of a def: its promise is told -/
theorem call_fun {t : TAd} {x : Str} {n : Nat} {c : Ctr} {Ed : En → XDK} (h : G.fn x = some (n, c)) :
    (fun (σ : En) (H : MH) (Q : DK) => t σ H fun ds H1 => ∃ n c, G.fn x = some (n, c) ∧ ds.length = n ∧ c ds H1 Q (Ed σ)) = fun σ H Q => t σ H fun ds H1 => ds.length = n ∧ c ds H1 Q (Ed σ) := by
  funext σ H Q
  congr 1
  funext ds H1
  rw [h]
  apply propext
  constructor
  · rintro ⟨n', c', e, a, b⟩
    cases e
    exact ⟨a, b⟩
  · rintro ⟨a, b⟩
    exact ⟨n, c, rfl, a, b⟩
theorem new_fun {t : TAd} {x q : Str} {n : Nat} {c : Ctr} {Ed : En → XDK} (h : G.fn q = some (n, c)) :
    (fun (σ : En) (H : MH) (Q : DK) => t σ H fun ds H1 => ∃ n c, G.fn q = some (n, c) ∧ ds.length + 1 = n ∧ ∀ p, H1 p = none → c (.ref p :: ds) (updM H1 p (.ins x [] [])) (fun v H2 => v = .non ∧ Q (.ref p) H2) (Ed σ)) =
    fun σ H Q => t σ H fun ds H1 => ds.length + 1 = n ∧ ∀ p, H1 p = none → c (.ref p :: ds) (updM H1 p (.ins x [] [])) (fun v H2 => v = .non ∧ Q (.ref p) H2) (Ed σ) := by
  funext σ H Q
  congr 1
  funext ds H1
  rw [h]
  apply propext
  constructor
  · rintro ⟨n', c', e, a, b⟩
    cases e
    exact ⟨a, b⟩
  · rintro ⟨a, b⟩
    exact ⟨n, c, rfl, a, b⟩
theorem meth_fun {ta : TD} {t : TAd} {cn m q : Str} {n : Nat} {c : Ctr} {Ed : En → XDK} (h : G.fn q = some (n, c)) :
    (fun (σ : En) (H : MH) (Q : DK) => ta σ H fun x H1 => (∃ ns xs, insAt H1 x = some (cn, ns, xs) ∧ ns.contains m = false) ∧ t σ H1 fun ds H2 => ∃ n c, G.fn q = some (n, c) ∧ ds.length + 1 = n ∧ c (x :: ds) H2 Q (Ed σ)) =
    fun σ H Q => ta σ H fun x H1 => (∃ ns xs, insAt H1 x = some (cn, ns, xs) ∧ ns.contains m = false) ∧ t σ H1 fun ds H2 => ds.length + 1 = n ∧ c (x :: ds) H2 Q (Ed σ) := by
  funext σ H Q
  congr 1
  funext x H1
  congr 1
  congr 1
  funext ds H2
  rw [h]
  apply propext
  constructor
  · rintro ⟨n', c', e, a, b⟩
    cases e
    exact ⟨a, b⟩
  · rintro ⟨a, b⟩
    exact ⟨n, c, rfl, a, b⟩
theorem meth_fun0 {ta : TD} {cn m q : Str} {n : Nat} {c : Ctr} {Ed : En → XDK} (h : G.fn q = some (n, c)) :
    (fun (σ : En) (H : MH) (Q : DK) => ta σ H fun x H1 => (∃ ns xs, insAt H1 x = some (cn, ns, xs) ∧ ns.contains m = false) ∧ ∃ n c, G.fn q = some (n, c) ∧ 1 = n ∧ c [x] H1 Q (Ed σ)) =
    fun σ H Q => ta σ H fun x H1 => (∃ ns xs, insAt H1 x = some (cn, ns, xs) ∧ ns.contains m = false) ∧ (1 = n ∧ c [x] H1 Q (Ed σ)) := by
  funext σ H Q
  congr 1
  funext x H1
  congr 1
  rw [h]
  apply propext
  constructor
  · rintro ⟨n', c', e, a, b⟩
    cases e
    exact ⟨a, b⟩
  · rintro ⟨a, b⟩
    exact ⟨n, c, rfl, a, b⟩
theorem de_newX (ok : C.Ok) {e : Expr} {es : List Expr} {t : TAd} {x q : Str} {n : Nat} {c : Ctr} {pp pos : Pos} (h : G.fn q = some (n, c)) (hF : HasN C.X x n c) (hg : Gl C.X x) (ha : DA C (e :: es) t) (hdb : (x == ("__debug__" : Str)) = false)
    (he : starEach (e :: es) C.X.env = (false, eval e C.X.env) :: starEach es C.X.env) (hpl : (backTo pos (starEach es C.X.env)).any (·.1) = false) :
    DE C (.Call (.Name x pp) (e :: es) [] pos) (fun σ H Q => t σ H fun ds H1 => ∃ n c, G.fn q = some (n, c) ∧ ds.length + 1 = n ∧ ∀ p, H1 p = none → c (.ref p :: ds) (updM H1 p (.ins x [] [])) (fun v H2 => v = .non ∧ Q (.ref p) H2) (C.Ed σ)) := by
  rw [new_fun h]
  exact de_new ok hF hg ha hdb he hpl
theorem de_newLX (ok : C.Ok) {e : Expr} {es : List Expr} {ta : TD} {t : TAd} {x cn q : Str} {n : Nat} {c : Ctr} {pp pos : Pos} (h : G.fn q = some (n, c)) (hF : HasN C.X cn n c) (ho : DE C (.Name x pp) ta) (ha : DA C (e :: es) t)
    (he : starEach (e :: es) C.X.env = (false, eval e C.X.env) :: starEach es C.X.env) (hpl : (backTo pos (starEach es C.X.env)).any (·.1) = false) :
    DE C (.Call (.Name x pp) (e :: es) [] pos) (fun σ H Q => ta σ H fun x H1 => x = .kls cn ∧ t σ H1 fun ds H1 => ∃ n c, G.fn q = some (n, c) ∧ ds.length + 1 = n ∧ ∀ p, H1 p = none → c (.ref p :: ds) (updM H1 p (.ins cn [] [])) (fun v H2 => v = .non ∧ Q (.ref p) H2) (C.Ed σ)) := by
  have e0 : (fun (σ : En) (H : MH) (Q : DK) => ta σ H fun x H1 => x = .kls cn ∧ t σ H1 fun ds H1 => ∃ n c, G.fn q = some (n, c) ∧ ds.length + 1 = n ∧ ∀ p, H1 p = none → c (.ref p :: ds) (updM H1 p (.ins cn [] [])) (fun v H2 => v = .non ∧ Q (.ref p) H2) (C.Ed σ)) =
    fun σ H Q => ta σ H fun x H1 => x = .kls cn ∧ t σ H1 fun ds H1 => ds.length + 1 = n ∧ ∀ p, H1 p = none → c (.ref p :: ds) (updM H1 p (.ins cn [] [])) (fun v H2 => v = .non ∧ Q (.ref p) H2) (C.Ed σ) := by
    funext σ H Q
    congr 1
    funext x H1
    have := congrFun (congrFun (congrFun (new_fun (t := t) (x := cn) (Ed := C.Ed) h) σ) H1) Q
    rw [show (t σ H1 fun ds H1 => ∃ n c, G.fn q = some (n, c) ∧ ds.length + 1 = n ∧ ∀ p, H1 p = none → c (.ref p :: ds) (updM H1 p (.ins cn [] [])) (fun v H2 => v = .non ∧ Q (.ref p) H2) (C.Ed σ)) = _ from this]
  rw [e0]
  exact de_newL ok hF ho ha he hpl
theorem de_newX0 (ok : C.Ok) {x q : Str} {n : Nat} {c : Ctr} {pp pos : Pos} (h : G.fn q = some (n, c)) (hF : HasN C.X x n c) (hg : Gl C.X x) (hdb : (x == ("__debug__" : Str)) = false) :
    DE C (.Call (.Name x pp) [] [] pos) (fun σ H Q => (fun σ H Q => Q [] H : TAd) σ H fun ds H1 => ∃ n c, G.fn q = some (n, c) ∧ ds.length + 1 = n ∧ ∀ p, H1 p = none → c (.ref p :: ds) (updM H1 p (.ins x [] [])) (fun v H2 => v = .non ∧ Q (.ref p) H2) (C.Ed σ)) := by
  rw [new_fun (t := fun _ H Q => Q [] H) h]
  exact de_new0 ok hF hg hdb
theorem de_omthX (ok : C.Ok) {a e : Expr} {es : List Expr} {ta : TD} {t : TAd} {cn m q : Str} {n : Nat} {c : Ctr} {apos pos : Pos} {pl : Sem Bool} (h : G.fn q = some (n, c)) (hF : HasM C.X cn m n c) (ho : DE C a ta) (ha : DA C (e :: es) t)
    (he : starEach (e :: es) C.X.env = (false, eval e C.X.env) :: starEach es C.X.env) (hpl : (backTo pos (starEach es C.X.env)).any (·.1) = false)
    (ht : eval (.Call (.Attribute a m apos) (e :: es) [] pos) C.X.env = (do
      let ov ← eval a C.X.env
      standAt apos.atName
      let (f, first) ← holding [ov] (getMethod ov m pl)
      callWith pos f first (backTo pos (starEach (e :: es) C.X.env)) (backToKw pos (keywordEach [] C.X.env)))) :
    DE C (.Call (.Attribute a m apos) (e :: es) [] pos) (fun σ H Q => ta σ H fun x H1 => (∃ ns xs, insAt H1 x = some (cn, ns, xs) ∧ ns.contains m = false) ∧ t σ H1 fun ds H2 => ∃ n c, G.fn q = some (n, c) ∧ ds.length + 1 = n ∧ c (x :: ds) H2 Q (C.Ed σ)) := by
  rw [meth_fun h]
  exact de_omth ok hF ho ha he hpl ht
theorem de_omthX0 (ok : C.Ok) {a : Expr} {ta : TD} {cn m q : Str} {n : Nat} {c : Ctr} {apos pos : Pos} {pl : Sem Bool} (h : G.fn q = some (n, c)) (hF : HasM C.X cn m n c) (ho : DE C a ta)
    (ht : eval (.Call (.Attribute a m apos) [] [] pos) C.X.env = (do
      let ov ← eval a C.X.env
      standAt apos.atName
      let (f, first) ← holding [ov] (getMethod ov m pl)
      callWith pos f first (backTo pos (starEach [] C.X.env)) (backToKw pos (keywordEach [] C.X.env)))) :
    DE C (.Call (.Attribute a m apos) [] [] pos) (fun σ H Q => ta σ H fun x H1 => (∃ ns xs, insAt H1 x = some (cn, ns, xs) ∧ ns.contains m = false) ∧ ∃ n c, G.fn q = some (n, c) ∧ 1 = n ∧ c [x] H1 Q (C.Ed σ)) := by
  rw [meth_fun0 h]
  exact de_omth0 ok hF ho ht
theorem de_icallX (ok : C.Ok) {e : Expr} {es : List Expr} {ta : TD} {t : TAd} {cn q x : Str} {n : Nat} {c : Ctr} {pp pos : Pos} (h : G.fn q = some (n, c)) (hF : HasM C.X cn "__call__" n c) (ho : DE C (.Name x pp) ta) (ha : DA C (e :: es) t)
    (he : starEach (e :: es) C.X.env = (false, eval e C.X.env) :: starEach es C.X.env) (hpl : (backTo pos (starEach es C.X.env)).any (·.1) = false) :
    DE C (.Call (.Name x pp) (e :: es) [] pos) (fun σ H Q => ta σ H fun x H1 => t σ H1 fun ds H2 => (∃ ns xs, insAt H2 x = some (cn, ns, xs)) ∧ ∃ n c, G.fn q = some (n, c) ∧ ds.length + 1 = n ∧ c (x :: ds) H2 Q (C.Ed σ)) := by
  have e0 : (fun (σ : En) (H : MH) (Q : DK) => ta σ H fun x H1 => t σ H1 fun ds H2 => (∃ ns xs, insAt H2 x = some (cn, ns, xs)) ∧ ∃ n c, G.fn q = some (n, c) ∧ ds.length + 1 = n ∧ c (x :: ds) H2 Q (C.Ed σ)) =
    fun σ H Q => ta σ H fun x H1 => t σ H1 fun ds H2 => (∃ ns xs, insAt H2 x = some (cn, ns, xs)) ∧ ds.length + 1 = n ∧ c (x :: ds) H2 Q (C.Ed σ) := by
    funext σ H Q
    congr 1
    funext x H1
    congr 1
    funext ds H2
    rw [h]
    apply propext
    constructor
    · rintro ⟨i, n', c', e, a, b⟩
      cases e
      exact ⟨i, a, b⟩
    · rintro ⟨i, a, b⟩
      exact ⟨i, n, c, rfl, a, b⟩
  rw [e0]
  exact de_icall ok hF ho ha he hpl
theorem opK_is {p : Pm} {pos : Pos} {cn : Str} (h : opK p pos = some cn) : p.hot = false ∧ p.o.O.lookup (pos.line, pos.col) = some cn := by
  unfold opK at h
  split at h
  · cases h
  · rename_i hh
    exact ⟨by simpa using hh, h⟩
theorem eqK_is {p : Pm} {o : CmpOp} {pos : Pos} {cn : Str} (h : eqK p o pos = some cn) : o = .Eq ∧ p.hot = false ∧ p.o.O.lookup (pos.line, pos.col) = some cn := by
  unfold eqK at h
  split at h
  · exact ⟨rfl, opK_is h⟩
  · cases h
section
variable {a b : Expr} {ta tb : TD} {cn q : Str} {n : Nat} {c : Ctr} {pos : Pos}
theorem de_ocmpX (ok : C.Ok) (hob : ∀ nm fs, G.ob nm = some fs → ObF C.X.K nm fs) (h : G.fn q = some (n, c)) (hF : HasM C.X cn "__eq__" n c) (ha : DE C a ta) (hb : DE C b tb) (hm : behindInMarks .Eq b = false) :
    DE C (.Compare a [.Eq] [b] pos) (fun σ H Q => ta σ H fun x H1 => tb σ H1 fun y H2 => ocmpW G cn q x y H2 (fun d H3 => ∃ b, d = .bl b ∧ Q (.bl b) H3)) := by
  have e0 : (fun (σ : En) (H : MH) (Q : DK) => ta σ H fun x H1 => tb σ H1 fun y H2 => ocmpW G cn q x y H2 (fun d H3 => ∃ b, d = .bl b ∧ Q (.bl b) H3)) = fun σ H Q => ta σ H fun x H1 => tb σ H1 fun y H2 => ((∃ ns xs, insAt H2 x = some (cn, ns, xs)) ∧ rightD H2 cn y ∧ 2 = n ∧ c [x, y] H2 (fun d H3 => ∃ b, d = .bl b ∧ Q (.bl b) H3) (fun _ _ _ => False)) ∨
      (rightB x = true ∧ (∃ ns xs, insAt H2 y = some (cn, ns, xs)) ∧ (∃ fs, G.ob cn = some fs) ∧ 2 = n ∧ c [y, x] H2 (fun d H3 => ∃ b, d = .bl b ∧ Q (.bl b) H3) (fun _ _ _ => False)) := by
    funext σ H Q
    congr 1
    funext x H1
    congr 1
    funext y H2
    unfold ocmpW
    rw [h]
    apply propext
    constructor
    · rintro (⟨i, r, n', c', e, z⟩ | ⟨i, r, r2, n', c', e, z⟩)
      · cases e
        exact .inl ⟨i, r, z⟩
      · cases e
        exact .inr ⟨i, r, r2, z⟩
    · rintro (⟨i, r, z⟩ | ⟨i, r, r2, z⟩)
      · exact .inl ⟨i, r, n, c, rfl, z⟩
      · exact .inr ⟨i, r, r2, n, c, rfl, z⟩
  rw [e0]
  exact de_ocmp ok hob hF ha hb hm
theorem dc_ocmpX (ok : C.Ok) (hob : ∀ nm fs, G.ob nm = some fs → ObF C.X.K nm fs) (h : G.fn q = some (n, c)) (hF : HasM C.X cn "__eq__" n c) (ha : DE C a ta) (hb : DE C b tb) (hm : behindInMarks .Eq b = false) :
    DC C (.Compare a [.Eq] [b] pos) (fun σ H Q => ta σ H fun x H1 => tb σ H1 fun y H2 => ocmpW G cn q x y H2 (fun d H3 => ∃ b, d = .bl b ∧ Q b H3)) := by
  have e0 : (fun (σ : En) (H : MH) (Q : Bool → MH → Prop) => ta σ H fun x H1 => tb σ H1 fun y H2 => ocmpW G cn q x y H2 (fun d H3 => ∃ b, d = .bl b ∧ Q b H3)) = fun σ H Q => ta σ H fun x H1 => tb σ H1 fun y H2 => ((∃ ns xs, insAt H2 x = some (cn, ns, xs)) ∧ rightD H2 cn y ∧ 2 = n ∧ c [x, y] H2 (fun d H3 => ∃ b, d = .bl b ∧ Q b H3) (fun _ _ _ => False)) ∨
      (rightB x = true ∧ (∃ ns xs, insAt H2 y = some (cn, ns, xs)) ∧ (∃ fs, G.ob cn = some fs) ∧ 2 = n ∧ c [y, x] H2 (fun d H3 => ∃ b, d = .bl b ∧ Q b H3) (fun _ _ _ => False)) := by
    funext σ H Q
    congr 1
    funext x H1
    congr 1
    funext y H2
    unfold ocmpW
    rw [h]
    apply propext
    constructor
    · rintro (⟨i, r, n', c', e, z⟩ | ⟨i, r, r2, n', c', e, z⟩)
      · cases e
        exact .inl ⟨i, r, z⟩
      · cases e
        exact .inr ⟨i, r, r2, z⟩
    · rintro (⟨i, r, z⟩ | ⟨i, r, r2, z⟩)
      · exact .inl ⟨i, r, n, c, rfl, z⟩
      · exact .inr ⟨i, r, r2, n, c, rfl, z⟩
  rw [e0]
  exact dc_ocmp ok hob hF ha hb hm
theorem de_obinX (ok : C.Ok) {o : Operator} (hob : ∀ nm fs, G.ob nm = some fs → ObF C.X.K nm fs) (h : G.fn q = some (n, c)) (hF : HasM C.X cn (PySem.dunder o.info.2) n c) (ha : DE C a ta) (hb : DE C b tb) :
    DE C (.BinOp a o b pos) (fun σ H Q => ta σ H fun x H1 => tb σ H1 fun y H2 => (∃ ns xs, insAt H2 x = some (cn, ns, xs)) ∧ (∃ ns xs, insAt H2 y = some (cn, ns, xs)) ∧ (∃ fs, G.ob cn = some fs) ∧ ∃ n c, G.fn q = some (n, c) ∧ 2 = n ∧ c [x, y] H2 (fun d H3 => (∃ p, d = .ref p) ∧ Q d H3) (C.Ed σ)) := by
  have e0 : (fun (σ : En) (H : MH) (Q : DK) => ta σ H fun x H1 => tb σ H1 fun y H2 => (∃ ns xs, insAt H2 x = some (cn, ns, xs)) ∧ (∃ ns xs, insAt H2 y = some (cn, ns, xs)) ∧ (∃ fs, G.ob cn = some fs) ∧ ∃ n c, G.fn q = some (n, c) ∧ 2 = n ∧ c [x, y] H2 (fun d H3 => (∃ p, d = .ref p) ∧ Q d H3) (C.Ed σ)) =
    fun σ H Q => ta σ H fun x H1 => tb σ H1 fun y H2 => (∃ ns xs, insAt H2 x = some (cn, ns, xs)) ∧ (∃ ns xs, insAt H2 y = some (cn, ns, xs)) ∧ (∃ fs, G.ob cn = some fs) ∧ 2 = n ∧ c [x, y] H2 (fun d H3 => (∃ p, d = .ref p) ∧ Q d H3) (C.Ed σ) := by
    funext σ H Q
    congr 1
    funext x H1
    congr 1
    funext y H2
    rw [h]
    apply propext
    constructor
    · rintro ⟨i, r, o, n', c', e, z⟩
      cases e
      exact ⟨i, r, o, z⟩
    · rintro ⟨i, r, o, z⟩
      exact ⟨i, r, o, n, c, rfl, z⟩
  rw [e0]
  exact de_obin ok hob hF ha hb
end
theorem keyK_is {p : Pm} {sc : Scope} {a : Expr} {j : Nat} (h : keyK p sc a = some j) : ∃ x pos, a = .Name x pos ∧ plainN x = true ∧ visOk sc x = true ∧ slot p.N x = some j := by
  unfold keyK at h
  split at h
  · rename_i x pos
    split at h
    · rename_i hc
      simp only [Bool.and_eq_true] at hc
      exact ⟨x, pos, rfl, hc.1.2, hc.2, h⟩
    · cases h
  · cases h
theorem statK_is {p : Pm} {sc : Scope} {a : Expr} {x q : Str} (h : statK p sc a x = some q) : ∃ cn np, a = .Name cn np ∧ p.hot = false ∧ plainN cn = true ∧ glOk sc cn = true ∧ p.o.M.lookup (cn, x) = some (q, true) := by
  unfold statK at h
  split at h
  · rename_i cn np
    split at h
    · cases h
    rename_i hc
    simp only [Bool.or_eq_true, not_or, Bool.not_eq_true, Bool.not_eq_true', Bool.not_eq_false'] at hc
    split at h
    · rename_i hM
      cases h
      exact ⟨cn, np, rfl, hc.1.1, by simpa using hc.1.2, by simpa using hc.2, hM⟩
    · cases h
  · cases h
/-- a BoolOp's test does not look at its whole -/
theorem dw_of {e : Expr} {t : TCd} (h : (∃ (l : List Expr), e = .BoolOp .And l pos0) ∨ ∃ (l : List Expr), e = .BoolOp .Or l pos0) (hc : DC C e t) : DW C e t := by
  refine ⟨fun wh pins s σ H Q I q => ?_⟩
  have := hc.run pins s σ H Q I q
  rcases h with ⟨l, rfl⟩ | ⟨l, rfl⟩ <;> (rw [PySem.isTrue] at this ⊢; exact this)
theorem sub_free {a b : Expr} {pos : Pos} {env : Env} (h : isSlice b = false) : ∀ v, assign (.Subscript a b pos) env v = (do
      let ov ← holding [v] (eval a env)
      let iv ← holding [v, ov] (eval b env)
      standAt pos
      holding [v, ov, iv] (setItem ov iv v)
      release [v, ov, iv] []) := by
  intro v
  cases b <;> first | rfl | cases h
theorem isTup_is {e : Expr} (h : isTup e = true) : ∃ a b c, e = .Tuple a b c := by
  unfold isTup at h
  split at h
  · exact ⟨_, _, _, rfl⟩
  · cases h
theorem m2_of {X : Cx} {o e f : Expr} {m : Str} {apos cpos : Pos} (hb : attributeBase o m X.env (eval o X.env) = eval o X.env) (he : starred e = false) (hf : starred f = false) (hl : (apos.endLine == cpos.line) = true) : M2 X o m apos e f cpos := by
  have st : ([e, f] : List Expr).all (fun e => !starred e) = true := by simp [he, hf]
  exact ⟨hb, star_few st rfl, hl, by rw [star1 he, star1 hf]; rfl⟩
set_option maxHeartbeats 4000000 in
theorem keyInts_is : ∀ {keys : List (Option Expr)} {ks : List Key}, keyInts keys = some ks → KeyIs ks keys
  | [], ks, h => by unfold keyInts at h; cases h; exact .nil
  | k :: r, ks, h => by
    unfold keyInts at h
    split at h
    · rename_i e; cases e
    · rename_i i n p r' e
      cases e
      simp only [Option.map_eq_some_iff] at h
      obtain ⟨ks', h', rfl⟩ := h
      exact .cons (keyInts_is h')
    · rename_i i n p r' e
      cases e
      simp only [Option.map_eq_some_iff] at h
      obtain ⟨ks', h', rfl⟩ := h
      exact .conss (keyInts_is h')
    · cases h
theorem revArg_is {x : Str} {es : List Expr} {b : Expr} (h : revArg p sc x es = some b) : ∃ y q1 q2, x = ("list" : Str) ∧ es = [.Call (.Name y q1) [b] [] q2] ∧ y = ("reversed" : Str) ∧ glOk sc y = true ∧ p.B.contains y = true ∧ starred b = false := by
  unfold revArg at h
  split at h
  · rename_i y q1 a q2
    split at h
    · rename_i hh
      cases h
      simp only [Bool.and_eq_true, Bool.not_eq_true', beq_iff_eq] at hh
      exact ⟨y, q1, q2, hh.1.1.1.1, rfl, hh.1.1.1.2, hh.1.1.2, hh.1.2, hh.2⟩
    · cases h
  · cases h
theorem boolK_is {x : Str} {es : List Expr} {pos : Pos} {z : Expr × Str × Str} (h : boolK p x es pos = some z) : ∃ e cn q, z = (e, cn, q) ∧ es = [e] ∧ x = ("bool" : Str) ∧ p.hot = false ∧ starred e = false ∧ p.o.M.lookup (cn, ("__bool__" : Str)) = some (q, false) := by
  unfold boolK at h
  split at h
  · rename_i e
    split at h
    · rename_i hp
      simp only [Bool.and_eq_true, Bool.not_eq_true'] at hp
      obtain ⟨cn, _, h⟩ := Option.bind_eq_some_iff.1 h
      split at h
      · rename_i q hq
        cases h
        exact ⟨e, cn, q, rfl, rfl, eq_of_beq hp.1.1, hp.1.2, hp.2, hq⟩
      · cases h
    · cases h
  · cases h
theorem obool_fun {te : TD} {q cn : Str} {n : Nat} {c : Ctr} (h : G.fn q = some (n, c)) :
    (fun (σ : En) (H : MH) (Q : DK) => te σ H fun x H1 => (∃ ns xs, insAt H1 x = some (cn, ns, xs)) ∧ ∃ n c, G.fn q = some (n, c) ∧ 1 = n ∧ c [x] H1 (fun d H3 => ∃ b, d = .bl b ∧ Q (.bl b) H3) (fun _ _ _ => False)) =
    fun σ H Q => te σ H fun x H1 => (∃ ns xs, insAt H1 x = some (cn, ns, xs)) ∧ 1 = n ∧ c [x] H1 (fun d H3 => ∃ b, d = .bl b ∧ Q (.bl b) H3) (fun _ _ _ => False) := by
  funext σ H Q
  congr 1
  funext x H1
  rw [h]
  apply propext
  constructor
  · rintro ⟨i, n', c', e, a, b⟩
    cases e
    exact ⟨i, a, b⟩
  · rintro ⟨i, a, b⟩
    exact ⟨i, n, c, rfl, a, b⟩
theorem isxArg_is {x : Str} {es : List Expr} {b : Expr} {cs : List Str} (h : isxArg p sc x es = some (b, cs)) : x = ("isinstance" : Str) ∧
    ((∃ c q, es = [b, .Name c q] ∧ cs = [c] ∧ plainN c = true ∧ glOk sc c = true ∧ p.C.contains c = true ∧ starred b = false) ∨ ∃ fs x1 q, es = [b, .Tuple fs x1 q] ∧ namesOf p sc fs = some cs ∧ (cs.length ≤ 100 ∧ cs.length ≠ 1) ∧ starred b = false) := by
  unfold isxArg at h
  split at h
  · rename_i a0 b0
    split at h
    · rename_i hh
      simp only [Bool.and_eq_true, Bool.not_eq_true', beq_iff_eq] at hh
      refine ⟨hh.1, ?_⟩
      split at h
      · rename_i c q
        split at h
        · rename_i hc
          simp only [Bool.and_eq_true] at hc
          cases h
          exact .inl ⟨c, q, rfl, rfl, hc.1.1, hc.1.2, hc.2, hh.2⟩
        · cases h
      · rename_i fs x1 q
        simp only [Option.bind_eq_some_iff] at h
        obtain ⟨ds, hd, h⟩ := h
        split at h
        · rename_i hl
          cases h
          exact .inr ⟨fs, x1, q, rfl, hd, by simpa using hl, hh.2⟩
        · cases h
      · cases h
    · cases h
  · cases h
theorem nams_of (a : At p G blk sc C) : ∀ {fs : List Expr} {cs : List Str}, namesOf p sc fs = some cs → NamsC C.X p.C fs cs
  | [], cs, h => by
    unfold namesOf at h
    cases h
    unfold NamsC
    rfl
  | e :: r, cs, h => by
    unfold namesOf at h
    split at h
    · rename_i z
      cases z
    · rename_i c q r' z
      cases z
      split at h
      · rename_i hc
        simp only [Bool.and_eq_true] at hc
        simp only [Option.map_eq_some_iff] at h
        obtain ⟨cs', hr, rfl⟩ := h
        obtain ⟨cv, hn, _⟩ := a.g.nmc c hc.2
        unfold NamsC
        exact ⟨c, q, cs', cv, rfl, rfl, hn, gl_of a hc.1.2, hc.2, nams_of a hr⟩
      · cases h
    · cases h
theorem sound (n : Nat) :
    (∀ blk sc C e c, At p G blk sc C → compE p n sc e = some c → DE C e (wpE G C.Ed c)) ∧
    (∀ blk sc C e c, At p G blk sc C → compE p n sc e = some c → DC C e (wpC G C.Ed c)) ∧
    (∀ blk sc C es c, At p G blk sc C → compEs p n sc es = some c → DA C es (wpEs G C.Ed c)) ∧
    (∀ blk sc C es c, At p G blk sc C → compCs p n sc es = some c → DCs C es (wpCs G C.Ed c)) ∧
    (∀ blk sc C o c, At p G blk sc C → compO p n sc o = some c → DO C o (wpO G C.Ed c)) ∧
    (∀ blk sc C e c, At p G blk sc C → compT p n blk sc e = some c → DG C c.slots e (wpT G C.Ed c)) ∧
    (∀ blk sc C es c, At p G blk sc C → compTs p n blk sc es = some c → DGs C c.slots es (wpTs G C.Ed c)) ∧
    (∀ blk sc C tg e c, At p G blk sc C → compI p n (isTup tg) sc e = some c → DI C tg e (wpI G C.Ed c)) ∧
    (∀ blk sc C es c, At p G blk sc C → compEs p n sc es = some c → ∀ pos ks keys, KeyIs ks keys → ks.length = es.length → DPs C pos keys es ks (wpEs G C.Ed c)) := by
  induction n with
  | zero =>
    refine ⟨?_, ?_, ?_, ?_, ?_, ?_, ?_, ?_, ?_⟩
    · intro blk sc C e c a h; unfold compE at h; cases h
    · intro blk sc C e c a h; unfold compE at h; cases h
    · intro blk sc C e c a h; unfold compEs at h; cases h
    · intro blk sc C e c a h; unfold compCs at h; cases h
    · intro blk sc C e c a h; unfold compO at h; cases h
    · intro blk sc C e c a h; unfold compT at h; cases h
    · intro blk sc C e c a h; unfold compTs at h; cases h
    · intro blk sc C tg e c a h; unfold compI at h; cases h
    · intro blk sc C e c a h; unfold compEs at h; cases h
  | succ n ih =>
    obtain ⟨ihE, ihC, ihEs, ihCs, ihO, ihT, ihTs, ihI, ihP⟩ := ih
    have main : ∀ blk sc C e c, At p G blk sc C → compE p (n + 1) sc e = some c → DE C e (wpE G C.Ed c) := by
      intro blk sc C e c a h
      unfold compE at h
      split at h
      · cases h; exact de_const pe_int fun _ _ => is_int
      · cases h; exact de_const pe_bl fun _ _ => is_bl
      · cases h; exact de_const pe_str fun _ _ => is_str
      · cases h; exact de_const pe_non fun _ _ => is_non
      · split at h
        · rename_i hp
          obtain ⟨p1, p2, p3⟩ := plain_of hp
          split at h
          · rename_i hv
            simp only [Option.map_eq_some_iff] at h
            obtain ⟨i, hi, rfl⟩ := h
            cases hz : p.z _ with
            | true => exact de_frz (by rw [a.N]; exact slot_of hi) (vis_of a hv) p1 p2
            | false => exact de_var (by rw [a.N]; exact slot_of hi) (vis_of a hv) p1 p2
          · split at h
            · rename_i hg
              split at h
              · rename_i hb
                simp only [Option.map_eq_some_iff] at h
                obtain ⟨m, hm, rfl⟩ := h
                exact de_const (pe_bltn (v := .ty m) (gl_of a hg) ((a.g.bl _ hb).1 (ty_ngcd hm)) (ty_boot hm) rfl p3 p1) fun _ _ => is_ty
              · cases h
                refine ⟨fun pins s σ H Q I h => ?_⟩
                obtain ⟨σd, Hm, Qd, s0, ⟨d, hd, q⟩, k⟩ := id h
                obtain ⟨u, v, hm, r, hi⟩ := a.g.gv _ _ hd
                exact (pe_glob (gl_of a hg) hm r p1).run pins s σ H Q I (k.here s0.rep (hi C.Z H Hm) q)
            · cases h
        · cases h
      · unfold methOr at h
        split at h
        · rename_i cn hcn
          obtain ⟨hhot, hO⟩ := opK_is hcn
          simp only [Option.bind_eq_some_iff] at h
          obtain ⟨q, hq, h⟩ := h
          obtain ⟨q, qb⟩ := q
          split at h
          · cases h
          rename_i hqb
          have hqb : qb = false := by simpa using hqb
          subst hqb
          simp only [Option.bind_eq_some_iff, Option.map_eq_some_iff] at h
          obtain ⟨a', ha, b', hb, rfl⟩ := h
          obtain ⟨m, c, hG, hM⟩ := a.g.me hhot _ _ _ hq
          exact de_obinX a.ok a.g.ob hG hM (ihE _ _ _ _ _ a ha) (ihE _ _ _ _ _ a hb)
        simp only [Option.bind_eq_some_iff, Option.map_eq_some_iff] at h
        obtain ⟨a', ha, b', hb, rfl⟩ := h
        exact de_bin a.ok (ihE _ _ _ _ _ a ha) (ihE _ _ _ _ _ a hb)
      · simp only [Option.map_eq_some_iff] at h
        obtain ⟨a', ha, rfl⟩ := h
        exact de_neg (ihE _ _ _ _ _ a ha)
      · simp only [Option.map_eq_some_iff] at h
        obtain ⟨a', ha, rfl⟩ := h
        exact de_not (ihE _ _ _ _ _ a ha)
      · exact pe_one (ihE _ _ _ _ _ a h)
      · simp only [Option.bind_eq_some_iff, Option.map_eq_some_iff] at h
        obtain ⟨a', ha, b', hb, rfl⟩ := h
        exact de_and (ihE _ _ _ _ _ a ha) (ihE _ _ _ _ _ a hb)
      · simp only [Option.bind_eq_some_iff, Option.map_eq_some_iff] at h
        obtain ⟨a', ha, b', hb, rfl⟩ := h
        exact de_or (ihE _ _ _ _ _ a ha) (ihE _ _ _ _ _ a hb)
      · split at h
        · cases h
        · rename_i hm
          simp only [Option.bind_eq_some_iff, Option.map_eq_some_iff] at h
          obtain ⟨es', he, b', hb, rfl⟩ := h
          exact de_dinT a.ok (ihEs _ _ _ _ _ a he) (ihE _ _ _ _ _ a hb) (by simpa using hm)
      · split at h
        · cases h
        · rename_i hm
          simp only [Option.bind_eq_some_iff, Option.map_eq_some_iff] at h
          obtain ⟨es', he, b', hb, rfl⟩ := h
          exact de_dninT a.ok (ihEs _ _ _ _ _ a he) (ihE _ _ _ _ _ a hb) (by simpa using hm)
      · split at h
        · cases h
        · rename_i hm
          unfold methOr at h
          split at h
          · rename_i cn hcn
            obtain ⟨rfl, hhot, hO⟩ := eqK_is hcn
            simp only [Option.bind_eq_some_iff] at h
            obtain ⟨q, hq, h⟩ := h
            obtain ⟨q, qb⟩ := q
            split at h
            · cases h
            rename_i hqb
            have hqb : qb = false := by simpa using hqb
            subst hqb
            simp only [Option.bind_eq_some_iff, Option.map_eq_some_iff] at h
            obtain ⟨a', ha, b', hb, rfl⟩ := h
            obtain ⟨m, c, hG, hM⟩ := a.g.me hhot _ _ _ hq
            exact de_ocmpX a.ok a.g.ob hG hM (ihE _ _ _ _ _ a ha) (ihE _ _ _ _ _ a hb) (by simpa using hm)
          simp only [Option.bind_eq_some_iff, Option.map_eq_some_iff] at h
          obtain ⟨a', ha, b', hb, rfl⟩ := h
          exact de_cmp a.ok a.g.wt (ihE _ _ _ _ _ a ha) (ihE _ _ _ _ _ a hb) (by simpa using hm)
      · split at h
        · cases h
        · rename_i hm
          simp only [Option.bind_eq_some_iff, Option.map_eq_some_iff] at h
          obtain ⟨a', ha, b', hb, c', hc, rfl⟩ := h
          exact de_ch a.ok (ihE _ _ _ _ _ a ha) (ihE _ _ _ _ _ a hb) (ihE _ _ _ _ _ a hc) (by simpa using hm)
      · split at h
        · cases h
        · rename_i hm
          simp only [Option.bind_eq_some_iff, Option.map_eq_some_iff] at h
          obtain ⟨a', ha, b', hb, c', hc, e', he, rfl⟩ := h
          exact de_ch3 a.ok (ihE _ _ _ _ _ a ha) (ihE _ _ _ _ _ a hb) (ihE _ _ _ _ _ a hc) (ihE _ _ _ _ _ a he) (by simpa using hm)
      · simp only [Option.bind_eq_some_iff, Option.map_eq_some_iff] at h
        obtain ⟨t', ht, a', ha, b', hb, rfl⟩ := h
        exact de_ite (ihC _ _ _ _ _ a ht) (ihE _ _ _ _ _ a ha) (ihE _ _ _ _ _ a hb)
      · simp only [Option.map_eq_some_iff] at h
        obtain ⟨a', ha, rfl⟩ := h
        exact de_tup (ihEs _ _ _ _ _ a ha)
      · simp only [Option.map_eq_some_iff] at h
        obtain ⟨a', ha, rfl⟩ := h
        exact de_lst (ihEs _ _ _ _ _ a ha)
      · simp only [Option.bind_eq_some_iff, Option.map_eq_some_iff] at h
        obtain ⟨a', ha, l', hl, h', hh, rfl⟩ := h
        exact de_sl (ihE _ _ _ _ _ a ha) (ihO _ _ _ _ _ a hl) (ihO _ _ _ _ _ a hh)
      · simp only [Option.bind_eq_some_iff, Option.map_eq_some_iff] at h
        obtain ⟨a', ha, es', he, rfl⟩ := h
        exact de_dixT a.ok (ihE _ _ _ _ _ a ha) (ihEs _ _ _ _ _ a he)
      · split at h
        · cases h
        · rename_i hs
          simp only [Option.bind_eq_some_iff, Option.map_eq_some_iff] at h
          obtain ⟨a', ha, b', hb, rfl⟩ := h
          exact de_ix a.ok a.g.wt (ihE _ _ _ _ _ a ha) (ihE _ _ _ _ _ a hb) (plainIx (by simpa using hs))
      · split at h
        · rename_i hp
          rw [Bool.and_eq_true] at hp
          obtain ⟨p1, p2, p3⟩ := plain_of hp.1
          split at h
          · rename_i hb
            unfold boolOr at h
            split at h
            · rename_i z hz
              obtain ⟨e0, cn, q, rfl, hes, hx, hhot, hst, hM⟩ := boolK_is hz
              simp only [Option.map_eq_some_iff] at h
              obtain ⟨a', ha, rfl⟩ := h
              cases hes
              subst hx
              obtain ⟨m, c, hG, hB⟩ := a.g.me hhot _ _ _ hM
              have e3 : wpE G C.Ed (.obool cn q a') = _ := obool_fun (te := wpE G C.Ed a') hG
              rw [e3]
              exact de_obool a.ok hB (gl_of a hp.2) ((a.g.bl _ hb).1 (by decide)) (ihE _ _ _ _ _ a ha) (star1 hst)
            unfold isxOr at h
            split at h
            · rename_i b cs hr
              simp only [Option.map_eq_some_iff] at h
              obtain ⟨b', hb', rfl⟩ := h
              obtain ⟨hx, hs⟩ := isxArg_is hr
              subst hx
              rcases hs with ⟨c, q, hes, rfl, hcp, hcg, hcc, hst⟩ | ⟨fs, x1, q, hes, hns, hl, hst⟩
              · cases hes
                obtain ⟨cv, hn, hnk⟩ := a.g.nmc c hcc
                exact de_isx1O a.g.ob hnk a.g.cl (gl_of a hp.2) ((a.g.bl _ hb).1 (by decide)) (ihE _ _ _ _ _ a hb') hn (gl_of a hcg) hcc (star1 hst) (star1 rfl) (star_any rfl)
              · cases hes
                exact de_isxTO a.g.cl (gl_of a hp.2) ((a.g.bl _ hb).1 (by decide)) (ihE _ _ _ _ _ a hb') (nams_of a hns) hl.1 hl.2 (fun e r ⟨c, q, z⟩ => star1 (by rw [z]; rfl)) (star1 hst) (star1 rfl) (star_any rfl)
            unfold revOr at h
            split at h
            · rename_i b hr
              split at h
              · cases h
              rename_i hhot
              simp only [Option.map_eq_some_iff] at h
              obtain ⟨b', hb', rfl⟩ := h
              obtain ⟨y, q1, q2, hx, hes, hy, hgy, hBy, hst⟩ := revArg_is hr
              cases hes
              subst hx
              subst hy
              exact de_rvl a.ok (a.calm (by simpa using hhot)).c (gl_of a hp.2) ((a.g.bl _ hb).1 (by decide)) (gl_of a hgy) ((a.g.bl _ hBy).1 (by decide)) (ihE _ _ _ _ _ a hb') (star1 hst)
            · simp only [Option.bind_eq_some_iff] at h
              obtain ⟨f, hf, h⟩ := h
              split at h
              · cases h
              rename_i hhot
              simp only [Option.map_eq_some_iff] at h
              obtain ⟨es', he, rfl⟩ := h
              have st := es_star he
              rw [List.all_cons, Bool.and_eq_true] at st
              exact de_bi a.ok (fun z => a.calm (by
                simp only [Bool.and_eq_true, Bool.not_eq_true', not_and] at hhot
                cases q : p.hot with
                | false => rfl
                | true => exact absurd z (hhot q))) (gl_of a hp.2) (bi_how (a.g.bl _ hb) hf) (ihEs _ _ _ _ _ a he) p3 p1 (star1 (by simpa using st.1)) (star_any st.2)
          · split at h
            · rename_i hF
              simp only [Option.map_eq_some_iff] at h
              obtain ⟨es', he, rfl⟩ := h
              have st := es_star he
              rw [List.all_cons, Bool.and_eq_true] at st
              obtain ⟨m, c, hG, hH, hQ⟩ := a.g.fn _ hF
              have e3 : wpE G C.Ed (.call _ es') = _ := call_fun (t := wpEs G C.Ed es') (Ed := C.Ed) hG
              rw [e3]
              cases hhot : p.hot with
              | true => exact de_callQ a.ok (hQ hhot) (gl_of a hp.2) (ihEs _ _ _ _ _ a he) p1 (star1 (by simpa using st.1)) (star_any st.2)
              | false => exact de_call a.ok (hH hhot) (gl_of a hp.2) (ihEs _ _ _ _ _ a he) p1 (star1 (by simpa using st.1)) (star_any st.2)
            · split at h
              · cases h
              rename_i hhot
              simp only [Option.bind_eq_some_iff, Option.map_eq_some_iff] at h
              obtain ⟨q, hq, es', he, rfl⟩ := h
              have st := es_star he
              rw [List.all_cons, Bool.and_eq_true] at st
              obtain ⟨m, c, hG, hN⟩ := a.g.nw (by simpa using hhot) _ _ hq
              exact de_newX a.ok hG hN (gl_of a hp.2) (ihEs _ _ _ _ _ a he) p1 (star1 (by simpa using st.1)) (star_any st.2)
        · split at h
          · cases h
          rename_i hhot
          simp only [Option.bind_eq_some_iff] at h
          obtain ⟨cn, hcn, h⟩ := h
          unfold callOr at h
          split at h
          rotate_left
          · simp only [Option.bind_eq_some_iff, Option.map_eq_some_iff] at h
            obtain ⟨q, hq, a', ha, es', he, rfl⟩ := h
            have st := es_star he
            rw [List.all_cons, Bool.and_eq_true] at st
            obtain ⟨m, c, hG, hN⟩ := a.g.nw (by simpa using hhot) _ _ hq
            exact de_newLX a.ok hG hN (ihE _ _ _ _ _ a ha) (ihEs _ _ _ _ _ a he) (star1 (by simpa using st.1)) (star_any st.2)
          rename_i q hq
          obtain ⟨q, qb⟩ := q
          dsimp only at h
          split at h
          · cases h
          rename_i hqb
          have hqb : qb = false := by simpa using hqb
          subst hqb
          simp only [Option.bind_eq_some_iff, Option.map_eq_some_iff] at h
          obtain ⟨a', ha, es', he, rfl⟩ := h
          have st := es_star he
          rw [List.all_cons, Bool.and_eq_true] at st
          obtain ⟨m, c, hG, hM⟩ := a.g.me (by simpa using hhot) _ _ _ hq
          exact de_icallX a.ok hG hM (ihE _ _ _ _ _ a ha) (ihEs _ _ _ _ _ a he) (star1 (by simpa using st.1)) (star_any st.2)
      · split at h
        · rename_i hp
          rw [Bool.and_eq_true, Bool.and_eq_true, Bool.not_eq_true'] at hp
          obtain ⟨p1, p2, p3⟩ := plain_of hp.1.1
          split at h
          · rename_i hF
            cases h
            obtain ⟨m, c, hG, hH, -⟩ := a.g.fn _ hF
            have e3 : wpE G C.Ed (.call _ .nil) = _ := call_fun (t := fun _ H Q => Q [] H) (Ed := C.Ed) hG
            rw [e3]
            exact de_call0 a.ok (hH hp.2) (gl_of a hp.1.2) p1
          · simp only [Option.map_eq_some_iff] at h
            obtain ⟨q, hq, rfl⟩ := h
            obtain ⟨m, c, hG, hN⟩ := a.g.nw hp.2 _ _ hq
            exact de_newX0 a.ok hG hN (gl_of a hp.1.2) p1
        · cases h
      · split at h
        · cases h
        · rename_i a0 x0 apos0 ps hp
          simp only [Bool.or_eq_true, not_or, Bool.not_eq_true, Bool.not_eq_false'] at hp
          unfold statOr at h
          split at h
          · rename_i q hq
            cases h
            obtain ⟨cn, np, rfl, hhot, hpl, hg, hM⟩ := statK_is hq
            obtain ⟨m, c, hG, hS⟩ := a.g.ms hhot _ _ _ hM
            have e3 : wpE G C.Ed (.call _ .nil) = _ := call_fun (t := fun _ H Q => Q [] H) (Ed := C.Ed) hG
            rw [e3]
            exact de_smeth0 a.ok hS (gl_of a hg) (plain_of hpl).1 (meth_eval (attr_free hp.1) rfl (by simpa using hp.2))
          unfold methOr at h
          split at h
          · rename_i cn hcn
            split at h
            · cases h
            rename_i hhot
            simp only [Option.bind_eq_some_iff] at h
            obtain ⟨q, hq, h⟩ := h
            obtain ⟨q, qb⟩ := q
            split at h
            · cases h
            rename_i hqb
            have hqb : qb = false := by simpa using hqb
            subst hqb
            simp only [Option.map_eq_some_iff] at h
            obtain ⟨a', ha, rfl⟩ := h
            obtain ⟨m, c, hG, hM⟩ := a.g.me (by simpa using hhot) _ _ _ hq
            exact de_omthX0 a.ok hG hM (ihE _ _ _ _ _ a ha) (meth_eval (attr_free hp.1) rfl (by simpa using hp.2))
          simp only [Option.bind_eq_some_iff, Option.map_eq_some_iff] at h
          obtain ⟨f, hf, a', ha, rfl⟩ := h
          obtain ⟨m1, m2, m3⟩ := mt_facts hf
          exact de_mth0 (m := p.m ps) m1 m2 m3 (ihE _ _ _ _ _ a ha) (attr_free hp.1) (by simpa using hp.2)
      · split at h
        · cases h
        · rename_i hp
          simp only [Bool.or_eq_true, not_or, Bool.not_eq_true, Bool.not_eq_false'] at hp
          unfold statOr at h
          split at h
          · rename_i q hq
            simp only [Option.map_eq_some_iff] at h
            obtain ⟨es', he, rfl⟩ := h
            have st := es_star he
            have st2 := st
            rw [List.all_cons, Bool.and_eq_true] at st
            obtain ⟨cn, np, rfl, hhot, hpl, hg, hM⟩ := statK_is hq
            obtain ⟨m, c, hG, hS⟩ := a.g.ms hhot _ _ _ hM
            have e3 : wpE G C.Ed (.call _ es') = _ := call_fun (t := wpEs G C.Ed es') (Ed := C.Ed) hG
            rw [e3]
            exact de_smeth a.ok hS (gl_of a hg) (plain_of hpl).1 (ihEs _ _ _ _ _ a he) (star1 (by simpa using st.1)) (star_any st.2) (meth_eval (attr_free hp.1.1) (star_few st2 (by simpa using hp.2)) (by simpa using hp.1.2))
          unfold methOr at h
          split at h
          · rename_i cn hcn
            split at h
            · cases h
            rename_i hhot
            simp only [Option.bind_eq_some_iff] at h
            obtain ⟨q, hq, h⟩ := h
            obtain ⟨q, qb⟩ := q
            split at h
            · cases h
            rename_i hqb
            have hqb : qb = false := by simpa using hqb
            subst hqb
            simp only [Option.bind_eq_some_iff, Option.map_eq_some_iff] at h
            obtain ⟨a', ha, es', he, rfl⟩ := h
            have st := es_star he
            have st2 := st
            rw [List.all_cons, Bool.and_eq_true] at st
            obtain ⟨m, c, hG, hM⟩ := a.g.me (by simpa using hhot) _ _ _ hq
            exact de_omthX a.ok hG hM (ihE _ _ _ _ _ a ha) (ihEs _ _ _ _ _ a he) (star1 (by simpa using st.1)) (star_any st.2) (meth_eval (attr_free hp.1.1) (star_few st2 (by simpa using hp.2)) (by simpa using hp.1.2))
          split at h
          · rename_i hx
            have hx := eq_of_beq hx
            subst hx
            split at h
            · split at h
              · cases h
              rename_i hd
              simp only [Option.bind_eq_some_iff, Option.map_eq_some_iff] at h
              obtain ⟨a', ha, k', hk, d', hd', rfl⟩ := h
              exact de_dgetT a.ok (ihE _ _ _ _ _ a ha) (ihEs _ _ _ _ _ a hk) (ihE _ _ _ _ _ a hd') (m2_of (attr_free hp.1.1) rfl (by simpa using hd) (by simpa using hp.1.2))
            · split at h
              · cases h
              rename_i hd
              simp only [Bool.or_eq_true, not_or, Bool.not_eq_true] at hd
              simp only [Option.bind_eq_some_iff, Option.map_eq_some_iff] at h
              obtain ⟨a', ha, k', hk, d', hd', rfl⟩ := h
              exact de_dget a.ok a.g.wt (ihE _ _ _ _ _ a ha) (ihE _ _ _ _ _ a hk) (ihE _ _ _ _ _ a hd') (m2_of (attr_free hp.1.1) hd.1 hd.2 (by simpa using hp.1.2))
            · cases h
          simp only [Option.bind_eq_some_iff, Option.map_eq_some_iff] at h
          obtain ⟨f, hf, a', ha, es', he, rfl⟩ := h
          obtain ⟨m1, m2, m3⟩ := mt_facts hf
          have st := es_star he
          have st2 := st
          rw [List.all_cons, Bool.and_eq_true] at st
          exact de_mth m1 m2 m3 (ihE _ _ _ _ _ a ha) (ihEs _ _ _ _ _ a he) (attr_free hp.1.1) (star_few st2 (by simpa using hp.2)) (by simpa using hp.1.2) (star1 (by simpa using st.1)) (star_any st.2)
      · unfold gsOr at h
        split at h <;> try dsimp only at h
        · split at h
          · cases h
          · rename_i hp
            simp only [Bool.or_eq_true, not_or, Bool.not_eq_true, Bool.not_eq_false'] at hp
            obtain ⟨⟨hp0, hp1⟩, hp2⟩ := hp
            have hp := And.intro hp1 hp2
            simp only [Option.bind_eq_some_iff] at h
            obtain ⟨i', hi, t', ht, h⟩ := h
            split at h
            · cases h
            · rename_i hsl
              simp only [Option.bind_eq_some_iff, Option.map_eq_some_iff] at h
              obtain ⟨c', hc, e', he, rfl⟩ := h
              have hk : Scope.kind _ = .function := (blkOk_by hp.2).kind
              unfold lcOr
              split
              · rename_i j mm hj _
                obtain ⟨y, py, rfl, hpl, hvis, hsl'⟩ := keyK_is hj
                obtain ⟨q1, q2, q3⟩ := plain_of hpl
                refine de_lcd (run := fun σ xs keep H1 Q => xs.length ≤ sizeLine ∧ lcL _ keep xs H1 fun ys H2 => freshL false ys H2 Q) (de_lc (m := false) a.ok (a.calm hp0).c (di_seq (de_var (by rw [a.N]; exact slot_of hsl') (vis_of a hvis) q1 q2)) (blkOk_by (by rw [a.N, a.sc]; exact hp.2)) (fun i hm => ?_) (fun s H Ca cl fp Z M0 H0 => ihT _ _ _ _ _ (a.blk hk) ht) (fun s H Ca cl fp Z M0 H0 => ihCs _ _ _ _ _ (a.blk hk) hc) (fun s H Ca cl fp Z M0 H0 => ihE _ _ _ _ _ (a.blk hk) he) (fun _ => rfl))
                have := hsl
                simp only [Bool.not_eq_true, Bool.not_eq_false', List.all_eq_true] at this
                simpa using this i hm
              refine de_lc a.ok (a.calm hp0).c (ihI _ _ _ _ _ _ a hi) (blkOk_by (by rw [a.N, a.sc]; exact hp.2)) (fun i hm => ?_) (fun s H Ca cl fp Z M0 H0 => ihT _ _ _ _ _ (a.blk hk) ht) (fun s H Ca cl fp Z M0 H0 => ihCs _ _ _ _ _ (a.blk hk) hc) (fun s H Ca cl fp Z M0 H0 => ihE _ _ _ _ _ (a.blk hk) he) (set_free hp.1)
              have := hsl
              simp only [Bool.not_eq_true, Bool.not_eq_false', List.all_eq_true] at this
              simpa using this i hm
        · split at h
          · cases h
          · rename_i hp
            simp only [Bool.or_eq_true, not_or, Bool.not_eq_true, Bool.not_eq_false'] at hp
            obtain ⟨⟨⟨hp0, hp1⟩, hp3⟩, hp2⟩ := hp
            simp only [Option.bind_eq_some_iff] at h
            obtain ⟨i', hi, t', ht, i1', hi1, t1', ht1, h⟩ := h
            split at h
            · cases h
            · rename_i hsl
              simp only [Option.bind_eq_some_iff, Option.map_eq_some_iff] at h
              obtain ⟨c', hc, c1', hc1, e', he, rfl⟩ := h
              have hk : Scope.kind _ = .function := (blkOk_by hp2).kind
              simp only [Bool.or_eq_true, not_or, Bool.not_eq_true, Bool.not_eq_false', List.all_eq_true] at hsl
              refine de_lc2 a.ok (a.calm hp0).c (ihI _ _ _ _ _ _ a hi) (blkOk_by (by rw [a.N, a.sc]; exact hp2)) (fun i hm => by simpa using hsl.1 i hm) (fun i hm => by simpa using hsl.2 i hm) (fun i hm => by rw [List.map_append]; exact List.mem_append_right _ hm) (fun s H Ca cl fp Z M0 H0 => ihT _ _ _ _ _ (a.blk hk) ht) (fun s H Ca cl fp Z M0 H0 => ihCs _ _ _ _ _ (a.blk hk) hc)
                (fun s H Ca cl fp Z M0 H0 => ihI _ _ _ _ _ _ (a.blk hk) hi1) (fun s H Ca cl fp Z M0 H0 => ihT _ _ _ _ _ (a.blk hk) ht1) (fun s H Ca cl fp Z M0 H0 => ihCs _ _ _ _ _ (a.blk hk) hc1) (fun s H Ca cl fp Z M0 H0 => ihE _ _ _ _ _ (a.blk hk) he) (set_free hp1) (fun env => set_free hp3)
        · cases h
      · rename_i pos1
        cases h
        cases hm : p.m pos1 with
        | true => exact de_dnewT
        | false => exact de_dnewK
      · split at h
        · cases h
        · rename_i hp
          simp only [Option.map_eq_some_iff] at h
          obtain ⟨a', ha, rfl⟩ := h
          unfold fldOr
          split
          · exact de_ofld a.g.ob (ihE _ _ _ _ _ a ha) (attr_free (by simpa using hp))
          · exact de_fld a.g.cl (ihE _ _ _ _ _ a ha) (attr_free (by simpa using hp))
      · simp only [Option.bind_eq_some_iff] at h
        obtain ⟨ks, hk, h⟩ := h
        split at h
        · rename_i hh
          simp only [Bool.and_eq_true, beq_iff_eq, Bool.not_eq_true', List.isEmpty_eq_false_iff, decide_eq_true_eq] at hh
          simp only [Option.map_eq_some_iff] at h
          obtain ⟨c', hc, rfl⟩ := h
          exact de_dct (keyInts_is hk) hh.1.1 hh.1.2 hh.2 (ihP _ _ _ _ _ a hc _ _ _ (keyInts_is hk) hh.1.1)
        · cases h
      · cases h
    refine ⟨main, ?_, ?_, ?_, ?_, ?_, ?_, ?_, ?_⟩
    · intro blk sc C e c a h
      have hv := main blk sc C e c a h
      unfold compE at h
      split at h
      · cases h; exact dc_val hv fun _ => rfl
      · cases h; exact dc_val hv fun _ => rfl
      · cases h; exact dc_val hv fun _ => rfl
      · cases h; exact dc_val hv fun _ => rfl
      · split at h
        · split at h
          · simp only [Option.map_eq_some_iff] at h
            obtain ⟨i, hi, rfl⟩ := h
            revert hv
            cases p.z _ with
            | true => exact fun hv => dc_val hv fun _ => rfl
            | false => exact fun hv => dc_val hv fun _ => rfl
          · split at h
            · split at h
              · simp only [Option.map_eq_some_iff] at h
                obtain ⟨m, hm, rfl⟩ := h
                exact dc_val hv fun _ => rfl
              · cases h
                exact dc_val hv fun _ => rfl
            · cases h
        · cases h
      · unfold methOr at h
        split at h
        · simp only [Option.bind_eq_some_iff] at h
          obtain ⟨q, hq, h⟩ := h
          split at h
          · cases h
          simp only [Option.bind_eq_some_iff, Option.map_eq_some_iff] at h
          obtain ⟨a', ha, b', hb, rfl⟩ := h
          exact dc_val hv fun _ => rfl
        simp only [Option.bind_eq_some_iff, Option.map_eq_some_iff] at h
        obtain ⟨a', ha, b', hb, rfl⟩ := h
        exact dc_val hv fun _ => rfl
      · simp only [Option.map_eq_some_iff] at h
        obtain ⟨a', ha, rfl⟩ := h
        exact dc_val hv fun _ => rfl
      · simp only [Option.map_eq_some_iff] at h
        obtain ⟨a', ha, rfl⟩ := h
        exact dc_not (ihC _ _ _ _ _ a ha)
      · rename_i op _ _
        cases op with
        | And => exact (dw_and1 (ihC _ _ _ _ _ a h)).pt
        | Or => exact (dw_or1 (ihC _ _ _ _ _ a h)).pt
      · simp only [Option.bind_eq_some_iff, Option.map_eq_some_iff] at h
        obtain ⟨a', ha, b', hb, rfl⟩ := h
        exact (dw_and (ihC _ _ _ _ _ a ha) (dw_of (.inl ⟨_, rfl⟩) (ihC _ _ _ _ _ a hb))).pt
      · simp only [Option.bind_eq_some_iff, Option.map_eq_some_iff] at h
        obtain ⟨a', ha, b', hb, rfl⟩ := h
        exact (dw_or (ihC _ _ _ _ _ a ha) (dw_of (.inr ⟨_, rfl⟩) (ihC _ _ _ _ _ a hb))).pt
      · split at h
        · cases h
        · rename_i hm
          simp only [Option.bind_eq_some_iff, Option.map_eq_some_iff] at h
          obtain ⟨es', he, b', hb, rfl⟩ := h
          exact dc_dinT a.ok (ihEs _ _ _ _ _ a he) (ihE _ _ _ _ _ a hb) (by simpa using hm)
      · split at h
        · cases h
        · rename_i hm
          simp only [Option.bind_eq_some_iff, Option.map_eq_some_iff] at h
          obtain ⟨es', he, b', hb, rfl⟩ := h
          exact dc_dninT a.ok (ihEs _ _ _ _ _ a he) (ihE _ _ _ _ _ a hb) (by simpa using hm)
      · split at h
        · cases h
        · rename_i hm
          unfold methOr at h
          split at h
          · rename_i cn hcn
            obtain ⟨rfl, hhot, hO⟩ := eqK_is hcn
            simp only [Option.bind_eq_some_iff] at h
            obtain ⟨q, hq, h⟩ := h
            obtain ⟨q, qb⟩ := q
            split at h
            · cases h
            rename_i hqb
            have hqb : qb = false := by simpa using hqb
            subst hqb
            simp only [Option.bind_eq_some_iff, Option.map_eq_some_iff] at h
            obtain ⟨a', ha, b', hb, rfl⟩ := h
            obtain ⟨m, c, hG, hM⟩ := a.g.me hhot _ _ _ hq
            exact dc_ocmpX a.ok a.g.ob hG hM (ihE _ _ _ _ _ a ha) (ihE _ _ _ _ _ a hb) (by simpa using hm)
          simp only [Option.bind_eq_some_iff, Option.map_eq_some_iff] at h
          obtain ⟨a', ha, b', hb, rfl⟩ := h
          exact dc_cmp a.ok a.g.wt (ihE _ _ _ _ _ a ha) (ihE _ _ _ _ _ a hb) (by simpa using hm)
      · split at h
        · cases h
        · rename_i hm
          simp only [Option.bind_eq_some_iff, Option.map_eq_some_iff] at h
          obtain ⟨a', ha, b', hb, c', hc, rfl⟩ := h
          exact dc_ch a.ok (ihE _ _ _ _ _ a ha) (ihE _ _ _ _ _ a hb) (ihE _ _ _ _ _ a hc) (by simpa using hm)
      · split at h
        · cases h
        · rename_i hm
          simp only [Option.bind_eq_some_iff, Option.map_eq_some_iff] at h
          obtain ⟨a', ha, b', hb, c', hc, e', he, rfl⟩ := h
          exact dc_ch3 a.ok (ihE _ _ _ _ _ a ha) (ihE _ _ _ _ _ a hb) (ihE _ _ _ _ _ a hc) (ihE _ _ _ _ _ a he) (by simpa using hm)
      · simp only [Option.bind_eq_some_iff, Option.map_eq_some_iff] at h
        obtain ⟨t', ht, a', ha, b', hb, rfl⟩ := h
        exact dc_ite (ihC _ _ _ _ _ a ht) (ihC _ _ _ _ _ a ha) (ihC _ _ _ _ _ a hb)
      · simp only [Option.map_eq_some_iff] at h
        obtain ⟨a', ha, rfl⟩ := h
        exact dc_val hv fun _ => rfl
      · simp only [Option.map_eq_some_iff] at h
        obtain ⟨a', ha, rfl⟩ := h
        exact dc_val hv fun _ => rfl
      · simp only [Option.bind_eq_some_iff, Option.map_eq_some_iff] at h
        obtain ⟨a', ha, l', hl, h', hh, rfl⟩ := h
        exact dc_val hv fun _ => rfl
      · simp only [Option.bind_eq_some_iff, Option.map_eq_some_iff] at h
        obtain ⟨a', ha, es', he, rfl⟩ := h
        exact dc_val hv fun _ => rfl
      · split at h
        · cases h
        · simp only [Option.bind_eq_some_iff, Option.map_eq_some_iff] at h
          obtain ⟨a', ha, b', hb, rfl⟩ := h
          exact dc_val hv fun _ => rfl
      · split at h
        · split at h
          · unfold boolOr at h
            split at h
            · simp only [Option.map_eq_some_iff] at h
              obtain ⟨b', hb', rfl⟩ := h
              exact dc_val hv fun _ => rfl
            unfold isxOr at h
            split at h
            · simp only [Option.map_eq_some_iff] at h
              obtain ⟨b', hb', rfl⟩ := h
              exact dc_val hv fun _ => rfl
            unfold revOr at h
            split at h
            · split at h
              · cases h
              simp only [Option.map_eq_some_iff] at h
              obtain ⟨b', hb', rfl⟩ := h
              exact dc_val hv fun _ => rfl
            · simp only [Option.bind_eq_some_iff] at h
              obtain ⟨f, hf, h⟩ := h
              split at h
              · cases h
              simp only [Option.map_eq_some_iff] at h
              obtain ⟨es', he, rfl⟩ := h
              exact dc_val hv fun _ => rfl
          · split at h
            · simp only [Option.map_eq_some_iff] at h
              obtain ⟨es', he, rfl⟩ := h
              exact dc_val hv fun _ => rfl
            · split at h
              · cases h
              simp only [Option.bind_eq_some_iff, Option.map_eq_some_iff] at h
              obtain ⟨q, hq, es', he, rfl⟩ := h
              exact dc_val hv fun _ => rfl
        · split at h
          · cases h
          simp only [Option.bind_eq_some_iff] at h
          obtain ⟨cn, hcn, h⟩ := h
          unfold callOr at h
          split at h
          rotate_left
          · simp only [Option.bind_eq_some_iff, Option.map_eq_some_iff] at h
            obtain ⟨q, hq, a', ha, es', he, rfl⟩ := h
            exact dc_val hv fun _ => rfl
          dsimp only at h
          split at h
          · cases h
          simp only [Option.bind_eq_some_iff, Option.map_eq_some_iff] at h
          obtain ⟨a', ha, es', he, rfl⟩ := h
          exact dc_val hv fun _ => rfl
      · split at h
        · split at h
          · cases h
            exact dc_val hv fun _ => rfl
          · simp only [Option.map_eq_some_iff] at h
            obtain ⟨q, hq, rfl⟩ := h
            exact dc_val hv fun _ => rfl
        · cases h
      · split at h
        · cases h
        · unfold statOr at h
          split at h
          · cases h
            exact dc_val hv fun _ => rfl
          unfold methOr at h
          split at h
          · split at h
            · cases h
            simp only [Option.bind_eq_some_iff] at h
            obtain ⟨q, hq, h⟩ := h
            split at h
            · cases h
            simp only [Option.map_eq_some_iff] at h
            obtain ⟨a', ha, rfl⟩ := h
            exact dc_val hv fun _ => rfl
          simp only [Option.bind_eq_some_iff, Option.map_eq_some_iff] at h
          obtain ⟨f, hf, a', ha, rfl⟩ := h
          exact dc_val hv fun _ => rfl
      · split at h
        · cases h
        · unfold statOr at h
          split at h
          · simp only [Option.map_eq_some_iff] at h
            obtain ⟨es', he, rfl⟩ := h
            exact dc_val hv fun _ => rfl
          unfold methOr at h
          split at h
          · split at h
            · cases h
            simp only [Option.bind_eq_some_iff] at h
            obtain ⟨q, hq, h⟩ := h
            split at h
            · cases h
            simp only [Option.bind_eq_some_iff, Option.map_eq_some_iff] at h
            obtain ⟨a', ha, es', he, rfl⟩ := h
            exact dc_val hv fun _ => rfl
          split at h
          · split at h
            · split at h
              · cases h
              simp only [Option.bind_eq_some_iff, Option.map_eq_some_iff] at h
              obtain ⟨a', ha, k', hk, d', hd', rfl⟩ := h
              exact dc_val hv fun _ => rfl
            · split at h
              · cases h
              simp only [Option.bind_eq_some_iff, Option.map_eq_some_iff] at h
              obtain ⟨a', ha, k', hk, d', hd', rfl⟩ := h
              exact dc_val hv fun _ => rfl
            · cases h
          simp only [Option.bind_eq_some_iff, Option.map_eq_some_iff] at h
          obtain ⟨f, hf, a', ha, es', he, rfl⟩ := h
          exact dc_val hv fun _ => rfl
      · unfold gsOr at h
        split at h <;> try dsimp only at h
        · split at h
          · cases h
          · simp only [Option.bind_eq_some_iff] at h
            obtain ⟨i', hi, t', ht, h⟩ := h
            split at h
            · cases h
            · simp only [Option.bind_eq_some_iff, Option.map_eq_some_iff] at h
              obtain ⟨c', hc, e', he, rfl⟩ := h
              revert hv
              unfold lcOr
              split <;> exact fun hv => dc_val hv fun _ => rfl
        · split at h
          · cases h
          · simp only [Option.bind_eq_some_iff] at h
            obtain ⟨i', hi, t', ht, i1', hi1, t1', ht1, h⟩ := h
            split at h
            · cases h
            · simp only [Option.bind_eq_some_iff, Option.map_eq_some_iff] at h
              obtain ⟨c', hc, c1', hc1, e', he, rfl⟩ := h
              exact dc_val hv fun _ => rfl
        · cases h
      · cases h
        exact dc_val hv fun _ => rfl
      · split at h
        · cases h
        · simp only [Option.map_eq_some_iff] at h
          obtain ⟨a', ha, rfl⟩ := h
          revert hv
          unfold fldOr
          split
          · exact fun hv => dc_val hv fun _ => rfl
          · exact fun hv => dc_val hv fun _ => rfl
      · simp only [Option.bind_eq_some_iff] at h
        obtain ⟨ks, hk, h⟩ := h
        split at h
        · simp only [Option.map_eq_some_iff] at h
          obtain ⟨c', hc, rfl⟩ := h
          exact dc_val hv fun _ => rfl
        · cases h
      · cases h
    · intro blk sc C es c a h
      unfold compEs at h
      split at h
      · cases h
        exact da_nil
      · split at h
        · cases h
        · rename_i hs
          simp only [Option.bind_eq_some_iff, Option.map_eq_some_iff] at h
          obtain ⟨e', he, r', hr, rfl⟩ := h
          exact da_cons (ihE _ _ _ _ _ a he) (ihEs _ _ _ _ _ a hr) (star1 (by simpa using hs))
    · intro blk sc C es c a h
      unfold compCs at h
      split at h
      · cases h
        exact dcs_nil
      · simp only [Option.map_eq_some_iff] at h
        obtain ⟨e', he, rfl⟩ := h
        exact dcs_one (ihC _ _ _ _ _ a he)
      · cases h
    · intro blk sc C o c a h
      unfold compO at h
      split at h
      · cases h
        exact do_none
      · simp only [Option.map_eq_some_iff] at h
        obtain ⟨e', he, rfl⟩ := h
        exact do_some (ihE _ _ _ _ _ a he)
    · intro blk sc C e c a h
      unfold compT at h
      split at h
      · split at h
        · rename_i hl
          simp only [Option.map_eq_some_iff] at h
          obtain ⟨i, hi, rfl⟩ := h
          obtain ⟨h1, h2⟩ := loc_of a hl
          exact dg_name a.ok (by rw [a.N]; exact slot_of hi) h1 h2
        · cases h
      · split at h
        · cases h
        rename_i hhot
        simp only [Option.map_eq_some_iff] at h
        obtain ⟨ts, hts, rfl⟩ := h
        obtain ⟨h1, h2⟩ := ts_len hts
        obtain ⟨h3, h4⟩ := assign_len (env := C.X.env) h2
        exact dg_tup a.ok (a.calm (by simpa using hhot)).c (ihTs _ _ _ _ _ a hts) h4 (by rw [h3, h1])
      · simp only [Option.bind_eq_some_iff, Option.map_eq_some_iff] at h
        obtain ⟨a', ha, es', he, rfl⟩ := h
        exact dg_dsubT a.ok (ihE _ _ _ _ _ a ha) (ihEs _ _ _ _ _ a he)
      · rename_i pos1 _
        split at h
        · cases h
        · rename_i hs
          simp only [Option.bind_eq_some_iff, Option.map_eq_some_iff] at h
          obtain ⟨a', ha, b', hb, rfl⟩ := h
          unfold subOr
          generalize (p.m pos1 && !isAttr _) = bm
          cases bm with
          | true => exact dg_dsub a.ok a.g.wt (ihE _ _ _ _ _ a ha) (ihE _ _ _ _ _ a hb) (sub_free (by simpa using hs))
          | false => exact dg_sub (ihE _ _ _ _ _ a ha) (ihE _ _ _ _ _ a hb) (sub_free (by simpa using hs))
      · cases h
    · intro blk sc C es c a h
      unfold compTs at h
      split at h
      · cases h
        exact dgs_nil
      · split at h
        · cases h
        · rename_i hs
          simp only [Option.bind_eq_some_iff, Option.map_eq_some_iff] at h
          obtain ⟨e', he, r', hr, rfl⟩ := h
          refine dgs_cons (ihT _ _ _ _ _ a he) (ihTs _ _ _ _ _ a hr) ?_
          rw [assign1 (by simpa using hs)]
          rfl
    · intro blk sc C tg e c a h
      unfold compI at h
      split at h
      · split at h
        · rename_i hx
          split at h
          · rename_i hg
            simp only [Option.map_eq_some_iff] at h
            obtain ⟨a', ha, rfl⟩ := h
            simp only [Bool.and_eq_true, Bool.not_eq_true', Bool.not_eq_eq_eq_not, Bool.not_true] at hg
            have ex := eq_of_beq hx
            subst ex
            exact di_rng1 (gl_of a hg.1.1) ((a.g.bl _ hg.1.2).1 (by decide)) (ihE _ _ _ _ _ a ha) (star1 hg.2)
          · cases h
        · split at h
          · rename_i hx
            have ex := eq_of_beq hx
            subst ex
            split at h
            · split at h
              · rename_i hg
                simp only [Option.map_eq_some_iff] at h
                obtain ⟨a', ha, rfl⟩ := h
                simp only [Bool.and_eq_true, Bool.not_eq_true', Bool.not_eq_eq_eq_not, Bool.not_true] at hg
                have ey := eq_of_beq hg.1.1.1.2
                subst ey
                exact di_rngR (gl_of a hg.1.1.1.1.1) ((a.g.bl _ hg.1.1.1.1.2).1 (by decide)) (gl_of a hg.1.1.2) ((a.g.bl _ hg.1.2).1 (by decide)) (ihE _ _ _ _ _ a ha) (star1 hg.2)
              · cases h
            · split at h
              · rename_i hg
                simp only [Option.map_eq_some_iff] at h
                obtain ⟨a', ha, rfl⟩ := h
                simp only [Bool.and_eq_true] at hg
                exact di_revs (gl_of a hg.1) ((a.g.bl _ hg.2).1 (by decide)) (ihE _ _ _ _ _ a ha)
              · cases h
            · cases h
          · split at h
            · rename_i hx
              have ex := eq_of_beq hx
              subst ex
              split at h
              · rename_i hg
                simp only [Option.map_eq_some_iff] at h
                obtain ⟨a', ha, rfl⟩ := h
                simp only [Bool.and_eq_true, Bool.not_eq_true', Bool.not_eq_eq_eq_not, Bool.not_true] at hg
                obtain ⟨el, kk, tp, et⟩ := isTup_is hg.1.1.1
                subst et
                exact di_enum (gl_of a hg.1.1.2) ((a.g.bl _ hg.1.2).1 (by decide)) (ihE _ _ _ _ _ a ha) (star1 hg.2)
              · cases h
            · simp only [Option.map_eq_some_iff] at h
              obtain ⟨a', ha, rfl⟩ := h
              exact di_seq (ihE _ _ _ _ _ a ha)
      · split at h
        · rename_i hx
          split at h
          · rename_i hg
            simp only [Option.bind_eq_some_iff, Option.map_eq_some_iff] at h
            obtain ⟨a', ha, b', hb, rfl⟩ := h
            simp only [Bool.and_eq_true, Bool.not_eq_true', Bool.not_eq_eq_eq_not, Bool.not_true] at hg
            have ex := eq_of_beq hx
            subst ex
            exact di_rng2 (gl_of a hg.1.1.1) ((a.g.bl _ hg.1.1.2).1 (by decide)) (ihE _ _ _ _ _ a ha) (ihE _ _ _ _ _ a hb) (by rw [star1 hg.1.2, star1 hg.2]; rfl) (star1 hg.2)
          · cases h
        · split at h
          · rename_i hx
            have ex := eq_of_beq hx
            subst ex
            split at h
            · rename_i hg
              simp only [Option.bind_eq_some_iff, Option.map_eq_some_iff] at h
              obtain ⟨a', ha, b', hb, rfl⟩ := h
              simp only [Bool.and_eq_true, Bool.not_eq_true', Bool.not_eq_eq_eq_not, Bool.not_true] at hg
              obtain ⟨el, kk, tp, et⟩ := isTup_is hg.1.1.1.1
              subst et
              exact di_zip (gl_of a hg.1.1.1.2) ((a.g.bl _ hg.1.1.2).1 (by decide)) (ihE _ _ _ _ _ a ha) (ihE _ _ _ _ _ a hb) (star1 hg.1.2) (star1 hg.2)
            · cases h
          · simp only [Option.map_eq_some_iff] at h
            obtain ⟨a', ha, rfl⟩ := h
            exact di_seq (ihE _ _ _ _ _ a ha)
      · split at h
        · rename_i hx
          split at h
          · rename_i hg
            simp only [Option.bind_eq_some_iff, Option.map_eq_some_iff] at h
            obtain ⟨a', ha, b', hb, c', hc, rfl⟩ := h
            simp only [Bool.and_eq_true, Bool.not_eq_true', Bool.not_eq_eq_eq_not, Bool.not_true] at hg
            have ex := eq_of_beq hx
            subst ex
            exact di_rng3 (gl_of a hg.1.1.1.1) ((a.g.bl _ hg.1.1.1.2).1 (by decide)) (ihE _ _ _ _ _ a ha) (ihE _ _ _ _ _ a hb) (ihE _ _ _ _ _ a hc) (star1 hg.1.1.2) (star1 hg.1.2) (star1 hg.2)
          · cases h
        · simp only [Option.map_eq_some_iff] at h
          obtain ⟨a', ha, rfl⟩ := h
          exact di_seq (ihE _ _ _ _ _ a ha)
      · simp only [Option.map_eq_some_iff] at h
        obtain ⟨a', ha, rfl⟩ := h
        exact di_seq (ihE _ _ _ _ _ a ha)
    · intro blk sc C es c a h pos ks keys hk hl
      unfold compEs at h
      split at h
      · cases h
        cases hk with
        | nil => exact dps_nil
        | cons hk => cases hl
        | conss hk => cases hl
      · split at h
        · cases h
        · rename_i hs
          simp only [Option.bind_eq_some_iff, Option.map_eq_some_iff] at h
          obtain ⟨e', he, r', hr, rfl⟩ := h
          cases hk with
          | nil => cases hl
          | cons hk => exact dps_cons (ihE _ _ _ _ _ a he) (ihP _ _ _ _ _ a hr _ _ _ hk (by simpa using hl))
          | conss hk => exact dps_conss (ihE _ _ _ _ _ a he) (ihP _ _ _ _ _ a hr _ _ _ hk (by simpa using hl))
end
end DL

set_option maxHeartbeats 1000000
namespace DL
open PySem PySem.Spec PyProof.Rows L2

section
variable {p : Pm} {G : Gm} {blk : Bool} {sc : Scope} {C : Co} {pos0 : Pos}
theorem swaps_free {tg e : Expr} {line : Nat} {env : Env} (hk : sc.kind = .function) (he : env.scope = sc) (h : lcUsed sc tg e = some false) : swapsWith e (some tg) line env = pure false := by
  unfold lcUsed at h
  split at h
  · rename_i elt gs scope pos t tpos
    have h := Option.some.inj h
    unfold swapsWith
    show (pure _ : Sem Bool) = pure false
    congr 1
    have hb : env.blockKind = .function := by unfold Env.blockKind; rw [he, hk]; rfl
    have ht : (env.kindOf t == some .local) = decide (sc.names.lookup t = some .local) := by
      show (env.scope.names.lookup t == some .local) = _
      rw [he, Bool.beq_eq_decide_eq]
    rw [hb, ht]
    exact h
  · cases h
  · cases h
  · rename_i h1 h2 h3
    unfold swapsWith
    cases e with
    | ListComp a b c d =>
      cases tg with
      | Name t tp => first | exact (h1 _ _ _ _ _ _ rfl rfl).elim | exact (h2 _ _ _ _ _ _ rfl rfl).elim | exact (h3 _ _ _ _ _ _ rfl rfl).elim | (exfalso; simp_all)
      | _ => rfl
    | SetComp a b c d => first | exact (h1 _ _ _ _ rfl).elim | exact (h2 _ _ _ _ rfl).elim
    | DictComp a b c d f => first | exact (h1 _ _ _ _ _ rfl).elim | exact (h2 _ _ _ _ _ rfl).elim | exact (h3 _ _ _ _ _ rfl).elim
    | _ => rfl
theorem swaps_drop {e : Expr} {line : Nat} {env : Env} (h : isComp e = false) : swapsWith e none line env = pure false := by
  cases e <;> first | rfl | cases h
theorem swaps_set {e o : Expr} {f : Str} {p : Pos} {line : Nat} {env : Env} (h : isComp e = false) : swapsWith e (some (.Attribute o f p)) line env = pure false := by
  cases e <;> first | rfl | cases h
theorem par_free {tg e : Expr} {env : Env} (h : parTup [tg] e = false) : swappedStores [tg] e env = pure none := by
  unfold swappedStores
  cases tg <;> cases e <;> first | rfl | cases h
theorem any_star (es : List Expr) : (es.any fun | .Starred .. => true | _ => false) = es.any starred := by
  congr 1
theorem two_free {t1 t2 e : Expr} {env : Env} : swappedStores [t1, t2] e env = pure none := by
  unfold swappedStores
  cases t1 <;> first | rfl | (cases e <;> rfl)
theorem par_is {env : Env} {x y : Str} {px py pt : Pos} {a b : Expr} {kt k2 pt2} (hk : sc.kind = .function) (he : env.scope = sc) (ha : starred a = false) (hb : starred b = false) (h : parC sc x y px py a b = true) :
    swappedStores [.Tuple [.Name x px, .Name y py] kt pt] (.Tuple [a, b] k2 pt2) env = pure (some [x, y]) := by
  have sx : [a, b].any starred = false := by simp [ha, hb]
  unfold parC at h
  simp only [Bool.and_eq_true, decide_eq_true_eq, Bool.not_eq_true'] at h
  obtain ⟨⟨⟨⟨⟨h1, h2⟩, h3⟩, h4⟩, h5⟩, h6⟩ := h
  have hkb : env.blockKind = .function := by unfold Env.blockKind; rw [he, hk]; rfl
  have kx : (env.kindOf x == some .local) = true := by show (env.scope.names.lookup x == some .local) = true; rw [he, h1]; rfl
  have ky : (env.kindOf y == some .local) = true := by show (env.scope.names.lookup y == some .local) = true; rw [he, h2]; rfl
  have p1 : ∀ (q : Pos), (Expr.Name x q).pos = q := fun _ => rfl
  have hxy : x ≠ y := by simpa using h4
  have l1 : (py.line = px.line) := by simpa using h3
  unfold swappedStores
  dsimp only
  erw [show (([a, b] : List Expr).any fun | .Starred .. => true | _ => false) = false from (any_star _).trans sx]
  simp only [hkb, List.length_cons, List.length_nil, h5, h6]
  have kx' : env.kindOf x = some .local := by simpa using kx
  have ky' : env.kindOf y = some .local := by simpa using ky
  simp [kx', ky', p1, l1, List.eraseDups_cons, List.filterMap_cons, hxy, Ne.symm hxy]
theorem assign1T {tg : Expr} {env : Env} (h : starred tg = false) : (assignEach [tg] env).map (·.2) = [assign tg env] := by
  rw [assign1 h]; rfl
theorem lcOr_lc {k : Option Nat} {m : Bool} {e : E} {t : T} {i : It} {c : Es} {own : List Nat} (h : isLcd (lcOr k m e t i c own) = false) : lcOr k m e t i c own = .lc m e t i c own := by
  unfold lcOr at h ⊢
  split at h
  · cases h
  · rfl
theorem comp_lc {n : Nat} {e elt : Expr} {gs : List Comprehension} {scope : Scope} {pos : Pos} {c : E} (h : compE p (n + 1) sc e = some c) (he : e = .ListComp elt gs scope pos) (hl : isLcd c = false) :
    ∃ tg iter ifs i' t' c' e', gs = [⟨tg, iter, ifs, 0⟩] ∧ p.hot = false ∧ isSet iter = false ∧ blkC p.N sc scope (ownOf p.N tg) = true ∧ compI p n (isTup tg) sc iter = some i' ∧ compT p n true (relS scope sc) tg = some t' ∧
      (∀ i ∈ t'.slots, i ∈ (ownOf p.N tg).map (·.2)) ∧ compCs p n (relS scope sc) ifs = some c' ∧ compE p n (relS scope sc) elt = some e' ∧ c = lcOr (keyK p sc iter) (p.m pos) e' t' i' c' ((ownOf p.N tg).map (·.2)) := by
  unfold compE at h
  split at h
  all_goals first | (cases he; done) | skip
  · unfold gsOr at h
    split at h <;> try dsimp only at h
    · rename_i tg iter ifs
      split at h
      · cases h
      · rename_i hp
        simp only [Bool.or_eq_true, not_or, Bool.not_eq_true, Bool.not_eq_false'] at hp
        simp only [Option.bind_eq_some_iff] at h
        obtain ⟨i', hi, t', ht, h⟩ := h
        split at h
        · cases h
        · rename_i hsl
          simp only [Option.bind_eq_some_iff, Option.map_eq_some_iff] at h
          obtain ⟨c', hc, e', hE, rfl⟩ := h
          cases he
          refine ⟨_, _, _, i', t', c', e', rfl, hp.1.1, hp.1.2, hp.2, hi, ht, fun i hm => ?_, hc, hE, rfl⟩
          simp only [Bool.not_eq_true, Bool.not_eq_false', List.all_eq_true] at hsl
          simpa using hsl i hm
    · split at h
      · cases h
      · simp only [Option.bind_eq_some_iff] at h
        obtain ⟨i', hi, t', ht, i1', hi1, t1', ht1, h⟩ := h
        split at h
        · cases h
        · simp only [Option.bind_eq_some_iff, Option.map_eq_some_iff] at h
          obtain ⟨c', hc, c1', hc1, e', hE, rfl⟩ := h
          cases hl
    · cases h
  · cases h
theorem nmSlot_is (a : At p G false sc C) {nm : Option Str} {i : Option Nat} (h : nmSlot p sc nm = some i) : (nm = none ∧ i = none) ∨ ∃ n j, nm = some n ∧ i = some j ∧ C.X.N[j]? = some n ∧ C.X.env.kindOf n = some .local := by
  unfold nmSlot at h
  split at h
  · cases h
    exact .inl ⟨rfl, rfl⟩
  · rename_i n
    split at h
    · rename_i hl
      simp only [Option.map_eq_some_iff] at h
      obtain ⟨j, hj, rfl⟩ := h
      exact .inr ⟨n, j, rfl, rfl, by rw [a.N]; exact slot_of hj, by show C.X.env.scope.names.lookup n = _; rw [a.sc]; exact hl⟩
    · cases h
theorem At.tr (a : At p G false sc C) {pn : List (Addr × Obj)} {xe : Value → Shared → Prop} {M0 : MH} {H0 : Hp} {Ed : En → XDK} {W : WX} (ok : (⟨C.X.tr pn xe, C.Z, M0, H0, Ed, W⟩ : Co).Ok) : At p G false sc ⟨C.X.tr pn xe, C.Z, M0, H0, Ed, W⟩ :=
  ⟨ok, a.N, a.sc, ⟨a.g.fn, a.g.fq, a.g.gv, a.g.bl, a.g.cl, a.g.nmc, a.g.rs, a.g.ob, a.g.wt, a.g.me, a.g.nw, a.g.ms⟩, a.fn, a.kind, fun z => ⟨(a.calm z).c, (a.calm z).room⟩, a.stk⟩
theorem At.suite (a : At p G false sc C) (ax : Addr) (pn : List (Addr × Obj)) (M0 : MH) (H0 : Hp) : At { p with F := p.Q, hot := true } G false sc ⟨C.X.suite ax pn, C.Z, M0, H0, X0, fun _ _ _ _ => False⟩ :=
  ⟨⟨⟨a.ok.x.nd, a.ok.x.un, ⟨a.ok.x.big.seer, a.ok.x.big.tree, a.ok.x.big.dp, a.ok.x.big.fr⟩⟩, takes0, fun _ _ _ _ _ _ _ _ _ _ _ h => h⟩, a.N, a.sc, ⟨(fun x h => by
    obtain ⟨n, c, e, f, fd, ps, k, b1, b2, b3, b4, b5, hr⟩ := a.g.fq x h
    exact ⟨n, c, e, (fun z => by cases z), fun _ => ⟨f, fd, ps, k, b1, b2, b3, b4, b5, ⟨hr.dp, hr.un⟩⟩⟩), (fun x h => by
    obtain ⟨n, c, e, f, fd, ps, k, b1, b2, b3, b4, b5, hr⟩ := a.g.fq x h
    exact ⟨n, c, e, f, fd, ps, k, b1, b2, b3, b4, b5, ⟨hr.dp, hr.un⟩⟩), a.g.gv, a.g.bl, a.g.cl, a.g.nmc, a.g.rs, a.g.ob, a.g.wt, (fun z => Bool.noConfusion z), (fun z => Bool.noConfusion z), (fun z => Bool.noConfusion z)⟩, a.fn, a.kind, fun z => Bool.noConfusion z, a.stk⟩
set_option maxHeartbeats 4000000 in
theorem soundS (n : Nat) : ∀ p : Pm,
    (∀ C s c, At p G false sc C → PassesOwn (model C.X.prog C.X.w) C.X.A C.X.env C.X.xe → compS p n sc s = some c → DS C s (wpS G C.Ed c)) ∧
    (∀ C ss c, At p G false sc C → PassesOwn (model C.X.prog C.X.w) C.X.A C.X.env C.X.xe → compSs p n sc ss = some c → DSs C ss (wpSs G C.Ed c)) ∧
    (∀ C cs c, At p G false sc C → PassesOwn (model C.X.prog C.X.w) C.X.A C.X.env C.X.xe → compMs p n sc cs = some c → DMs C cs (wpMs G C.Ed c)) := by
  induction n with
  | zero =>
    intro p
    refine ⟨?_, ?_, ?_⟩
    · intro C s c a po h; unfold compS at h; cases h
    · intro C s c a po h; unfold compSs at h; cases h
    · intro C s c a po h; unfold compMs at h; cases h
  | succ n ih =>
    intro p
    have ih' := ih
    obtain ⟨ihS, ihSs, ihMs⟩ := ih p
    obtain ⟨eE, eC, eEs, eCs, eO, eT, eTs, eI, _⟩ := sound (p := p) (G := G) n
    refine ⟨?_, ?_, ?_⟩
    · intro C s c a po h
      have hk := a.kind
      rw [a.sc] at hk
      unfold compS at h
      split at h
      · rename_i x y px py b pos1 kt pt aa bb k2 pt2
        split at h
        · cases h
        · rename_i hp
          simp only [Bool.or_eq_true, not_or, Bool.not_eq_true, Bool.not_eq_true', Bool.not_eq_false'] at hp
          obtain ⟨⟨⟨hh, hsa⟩, hsb⟩, hpc⟩ := hp
          simp only [Option.bind_eq_some_iff] at h
          obtain ⟨i, hi, j, hj, h⟩ := h
          split at h
          · cases h
          rename_i hij
          simp only [Option.bind_eq_some_iff, Option.map_eq_some_iff] at h
          obtain ⟨a', ha, b', hb, rfl⟩ := h
          have hpc := by simpa using hpc
          have hpc2 := hpc
          unfold parC at hpc2
          simp only [Bool.and_eq_true, decide_eq_true_eq, Bool.not_eq_true'] at hpc2
          exact ds_par a.ok (a.calm hh).c (by rw [a.N]; exact slot_of hi) (by rw [a.N]; exact slot_of hj) (by simpa using hij) (by rw [a.sc]; exact hpc2.1.1.1.1.1) (by rw [a.sc]; exact hpc2.1.1.1.1.2) (eE _ _ _ _ _ a ha) (eE _ _ _ _ _ a hb) (star1 hsa) (star1 hsb) (par_is hk a.sc hsa hsb hpc)
      · split at h
        · cases h
        rename_i hst
        simp only [Option.bind_eq_some_iff] at h
        obtain ⟨e', he, o', ho, h⟩ := h
        split at h
        · cases h
        rename_i hc
        cases h
        exact ds_setf a.g.ob (eE _ _ _ _ _ a ho) (eE _ _ _ _ _ a he) (swaps_free hk a.sc (by simpa using hc))
      · rename_i tg e ps hne hne2
        clear hne hne2
        split at h
        · cases h
        · rename_i hp
          simp only [Bool.or_eq_true, not_or, Bool.not_eq_true] at hp
          simp only [Option.bind_eq_some_iff, Option.map_eq_some_iff] at h
          obtain ⟨e', he, t', ht, u, hu, h⟩ := h
          split at h
          · cases h
          rename_i hlcd
          cases h
          cases u with
          | false => exact ds_asg (eE _ _ _ _ _ a he) (eT _ _ _ _ _ a ht) (swaps_free hk a.sc hu) (par_free hp.1) (assign1T hp.2)
          | true =>
            unfold lcUsed at hu
            split at hu
            · rename_i elt gs scope pos t tpos
              have hu := Option.some.inj hu
              simp only [Bool.and_eq_true, decide_eq_true_eq, Bool.not_eq_true'] at hu
              obtain ⟨⟨u1, u2⟩, u3⟩ := hu
              cases n with
              | zero => unfold compE at he; cases he
              | succ m =>
                obtain ⟨tg, iter, ifs, i', t2, c', e2, rfl, h0, h1, h2, h3, h4, h5, h6, h7, rfl⟩ := comp_lc he rfl (by simpa using hlcd)
                rw [lcOr_lc (by simpa using hlcd)]
                obtain ⟨fE, fC, fEs, fCs, fO, fT, fTs, fI, _⟩ := sound (p := p) (G := G) m
                have hT : ∃ i, slot p.N t = some i ∧ t' = .nm i := by
                  unfold compT at ht
                  simp only at ht
                  split at ht
                  · simp only [Option.map_eq_some_iff] at ht
                    obtain ⟨i, hi, rfl⟩ := ht
                    exact ⟨i, hi, rfl⟩
                  · cases ht
                obtain ⟨i, hi, rfl⟩ := hT
                have hkb : Scope.kind _ = .function := (blkOk_by h2).kind
                have hsw : swapsWith (.ListComp elt [⟨tg, iter, ifs, 0⟩] scope pos) (some (.Name t tpos)) ps.line C.X.env = pure true := sw_true (by rw [a.sc]; exact hk) (by rw [a.sc]; exact u1) u2 u3
                exact ds_setLc (m := p.m pos) a.ok (a.calm h0).c (by rw [a.N]; exact slot_of hi) (by rw [a.sc]; exact u1) hsw (fI _ _ _ _ _ _ a h3) (blkOk_by (by rw [a.N, a.sc]; exact h2)) h5
                  (fun s H Ca cl fp Z M0 H0 => fT _ _ _ _ _ (a.blk hkb) h4) (fun s H Ca cl fp Z M0 H0 => fCs _ _ _ _ _ (a.blk hkb) h6) (fun s H Ca cl fp Z M0 H0 => fE _ _ _ _ _ (a.blk hkb) h7) (set_free h1)
            · cases hu
            · cases hu
            · cases hu
      · split at h
        · cases h
        · rename_i hp
          simp only [Bool.or_eq_true, not_or, Bool.not_eq_true] at hp
          simp only [Option.bind_eq_some_iff, Option.map_eq_some_iff] at h
          obtain ⟨e', he, t', ht, u', hu, rfl⟩ := h
          exact ds_asg2 (eE _ _ _ _ _ a he) (eT _ _ _ _ _ a ht) (eT _ _ _ _ _ a hu) (by rw [assign1 hp.1, assign1 hp.2]; rfl) two_free
      · split at h
        · rename_i hl
          simp only [Option.bind_eq_some_iff, Option.map_eq_some_iff] at h
          obtain ⟨i, hi, e', he, rfl⟩ := h
          obtain ⟨h1, h2⟩ := loc_of a hl
          exact ds_aug a.ok (by rw [a.N]; exact slot_of hi) h1 (eE _ _ _ _ _ a he) h2
        · cases h
      · split at h
        · cases h
        · rename_i hp
          simp only [Option.map_eq_some_iff] at h
          obtain ⟨e', he, rfl⟩ := h
          exact ds_ex (eE _ _ _ _ _ a he) (swaps_drop (by simpa using hp))
      · simp only [Option.map_eq_some_iff] at h
        obtain ⟨e', he, rfl⟩ := h
        exact ds_ret (eE _ _ _ _ _ a he)
      · cases h
        exact ds_retN
      · simp only [Option.bind_eq_some_iff, Option.map_eq_some_iff] at h
        obtain ⟨c', hc, a', ha, b', hb, rfl⟩ := h
        exact ds_if (eC _ _ _ _ _ a hc) (ihSs _ _ _ a po ha) (ihSs _ _ _ a po hb)
      · split at h
        · cases h
        · rename_i hp
          simp only [Option.bind_eq_some_iff, Option.map_eq_some_iff] at h
          obtain ⟨i', hi, t', ht, b', hb, rfl⟩ := h
          simp only [Bool.or_eq_true, not_or, Bool.not_eq_true] at hp
          exact ds_loop a.ok (a.calm hp.1).c po (eI _ _ _ _ _ _ a hi) (eT _ _ _ _ _ a ht) (ihSs _ _ _ a po hb) (set_free (by simpa using hp.2))
      · split at h
        · cases h
        simp only [Option.bind_eq_some_iff, Option.map_eq_some_iff] at h
        obtain ⟨c', hc, b', hb, rfl⟩ := h
        exact ds_whl po (eC _ _ _ _ _ a hc) (ihSs _ _ _ a po hb)
      · cases h
        exact ds_brk
      · cases h
        exact ds_ct
      · cases h
        exact ds_pass
      · split at h
        · cases h
          exact ds_never
        · rename_i hp
          simp only [Bool.or_eq_true, not_or, Bool.not_eq_true, Bool.not_eq_true', Bool.not_eq_false'] at hp
          obtain ⟨⟨hh, hpl⟩, hg⟩ := hp
          obtain ⟨p1, p2, p3⟩ := plain_of (by simpa using hpl)
          have hg := gl_of a (by simpa using hg)
          unfold raisOr at h
          split at h
          · rename_i e hr
            obtain ⟨ci, hci, hs⟩ := a.g.rs _ _ hr
            obtain ⟨A, F⟩ := a.g.cl _ _ hci
            cases hf : ci.fld with
            | none => rw [hf] at hs; cases hs
            | some f =>
              simp only [Option.map_eq_some_iff] at h
              obtain ⟨es', he, rfl⟩ := h
              have st := es_star he
              rw [List.all_cons, Bool.and_eq_true] at st
              exact ds_rais1 a.ok (a.calm hh) F hci hf hg p1 (eEs _ _ _ _ _ a he) (star1 (by simpa using st.1)) (star_any st.2)
          · rename_i hr
            cases h
            obtain ⟨ci, hci, hs⟩ := a.g.rs _ _ hr
            obtain ⟨A, F⟩ := a.g.cl _ _ hci
            cases hf : ci.fld with
            | some f => rw [hf] at hs; cases hs
            | none => exact ds_rais0 a.ok (a.calm hh) F hci hf hg p1
          · cases h
            exact ds_never
      · cases h
        exact ds_never
      · split at h
        · cases h
        · rename_i hp
          simp only [Bool.or_eq_true, not_or, Bool.not_eq_true, Bool.not_eq_true', Bool.not_eq_false'] at hp
          obtain ⟨⟨⟨⟨hh, hpl⟩, hg⟩, hc⟩, how⟩ := hp
          simp only [Option.bind_eq_some_iff, Option.map_eq_some_iff] at h
          obtain ⟨i, hi, b', hb, su', hsu, rfl⟩ := h
          have hc := eq_true_of_ne_false hc
          obtain ⟨cv, hn, _⟩ := a.g.nmc _ hc
          exact ds_try (tb := fun X => wpSs G X b') (tsu := wpSs G X0 su') a.ok (a.stk rfl).1 (a.stk rfl).2 (nmSlot_is a hi) a.g.cl hn (gl_of a (by simpa using hg)) hc how
            (fun pn xe M0 H0 Ed W ok' po' => ihSs ⟨C.X.tr pn xe, C.Z, M0, H0, Ed, W⟩ _ _ (a.tr ok') po' hb)
            (fun ax pn M0 H0 => (ih' { p with F := p.Q, hot := true }).2.1 ⟨C.X.suite ax pn, C.Z, M0, H0, X0, fun _ _ _ _ => False⟩ _ _ (a.suite ax pn M0 H0) PassesOwn.never hsu)
      · simp only [Option.bind_eq_some_iff, Option.map_eq_some_iff] at h
        obtain ⟨e', he, c', hc, rfl⟩ := h
        exact ds_mtch (tc := wpMs G C.Ed c') (eE _ _ _ _ _ a he) (ihMs _ _ _ a po hc)
      · cases h
    · intro C s c a po h
      unfold compSs at h
      split at h
      · cases h
        exact dss_nil
      · simp only [Option.bind_eq_some_iff, Option.map_eq_some_iff] at h
        obtain ⟨s', hs, r', hr, rfl⟩ := h
        exact dss_cons (t := wpS G C.Ed s') (u := wpSs G C.Ed r') (ihS _ _ _ a po hs) (ihSs _ _ _ a po hr)
    · intro C cs c a po h
      unfold compMs at h
      split at h
      · cases h
        exact dms_nil
      · split at h
        · simp only [Option.map_eq_some_iff] at h
          obtain ⟨b', hb, rfl⟩ := h
          exact dms_dflt (tb := wpSs G C.Ed b') (ihSs _ _ _ a po hb)
        · simp only [Option.bind_eq_some_iff, Option.map_eq_some_iff] at h
          obtain ⟨ks, hk, b', hb, r', hr, rfl⟩ := h
          exact dms_cons (tb := wpSs G C.Ed b') (tr := wpMs G C.Ed r') hk (ihSs _ _ _ a po hb) (ihMs _ _ _ a po hr)
        · cases h
end
end DL

set_option maxHeartbeats 1000000
namespace DL
open PySem PySem.Spec PyProof.Rows L2

/-! ### what is forgotten at a return -/
/-- whatever stands for (d, H) stands for (d', H') -/
def Frz (d : D) (H : MH) (d' : D) (H' : MH) : Prop := ∀ (K : Kz) (h : Hp) (v : V), Is K h H d v → Rep K h H → Is K h H' d' v ∧ Rep K h H' ∧ Sub H' H
/-- H' is H with some places forgotten -/
def Less (H' H : MH) : Prop := ∀ a, H' a = H a ∨ H' a = none
theorem Less.refl {H : MH} : Less H H := fun _ => .inl rfl
theorem Less.upd {H H0 : MH} {p : Addr} {o : MO} (h : Less H0 H) (hp : H0 p = none) : Less H0 (updM H p o) := fun a => by
  by_cases e : a = p
  · rw [e]; exact .inr hp
  · rw [updM_ne e]; exact h a
theorem Less.sub {H' H : MH} (h : Less H' H) : Sub H' H := fun a e => by
  rcases h a with q | q
  · rw [q]; exact e
  · exact q
theorem Less.rep {K : Kz} {h : Hp} {H' H : MH} (l : Less H' H) (r : Rep K h H) : Rep K h H' := by
  refine ⟨fun a o e => ?_, fun a z => ?_⟩
  · have e' : H a = some o := by
      rcases l a with q | q
      · rw [← q]; exact e
      · rw [q] at e; cases e
    have := r.obj a o e'
    cases o with
    | lst ds => obtain ⟨vs, q, t⟩ := this; exact ⟨vs, q, Iss.sub l.sub _ _ t⟩
    | ins C ns ds => obtain ⟨dx, fs, q, n, t⟩ := this; exact ⟨dx, fs, q, n, Iss.sub l.sub _ _ t⟩
    | dk kvs => obtain ⟨us, q, n, t⟩ := this; exact ⟨us, q, n, Iss.sub l.sub _ _ t⟩
    | dt kvs => obtain ⟨us, q, n, t⟩ := this; exact ⟨us, q, n, Iss.sub l.sub _ _ t⟩
    | ldk o us kvs => obtain ⟨q, n, t⟩ := this; exact ⟨q, n, Iss.sub l.sub _ _ t⟩
    | ldt o us kvs => obtain ⟨q, n, t⟩ := this; exact ⟨q, n, Iss.sub l.sub _ _ t⟩
  · obtain ⟨o, q, m⟩ := r.hid a z
    exact ⟨o, q, l.sub a m⟩
theorem Frz.less {d : D} {H' H : MH} (l : Less H' H) : Frz d H d H' := fun K h v i r => ⟨Is.sub l.sub d v i, l.rep r, l.sub⟩
theorem Frz.refl {d : D} {H : MH} : Frz d H d H := Frz.less .refl
theorem Frz.rol {p : Addr} {ds : List D} {H' H : MH} (hp : H p = some (.lst ds)) (l : Less H' H) (hn : H' p = none) : Frz (.ref p) H (.rol ds) H' := fun K h v i r => by
  refine ⟨?_, l.rep r, l.sub⟩
  obtain ⟨vs, q, t⟩ := r.obj _ _ hp
  unfold Is
  refine ⟨p, vs, i.ref, .inl ⟨.inl q, hn, fun z => ?_⟩, Iss.sub l.sub _ _ t⟩
  obtain ⟨_, _, m⟩ := r.hid p z
  rw [hp] at m; cases m
/-- the end of a def -/
@[irreducible] def Rt (Q : DK) : DK := fun d H => ∃ d' H', Frz d H d' H' ∧ Q d' H'
@[irreducible] def Ex (E : XDK) : XDK := fun cls fo H => ∃ H', Less H' H ∧ E cls fo H'
theorem Frz.obj {p : Addr} {nm : Str} {ns : List Str} {ds : List D} {H' H : MH} (hp : H p = some (.ins nm ns ds)) (l : Less H' H) (hn : H' p = none) : Frz (.ref p) H (.obj nm ns ds) H' := fun K h v i r => by
  refine ⟨?_, l.rep r, l.sub⟩
  obtain ⟨dx, fs, q, e, t⟩ := r.obj _ _ hp
  unfold Is
  refine ⟨p, dx, fs, i.ref, q, ⟨hn, fun z => ?_⟩, e, Iss.sub l.sub _ _ t⟩
  obtain ⟨_, _, m⟩ := r.hid p z
  rw [hp] at m; cases m
@[simp] theorem isTy_ii (i : Int) (H : MH) : isTy (.int i) "int" H = some true := rfl
@[simp] theorem isTy_ib (i : Int) (H : MH) : isTy (.int i) "bool" H = some false := rfl
@[simp] theorem isTy_bi (i : Bool) (H : MH) : isTy (.bl i) "int" H = some true := rfl
@[simp] theorem isTy_bb (i : Bool) (H : MH) : isTy (.bl i) "bool" H = some true := rfl
theorem br_dec {p : Prop} [Decidable p] {A B : Prop} (h1 : p → A) (h2 : ¬ p → B) : br (decide p) A B := by
  by_cases h : p
  · rw [decide_eq_true h]; exact h1 h
  · rw [decide_eq_false h]; exact h2 h
theorem br_b {b : Bool} {A B : Prop} (h1 : b = true → A) (h2 : b = false → B) : br b A B := by
  cases b with
  | true => exact h1 rfl
  | false => exact h2 rfl
theorem Rt.now {Q : DK} {d : D} {H : MH} (q : Q d H) : Rt Q d H := by unfold Rt; exact ⟨d, H, .refl, q⟩
theorem Rt.less {Q : DK} {d : D} {H H' : MH} (l : Less H' H) (q : Q d H') : Rt Q d H := by unfold Rt; exact ⟨d, H', .less l, q⟩
theorem Rt.rol {Q : DK} {p : Addr} {ds : List D} {H H' : MH} (hp : H p = some (.lst ds)) (l : Less H' H) (hn : H' p = none) (q : Q (.rol ds) H') : Rt Q (.ref p) H := by unfold Rt; exact ⟨.rol ds, H', .rol hp l hn, q⟩
theorem Rt.obj {Q : DK} {p : Addr} {nm : Str} {ns : List Str} {ds : List D} {H H' : MH} (hp : H p = some (.ins nm ns ds)) (l : Less H' H) (hn : H' p = none) (q : Q (.obj nm ns ds) H') : Rt Q (.ref p) H := by unfold Rt; exact ⟨.obj nm ns ds, H', .obj hp l hn, q⟩
@[simp] def startD (N : List Str) (ds : List D) : En := ds.map some ++ List.replicate (N.length - ds.length) none
@[simp] def wpF (G : Gm) (N : List Str) (body : Ss) (ds : List D) (H : MH) (Q : DK) (E : XDK) : Prop := wpSs G (fun _ => Ex E) body { nx := fun _ H1 => Rt Q .non H1, rt := Rt Q } (startD N ds) H

def scopeC (N P : List Str) (sc : Scope) : Bool :=
  (match sc.kind with | .function => true | _ => false) && !sc.isCoroutine && !sc.isGenerator && decide N.Nodup && decide (N.take P.length = P) &&
    P.all (fun x => decide (sc.names.lookup x = some .local) || decide (sc.names.lookup x = some .cell)) && sc.names.all (fun y => decide (y.2 ≠ .free))
theorem scope_of {N P : List Str} {sc : Scope} (h : scopeC N P sc = true) : FnScope N P sc := by
  unfold scopeC at h
  simp only [Bool.and_eq_true, Bool.not_eq_true', decide_eq_true_eq, List.all_eq_true, Bool.or_eq_true] at h
  obtain ⟨⟨⟨⟨⟨⟨h1, h2⟩, h3⟩, h4⟩, h5⟩, h6⟩, h7⟩ := h
  refine ⟨?_, h2, h3, h4, h5, h6, h7⟩
  split at h1
  · assumption
  · cases h1
/-- a def of the module, at a level -/
def FnAt (P : Program) (w : World) (K : PySem.W.Frag) (mg : Str → Option Value) (base : Heap) (k : Nat) (x : Str) (n : Nat) (c : Ctr) : Prop :=
  ∃ f fd ps, ps.length = n ∧ mg x = some (.ref f) ∧ PySem.W.keepIn K (.ref f) = true ∧ Binds K fd ps [] ∧ FnOk P w K mg base (L2.CX P w) k f fd ps (Cl K n c)
theorem FnAt.mono {P : Program} {w : World} {K : PySem.W.Frag} {mg : Str → Option Value} {base : Heap} {j k : Nat} {x : Str} {n : Nat} {c : Ctr} (h : FnAt P w K mg base j x n c) (l : j ≤ k) : FnAt P w K mg base k x n c :=
  let ⟨f, fd, ps, a, b, d, e, F⟩ := h; ⟨f, fd, ps, a, b, d, e, F.mono l⟩
/-- .. while an exception is handled -/
def FnAtQ (P : Program) (w : World) (K : PySem.W.Frag) (mg : Str → Option Value) (base : Heap) (k : Nat) (x : Str) (n : Nat) (c : Ctr) : Prop :=
  ∃ f fd ps, ps.length = n ∧ mg x = some (.ref f) ∧ PySem.W.keepIn K (.ref f) = true ∧ Binds K fd ps [] ∧ FnQ P w K mg base (L2.CX P w) k f fd ps (Cl K n c)
theorem FnAtQ.mono {P : Program} {w : World} {K : PySem.W.Frag} {mg : Str → Option Value} {base : Heap} {j k : Nat} {x : Str} {n : Nat} {c : Ctr} (h : FnAtQ P w K mg base j x n c) (l : j ≤ k) : FnAtQ P w K mg base k x n c :=
  let ⟨f, fd, ps, a, b, d, e, F⟩ := h; ⟨f, fd, ps, a, b, d, e, F.mono l⟩
/-- a method of an own class, an own class that is made, at a level -/
def MtAt (P : Program) (w : World) (K : PySem.W.Frag) (mg : Str → Option Value) (base : Heap) (k : Nat) (cn m : Str) (n : Nat) (c : Ctr) : Prop :=
  ∃ C f fd ps j, j + 1 ≤ k ∧ ps.length = n ∧ PySem.W.nsIn K mainGlobals cn = some (some (.ref C)) ∧ Cls K C ∧ Meth K C m f ∧ Binds K fd ps [] ∧ FnOk P w K mg base (L2.CX P w) j f fd ps (Cl K n c)
theorem MtAt.mono {P : Program} {w : World} {K : PySem.W.Frag} {mg : Str → Option Value} {base : Heap} {j k : Nat} {x m : Str} {n : Nat} {c : Ctr} (h : MtAt P w K mg base j x m n c) (l : j ≤ k) : MtAt P w K mg base k x m n c :=
  let ⟨C, f, fd, ps, i, li, a⟩ := h; ⟨C, f, fd, ps, i, Nat.le_trans li l, a⟩
/-- a static method of an own class -/
def StAt (P : Program) (w : World) (K : PySem.W.Frag) (mg : Str → Option Value) (base : Heap) (k : Nat) (cn m : Str) (n : Nat) (c : Ctr) : Prop :=
  (∃ C mc q f fd ps, ps.length = n ∧ mg cn = some (.ref C) ∧ SMet K C mc m q f ∧ Binds K fd ps [] ∧ FnOk P w K mg base (L2.CX P w) k f fd ps (Cl K n c)) ∨
  ∃ C mc q f fd ps, 1 ≤ n ∧ ps.length = n + 1 ∧ mg cn = some (.ref C) ∧ PySem.W.nsIn K mainGlobals cn = some (some (.ref C)) ∧ ClX.CRead K C mc ∧ ClX.CMet K C mc m q f ∧ Binds K fd ps [] ∧ FnOk P w K mg base (L2.CX P w) k f fd ps (Cl K (n + 1) (clsC cn c))
theorem StAt.mono {P : Program} {w : World} {K : PySem.W.Frag} {mg : Str → Option Value} {base : Heap} {j k : Nat} {x m : Str} {n : Nat} {c : Ctr} (h : StAt P w K mg base j x m n c) (l : j ≤ k) : StAt P w K mg base k x m n c :=
  h.imp (fun ⟨C, mc, q, f, fd, ps, a, b, d, e, F⟩ => ⟨C, mc, q, f, fd, ps, a, b, d, e, F.mono l⟩) fun ⟨C, mc, q, f, fd, ps, z, a, b, y, d, d2, e, F⟩ => ⟨C, mc, q, f, fd, ps, z, a, b, y, d, d2, e, F.mono l⟩
def MsAt (P : Program) (w : World) (K : PySem.W.Frag) (mg : Str → Option Value) (base : Heap) (k : Nat) (cn m : Str) (n : Nat) (c : Ctr) (b : Bool) : Prop := (b = false → MtAt P w K mg base k cn m n c) ∧ (b = true → StAt P w K mg base k cn m n c)
theorem MsAt.mono {P : Program} {w : World} {K : PySem.W.Frag} {mg : Str → Option Value} {base : Heap} {j k : Nat} {x m : Str} {n : Nat} {c : Ctr} {b : Bool} (h : MsAt P w K mg base j x m n c b) (l : j ≤ k) : MsAt P w K mg base k x m n c b :=
  ⟨fun z => (h.1 z).mono l, fun z => (h.2 z).mono l⟩
def NwAt (P : Program) (w : World) (K : PySem.W.Frag) (mg : Str → Option Value) (base : Heap) (k : Nat) (cn : Str) (n : Nat) (c : Ctr) : Prop :=
  ∃ C f fd ps j, j + 1 ≤ k ∧ ps.length = n ∧ PySem.W.nsIn K mainGlobals cn = some (some (.ref C)) ∧ mg cn = some (.ref C) ∧ Mk K C f ∧ Binds K fd ps [] ∧ FnOk P w K mg base (L2.CX P w) j f fd ps (Cl K n c)
theorem NwAt.mono {P : Program} {w : World} {K : PySem.W.Frag} {mg : Str → Option Value} {base : Heap} {j k : Nat} {x : Str} {n : Nat} {c : Ctr} (h : NwAt P w K mg base j x n c) (l : j ≤ k) : NwAt P w K mg base k x n c :=
  let ⟨C, f, fd, ps, i, li, a⟩ := h; ⟨C, f, fd, ps, i, Nat.le_trans li l, a⟩
/-- what the head tells of the module -/
structure Mo (P : Program) (w : World) (K : PySem.W.Frag) (mg : Str → Option Value) (base : Heap) (B : List Str) (gv : Str → Option D) (pC : List Str) (R : List (Str × Bool)) (cl : Str → Option CI) (ob : Str → Option (List Str)) (wt : List Key → Bool := fun _ => true) : Prop where
  seer : base.NoSeer
  tree : P.given.tree = none
  bl : ∀ x, B.contains x = true → BlF mg x
  gv : ∀ x d, gv x = some d → ∃ u v, mg x = some u ∧ RelV v u ∧ ∀ (Z : Addr → Prop) H Hm, Is ⟨K, Z⟩ H Hm d v
  cls : ∀ nm ci, cl nm = some ci → ∃ A, ClF P w K mg base pC nm ci A
  nmc : ∀ c, pC.contains c = true → ∃ cv, NamC mg c cv ∧ ∀ C', PySem.W.nsIn K mainGlobals c = some (some (.ref C')) → cv = .ref C'
  rs : ∀ x b, R.lookup x = some b → ∃ ci, cl x = some ci ∧ ci.fld.isSome = b
  obf : ∀ nm fs, ob nm = some fs → ObF K nm fs
  wtk : WtOk K wt
section
variable {P : Program} {w : World} {K : PySem.W.Frag} {mg : Str → Option Value} {base : Heap}
theorem fn_sound {x qual : Str} {st : Stmt} {f : Addr} {fd : FuncData} (F : Fun K x qual st f fd) {p : Pm} {ps : List Str} {n k : Nat} {G : Gm} {body : Ss} {c : Ctr}
    (hsc : scopeC p.N ps (defScope st) = true) (hb : compSs p n (defScope st) (defBody st) = some body) (hk : 40 ≤ k) (hh : p.hot = false) (M : Mo P w K mg base p.B G.gv p.C p.R G.cl G.ob G.wt)
    (hG : ∀ x, p.F.contains x = true → ∃ n c, G.fn x = some (n, c) ∧ FnAt P w K mg base k x n c) (hQ : ∀ x, p.Q.contains x = true → ∃ n c, G.fn x = some (n, c) ∧ FnAtQ P w K mg base k x n c)
    (hme : ∀ cn m q b, p.o.M.lookup (cn, m) = some (q, b) → ∃ n c, G.fn q = some (n, c) ∧ MsAt P w K mg base k cn m n c b) (hnw : ∀ cn q, p.o.W.lookup cn = some q → ∃ n c, G.fn q = some (n, c) ∧ NwAt P w K mg base k cn n c)
    (hc : ∀ ds H Q E, c ds H Q E → wpF G p.N body ds H Q E) : FnOk P w K mg base (L2.CX P w) (k + 1) f fd ps (Cl K ps.length c) := by
  have S := scope_of hsc
  refine F.okX S (fun vs H Q E h => ?_) (fun cdv A outer s H vs Q E hr h => ?_)
  · obtain ⟨Z, ds, Hm, Qd, Ed, hl, rep, is, _⟩ := h
    rw [is.length, hl]
  · obtain ⟨Z, ds, Hm, Qd, Ed, hl, rep, is, hq, bh, hx⟩ := h
    let C : Co := ⟨cxOf (L2.CX P w) P w K mg base p.N qual (defScope st) f cdv A outer s H E, Z, Hm, H, fun _ => Ex Ed, fun cls d _ H' => E cls d H'⟩
    have hr40 : Room 40 C.X.A := hr.mono hk
    have ok : C.Ok := ⟨⟨S.nd, by have := hr40.un; show C.X.A.units + 840 < _; omega, ⟨M.seer, M.tree, by have := hr40.dp; show C.X.A.depth + 100 < _; omega, ⟨_, _, rfl, S.gen, S.co, rfl, rfl⟩⟩⟩, takes_of rfl rfl rfl rfl, fun σ H' σd Hm' nm cls a fo r ck xi e => by
      have e : Ex Ed nm fo Hm' := e
      unfold Ex at e
      obtain ⟨H2, l, e⟩ := e
      have n2 : NT Hm H H2 H' := fun b o q m => by
        obtain ⟨e1, m1⟩ := r.nt b o q m
        exact ⟨e1, l.sub b m1⟩
      refine hx nm cls a fo H' H2 n2 (l.rep r.rep) ck ?_ e
      cases a with
      | none => cases fo with
        | none => trivial
        | some z => exact xi.elim
      | some a => cases fo with
        | none => exact xi.elim
        | some z =>
          obtain ⟨fs, e1, ⟨m1, z1⟩, nn, t⟩ := xi
          exact ⟨fs, e1, ⟨l.sub a m1, z1⟩, nn, Iss.sub l.sub _ _ t⟩⟩
    have at0 : At p G false (defScope st) C := ⟨ok, rfl, rfl, ⟨fun x hx => by
      obtain ⟨n, c, e, f', fd', ps', a1, a2, a3, a4, a5⟩ := hG x hx
      exact ⟨n, c, e, fun _ => ⟨f', fd', ps', k, a1, a2, a3, a4, a5, hr⟩, fun z => by rw [hh] at z; cases z⟩, fun x hx => by
      obtain ⟨n, c, e, f', fd', ps', a1, a2, a3, a4, a5⟩ := hQ x hx
      exact ⟨n, c, e, f', fd', ps', k, a1, a2, a3, a4, a5, ⟨hr.dp, hr.un⟩⟩, M.gv, M.bl, M.cls, M.nmc, M.rs, M.obf, M.wtk, fun _ cn m q hx => by
      obtain ⟨n, c, e, z, _⟩ := hme cn m q _ hx
      obtain ⟨C', f', fd', ps', j, hj, a1, a2, a3, a4, a5, a6⟩ := z rfl
      exact ⟨n, c, e, C', f', fd', ps', j, a1, a2, a3, a4, a5, a6, hr.mono hj⟩, fun _ cn q hx => by
      obtain ⟨n, c, e, C', f', fd', ps', j, hj, a1, a2, a3, a4, a5, a6⟩ := hnw cn q hx
      exact ⟨n, c, e, C', f', fd', ps', j, a1, a2, a3, a4, a5, a6, hr.mono hj⟩, fun _ cn m q hx => by
      obtain ⟨n, c, e, _, z⟩ := hme cn m q _ hx
      exact ⟨n, c, e, (z rfl).imp (fun ⟨C', mc', q', f', fd', ps', a1, a2, a3, a4, a5⟩ => ⟨C', mc', q', f', fd', ps', k, a1, a2, a3, a4, a5, hr⟩) fun ⟨C', mc', q', f', fd', ps', z1, a1, a2, z2, a3, z3, a4, a5⟩ => ⟨C', mc', q', f', fd', ps', k, z1, a1, a2, z2, a3, z3, a4, a5, hr⟩⟩⟩, fun _ _ => rfl, S.kind, fun _ => ⟨rfl, hr40⟩, fun _ => ⟨rfl, rfl⟩⟩
    refine ⟨_, (soundS (G := G) n p).2.1 C _ body at0 PassesOwn.leaving hb, ?_⟩
    refine ⟨startD p.N ds, Hm, _, ⟨⟨?_, fun i d e => ?_⟩, rep, .refl⟩, hc ds Hm Qd Ed hq, ?_⟩
    · unfold startD L2.start
      simp only [List.length_append, List.length_map, List.length_replicate, is.length]
    · unfold startD at e
      unfold L2.start
      by_cases hi : i < ds.length
      · rw [List.getElem?_append_left (by rw [List.length_map]; exact hi), List.getElem?_map] at e
        cases q : ds[i]? with
        | none => rw [q] at e; cases e
        | some d' =>
          rw [q] at e; cases e
          obtain ⟨v, hv, iv⟩ := is.get q
          exact ⟨v, by rw [List.getElem?_append_left (by rw [List.length_map, is.length]; exact hi), List.getElem?_map, hv]; rfl, iv⟩
      · rw [List.getElem?_append_right (by rw [List.length_map]; omega), List.getElem?_replicate] at e
        split at e <;> cases e
    · have fin : Bh ⟨K, Z⟩ Hm H (Rt Qd) Q := fun v H' d Hm' n r i q => by
        unfold Rt at q
        obtain ⟨d', H2, fz, q⟩ := q
        obtain ⟨i2, r2, s2⟩ := fz _ _ _ i r
        exact bh v H' d' H2 (fun b o e m => by
          obtain ⟨e1, m1⟩ := n b o e m
          exact ⟨e1, s2 b m1⟩) r2 i2 q
      exact ⟨fun σ' H' σd' Hm' n s' q => fin .non H' .non Hm' n s'.rep is_non q, fun _ _ _ _ _ _ q => q, fun _ _ _ _ _ _ q => q, fin⟩
theorem fn_soundQ {x qual : Str} {st : Stmt} {f : Addr} {fd : FuncData} (F : Fun K x qual st f fd) {p : Pm} {ps : List Str} {n k : Nat} {G : Gm} {body : Ss} {c : Ctr}
    (hsc : scopeC p.N ps (defScope st) = true) (hb : compSs p n (defScope st) (defBody st) = some body) (hk : 40 ≤ k) (hh : p.hot = true) (M : Mo P w K mg base p.B G.gv p.C p.R G.cl G.ob G.wt)
    (hG : ∀ x, p.F.contains x = true → ∃ n c, G.fn x = some (n, c) ∧ FnAtQ P w K mg base k x n c) (hQ : ∀ x, p.Q.contains x = true → ∃ n c, G.fn x = some (n, c) ∧ FnAtQ P w K mg base k x n c)
    (hc : ∀ ds H Q E, c ds H Q E → wpF G p.N body ds H Q E) : FnQ P w K mg base (L2.CX P w) (k + 1) f fd ps (Cl K ps.length c) := by
  have S := scope_of hsc
  refine fun_okQ F S (fun vs H Q E h => ?_) (fun cdv A outer s H vs Q E hr h => ?_)
  · obtain ⟨Z, ds, Hm, Qd, Ed, hl, rep, is, _⟩ := h
    rw [is.length, hl]
  · obtain ⟨Z, ds, Hm, Qd, Ed, hl, rep, is, hq, bh, hx⟩ := h
    let C : Co := ⟨cxQ (L2.CX P w) P w K mg base p.N qual (defScope st) f cdv A outer s H E, Z, Hm, H, fun _ => Ex Ed, fun cls d _ H' => E cls d H'⟩
    have hr40 : RoomH 40 C.X.A := hr.mono hk
    have ok : C.Ok := ⟨⟨S.nd, by have := hr40.un; show C.X.A.units + 840 < _; omega, ⟨M.seer, M.tree, by have := hr40.dp; show C.X.A.depth + 100 < _; omega, ⟨_, _, rfl, S.gen, S.co, rfl, rfl⟩⟩⟩, takes_of rfl rfl rfl rfl, fun σ H' σd Hm' nm cls a fo r ck xi e => by
      have e : Ex Ed nm fo Hm' := e
      unfold Ex at e
      obtain ⟨H2, l, e⟩ := e
      have n2 : NT Hm H H2 H' := fun b o q m => by
        obtain ⟨e1, m1⟩ := r.nt b o q m
        exact ⟨e1, l.sub b m1⟩
      refine hx nm cls a fo H' H2 n2 (l.rep r.rep) ck ?_ e
      cases a with
      | none => cases fo with
        | none => trivial
        | some z => exact xi.elim
      | some a => cases fo with
        | none => exact xi.elim
        | some z =>
          obtain ⟨fs, e1, ⟨m1, z1⟩, nn, t⟩ := xi
          exact ⟨fs, e1, ⟨l.sub a m1, z1⟩, nn, Iss.sub l.sub _ _ t⟩⟩
    have at0 : At p G false (defScope st) C := ⟨ok, rfl, rfl, ⟨fun x hx => by
      obtain ⟨n, c, e, f', fd', ps', a1, a2, a3, a4, a5⟩ := hG x hx
      exact ⟨n, c, e, (fun z => by rw [hh] at z; cases z), fun _ => ⟨f', fd', ps', k, a1, a2, a3, a4, a5, hr⟩⟩, fun x hx => by
      obtain ⟨n, c, e, f', fd', ps', a1, a2, a3, a4, a5⟩ := hQ x hx
      exact ⟨n, c, e, f', fd', ps', k, a1, a2, a3, a4, a5, hr⟩, M.gv, M.bl, M.cls, M.nmc, M.rs, M.obf, M.wtk, (fun z => by rw [hh] at z; cases z), (fun z => by rw [hh] at z; cases z), (fun z => by rw [hh] at z; cases z)⟩, fun _ _ => rfl, S.kind, (fun z => by rw [hh] at z; cases z), fun _ => ⟨rfl, rfl⟩⟩
    refine ⟨_, (soundS (G := G) n p).2.1 C _ body at0 PassesOwn.leaving hb, ?_⟩
    refine ⟨startD p.N ds, Hm, _, ⟨⟨?_, fun i d e => ?_⟩, rep, .refl⟩, hc ds Hm Qd Ed hq, ?_⟩
    · unfold startD L2.start
      simp only [List.length_append, List.length_map, List.length_replicate, is.length]
    · unfold startD at e
      unfold L2.start
      by_cases hi : i < ds.length
      · rw [List.getElem?_append_left (by rw [List.length_map]; exact hi), List.getElem?_map] at e
        cases q : ds[i]? with
        | none => rw [q] at e; cases e
        | some d' =>
          rw [q] at e; cases e
          obtain ⟨v, hv, iv⟩ := is.get q
          exact ⟨v, by rw [List.getElem?_append_left (by rw [List.length_map, is.length]; exact hi), List.getElem?_map, hv]; rfl, iv⟩
      · rw [List.getElem?_append_right (by rw [List.length_map]; omega), List.getElem?_replicate] at e
        split at e <;> cases e
    · have fin : Bh ⟨K, Z⟩ Hm H (Rt Qd) Q := fun v H' d Hm' n r i q => by
        unfold Rt at q
        obtain ⟨d', H2, fz, q⟩ := q
        obtain ⟨i2, r2, s2⟩ := fz _ _ _ i r
        exact bh v H' d' H2 (fun b o e m => by
          obtain ⟨e1, m1⟩ := n b o e m
          exact ⟨e1, s2 b m1⟩) r2 i2 q
      exact ⟨fun σ' H' σd' Hm' n s' q => fin .non H' .non Hm' n s'.rep is_non q, fun _ _ _ _ _ _ q => q, fun _ _ _ _ _ _ q => q, fin⟩
end
end DL

set_option maxHeartbeats 1000000
namespace DL
open PySem PySem.Spec PyProof.Rows L2

/-- the law's promise: for a script of whole numbers, True -/
def lawC : Ctr := fun ds H Q _ => ∃ ns : List Int, ds = [.rol (ns.map D.int)] ∧ ns.length ≤ 63 ∧ (∀ z ∈ ns, Builtin.Int.intBits z ≤ 1048576) ∧ ∀ H' : MH, Q (.bl true) H'
section
variable {P : Program} {w : World} {K : PySem.W.Frag} {mg mb : Str → Option Value} {k : Nat} {fa : Addr} {s₁ : Shared} {vs : List Value} {ns : List Int}
theorem hidden_ns {H : Hp} {h : Heap} {b : Addr} {m : Str → Option Value} (n : h.Ns b m) (free : ∀ o es ep, h.get? b = some o → o.data = .dict es ep → H b = none) : (hidT h H).Ns b m := by
  obtain ⟨o, es, ep, e, d, r⟩ := n
  exact ⟨o, es, ep, hidT_get e (free o es ep e d), d, r⟩
/-- the script as a place: the call of the law from where the head leaves -/
theorem end_at {a : Addr} {fd : FuncData} {x : Str} {H : Hp} (KX : K.In s₁.heap) (hns : s₁.heap.Ns mainGlobals mg) (hb : s₁.heap.Ns builtinsNs mb) (hbb : ∀ x : Str, x ≠ "__name__" → mb x = bootBuiltins x)
    (hlim : s₁.heap.NoLimit) (hse : s₁.heap.NoSeer) (hg : s₁.gens = #[]) (ha : s₁.heap.get? a = some { cls := .type "list", data := .seq vs.toArray })
    (hr : Room k callerA) (hbind : ∀ (s : Shared) (u : Value), BindsTo s fd ⟨[u], []⟩ [(x, u)])
    (F : ∀ base : Heap, K.In base → base.Ns mainGlobals mg → base.NoSeer → FnOk P w K mg base (L2.CX P w) k fa fd [x] (Cl K 1 lawC))
    (hlen : ns.length ≤ 63) (hbits : ∀ z ∈ ns, Builtin.Int.intBits z ≤ 1048576)
    (hS : (∃ o, H a = some (.frz o (.lst (ns.map V.int)))) ∨ WL K a (ns.map V.int)) (hok : HOk P w H s₁.heap) (honly : ∀ b u, H b = some u → b = a ∧ ∃ o xs, u = .frz o (.lst xs)) (hK : H a ≠ none → K.lookup a = none) :
    codeAny (model P w) callerA (.call (.ref fa) ⟨[.ref a], []⟩) (fun r s' => r = .ok (.ret (.bool true)) ∧ OldK s₁.heap s'.heap ∧ s'.os = s₁.os ∧ AllBare s'.gens) s₁ := by
  have notDict : ∀ (b : Addr) (o : Obj) (es : Array DictEntry) (ep : Nat), s₁.heap.get? b = some o → o.data = .dict es ep → H b = none := by
    intro b o es ep e d
    cases q : H b with
    | none => rfl
    | some u =>
      obtain ⟨rfl, _⟩ := honly b u q
      rw [ha] at e
      cases e
      cases d
  have ns' : ∀ {b : Addr} {m : Str → Option Value}, s₁.heap.Ns b m → (hidT s₁.heap H).Ns b m := fun n => hidden_ns n (notDict _)
  have kin : K.In (hidT s₁.heap H) := by
    intro b o e
    refine hidT_get (KX b o e) ?_
    cases q : H b with
    | none => rfl
    | some u =>
      obtain ⟨rfl, _⟩ := honly b u q
      rw [hK (by rw [q]; simp)] at e
      cases e
  have seer : (hidT s₁.heap H).NoSeer := by
    obtain ⟨⟨mc, c1, c2⟩, ⟨mm, m1, m2⟩, ⟨mi, i1, i2⟩, ⟨mq, bm, ob, g1, g2, g3, g4, g5⟩⟩ := hse
    refine ⟨⟨mc, ns' c1, c2⟩, ⟨mm, ns' m1, m2⟩, ⟨mi, ns' i1, i2⟩, ⟨mq, bm, ob, ns' g1, g2, hidT_get g3 ?_, g4, g5⟩⟩
    cases q : H bm with
    | none => rfl
    | some u =>
      obtain ⟨rfl, _⟩ := honly bm u q
      rw [ha] at g3
      have g3 := Option.some.inj g3
      rw [← g3] at g4
      exact absurd (show Value.type "list" = Value.type "module" from g4) (by decide)
  have mod : Mod K mg (hidT s₁.heap H) := by
    obtain ⟨mc, c1, c2⟩ := hlim
    exact ⟨kin, ns' hns, ⟨mb, ns' hb, hbb⟩, ⟨mc, ns' c1, c2⟩⟩
  have start0 : Env0 P w K mg (hidT s₁.heap H) callerA [] s₁ H := by
    refine ⟨rfl, mod, fun b o e => of_hidT e, Nat.le_of_eq (hidT_size _ _), trivial, ?_, hok, .of_eq hg⟩
    intro b hb
    cases hb
  have want : Cl K 1 lawC [.ref a] H (fun v _ => v = .bl true) fun _ _ _ => False := by
    refine ⟨fun _ => False, [.rol (ns.map D.int)], fun _ => none, fun d _ => d = .bl true, fun _ _ _ => False, rfl, ⟨(fun _ _ e => by cases e), (fun _ z => z.elim)⟩, ?_, ⟨ns, rfl, hlen, hbits, fun _ => rfl⟩, ?_, fun _ _ _ _ _ _ _ _ _ _ z => z⟩
    · refine .cons ?_ .nil
      unfold Is
      refine ⟨a, ns.map V.int, rfl, ?_, Iss.of_ints ns⟩
      rcases hS with ⟨o, e⟩ | e
      · exact .inl ⟨.inr ⟨o, e⟩, rfl, fun z => z⟩
      · exact .inr e
    · intro v H' d Hm' _ _ i e
      subst e
      exact i.bl
  have run := (F _ kin (ns' hns) seer).run callerA [] s₁ H ⟨[.ref a], []⟩ [.ref a] [.ref a] _ _ hr start0 (hbind s₁ (.ref a)) (.cons rfl .nil) want
  refine codeAny_mono run fun r s' h => ?_
  rcases r with e | fl
  · obtain ⟨_, _, _, _, _, _, _, _, _, _, _, _, z⟩ := (show L2.CX P w [] H s₁ (fun _ _ _ => False) e s' from h)
    exact z.elim
  · cases fl with
    | ret u =>
      obtain ⟨v, H', os, bare, un, hok', rv, q⟩ := h
      have q : v = .bl true := q
      subst q
      have eu : u = Value.bool true := rv
      refine ⟨by rw [eu], OldK.of_keep fun b o e => ?_, os, bare⟩
      cases q : H b with
      | none => exact un.keep b o e q (fun z => nomatch z) (fun z => nomatch z)
      | some u =>
        obtain ⟨_, o2, xs, rfl⟩ := honly b u q
        have e1 := (hok b _ q).1
        have e2 := (hok' b _ (un.frzs b o2 _ q)).1
        rw [e] at e1
        cases e1
        exact e2
    | next => exact False.elim h
    | brk => exact False.elim h
    | cont => exact False.elim h
theorem end_call {a : Addr} {fd : FuncData} {x : Str} (KX : K.In s₁.heap) (hns : s₁.heap.Ns mainGlobals mg) (hb : s₁.heap.Ns builtinsNs mb) (hbb : ∀ x : Str, x ≠ "__name__" → mb x = bootBuiltins x)
    (hlim : s₁.heap.NoLimit) (hse : s₁.heap.NoSeer) (hg : s₁.gens = #[]) (ha : s₁.heap.get? a = some { cls := .type "list", data := .seq vs.toArray }) (hi : IntsAre vs ns)
    (hr : Room k callerA) (hbind : ∀ (s : Shared) (u : Value), BindsTo s fd ⟨[u], []⟩ [(x, u)])
    (F : ∀ base : Heap, K.In base → base.Ns mainGlobals mg → base.NoSeer → FnOk P w K mg base (L2.CX P w) k fa fd [x] (Cl K 1 lawC))
    (hlen : ns.length ≤ 63) (hbits : ∀ z ∈ ns, Builtin.Int.intBits z ≤ 1048576) :
    codeAny (model P w) callerA (.call (.ref fa) ⟨[.ref a], []⟩) (fun r s' => r = .ok (.ret (.bool true)) ∧ OldK s₁.heap s'.heap ∧ s'.os = s₁.os ∧ AllBare s'.gens) s₁ := by
  have rv : Vals (ns.map V.int) vs := vals_ints hi
  have lv : vs.length = ns.length := hi.length
  have small : ns.length ≤ sizeLine := Nat.le_trans hlen (by decide)
  cases hk : K.lookup a with
  | some o =>
    have e := KX a o hk
    rw [ha] at e
    cases e
    refine end_at (H := fun _ => none) KX hns hb hbb hlim hse hg ha hr hbind F hlen hbits (.inr ?_) (fun _ _ z => by cases z) (fun _ _ z => by cases z) (fun z => (z rfl).elim)
    exact ⟨_, vs.toArray, _, hk, rfl, rfl, rfl, by rw [List.size_toArray, lv]; exact small, rv⟩
  | none =>
    have at1 : ∀ (b : Addr) (u : HO), (if b = a then some (HO.frz { cls := .type "list", data := .seq vs.toArray } (.lst (ns.map V.int))) else none) = some u → b = a ∧ u = .frz { cls := .type "list", data := .seq vs.toArray } (.lst (ns.map V.int)) := by
      intro b u e
      by_cases h : b = a
      · rw [if_pos h] at e
        exact ⟨h, (Option.some.inj e).symm⟩
      · rw [if_neg h] at e
        cases e
    refine end_at (H := fun b => if b = a then some (HO.frz { cls := .type "list", data := .seq vs.toArray } (.lst (ns.map V.int))) else none) KX hns hb hbb hlim hse hg ha hr hbind F hlen hbits (.inl ⟨_, if_pos rfl⟩) ?_ ?_ fun _ => hk
    · intro b u e
      obtain ⟨rfl, rfl⟩ := at1 b u e
      exact ⟨ha, by rw [List.length_map]; exact small, vs, _, rv, ha⟩
    · intro b u e
      obtain ⟨h1, h2⟩ := at1 b u e
      exact ⟨h1, _, _, h2⟩
end
/-- THE END of a law row -/
theorem law_end {l : PySem.W.OpenLaw} {q : Program} {loose : List Str} {XP : (Str → Option Value) → Heap → Prop} {YP : World → Heap → Prop} {d : DefRec} {K : Params → PySem.W.Frag} {k : Nat} {x : Str}
    (hn : l.most = some 63) (hq : importsNone q = true) (hdf : d.params.defaults = []) (hr : Room k callerA) (hY : ∀ (w : World) (h : Heap), YP w h → (K w.params).In h)
    (F : ∀ (w : World) (mg : Str → Option Value) (fa : Addr) (h : Heap), (K w.params).In h → h.Ns mainGlobals mg → mg d.name = some (.ref fa) →
      ∃ fd : FuncData, (∀ (s : Shared) (u : Value), BindsTo s fd ⟨[u], []⟩ [(x, u)]) ∧
        ∀ base : Heap, (K w.params).In base → base.Ns mainGlobals mg → base.NoSeer → FnOk l.prog w (K w.params) mg base (L2.CX l.prog w) k fa fd [x] (Cl (K w.params) 1 lawC)) :
    PySem.W.WalkO q loose XP YP l.row.toRowW d [] (fun f vs => PySem.call f vs) := by
  refine Att.attach_callB hn hdf fun w s₀ s₁ mg mb fa o pm cd doc a vs ns G Y ho hd hcd hmg hobj hints hlen hbits hg => ?_
  have KX := hY w _ Y
  obtain ⟨fd, hb, hF⟩ := F w mg fa _ KX G.T.g hmg
  exact end_call KX G.T.g G.T.b G.T.builtins G.T.nolimit (G.T.seer hq) hg hobj hints hr hb hF hlen hbits
end DL

set_option maxHeartbeats 1000000
namespace DL
open PySem PySem.Spec PyProof.Rows L2

/-- a def of the module's top, as the head leaves it -/
def FnK (K : PySem.W.Frag) (x : Str) (st : Stmt) : Prop := ∃ f fd, PySem.W.nsIn K mainGlobals x = some (some (.ref f)) ∧ Fun K x x st f fd
theorem fnk_mk {K : PySem.W.Frag} {x : Str} {st : Stmt} {f : Addr} {oc : Value} {od an : Option Addr} {osl : Array (Option Value)} {kV doc pm cdv ct : Value}
    {h : Heap} (_X : K.In h) (a : PySem.W.nsIn K mainGlobals x = some (some (.ref f))) (l : K.lookup f = some ⟨oc, od, .func (PySem.W.fnOf x x (defArgs st) (defBody st) (defScope st) .none kV doc pm an cdv ct), osl⟩)
    (c : PySem.W.codeIn K cdv x = true) (k : PySem.W.keepIn K (.ref f) = true) : FnK K x st := ⟨f, _, a, fun_mk l c k⟩
theorem nsb {K : PySem.W.Frag} {h : Heap} (_X : K.In h) {x : Str} {v : Value} (a : PySem.W.nsIn K mainGlobals x = some (some v)) : PySem.W.nsIn K mainGlobals x = some (some v) := a
theorem nsk {K : PySem.W.Frag} {h : Heap} (_X : K.In h) {x : Str} (a : PySem.W.nsIn K mainGlobals x = some none) : PySem.W.nsIn K mainGlobals x = some none := a
section
variable {P : Program} {w : World} {K : PySem.W.Frag} {mg : Str → Option Value} {base : Heap} {G : Gm} {k : Nat}
def Prev (P : Program) (w : World) (K : PySem.W.Frag) (mg : Str → Option Value) (base : Heap) (G : Gm) (k : Nat) (F : List Str) : Prop :=
  ∀ y, F.contains y = true → ∃ n c, G.fn y = some (n, c) ∧ FnAt P w K mg base k y n c
def PrevQ (P : Program) (w : World) (K : PySem.W.Frag) (mg : Str → Option Value) (base : Heap) (G : Gm) (k : Nat) (F : List Str) : Prop :=
  ∀ y, F.contains y = true → ∃ n c, G.fn y = some (n, c) ∧ FnAtQ P w K mg base k y n c
theorem prevq_nil : PrevQ P w K mg base G k [] := fun y h => by cases h
theorem prevq_up {F : List Str} {j : Nat} (h : PrevQ P w K mg base G k F) (l : k ≤ j) : PrevQ P w K mg base G j F := fun y hy => by
  obtain ⟨m, c', e', f'⟩ := h y hy
  exact ⟨m, c', e', f'.mono l⟩
theorem prevq_add {x : Str} {F : List Str} {n j : Nat} {c : Ctr} (h : PrevQ P w K mg base G k F) (l : k ≤ j) (e : G.fn x = some (n, c)) (f : FnAtQ P w K mg base j x n c) : PrevQ P w K mg base G j (x :: F) := fun y hy => by
  rw [List.contains_cons, Bool.or_eq_true] at hy
  rcases hy with hy | hy
  · have : y = x := by simpa using hy
    rw [this]
    exact ⟨n, c, e, f⟩
  · obtain ⟨m, c', e', f'⟩ := h y hy
    exact ⟨m, c', e', f'.mono l⟩
theorem prev_nil : Prev P w K mg base G k [] := fun y h => by cases h
theorem prev_cons {x : Str} {F : List Str} {n : Nat} {c : Ctr} (h : Prev P w K mg base G k F) (e : G.fn x = some (n, c)) (f : FnAt P w K mg base (k + 1) x n c) : Prev P w K mg base G (k + 1) (x :: F) := fun y hy => by
  rw [List.contains_cons, Bool.or_eq_true] at hy
  rcases hy with hy | hy
  · have : y = x := by simpa using hy
    rw [this]
    exact ⟨n, c, e, f⟩
  · obtain ⟨m, c', e', f'⟩ := h y hy
    exact ⟨m, c', e', f'.mono (Nat.le_succ k)⟩
theorem prev_add {x : Str} {F : List Str} {n j : Nat} {c : Ctr} (h : Prev P w K mg base G k F) (l : k ≤ j) (e : G.fn x = some (n, c)) (f : FnAt P w K mg base j x n c) : Prev P w K mg base G j (x :: F) := fun y hy => by
  rw [List.contains_cons, Bool.or_eq_true] at hy
  rcases hy with hy | hy
  · have : y = x := by simpa using hy
    rw [this]
    exact ⟨n, c, e, f⟩
  · obtain ⟨m, c', e', f'⟩ := h y hy
    exact ⟨m, c', e', f'.mono l⟩
/-- the methods and makers that stand already -/
def PrevM (P : Program) (w : World) (K : PySem.W.Frag) (mg : Str → Option Value) (base : Heap) (G : Gm) (k : Nat) (L : List ((Str × Str) × (Str × Bool))) : Prop :=
  ∀ cn m q b, L.lookup (cn, m) = some (q, b) → ∃ n c, G.fn q = some (n, c) ∧ MsAt P w K mg base k cn m n c b
def PrevN (P : Program) (w : World) (K : PySem.W.Frag) (mg : Str → Option Value) (base : Heap) (G : Gm) (k : Nat) (L : List (Str × Str)) : Prop :=
  ∀ cn q, L.lookup cn = some q → ∃ n c, G.fn q = some (n, c) ∧ NwAt P w K mg base k cn n c
theorem prevm_nil : PrevM P w K mg base G k [] := fun _ _ _ _ h => by cases h
theorem prevn_nil : PrevN P w K mg base G k [] := fun _ _ h => by cases h
theorem prevm_up {L : List ((Str × Str) × (Str × Bool))} {j : Nat} (h : PrevM P w K mg base G k L) (l : k ≤ j) : PrevM P w K mg base G j L := fun cn m q b hx => by
  obtain ⟨n, c, e, f⟩ := h cn m q b hx
  exact ⟨n, c, e, f.mono l⟩
theorem prevn_up {L : List (Str × Str)} {j : Nat} (h : PrevN P w K mg base G k L) (l : k ≤ j) : PrevN P w K mg base G j L := fun cn q hx => by
  obtain ⟨n, c, e, f⟩ := h cn q hx
  exact ⟨n, c, e, f.mono l⟩
theorem prevm_addB {cn m q : Str} {b : Bool} {L : List ((Str × Str) × (Str × Bool))} {n j : Nat} {c : Ctr} (h : PrevM P w K mg base G k L) (l : k ≤ j) (e : G.fn q = some (n, c)) (f : MsAt P w K mg base j cn m n c b) : PrevM P w K mg base G j (((cn, m), (q, b)) :: L) := fun cn' m' q' b' hx => by
  rw [List.lookup_cons] at hx
  cases z : ((cn', m') == (cn, m)) with
  | true =>
    rw [z] at hx
    cases hx
    have e2 := eq_of_beq z
    cases e2
    exact ⟨n, c, e, f⟩
  | false =>
    rw [z] at hx
    obtain ⟨n, c, e, f⟩ := h cn' m' q' b' hx
    exact ⟨n, c, e, f.mono l⟩
theorem prevm_add {cn m q : Str} {L : List ((Str × Str) × (Str × Bool))} {n j : Nat} {c : Ctr} (h : PrevM P w K mg base G k L) (l : k ≤ j) (e : G.fn q = some (n, c)) (f : MtAt P w K mg base j cn m n c) : PrevM P w K mg base G j (((cn, m), (q, false)) :: L) :=
  prevm_addB h l e ⟨fun _ => f, fun z => by cases z⟩
theorem prevm_adds {cn m q : Str} {L : List ((Str × Str) × (Str × Bool))} {n j : Nat} {c : Ctr} (h : PrevM P w K mg base G k L) (l : k ≤ j) (e : G.fn q = some (n, c)) (f : StAt P w K mg base j cn m n c) : PrevM P w K mg base G j (((cn, m), (q, true)) :: L) :=
  prevm_addB h l e ⟨fun z => by (cases z), fun _ => f⟩
theorem prevn_add {cn q : Str} {L : List (Str × Str)} {n j : Nat} {c : Ctr} (h : PrevN P w K mg base G k L) (l : k ≤ j) (e : G.fn q = some (n, c)) (f : NwAt P w K mg base j cn n c) : PrevN P w K mg base G j ((cn, q) :: L) := fun cn' q' hx => by
  rw [List.lookup_cons] at hx
  cases z : (cn' == cn) with
  | true =>
    rw [z] at hx
    cases hx
    have e2 := eq_of_beq z
    cases e2
    exact ⟨n, c, e, f⟩
  | false =>
    rw [z] at hx
    obtain ⟨n, c, e, f⟩ := h cn' q' hx
    exact ⟨n, c, e, f.mono l⟩
theorem fn_step {x : Str} {st : Stmt} {N B F : List Str} {mu fz : List (Nat × Nat)} {pC QL : List Str} {R : List (Str × Bool)} {o : Om} {ps : List Str} {n : Nat} {body : Ss} {c : Ctr} (X : K.In base) (hns : base.Ns mainGlobals mg) (M : Mo P w K mg base B G.gv pC R G.cl G.ob G.wt) (hf : FnK K x st)
    (hb : ∀ (kV doc pm : Value) (an : Option Addr) (cdv ct : Value) (us : List Value), us.length = ps.length → bindArgs (PySem.W.fnOf x x (defArgs st) (defBody st) (defScope st) .none kV doc pm an cdv ct) ⟨us, []⟩ = pure (ps.zip us))
    (hsc : scopeC N ps (defScope st) = true) (hcomp : compSs ⟨N, B, F, mu, fz, pC, R, QL, false, o⟩ n (defScope st) (defBody st) = some body) (hk : 40 ≤ k) (hprev : Prev P w K mg base G k F) (hpq : PrevQ P w K mg base G k QL) (hpm : PrevM P w K mg base G k o.M) (hpn : PrevN P w K mg base G k o.W)
    (hc : ∀ ds H Q E, c ds H Q E → wpF G N body ds H Q E) : FnAt P w K mg base (k + 1) x ps.length c := by
  obtain ⟨f, fd, a, F0⟩ := hf
  exact ⟨f, fd, ps, rfl, PySem.W.mg_of X hns a, F0.kp, F0.binds hb, fn_sound F0 (p := ⟨N, B, F, mu, fz, pC, R, QL, false, o⟩) hsc hcomp hk rfl M hprev hpq hpm hpn hc⟩
theorem fn_stepQ {x : Str} {st : Stmt} {N B F : List Str} {mu fz : List (Nat × Nat)} {pC QL : List Str} {R : List (Str × Bool)} {o : Om} {ps : List Str} {n : Nat} {body : Ss} {c : Ctr} (X : K.In base) (hns : base.Ns mainGlobals mg) (M : Mo P w K mg base B G.gv pC R G.cl G.ob G.wt) (hf : FnK K x st)
    (hb : ∀ (kV doc pm : Value) (an : Option Addr) (cdv ct : Value) (us : List Value), us.length = ps.length → bindArgs (PySem.W.fnOf x x (defArgs st) (defBody st) (defScope st) .none kV doc pm an cdv ct) ⟨us, []⟩ = pure (ps.zip us))
    (hsc : scopeC N ps (defScope st) = true) (hcomp : compSs ⟨N, B, F, mu, fz, pC, R, QL, true, o⟩ n (defScope st) (defBody st) = some body) (hk : 40 ≤ k) (hprev : PrevQ P w K mg base G k F) (hpq : PrevQ P w K mg base G k QL)
    (hc : ∀ ds H Q E, c ds H Q E → wpF G N body ds H Q E) : FnAtQ P w K mg base (k + 1) x ps.length c := by
  obtain ⟨f, fd, a, F0⟩ := hf
  exact ⟨f, fd, ps, rfl, PySem.W.mg_of X hns a, F0.kp, F0.binds hb, fn_soundQ F0 (p := ⟨N, B, F, mu, fz, pC, R, QL, true, o⟩) hsc hcomp hk rfl M hprev hpq hc⟩
/-- a method, an __init__, as the head leaves it -/
def MtK (K : PySem.W.Frag) (cn m q : Str) (st : Stmt) : Prop := ∃ C f fd, PySem.W.nsIn K mainGlobals cn = some (some (.ref C)) ∧ Cls K C ∧ Meth K C m f ∧ Fun K m q st f fd
/-- a static method, as the head leaves it -/
def StK (K : PySem.W.Frag) (cn m q : Str) (st : Stmt) : Prop := ∃ C mc r f fd, PySem.W.nsIn K mainGlobals cn = some (some (.ref C)) ∧ SMet K C mc m r f ∧ Fun K m q st f fd
/-- a classmethod, as the head leaves it -/
def CmK (K : PySem.W.Frag) (cn m q : Str) (st : Stmt) : Prop := ∃ C mc r f fd, PySem.W.nsIn K mainGlobals cn = some (some (.ref C)) ∧ ClX.CRead K C mc ∧ ClX.CMet K C mc m r f ∧ Fun K m q st f fd
def NwK (K : PySem.W.Frag) (cn q : Str) (st : Stmt) : Prop := ∃ C f fd, PySem.W.nsIn K mainGlobals cn = some (some (.ref C)) ∧ Mk K C f ∧ Fun K "__init__" q st f fd
theorem mt_step {cn m q : Str} {st : Stmt} {N B F : List Str} {mu fz : List (Nat × Nat)} {pC QL : List Str} {R : List (Str × Bool)} {o : Om} {ps : List Str} {n : Nat} {body : Ss} {c : Ctr} (M : Mo P w K mg base B G.gv pC R G.cl G.ob G.wt) (hf : MtK K cn m q st)
    (hb : ∀ (kV doc pm : Value) (an : Option Addr) (cdv ct : Value) (us : List Value), us.length = ps.length → bindArgs (PySem.W.fnOf m q (defArgs st) (defBody st) (defScope st) .none kV doc pm an cdv ct) ⟨us, []⟩ = pure (ps.zip us))
    (hsc : scopeC N ps (defScope st) = true) (hcomp : compSs ⟨N, B, F, mu, fz, pC, R, QL, false, o⟩ n (defScope st) (defBody st) = some body) (hk : 40 ≤ k) (hprev : Prev P w K mg base G k F) (hpq : PrevQ P w K mg base G k QL) (hpm : PrevM P w K mg base G k o.M) (hpn : PrevN P w K mg base G k o.W)
    (hc : ∀ ds H Q E, c ds H Q E → wpF G N body ds H Q E) : MtAt P w K mg base (k + 2) cn m ps.length c := by
  obtain ⟨C, f, fd, a, cl, me, F0⟩ := hf
  exact ⟨C, f, fd, ps, k + 1, Nat.le_refl _, rfl, a, cl, me, F0.binds hb, fn_sound F0 (p := ⟨N, B, F, mu, fz, pC, R, QL, false, o⟩) hsc hcomp hk rfl M hprev hpq hpm hpn hc⟩
theorem st_step {cn m q : Str} {st : Stmt} {N B F : List Str} {mu fz : List (Nat × Nat)} {pC QL : List Str} {R : List (Str × Bool)} {o : Om} {ps : List Str} {n : Nat} {body : Ss} {c : Ctr} (M : Mo P w K mg base B G.gv pC R G.cl G.ob G.wt) (X : K.In base) (hns : base.Ns mainGlobals mg) (hf : StK K cn m q st)
    (hb : ∀ (kV doc pm : Value) (an : Option Addr) (cdv ct : Value) (us : List Value), us.length = ps.length → bindArgs (PySem.W.fnOf m q (defArgs st) (defBody st) (defScope st) .none kV doc pm an cdv ct) ⟨us, []⟩ = pure (ps.zip us))
    (hsc : scopeC N ps (defScope st) = true) (hcomp : compSs ⟨N, B, F, mu, fz, pC, R, QL, false, o⟩ n (defScope st) (defBody st) = some body) (hk : 40 ≤ k) (hprev : Prev P w K mg base G k F) (hpq : PrevQ P w K mg base G k QL) (hpm : PrevM P w K mg base G k o.M) (hpn : PrevN P w K mg base G k o.W)
    (hc : ∀ ds H Q E, c ds H Q E → wpF G N body ds H Q E) : StAt P w K mg base (k + 1) cn m ps.length c := by
  obtain ⟨C, mc, r, f, fd, a, sm, F0⟩ := hf
  exact .inl ⟨C, mc, r, f, fd, ps, rfl, PySem.W.mg_of X hns a, sm, F0.binds hb, fn_sound F0 (p := ⟨N, B, F, mu, fz, pC, R, QL, false, o⟩) hsc hcomp hk rfl M hprev hpq hpm hpn hc⟩
theorem cm_step {cn m q : Str} {st : Stmt} {N B F : List Str} {mu fz : List (Nat × Nat)} {pC QL : List Str} {R : List (Str × Bool)} {o : Om} {ps : List Str} {n : Nat} {body : Ss} {c : Ctr} (M : Mo P w K mg base B G.gv pC R G.cl G.ob G.wt) (X : K.In base) (hns : base.Ns mainGlobals mg) (hf : CmK K cn m q st) (h1 : 2 ≤ ps.length)
    (hb : ∀ (kV doc pm : Value) (an : Option Addr) (cdv ct : Value) (us : List Value), us.length = ps.length → bindArgs (PySem.W.fnOf m q (defArgs st) (defBody st) (defScope st) .none kV doc pm an cdv ct) ⟨us, []⟩ = pure (ps.zip us))
    (hsc : scopeC N ps (defScope st) = true) (hcomp : compSs ⟨N, B, F, mu, fz, pC, R, QL, false, o⟩ n (defScope st) (defBody st) = some body) (hk : 40 ≤ k) (hprev : Prev P w K mg base G k F) (hpq : PrevQ P w K mg base G k QL) (hpm : PrevM P w K mg base G k o.M) (hpn : PrevN P w K mg base G k o.W)
    (hc : ∀ ds H Q E, clsC cn c ds H Q E → wpF G N body ds H Q E) : StAt P w K mg base (k + 1) cn m (ps.length - 1) c := by
  obtain ⟨C, mc, r, f, fd, a, rd, sm, F0⟩ := hf
  have e : ps.length - 1 + 1 = ps.length := by omega
  exact .inr ⟨C, mc, r, f, fd, ps, by omega, e.symm, PySem.W.mg_of X hns a, a, rd, sm, F0.binds hb, by rw [e]; exact fn_sound F0 (p := ⟨N, B, F, mu, fz, pC, R, QL, false, o⟩) hsc hcomp hk rfl M hprev hpq hpm hpn hc⟩
theorem nw_step {cn q : Str} {st : Stmt} {N B F : List Str} {mu fz : List (Nat × Nat)} {pC QL : List Str} {R : List (Str × Bool)} {o : Om} {ps : List Str} {n : Nat} {body : Ss} {c : Ctr} (X : K.In base) (hns : base.Ns mainGlobals mg) (M : Mo P w K mg base B G.gv pC R G.cl G.ob G.wt) (hf : NwK K cn q st)
    (hb : ∀ (kV doc pm : Value) (an : Option Addr) (cdv ct : Value) (us : List Value), us.length = ps.length → bindArgs (PySem.W.fnOf "__init__" q (defArgs st) (defBody st) (defScope st) .none kV doc pm an cdv ct) ⟨us, []⟩ = pure (ps.zip us))
    (hsc : scopeC N ps (defScope st) = true) (hcomp : compSs ⟨N, B, F, mu, fz, pC, R, QL, false, o⟩ n (defScope st) (defBody st) = some body) (hk : 40 ≤ k) (hprev : Prev P w K mg base G k F) (hpq : PrevQ P w K mg base G k QL) (hpm : PrevM P w K mg base G k o.M) (hpn : PrevN P w K mg base G k o.W)
    (hc : ∀ ds H Q E, c ds H Q E → wpF G N body ds H Q E) : NwAt P w K mg base (k + 2) cn ps.length c := by
  obtain ⟨C, f, fd, a, mk, F0⟩ := hf
  exact ⟨C, f, fd, ps, k + 1, Nat.le_refl _, rfl, a, PySem.W.mg_of X hns a, mk, F0.binds hb, fn_sound F0 (p := ⟨N, B, F, mu, fz, pC, R, QL, false, o⟩) hsc hcomp hk rfl M hprev hpq hpm hpn hc⟩
theorem mtk_mk {K : PySem.W.Frag} {cn m q : Str} {st : Stmt} {C f : Addr} {oc : Value} {od an : Option Addr} {osl : Array (Option Value)} {kV doc pm cdv ct : Value} {h : Heap} (_X : K.In h) (aC : PySem.W.nsIn K mainGlobals cn = some (some (.ref C)))
    (pg : PySem.W.plainGet K C Str.empty = true) (hd : PySem.W.hasDictIn K C = true) (po : PySem.W.plainOver K C = true) (sa : PySem.W.findIn K (.ref C) "__setattr__" = some (some (.builtin "object.__setattr__")))
    (a : PySem.W.findIn K (.ref C) m = some (some (.ref f))) (i : PySem.W.isFn K (.ref f) = true) (k : PySem.W.keepIn K (.ref f) = true) (l : K.lookup f = some ⟨oc, od, .func (PySem.W.fnOf m q (defArgs st) (defBody st) (defScope st) .none kV doc pm an cdv ct), osl⟩) (c : PySem.W.codeIn K cdv q = true) : MtK K cn m q st :=
  ⟨C, f, _, aC, ⟨pg, hd, po, sa⟩, ⟨a, i, k⟩, fun_mk l c k⟩
theorem stk_mk {K : PySem.W.Frag} {cn m q : Str} {st : Stmt} {C r f : Addr} {mc oc : Value} {od an : Option Addr} {osl : Array (Option Value)} {kV doc pm cdv ct : Value} {rest : List Value} {h : Heap} (_X : K.In h) (aC : PySem.W.nsIn K mainGlobals cn = some (some (.ref C)))
    (ga : PySem.W.specialIn K (.ref C) "__getattribute__" = some (some (.builtin "type.__getattribute__"))) (ty : PySem.W.typeIn K (.ref C) = some mc) (rd : PySem.W.readsIn K C mc = true)
    (a : PySem.W.findCls K (.ref C) mc m = some (.get (.builtin "staticmethod.__get__") (.ref r) .none (.ref C))) (rc : PySem.W.recIn K r "staticmethod" = some (.ref f :: rest)) (k : PySem.W.keepIn K (.ref f) = true) (l : K.lookup f = some ⟨oc, od, .func (PySem.W.fnOf m q (defArgs st) (defBody st) (defScope st) .none kV doc pm an cdv ct), osl⟩) (c : PySem.W.codeIn K cdv q = true) : StK K cn m q st :=
  ⟨C, mc, r, f, _, aC, ⟨ga, rd, a, ⟨rest, rc⟩, k⟩, fun_mk l c k⟩
theorem cmk_mk {K : PySem.W.Frag} {cn m q : Str} {st : Stmt} {C r f : Addr} {mc oc : Value} {od an : Option Addr} {osl : Array (Option Value)} {kV doc pm cdv ct : Value} {rest : List Value} {h : Heap} (_X : K.In h) (aC : PySem.W.nsIn K mainGlobals cn = some (some (.ref C)))
    (ga : PySem.W.specialIn K (.ref C) "__getattribute__" = some (some (.builtin "type.__getattribute__"))) (ty : PySem.W.typeIn K (.ref C) = some mc) (rd : PySem.W.readsIn K C mc = true)
    (a : PySem.W.findCls K (.ref C) mc m = some (.get (.builtin "classmethod.__get__") (.ref r) .none (.ref C))) (i : PySem.W.fnIn K f = true) (rc : PySem.W.recIn K r "classmethod" = some (.ref f :: rest)) (k : PySem.W.keepIn K (.ref f) = true) (l : K.lookup f = some ⟨oc, od, .func (PySem.W.fnOf m q (defArgs st) (defBody st) (defScope st) .none kV doc pm an cdv ct), osl⟩) (c : PySem.W.codeIn K cdv q = true) : CmK K cn m q st :=
  ⟨C, mc, r, f, _, aC, ⟨rd, ga⟩, ⟨a, ⟨rest, rc⟩, i⟩, fun_mk l c k⟩
theorem nwk_mk {K : PySem.W.Frag} {cn q : Str} {st : Stmt} {C f : Addr} {oc : Value} {od an : Option Addr} {osl : Array (Option Value)} {kV doc pm cdv ct : Value} {h : Heap} (_X : K.In h) (aC : PySem.W.nsIn K mainGlobals cn = some (some (.ref C)))
    (mk : PySem.W.makesIn K C = true) (kc : PySem.W.keepIn K (.ref C) = true)
    (a : PySem.W.findIn K (.ref C) "__init__" = some (some (.ref f))) (i : PySem.W.isFn K (.ref f) = true) (k : PySem.W.keepIn K (.ref f) = true) (l : K.lookup f = some ⟨oc, od, .func (PySem.W.fnOf "__init__" q (defArgs st) (defBody st) (defScope st) .none kV doc pm an cdv ct), osl⟩) (c : PySem.W.codeIn K cdv q = true) : NwK K cn q st :=
  ⟨C, f, _, aC, ⟨mk, a, i, kc⟩, fun_mk l c k⟩
def NoAttrs (K : PySem.W.Frag) (C : Addr) : List Str → Prop
  | [] => True
  | f :: r => PySem.W.findIn K (.ref C) f = some none ∧ NoAttrs K C r
theorem NoAttrs.all {K : PySem.W.Frag} {C : Addr} : ∀ {fs : List Str}, NoAttrs K C fs → ∀ f, fs.contains f = true → NoAttr K C f
  | [], _, _, h => by cases h
  | g :: r, h, f, hf => by
    rw [List.contains_cons, Bool.or_eq_true] at hf
    rcases hf with e | e
    · have := eq_of_beq e
      subst this
      exact h.1
    · exact NoAttrs.all h.2 f e
theorem obk_mk {K : PySem.W.Frag} {cn : Str} {C : Addr} {fs : List Str} {h : Heap} (_X : K.In h) (aC : PySem.W.nsIn K mainGlobals cn = some (some (.ref C)))
    (pg : PySem.W.plainGet K C Str.empty = true) (hd : PySem.W.hasDictIn K C = true) (po : PySem.W.plainOver K C = true) (sa : PySem.W.findIn K (.ref C) "__setattr__" = some (some (.builtin "object.__setattr__"))) (na : NoAttrs K C fs)
    (i5 : PySem.W.selfFirst K C = true) (i1 : PySem.W.findIn K (.ref C) "__class__" = some (some (.builtin "object.__class__"))) (i2 : PySem.W.specialIn K (.builtin "object.__class__") "__get__" = some (some (.builtin "getset_descriptor.__get__"))) (i3 : PySem.W.takesIn K (.builtin "object.__class__") = some true) (i4 : PySem.W.mroIn K C (.type "object") = some true) (i6 : (["NoneType", "bool", "int", "str", "tuple", "list"].all fun T => PySem.W.kitOne K (.type T) (.ref C) == some false) = true) (i7 : (["NoneType", "bool", "int", "str", "tuple", "list"].all fun T => PySem.W.subIn K (.ref C) (.type T) == some false) = true) : ObF K cn fs :=
  ⟨C, aC, ⟨pg, hd, po, sa⟩, fun f hf => na.all f hf, i5, ⟨i1, i2, i3, i4, i6⟩, i7⟩
theorem obs_nil {K : PySem.W.Frag} : ∀ nm fs, ([] : List (Str × List Str)).lookup nm = some fs → ObF K nm fs := fun _ _ e => by cases e
theorem obs_cons {K : PySem.W.Frag} {n0 : Str} {f0 : List Str} {r : List (Str × List Str)} (h : ObF K n0 f0) (t : ∀ nm fs, r.lookup nm = some fs → ObF K nm fs) : ∀ nm fs, ((n0, f0) :: r).lookup nm = some fs → ObF K nm fs := fun nm fs e => by
  rw [List.lookup_cons] at e
  cases q : (nm == n0) with
  | true =>
    rw [q] at e
    cases e
    have := eq_of_beq q
    subst this
    exact h
  | false =>
    rw [q] at e
    exact t nm fs e
/-- one name read anew -/
def Gm.ovr (G : Gm) (x : Str) (n : Nat) (c : Ctr) : Gm := ⟨fun y => if y = x then some (n, c) else G.fn y, G.gv, G.cl, G.ob, G.wt⟩
theorem Gm.ovr_same {G : Gm} {x : Str} {n : Nat} {c : Ctr} : (G.ovr x n c).fn x = some (n, c) := if_pos rfl
theorem Gm.ovr_ne {G : Gm} {x y : Str} {n : Nat} {c : Ctr} (h : y ≠ x) : (G.ovr x n c).fn y = G.fn y := if_neg h
theorem prev_ovr {x : Str} {F : List Str} {n : Nat} {c : Ctr} (h : Prev P w K mg base G k F) (hx : F.contains x = false) (f : FnAt P w K mg base k x n c) : Prev P w K mg base (G.ovr x n c) k (x :: F) := fun y hy => by
  by_cases e : y = x
  · subst e
    exact ⟨n, c, Gm.ovr_same, f⟩
  · rw [List.contains_cons, Bool.or_eq_true] at hy
    rcases hy with hy | hy
    · exact absurd (by simpa using hy) e
    · obtain ⟨m, c', e', f'⟩ := h y hy
      exact ⟨m, c', by rw [Gm.ovr_ne e]; exact e', f'⟩
theorem prev_up {F : List Str} {j : Nat} (h : Prev P w K mg base G k F) (l : k ≤ j) : Prev P w K mg base G j F := fun y hy => by
  obtain ⟨m, c', e', f'⟩ := h y hy
  exact ⟨m, c', e', f'.mono l⟩
theorem prevq_ovr {x : Str} {F : List Str} {n : Nat} {c : Ctr} (h : PrevQ P w K mg base G k F) (hx : F.contains x = false) : PrevQ P w K mg base (G.ovr x n c) k F := fun y hy => by
  have e : y ≠ x := fun e => by rw [e, hx] at hy; cases hy
  obtain ⟨m, c', e', f'⟩ := h y hy
  exact ⟨m, c', by rw [Gm.ovr_ne e]; exact e', f'⟩
/-- a def that calls itself, d deep at most -/
theorem fn_rec {x : Str} {st : Stmt} {N B F : List Str} {mu fz : List (Nat × Nat)} {pC QL : List Str} {R : List (Str × Bool)} {ps : List Str} {n : Nat} {body : Ss} {c : Nat → Ctr} (X : K.In base) (hns : base.Ns mainGlobals mg) (M : Mo P w K mg base B G.gv pC R G.cl G.ob G.wt) (hf : FnK K x st)
    (hb : ∀ (kV doc pm : Value) (an : Option Addr) (cdv ct : Value) (us : List Value), us.length = ps.length → bindArgs (PySem.W.fnOf x x (defArgs st) (defBody st) (defScope st) .none kV doc pm an cdv ct) ⟨us, []⟩ = pure (ps.zip us))
    (hsc : scopeC N ps (defScope st) = true) (hcomp : compSs ⟨N, B, x :: F, mu, fz, pC, R, QL, false, ⟨[], [], [], []⟩⟩ n (defScope st) (defBody st) = some body) (hk : 40 ≤ k) (hprev : Prev P w K mg base G k F) (hpq : PrevQ P w K mg base G k QL) (hx : F.contains x = false) (hxq : QL.contains x = false)
    (h0 : ∀ ds H Q E, ¬ c 0 ds H Q E) (hc : ∀ d ds H Q E, c (d + 1) ds H Q E → wpF (G.ovr x ps.length (c d)) N body ds H Q E) : ∀ d, FnAt P w K mg base (k + 1 + d) x ps.length (c d)
  | 0 => by
    obtain ⟨f, fd, a, F0⟩ := hf
    refine ⟨f, fd, ps, rfl, PySem.W.mg_of X hns a, F0.kp, F0.binds hb, ?_⟩
    exact F0.okX (scope_of hsc) (fun vs H Q E h => by
      obtain ⟨Z, ds, Hm, Qd, Ed, hl, rep, is, hq, _⟩ := h
      exact absurd hq (h0 _ _ _ _)) (fun cdv A outer s H vs Q E hr h => by
      obtain ⟨Z, ds, Hm, Qd, Ed, hl, rep, is, hq, _⟩ := h
      exact absurd hq (h0 _ _ _ _))
  | d + 1 => by
    have ih := fn_rec X hns M hf hb hsc hcomp hk hprev hpq hx hxq h0 hc d
    have l : k ≤ k + 1 + d := by omega
    exact fn_step (G := G.ovr x ps.length (c d)) X hns M hf hb hsc hcomp (Nat.le_trans hk l) (prev_ovr (prev_up hprev l) hx ih) (prevq_ovr (prevq_up hpq l) hxq) prevm_nil prevn_nil (hc d)
/-- the law itself -/
theorem law_fin {h : Heap} {fa : Addr} {x : Str} {st : Stmt} {N B F : List Str} {mu fz : List (Nat × Nat)} {pC QL : List Str} {R : List (Str × Bool)} {o : Om} {sn : Str} {n : Nat} {body : Ss} (X : K.In h) (hns : h.Ns mainGlobals mg) (hmg : mg x = some (.ref fa)) (hf : FnK K x st)
    (hb : ∀ (kV doc pm : Value) (an : Option Addr) (cdv ct : Value) (u : Value), bindArgs (PySem.W.fnOf x x (defArgs st) (defBody st) (defScope st) .none kV doc pm an cdv ct) ⟨[u], []⟩ = pure [(sn, u)])
    (hsc : scopeC N [sn] (defScope st) = true) (hcomp : compSs ⟨N, B, F, mu, fz, pC, R, QL, false, o⟩ n (defScope st) (defBody st) = some body) (hk : 40 ≤ k) (hc : ∀ ds H Q E, lawC ds H Q E → wpF G N body ds H Q E)
    (hp : ∀ base, K.In base → base.Ns mainGlobals mg → base.NoSeer → Mo P w K mg base B G.gv pC R G.cl G.ob G.wt ∧ Prev P w K mg base G k F ∧ PrevQ P w K mg base G k QL ∧ PrevM P w K mg base G k o.M ∧ PrevN P w K mg base G k o.W) :
    ∃ fd : FuncData, (∀ (s : Shared) (u : Value), BindsTo s fd ⟨[u], []⟩ [(sn, u)]) ∧
      ∀ base : Heap, K.In base → base.Ns mainGlobals mg → base.NoSeer → FnOk P w K mg base (L2.CX P w) (k + 1) fa fd [sn] (Cl K 1 lawC) := by
  obtain ⟨f, fd, a, F0⟩ := hf
  have e := PySem.W.mg_of X hns a
  rw [hmg] at e
  cases e
  refine ⟨fd, fun s u => ?_, fun base hX hN hS => ?_⟩
  · obtain ⟨oc, od, kV, doc, pm, an, cdv, ct, osl, rfl, lk, hcd⟩ := F0.ex
    exact BindsTo.of_eq (hb kV doc pm an cdv ct u)
  · obtain ⟨M, pr, prq, prm, prn⟩ := hp base hX hN hS
    exact fn_sound F0 (p := ⟨N, B, F, mu, fz, pC, R, QL, false, o⟩) hsc hcomp hk rfl M pr prq prm prn hc
end
/-! ### constants of the module -/
def GvK (K : PySem.W.Frag) (x : Str) (d : D) : Prop := ∃ u v, PySem.W.nsIn K mainGlobals x = some (some u) ∧ RelV v u ∧ ∀ (Z : Addr → Prop) H Hm, Is ⟨K, Z⟩ H Hm d v
def flatU : Value → Option (D × V)
  | .none => some (.non, .non)
  | .bool b => some (.bl b, .bl b)
  | .int i _ => some (.int i, .int i)
  | .str x _ => some (.str x, .str x)
  | _ => none
theorem flatU_is {u : Value} {d : D} {v : V} (h : flatU u = some (d, v)) : RelV v u ∧ ∀ (K : Kz) H Hm, Is K H Hm d v := by
  cases u <;> simp only [flatU, Option.some.injEq, Prod.mk.injEq, reduceCtorEq] at h
  all_goals (obtain ⟨rfl, rfl⟩ := h)
  · exact ⟨rfl, fun _ _ _ => by unfold Is; rfl⟩
  · exact ⟨rfl, fun _ _ _ => by unfold Is; rfl⟩
  · exact ⟨⟨_, rfl⟩, fun _ _ _ => by unfold Is; rfl⟩
  · exact ⟨⟨_, rfl⟩, fun _ _ _ => by unfold Is; rfl⟩
theorem flatU_all : ∀ {us : List Value} {ds : List D}, us.map (fun u => (flatU u).map (·.1)) = ds.map some → ∃ vs, Vals vs us ∧ ∀ (K : Kz) H Hm, Iss K H Hm ds vs
  | [], [], _ => ⟨[], .nil, fun _ _ _ => .nil⟩
  | [], _ :: _, h => by cases h
  | _ :: _, [], h => by cases h
  | u :: us, d :: ds, h => by
    rw [List.map_cons, List.map_cons, List.cons.injEq] at h
    obtain ⟨vs, r, q⟩ := flatU_all h.2
    cases e : flatU u with
    | none => rw [e] at h; cases h.1
    | some z =>
      obtain ⟨d', v⟩ := z
      rw [e] at h
      have e2 : d' = d := Option.some.inj h.1
      subst e2
      obtain ⟨r1, q1⟩ := flatU_is e
      exact ⟨v :: vs, .cons r1 r, fun K H Hm => .cons (q1 K H Hm) (q K H Hm)⟩
theorem gvk_tup {K : PySem.W.Frag} {x : Str} {A : Addr} {od : Option Addr} {its : Array Value} {n : Nat} {osl : Array (Option Value)} {ds : List D} {h : Heap} (_X : K.In h) (a : PySem.W.nsIn K mainGlobals x = some (some (.ref A)))
    (l : K.lookup A = some ⟨.type "tuple", od, .seq its n, osl⟩) (hs : its.size ≤ 1000) (hv : its.toList.map (fun u => (flatU u).map (·.1)) = ds.map some) : GvK K x (.tup ds) := by
  obtain ⟨vs, r, q⟩ := flatU_all hv
  refine ⟨_, .ref A, a, rfl, fun Z H Hm => ?_⟩
  unfold Is
  exact ⟨A, vs, rfl, .inr ⟨_, its, n, l, rfl, rfl, Nat.le_trans hs (by decide), r⟩, q _ _ _⟩
theorem gvk_flat {K : PySem.W.Frag} {x : Str} {u : Value} {d : D} {h : Heap} (_X : K.In h) (a : PySem.W.nsIn K mainGlobals x = some (some u)) (hv : (flatU u).map (·.1) = some d) : GvK K x d := by
  cases e : flatU u with
  | none => rw [e] at hv; cases hv
  | some z =>
    obtain ⟨d', v⟩ := z
    rw [e] at hv
    have e2 : d' = d := Option.some.inj hv
    subst e2
    obtain ⟨r1, q1⟩ := flatU_is e
    exact ⟨u, v, a, r1, fun Z H Hm => q1 _ _ _⟩
def GvAll (K : PySem.W.Frag) (mg : Str → Option Value) (r : List (Str × D)) : Prop := ∀ x d, r.lookup x = some d → ∃ u v, mg x = some u ∧ RelV v u ∧ ∀ (Z : Addr → Prop) H Hm, Is ⟨K, Z⟩ H Hm d v
theorem gvs_nil {K : PySem.W.Frag} {mg : Str → Option Value} : GvAll K mg [] := fun _ _ e => by cases e
theorem gvs_cons {K : PySem.W.Frag} {mg : Str → Option Value} {base : Heap} {x0 : Str} {d0 : D} {r : List (Str × D)} (X : K.In base) (hns : base.Ns mainGlobals mg) (g : GvK K x0 d0) (t : GvAll K mg r) : GvAll K mg ((x0, d0) :: r) := fun x d e => by
  rw [List.lookup_cons] at e
  cases q : x == x0 with
  | true =>
    rw [q] at e
    cases e
    have : x = x0 := by simpa using q
    subst this
    obtain ⟨u, v, a, r1, q1⟩ := g
    exact ⟨u, v, PySem.W.mg_of X hns a, r1, q1⟩
  | false =>
    rw [q] at e
    exact t x d e
end DL

set_option maxHeartbeats 1000000
namespace DL
open PySem PySem.Spec PyProof.Rows L2

/-! ### classes of errors, as the head leaves them -/
def NamK (K : PySem.W.Frag) (c : Str) (cv : Value) : Prop := (c == ("__debug__" : Str)) = false ∧ ((PySem.W.nsIn K mainGlobals c = some (some cv) ∧ ∃ C, cv = .ref C) ∨ (PySem.W.nsIn K mainGlobals c = some none ∧ bootBuiltins c = some cv ∧ c ≠ "__name__" ∧ ∃ n, cv = .type n))
theorem namk_own {K : PySem.W.Frag} {c : Str} {C : Addr} {h : Heap} (_X : K.In h) (a : PySem.W.nsIn K mainGlobals c = some (some (.ref C))) (d : (c == ("__debug__" : Str)) = false) : NamK K c (.ref C) := ⟨d, .inl ⟨a, C, rfl⟩⟩
theorem namk_ve {K : PySem.W.Frag} {h : Heap} (_X : K.In h) (a : PySem.W.nsIn K mainGlobals "ValueError" = some none) : NamK K "ValueError" (.type "ValueError") := ⟨by decide, .inr ⟨a, by decide +kernel, by decide, _, rfl⟩⟩
theorem NamK.namC {K : PySem.W.Frag} {c : Str} {cv : Value} {h : Heap} {mg : Str → Option Value} (n : NamK K c cv) (X : K.In h) (hns : h.Ns mainGlobals mg) : NamC mg c cv :=
  ⟨n.1, n.2.imp (fun z => ⟨PySem.W.mg_of X hns z.1, z.2⟩) fun z => ⟨PySem.W.mg_none_of X hns z.1, z.2⟩⟩
def NamL (K : PySem.W.Frag) (pl : List (Str × Value)) : Prop := ∀ p ∈ pl, NamK K p.1 p.2
theorem naml_nil {K : PySem.W.Frag} : NamL K [] := fun _ h => by cases h
theorem naml_cons {K : PySem.W.Frag} {c : Str} {cv : Value} {pl : List (Str × Value)} (h : NamK K c cv) (t : NamL K pl) : NamL K ((c, cv) :: pl) := fun p hp => by
  rcases List.mem_cons.mp hp with rfl | hp
  · exact h
  · exact t p hp
def supB (K : PySem.W.Frag) (C : Addr) (sup : List Str) (pl : List (Str × Value)) : Bool := pl.all fun p => decide (PySem.W.kitOne K (.ref C) p.2 = some (sup.contains p.1)) && (ownNm.contains p.1 || decide (PySem.W.exmOne K (.ref C) p.2 = some (sup.contains p.1)))
def excB (K : PySem.W.Frag) (C : Addr) : Bool :=
  decide (PySem.W.findIn K (.ref C) "__getattribute__" = some (some (.builtin "BaseException.__getattribute__"))) && (decide (PySem.W.findIn K (.ref C) "__getattr__" = some none) && (decide (PySem.W.subIn K (.ref C) (.type "BaseException") = some true) && (PySem.W.hasDictIn K C &&
  (decide (PySem.W.findIn K (.ref C) "__class__" = some (some (.builtin "object.__class__"))) && (decide (PySem.W.specialIn K (.builtin "object.__class__") "__get__" = some (some (.builtin "getset_descriptor.__get__"))) && (decide (PySem.W.takesIn K (.builtin "object.__class__") = some true) && decide (PySem.W.mroIn K C (.type "object") = some true)))))))
theorem excB_ok {K : PySem.W.Frag} {C : Addr} (h : excB K C = true) : ExcC K C := by
  unfold excB at h
  simp only [Bool.and_eq_true, decide_eq_true_eq] at h
  exact ⟨h.1, h.2.1, h.2.2.1, h.2.2.2.1, h.2.2.2.2.1, h.2.2.2.2.2.1, h.2.2.2.2.2.2.1, h.2.2.2.2.2.2.2⟩
/-- the class object of an error with an own __init__ -/
def oexB (K : PySem.W.Frag) (C : Addr) : Bool := match K.lookup C with
  | some ⟨.type "type", _, .cls cd, sl⟩ => (match cd.mro, sl.toList with
    | .ref C' :: bm, [_, _, _, _, some (.builtin n), _] => C' == C && n == "ValueError.__new__" && !cd.hasDel && cd.hasDict && PySem.HandSPX.refsVE bm
    | _, _ => false)
  | _ => false
theorem oexB_ok {K : PySem.W.Frag} {C : Addr} (h : oexB K C = true) : ∃ nm q N bs bm sn sub ab col dd k0 k1 k2 k3 k5, K.lookup C = some (excClassObj nm q C N bs bm true sn sub ab col dd k0 k1 k2 k3 k5 "ValueError.__new__") ∧ PySem.HandSPX.refsVE bm = true := by
  unfold oexB at h
  split at h
  · rename_i dd cd sl ho
    split at h
    · rename_i C' bm k0 k1 k2 k3 n k5 hm hs
      simp only [Bool.and_eq_true, beq_iff_eq, Bool.not_eq_true'] at h
      obtain ⟨⟨⟨⟨rfl, rfl⟩, hdel⟩, hd⟩, hr⟩ := h
      obtain ⟨nm, bs, mro, ns, qn, hd', sn, sub, ab, col, del⟩ := cd
      dsimp only at hm hdel hd
      subst hm hdel hd
      have hsl : sl = #[k0, k1, k2, k3, some (.builtin "ValueError.__new__"), k5] := by
        obtain ⟨l⟩ := sl
        simp only at hs
        rw [hs]
      subst hsl
      exact ⟨nm, qn, ns, bs, bm, sn, sub, ab, col, dd, k0, k1, k2, k3, k5, ho, hr⟩
    · cases h
  · cases h
def MkH (P : Program) (K : PySem.W.Frag) (C : Addr) (fo : Option Str) : Prop := ∀ w mg base, MkF P w K mg base C fo
def own0B (K : PySem.W.Frag) (C : Addr) : Bool := PySem.W.excIn K C [.type "ValueError", .type "Exception", .type "BaseException", .type "object"] "ValueError.__new__" && (PySem.W.keepIn K (.ref C) && (decide (PySem.W.subIn K (.ref C) (.type "BaseException") = some true) && decide (PySem.W.typeIn K (.ref C) = some (.type "type"))))
theorem mkh_none {P : Program} {K : PySem.W.Frag} {C : Addr} (h : own0B K C = true) : MkH P K C none := fun w mg base => by
  unfold own0B at h
  simp only [Bool.and_eq_true, decide_eq_true_eq] at h
  exact ⟨h.1, h.2.1, h.2.2.1, h.2.2.2⟩
def own1B (K : PySem.W.Frag) (C f : Addr) (F : Str) : Bool := oexB K C && (decide (PySem.W.findIn K (.ref C) "__setattr__" = some (some (.builtin "object.__setattr__"))) && (decide (PySem.W.subIn K (.ref C) (.type "BaseException") = some true) && (decide (PySem.W.typeIn K (.ref C) = some (.type "type")) && (PySem.W.keepIn K (.ref C) &&
  (decide (PySem.W.findIn K (.ref C) "__init__" = some (some (.ref f))) && (decide (PySem.W.typeIn K (.ref f) = some (.type "function")) && (decide (PySem.W.findIn K (.ref C) F = some none) && (decide (PySem.W.ks_superIn K C C "__init__" = some (some (.builtin "ValueError.__init__"))) &&
  (decide (PySem.W.subIn K (.ref C) (.type "ValueError") = some true) && (decide (PySem.W.mroIn K C (.ref C) = some true) && decide (PySem.W.nsIn K cStatics "thirdparty.any" = some none)))))))))))
/-- the __init__ of a class in the text -/
def initS (s : Stmt) (i : Nat) : Stmt := match s with
  | .ClassDef _ _ _ body _ _ _ _ _ _ _ => body.getD i s
  | _ => s
theorem mkh_some {P : Program} {K : PySem.W.Frag} {h : Heap} {qual : Str} {st : Stmt} {kV doc pm ct oc : Value} {an od : Option Addr} {osl : Array (Option Value)} {f C cc cda : Addr} {msg F pn : Str} {n : Nat} {p0 p1 p2 p3 p4 p5 p6 p7 p8 p9 : Pos}
    {ccl cl : Value} {cdd cld : Option Addr} {ccs csl : Array (Option Value)} {vs : Array Value} {file : Str} {tf : Tok} {ar : Arg} {nm : Str} (_X : K.In h) (aC : PySem.W.nsIn K mainGlobals nm = some (some (.ref C))) (af : PySem.W.findIn K (.ref C) "__init__" = some (some (.ref f)))
    (lk : K.lookup f = some ⟨oc, od, .func (PySem.W.ksFn "__init__" qual (defArgs st) (defBody st) (defScope st) .none kV doc pm an (.ref cda) ct cc), osl⟩)
    (hb : defBody st = supBody msg F pn n p0 p1 p2 p3 p4 p5 p6 p7 p8 p9)
    (hcd : PySem.W.codeIn K (.ref cda) qual = true) (hcode : K.lookup cda = some ⟨ccl, cdd, .fields vs, ccs⟩) (hvs : vs[2]? = some (.str file tf)) (hfile : ((P.main.file : Str) == file) = true) (htop : (P.main.scope.names.lookup ("super" : Str)).isSome = false)
    (hcell : K.lookup cc = some ⟨cl, cld, .cell (some (.ref C)), csl⟩) (own : own1B K C f F = true) (hsuper : PySem.W.nsIn K mainGlobals "super" = some none)
    (hp : ((defArgs st).posonlyargs ++ (defArgs st).args).head? = some ar) (har : ar.arg = "self") (hpn : pn ≠ "self")
    (s1 : (defScope st).names.lookup ("super" : Str) = some .globalImplicit) (s2 : (defScope st).names.lookup ("__class__" : Str) = some .free) (s3 : (defScope st).names.lookup ("self" : Str) = some .local) (s4 : (defScope st).names.lookup pn = some .local)
    (s5 : (defScope st).names.all (fun x => decide (x.2 ≠ .cell)) = true) (s6 : (defScope st).isCoroutine = false) (s7 : (defScope st).isGenerator = false) (s8 : (defScope st).kind = .function)
    (hmc : ∀ env : Env, ∃ pl : Sem Bool, eval (.Call (.Attribute (.Call (.Name "super" p0) [] [] p1) "__init__" p2) [.Constant (.str msg) n p3] [] p4) env = (do
      let ov ← attributeBase (.Call (.Name "super" p0) [] [] p1) "__init__" env (eval (.Call (.Name "super" p0) [] [] p1) env)
      standAt p2.atName
      let (f, first) ← holding [ov] (getMethod ov "__init__" pl)
      callWith p4 f first (backTo p4 (starEach [.Constant (.str msg) n p3] env)) [])) (dbg : (pn == ("__debug__" : Str)) = false)
    (bd : ∀ (kV doc pm : Value) (an : Option Addr) (cdv ct : Value) (u v : Value), bindArgs (PySem.W.ksFn "__init__" qual (defArgs st) (defBody st) (defScope st) .none kV doc pm an cdv ct cc) ⟨[u, v], []⟩ = pure ([("self" : Str), pn].zip [u, v])) : MkH P K C (some F) := fun w mg base => by
  unfold own1B at own
  simp only [Bool.and_eq_true, decide_eq_true_eq] at own
  obtain ⟨o1, o2, o3, o4, o5, o6, o7, o8, o9, o10, o11, o12⟩ := own
  have T : OexC K C := ⟨oexB_ok o1, o2, o3, o4, o5⟩
  have s5' : ∀ x ∈ (defScope st).names, x.2 ≠ .cell := fun x hx => of_decide_eq_true (List.all_eq_true.mp s5 x hx)
  rw [hb] at lk bd
  refine ⟨T, f, _, ["self", pn], o6, o7, sup_fn T o8 lk hcd hcode hvs hfile htop hcell o9 o10 o11 hsuper o12 hp har hpn s1 s2 s3 s4 s5' s6 s7 s8 hmc dbg, .all fun us hl => ?_⟩
  match us, hl with
  | [u, v], _ => exact bd _ _ _ _ _ _ u v
/-- a class that is raised -/
def ClH (P : Program) (K : PySem.W.Frag) (pl : List (Str × Value)) (nm : Str) (ci : CI) : Prop := ∃ C, PySem.W.nsIn K mainGlobals nm = some (some (.ref C)) ∧ excB K C = true ∧ (∀ f, ci.fld = some f → PySem.W.findIn K (.ref C) f = some none) ∧ supB K C ci.sup pl = true ∧ MkH P K C ci.fld
theorem clh_none {P : Program} {K : PySem.W.Frag} {pl : List (Str × Value)} {nm : Str} {sup : List Str} {C : Addr} (_n : NamL K pl) (a : PySem.W.nsIn K mainGlobals nm = some (some (.ref C))) (b : (excB K C && (supB K C sup pl && own0B K C)) = true) : ClH P K pl nm ⟨sup, none⟩ := by
  simp only [Bool.and_eq_true] at b
  exact ⟨C, a, b.1, (fun f z => by cases z), b.2.1, mkh_none b.2.2⟩
theorem clh_some {P : Program} {K : PySem.W.Frag} {pl : List (Str × Value)} {nm F : Str} {sup : List Str} {C : Addr} (_n : NamL K pl) (a : PySem.W.nsIn K mainGlobals nm = some (some (.ref C))) (b : (excB K C && (supB K C sup pl && decide (PySem.W.findIn K (.ref C) F = some none))) = true) (m : MkH P K C (some F)) : ClH P K pl nm ⟨sup, some F⟩ := by
  simp only [Bool.and_eq_true, decide_eq_true_eq] at b
  exact ⟨C, a, b.1, (fun f z => by cases z; exact b.2.2), b.2.1, m⟩
theorem ClH.clf {P : Program} {w : World} {K : PySem.W.Frag} {mg : Str → Option Value} {base : Heap} {pl : List (Str × Value)} {nm : Str} {ci : CI} (h : ClH P K pl nm ci) (n : NamL K pl) (X : K.In base) (hns : base.Ns mainGlobals mg) : ∃ A, ClF P w K mg base (pl.map (·.1)) nm ci A := by
  obtain ⟨C, a, b, f, s, m⟩ := h
  refine ⟨C, a, PySem.W.mg_of X hns a, excB_ok b, f, fun c hc cv hcv => ?_, m _ _ _⟩
  have hc : c ∈ pl.map (·.1) := by simpa using hc
  obtain ⟨p, hp, rfl⟩ := List.mem_map.mp hc
  have e := hcv.uniq ((n p hp).namC X hns)
  subst e
  have := List.all_eq_true.mp s p hp
  simp only [Bool.and_eq_true, decide_eq_true_eq, Bool.or_eq_true] at this
  exact ⟨this.1, fun h => this.2.resolve_left (by rw [h]; exact Bool.false_ne_true)⟩
def ClHs (P : Program) (K : PySem.W.Frag) (pl : List (Str × Value)) (ct : List (Str × CI)) : Prop := ∀ p ∈ ct, ClH P K pl p.1 p.2
theorem clhs_nil {P : Program} {K : PySem.W.Frag} {pl : List (Str × Value)} : ClHs P K pl [] := fun _ h => by cases h
theorem clhs_cons {P : Program} {K : PySem.W.Frag} {pl : List (Str × Value)} {nm : Str} {ci : CI} {ct : List (Str × CI)} (h : ClH P K pl nm ci) (t : ClHs P K pl ct) : ClHs P K pl ((nm, ci) :: ct) := fun p hp => by
  rcases List.mem_cons.mp hp with rfl | hp
  · exact h
  · exact t p hp
theorem lookup_map {α β : Type} (g : α → β) : ∀ {l : List (Str × α)} {x : Str} {b : β}, (l.map fun p => (p.1, g p.2)).lookup x = some b → ∃ a, l.lookup x = some a ∧ g a = b
  | [], _, _, h => by cases h
  | (y, a) :: r, x, b, h => by
    rw [List.map_cons, List.lookup_cons] at h
    rw [List.lookup_cons]
    cases q : x == y with
    | true =>
      rw [q] at h
      exact ⟨a, rfl, Option.some.inj h⟩
    | false =>
      rw [q] at h
      exact lookup_map g h
theorem lookup_memA {α : Type} : ∀ {l : List (Addr × α)} {x : Addr} {v : α}, l.lookup x = some v → (x, v) ∈ l
  | [], _, _, h => by cases h
  | (y, b) :: r, x, v, h => by
    rw [List.lookup_cons] at h
    cases q : x == y with
    | true =>
      rw [q] at h
      have e : x = y := by simpa using q
      cases h
      rw [e]
      exact List.mem_cons_self
    | false =>
      rw [q] at h
      exact List.mem_cons_of_mem _ (lookup_memA h)
theorem wt_all {K : PySem.W.Frag} : WtOk K (fun _ => true) := fun _ _ _ => rfl
/-- tuples of two ints are keys -/
def wtPair : List Key → Bool
  | [.inl _, .inl _] => false
  | _ => true
def pairU : List Value → Bool
  | [.int _ _, .int _ _] => true
  | _ => false
def noPair (o : Obj) : Bool := match o.data with
  | .seq its _ => !pairU its.toList
  | _ => true
/-- no tuple of the written part is two ints -/
theorem wt_pair {K : PySem.W.Frag} (h : K.all (fun p => noPair p.2) = true) : WtOk K wtPair := by
  rintro a ks ⟨o, its, n, hl, _, hd, _, hv⟩
  have hm : (a, o) ∈ K := lookup_memA hl
  have q := (List.all_eq_true.mp h) _ hm
  unfold noPair at q
  rw [hd] at q
  unfold wtPair
  split
  · rename_i i j
    exfalso
    replace q : (!pairU its.toList) = true := q
    generalize its.toList = l at q hv
    cases hv with
    | cons h1 t1 =>
      cases t1 with
      | cons h2 t2 =>
        cases t2
        obtain ⟨_, rfl⟩ := h1
        obtain ⟨_, rfl⟩ := h2
        exact Bool.noConfusion q
  · rfl
theorem mo_mk {P : Program} {w : World} {K : PySem.W.Frag} {mg : Str → Option Value} {base : Heap} {B : List Str} {gv : Str → Option D} {pl : List (Str × Value)} {ct : List (Str × CI)} (X : K.In base) (hns : base.Ns mainGlobals mg) (hS : base.NoSeer) (ht : P.given.tree = none)
    (bl : ∀ x, B.contains x = true → BlF mg x) (hg : ∀ x d, gv x = some d → ∃ u v, mg x = some u ∧ RelV v u ∧ ∀ (Z : Addr → Prop) H Hm, Is ⟨K, Z⟩ H Hm d v) (n : NamL K pl) (c : ClHs P K pl ct) {ot : List (Str × List Str)} (ho : ∀ nm fs, ot.lookup nm = some fs → ObF K nm fs) {wt : List Key → Bool} (hw : WtOk K wt) :
    Mo P w K mg base B gv (pl.map (·.1)) (ct.map fun p => (p.1, p.2.fld.isSome)) (fun x => ct.lookup x) (fun x => ot.lookup x) wt :=
  ⟨hS, ht, bl, hg, fun nm ci e => (c _ (lookup_memS e)).clf n X hns, fun x hx => by
    have hx : x ∈ pl.map (·.1) := by simpa using hx
    obtain ⟨p, hp, rfl⟩ := List.mem_map.mp hx
    exact ⟨p.2, (n p hp).namC X hns, fun C' hC => by
      obtain ⟨_, ⟨z, _⟩ | ⟨z, _⟩⟩ := n p hp
      · rw [hC] at z
        exact (Option.some.inj (Option.some.inj z)).symm
      · rw [hC] at z; cases z⟩, fun x b e => lookup_map (fun c : CI => c.fld.isSome) e, ho, hw⟩
end DL

set_option maxHeartbeats 1000000
namespace DL
open PySem PySem.Spec PyProof.Rows L2
def pCn : List Str := ["Coverage"]
def pRn : List (Str × Bool) := []
def ctab : List (Str × CI) := []
def otab : List (Str × List Str) := [("Coverage", ["spots", "_table"])]
def clf : Str → Option CI := fun x => ctab.lookup x
def obf : Str → Option (List Str) := fun x => otab.lookup x
theorem ob_of {G : Gm} {nm : Str} {fs : List Str} (h : G.ob = obf) (e : obf nm = some fs) : G.ob nm = some fs := by rw [h]; exact e
def N_Coverage___bool__ : List Str := ["self"]
theorem st_Coverage___bool__ (x0 : D) : startD N_Coverage___bool__ [x0] = [some x0] := rfl
def b_Coverage___bool__ : Ss := (.cons (.ret (.bi false .bool (.cons (.ofld (.v 0) "spots") .nil))) .nil)
def N__law_form : List Str := ["table", "keys", "place", "key"]
theorem st__law_form (x0 : D) : startD N__law_form [x0] = [some x0, none, none, none] := rfl
def b__law_form : Ss := (.cons (.asg (.nm 1) (.bi false .sorted (.cons (.lcd (.tup (.cons (.ix (.v 2) (.k (.int 1))) (.cons (.ix (.v 2) (.k (.int 0))) .nil))) (.nm 2) 0 (.cons (.cmp .Gt (.ix (.v 0) (.v 2)) (.k (.int 0))) .nil) [2]) .nil))) (.cons (.ret (.bi false .tuple (.cons (.lc false (.tup (.cons (.ix (.v 3) (.k (.int 1))) (.cons (.ix (.v 3) (.k (.int 0))) (.cons (.dixT (.v 0) (.cons (.ix (.v 3) (.k (.int 1))) (.cons (.ix (.v 3) (.k (.int 0))) .nil))) .nil)))) (.nm 3) (.seq (.v 1)) .nil [3]) .nil))) .nil))
def N__law_whole : List Str := ["got"]
theorem st__law_whole (x0 : D) : startD N__law_whole [x0] = [some x0] := rfl
def b__law_whole : Ss := (.cons (.ret (.and (.bi false .isi (.cons (.v 0) (.cons (.ty "int") .nil))) (.not (.bi false .isi (.cons (.v 0) (.cons (.ty "bool") .nil)))))) .nil)
def N__law_same : List Str := ["got", "due", "k"]
theorem st__law_same (x0 : D) (x1 : D) : startD N__law_same [x0, x1] = [some x0, some x1, none] := rfl
def b__law_same : Ss := (.cons (.cond (.bi false .isi (.cons (.v 1) (.cons (.ty "tuple") .nil))) (.cons (.cond (.or (.not (.bi false .isi (.cons (.v 0) (.cons (.ty "tuple") .nil)))) (.cmp .NotEq (.bi false .len (.cons (.v 0) .nil)) (.bi false .len (.cons (.v 1) .nil)))) (.cons (.ret (.k (.bl false))) .nil) .nil) (.cons (.loop (.nm 2) (.rng1 (.bi false .len (.cons (.v 1) .nil))) (.cons (.cond (.not (.call "_law_same" (.cons (.ix (.v 0) (.v 2)) (.cons (.ix (.v 1) (.v 2)) .nil)))) (.cons (.ret (.k (.bl false))) .nil) .nil) .nil)) (.cons (.ret (.k (.bl true))) .nil))) .nil) (.cons (.cond (.cmp .Is (.v 1) (.k .non)) (.cons (.ret (.cmp .Is (.v 0) (.k .non))) .nil) .nil) (.cons (.cond (.bi false .isi (.cons (.v 1) (.cons (.ty "bool") .nil))) (.cons (.ret (.and (.bi false .isi (.cons (.v 0) (.cons (.ty "bool") .nil))) (.cmp .Eq (.v 0) (.v 1)))) .nil) .nil) (.cons (.ret (.and (.call "_law_whole" (.cons (.v 0) .nil)) (.cmp .Eq (.v 0) (.v 1)))) .nil))))
def N__law_box : List Str := ["table", "xs", "place", "ys"]
theorem st__law_box (x0 : D) : startD N__law_box [x0] = [some x0, none, none, none] := rfl
def b__law_box : Ss := (.cons (.asg (.nm 1) (.lc false (.ix (.v 2) (.k (.int 0))) (.nm 2) (.seq (.v 0)) (.cons (.cmp .Gt (.ix (.v 0) (.v 2)) (.k (.int 0))) .nil) [2])) (.cons (.asg (.nm 3) (.lc false (.ix (.v 2) (.k (.int 1))) (.nm 2) (.seq (.v 0)) (.cons (.cmp .Gt (.ix (.v 0) (.v 2)) (.k (.int 0))) .nil) [2])) (.cons (.cond (.cmp .Eq (.bi false .len (.cons (.v 1) .nil)) (.k (.int 0))) (.cons (.ret (.k .non)) .nil) .nil) (.cons (.ret (.tup (.cons (.bi false .min (.cons (.v 1) .nil)) (.cons (.bi false .min (.cons (.v 3) .nil)) (.cons (.bin false .Add (.bi false .max (.cons (.v 1) .nil)) (.k (.int 1))) (.cons (.bin false .Add (.bi false .max (.cons (.v 3) .nil)) (.k (.int 1))) .nil)))))) .nil))))
def N_around_places : List Str := ["places", "xs", "place", "ys"]
theorem st_around_places (x0 : D) : startD N_around_places [x0] = [some x0, none, none, none] := rfl
def b_around_places : Ss := (.cons (.cond (.cmp .Eq (.bi false .len (.cons (.v 0) .nil)) (.k (.int 0))) (.cons (.ret (.k .non)) .nil) .nil) (.cons (.asg (.nm 1) (.lc false (.ix (.v 2) (.k (.int 0))) (.nm 2) (.seq (.v 0)) .nil [2])) (.cons (.asg (.nm 3) (.lc false (.ix (.v 2) (.k (.int 1))) (.nm 2) (.seq (.v 0)) .nil [2])) (.cons (.ret (.tup (.cons (.bi false .min (.cons (.v 1) .nil)) (.cons (.bi false .min (.cons (.v 3) .nil)) (.cons (.bin false .Add (.bi false .max (.cons (.v 1) .nil)) (.k (.int 1))) (.cons (.bin false .Add (.bi false .max (.cons (.v 3) .nil)) (.k (.int 1))) .nil)))))) .nil))))
def N_Coverage_box : List Str := ["self"]
theorem st_Coverage_box (x0 : D) : startD N_Coverage_box [x0] = [some x0] := rfl
def b_Coverage_box : Ss := (.cons (.ret (.call "around_places" (.cons (.ofld (.v 0) "spots") .nil))) .nil)
def N_Coverage_at : List Str := ["self", "x", "y"]
theorem st_Coverage_at (x0 : D) (x1 : D) (x2 : D) : startD N_Coverage_at [x0, x1, x2] = [some x0, some x1, some x2] := rfl
def b_Coverage_at : Ss := (.cons (.ret (.dgetT (.ofld (.v 0) "_table") (.cons (.v 1) (.cons (.v 2) .nil)) (.k (.int 0)))) .nil)
def N__law_is : List Str := ["cover", "table", "place"]
theorem st__law_is (x0 : D) (x1 : D) : startD N__law_is [x0, x1] = [some x0, some x1, none] := rfl
def b__law_is : Ss := (.cons (.cond (.or (.not (.isx (.v 0) ["Coverage"])) (.not (.call "_law_same" (.cons (.ofld (.v 0) "spots") (.cons (.call "_law_form" (.cons (.v 1) .nil)) .nil))))) (.cons (.ret (.k (.bl false))) .nil) .nil) (.cons (.loop (.nm 2) (.seq (.sl false (.bi false .list (.cons (.v 1) .nil)) .no (.so (.k (.int 3))))) (.cons (.cond (.not (.call "_law_same" (.cons (.omth "Coverage" "at" "Coverage.at" (.v 0) (.cons (.ix (.v 2) (.k (.int 0))) (.cons (.ix (.v 2) (.k (.int 1))) .nil))) (.cons (.ix (.v 1) (.v 2)) .nil)))) (.cons (.ret (.k (.bl false))) .nil) .nil) .nil)) (.cons (.ret (.and (.call "_law_same" (.cons (.omth "Coverage" "box" "Coverage.box" (.v 0) .nil) (.cons (.call "_law_box" (.cons (.v 1) .nil)) .nil))) (.cmp .Eq (.obool "Coverage" "Coverage.__bool__" (.v 0)) (.cmp .Gt (.bi false .len (.cons (.call "_law_form" (.cons (.v 1) .nil)) .nil)) (.k (.int 0)))))) .nil)))
def N__law_told : List Str := ["cover", "table", "corner", "j", "x", "y", "place"]
theorem st__law_told (x0 : D) (x1 : D) (x2 : D) : startD N__law_told [x0, x1, x2] = [some x0, some x1, some x2, none, none, none, none] := rfl
def b__law_told : Ss := (.cons (.cond (.not (.call "_law_is" (.cons (.v 0) (.cons (.v 1) .nil)))) (.cons (.ret (.k (.bl false))) .nil) .nil) (.cons (.loop (.nm 3) (.rng1 (.k (.int 100))) (.cons (.asg (.nm 4) (.bin false .Add (.bin false .Sub (.ix (.v 2) (.k (.int 0))) (.k (.int 1))) (.bin false .Mod (.bi false .int (.cons (.v 3) .nil)) (.k (.int 10))))) (.cons (.asg (.nm 5) (.bin false .Add (.bin false .Sub (.ix (.v 2) (.k (.int 1))) (.k (.int 1))) (.bin false .FloorDiv (.v 3) (.k (.int 10))))) (.cons (.cond (.not (.call "_law_same" (.cons (.omth "Coverage" "at" "Coverage.at" (.v 0) (.cons (.v 4) (.cons (.v 5) .nil))) (.cons (.dgetT (.v 1) (.cons (.v 4) (.cons (.v 5) .nil)) (.k (.int 0))) .nil)))) (.cons (.ret (.k (.bl false))) .nil) .nil) .nil)))) (.cons (.loop (.nm 6) (.seq (.v 1)) (.cons (.cond (.not (.call "_law_same" (.cons (.omth "Coverage" "at" "Coverage.at" (.v 0) (.cons (.ix (.v 6) (.k (.int 0))) (.cons (.ix (.v 6) (.k (.int 1))) .nil))) (.cons (.ix (.v 1) (.v 6)) .nil)))) (.cons (.ret (.k (.bl false))) .nil) .nil) .nil)) (.cons (.cond (.not (.call "_law_same" (.cons (.omth "Coverage" "box" "Coverage.box" (.v 0) .nil) (.cons (.call "_law_box" (.cons (.v 1) .nil)) .nil)))) (.cons (.ret (.k (.bl false))) .nil) .nil) (.cons (.ret (.cmp .Eq (.obool "Coverage" "Coverage.__bool__" (.v 0)) (.cmp .Gt (.bi false .len (.cons (.call "_law_form" (.cons (.v 1) .nil)) .nil)) (.k (.int 0))))) .nil)))))
def N_Coverage___eq__ : List Str := ["self", "other"]
theorem st_Coverage___eq__ (x0 : D) (x1 : D) : startD N_Coverage___eq__ [x0, x1] = [some x0, some x1] := rfl
def b_Coverage___eq__ : Ss := (.cons (.ret (.and (.isx (.v 1) ["Coverage"]) (.cmp .Eq (.ofld (.v 0) "spots") (.ofld (.v 1) "spots")))) .nil)
def N_Coverage___init__ : List Str := ["self", "spots", "rows", "x", "y", "k", "table"]
theorem st_Coverage___init__ (x0 : D) (x1 : D) : startD N_Coverage___init__ [x0, x1] = [some x0, some x1, none, none, none, none, none] := rfl
def b_Coverage___init__ : Ss := (.cons (.asg (.nm 2) (.bi false .sorted (.cons (.lc false (.tup (.cons (.v 4) (.cons (.v 3) (.cons (.v 5) .nil)))) (.tup (.cons (.nm 3) (.cons (.nm 4) (.cons (.nm 5) .nil)))) (.seq (.v 1)) (.cons (.cmp .Gt (.v 5) (.k (.int 0))) .nil) [3, 4, 5]) .nil))) (.cons (.asg (.nm 6) (.dnew true)) (.cons (.loop (.tup (.cons (.nm 4) (.cons (.nm 3) (.cons (.nm 5) .nil)))) (.seq (.v 2)) (.cons (.asg (.dsubT (.v 6) (.cons (.v 3) (.cons (.v 4) .nil))) (.v 5)) .nil)) (.cons (.setf (.v 0) "spots" (.bi false .tuple (.cons (.lc false (.tup (.cons (.v 3) (.cons (.v 4) (.cons (.v 5) .nil)))) (.tup (.cons (.nm 4) (.cons (.nm 3) (.cons (.nm 5) .nil)))) (.seq (.v 2)) .nil [4, 3, 5]) .nil))) (.cons (.setf (.v 0) "_table" (.v 6)) .nil)))))
def N__law_likes : List Str := ["a", "b", "first", "second", "rows", "likes", "row", "others"]
theorem st__law_likes (x0 : D) (x1 : D) (x2 : D) (x3 : D) (x4 : D) : startD N__law_likes [x0, x1, x2, x3, x4] = [some x0, some x1, some x2, some x3, some x4, none, none, none] := rfl
def b__law_likes : Ss := (.cons (.asg (.nm 5) (.lc true (.tup (.cons (.ix (.v 6) (.k (.int 0))) (.cons (.ix (.v 6) (.k (.int 1))) (.cons (.ix (.v 6) (.k (.int 2))) .nil)))) (.nm 6) (.revs (.v 4)) (.cons (.cmp .Gt (.ix (.v 6) (.k (.int 2))) (.k (.int 0))) .nil) [6])) (.cons (.ex (.mth false (.v 5) .append (.cons (.tup (.cons (.ite (.cmp .Gt (.bi false .len (.cons (.v 4) .nil)) (.k (.int 0))) (.bin false .Add (.ix (.ix (.v 4) (.k (.int 0))) (.k (.int 0))) (.k (.int 99))) (.k (.int 0))) (.cons (.k (.int 7)) (.cons (.k (.int 0)) .nil)))) .nil))) (.cons (.cond (.or (.not (.call "_law_same" (.cons (.ocmp "Coverage" "Coverage.__eq__" (.v 0) (.new "Coverage" "Coverage.__init__" (.cons (.bi false .tuple (.cons (.v 5) .nil)) .nil))) (.cons (.k (.bl true)) .nil)))) (.not (.call "_law_same" (.cons (.ocmp "Coverage" "Coverage.__eq__" (.new "Coverage" "Coverage.__init__" (.cons (.v 5) .nil)) (.v 0)) (.cons (.k (.bl true)) .nil))))) (.cons (.ret (.k (.bl false))) .nil) .nil) (.cons (.asg (.nm 7) (.bi true .list (.cons (.v 5) .nil))) (.cons (.asg (.sub (.v 7) (.k (.int 0))) (.tup (.cons (.ix (.ix (.v 5) (.k (.int 0))) (.k (.int 0))) (.cons (.ix (.ix (.v 5) (.k (.int 0))) (.k (.int 1))) (.cons (.bin false .Add (.bin false .Mod (.bi false .int (.cons (.ix (.ix (.v 5) (.k (.int 0))) (.k (.int 2))) .nil)) (.k (.int 255))) (.k (.int 1))) .nil))))) (.cons (.cond (.or (.not (.call "_law_same" (.cons (.ocmp "Coverage" "Coverage.__eq__" (.v 0) (.new "Coverage" "Coverage.__init__" (.cons (.v 7) .nil))) (.cons (.k (.bl false)) .nil)))) (.not (.call "_law_same" (.cons (.ocmp "Coverage" "Coverage.__eq__" (.new "Coverage" "Coverage.__init__" (.cons (.v 7) .nil)) (.v 0)) (.cons (.k (.bl false)) .nil))))) (.cons (.ret (.k (.bl false))) .nil) .nil) (.cons (.cond (.not (.call "_law_same" (.cons (.ocmp "Coverage" "Coverage.__eq__" (.v 0) (.v 1)) (.cons (.cmp .Eq (.call "_law_form" (.cons (.v 2) .nil)) (.call "_law_form" (.cons (.v 3) .nil))) .nil)))) (.cons (.ret (.k (.bl false))) .nil) .nil) (.cons (.ret (.and (.call "_law_same" (.cons (.ocmp "Coverage" "Coverage.__eq__" (.v 0) (.call "_law_form" (.cons (.v 2) .nil))) (.cons (.k (.bl false)) .nil))) (.call "_law_same" (.cons (.ocmp "Coverage" "Coverage.__eq__" (.v 0) (.bi false .list (.cons (.v 4) .nil))) (.cons (.k (.bl false)) .nil))))) .nil))))))))
def N_Coverage___sub__ : List Str := ["self", "other", "x", "y", "k"]
theorem st_Coverage___sub__ (x0 : D) (x1 : D) : startD N_Coverage___sub__ [x0, x1] = [some x0, some x1, none, none, none] := rfl
def b_Coverage___sub__ : Ss := (.cons (.ret (.new "Coverage" "Coverage.__init__" (.cons (.lc false (.tup (.cons (.v 2) (.cons (.v 3) (.cons (.bi false .min (.cons (.v 4) (.cons (.bin false .Sub (.k (.int 255)) (.omth "Coverage" "at" "Coverage.at" (.v 1) (.cons (.v 2) (.cons (.v 3) .nil)))) .nil))) .nil)))) (.tup (.cons (.nm 2) (.cons (.nm 3) (.cons (.nm 4) .nil)))) (.seq (.ofld (.v 0) "spots")) .nil [2, 3, 4]) .nil))) .nil)
def N_Coverage_of_rect : List Str := ["cls", "rect", "k", "x0", "y0", "x1", "y1", "y", "x"]
theorem st_Coverage_of_rect (x0 : D) (x1 : D) (x2 : D) : startD N_Coverage_of_rect [x0, x1, x2] = [some x0, some x1, some x2, none, none, none, none, none, none] := rfl
def b_Coverage_of_rect : Ss := (.cons (.cond (.cmp .Eq (.v 2) (.k (.int 0))) (.cons (.ret (.newc "Coverage" "Coverage.__init__" (.v 0) (.cons (.tup .nil) .nil))) .nil) .nil) (.cons (.asg (.tup (.cons (.nm 3) (.cons (.nm 4) (.cons (.nm 5) (.cons (.nm 6) .nil))))) (.v 1)) (.cons (.ret (.newc "Coverage" "Coverage.__init__" (.v 0) (.cons (.lc2 false (.tup (.cons (.v 8) (.cons (.v 7) (.cons (.v 2) .nil)))) (.nm 7) (.rng2 (.v 4) (.v 6)) .nil (.nm 8) (.rng2 (.v 3) (.v 5)) .nil [7, 8] [8]) .nil))) .nil)))
def N_Coverage_turned : List Str := ["self", "rect", "x0", "y0", "x1", "y1", "y", "x"]
theorem st_Coverage_turned (x0 : D) (x1 : D) : startD N_Coverage_turned [x0, x1] = [some x0, some x1, none, none, none, none, none, none] := rfl
def b_Coverage_turned : Ss := (.cons (.asg (.tup (.cons (.nm 2) (.cons (.nm 3) (.cons (.nm 4) (.cons (.nm 5) .nil))))) (.v 1)) (.cons (.ret (.new "Coverage" "Coverage.__init__" (.cons (.lc2 false (.tup (.cons (.v 7) (.cons (.v 6) (.cons (.bin false .Sub (.k (.int 255)) (.omth "Coverage" "at" "Coverage.at" (.v 0) (.cons (.v 7) (.cons (.v 6) .nil)))) .nil)))) (.nm 6) (.rng2 (.v 3) (.v 5)) .nil (.nm 7) (.rng2 (.v 2) (.v 4)) .nil [6, 7] [7]) .nil))) .nil))
def N_Coverage___and__ : List Str := ["self", "other", "x", "y", "k"]
theorem st_Coverage___and__ (x0 : D) (x1 : D) : startD N_Coverage___and__ [x0, x1] = [some x0, some x1, none, none, none] := rfl
def b_Coverage___and__ : Ss := (.cons (.ret (.new "Coverage" "Coverage.__init__" (.cons (.lc false (.tup (.cons (.v 2) (.cons (.v 3) (.cons (.bi false .min (.cons (.v 4) (.cons (.omth "Coverage" "at" "Coverage.at" (.v 1) (.cons (.v 2) (.cons (.v 3) .nil))) .nil))) .nil)))) (.tup (.cons (.nm 2) (.cons (.nm 3) (.cons (.nm 4) .nil)))) (.seq (.ofld (.v 0) "spots")) .nil [2, 3, 4]) .nil))) .nil)
def N_Coverage___or__ : List Str := ["self", "other", "spots", "x", "y", "k"]
theorem st_Coverage___or__ (x0 : D) (x1 : D) : startD N_Coverage___or__ [x0, x1] = [some x0, some x1, none, none, none, none] := rfl
def b_Coverage___or__ : Ss := (.cons (.asg (.nm 2) (.lc true (.tup (.cons (.v 3) (.cons (.v 4) (.cons (.bi false .max (.cons (.v 5) (.cons (.omth "Coverage" "at" "Coverage.at" (.v 1) (.cons (.v 3) (.cons (.v 4) .nil))) .nil))) .nil)))) (.tup (.cons (.nm 3) (.cons (.nm 4) (.cons (.nm 5) .nil)))) (.seq (.ofld (.v 0) "spots")) .nil [3, 4, 5])) (.cons (.loop (.tup (.cons (.nm 3) (.cons (.nm 4) (.cons (.nm 5) .nil)))) (.seq (.ofld (.v 1) "spots")) (.cons (.cond (.cmp .Eq (.omth "Coverage" "at" "Coverage.at" (.v 0) (.cons (.v 3) (.cons (.v 4) .nil))) (.k (.int 0))) (.cons (.ex (.mth false (.v 2) .append (.cons (.tup (.cons (.v 3) (.cons (.v 4) (.cons (.v 5) .nil)))) .nil))) .nil) .nil) .nil)) (.cons (.ret (.new "Coverage" "Coverage.__init__" (.cons (.v 2) .nil))) .nil)))
def N__law_filled : List Str := ["rect", "k", "told", "y", "x"]
theorem st__law_filled (x0 : D) (x1 : D) : startD N__law_filled [x0, x1] = [some x0, some x1, none, none, none] := rfl
def b__law_filled : Ss := (.cons (.asg (.nm 2) (.dnew true)) (.cons (.loop (.nm 3) (.rng2 (.ix (.v 0) (.k (.int 1))) (.ix (.v 0) (.k (.int 3)))) (.cons (.loop (.nm 4) (.rng2 (.ix (.v 0) (.k (.int 0))) (.ix (.v 0) (.k (.int 2)))) (.cons (.asg (.dsubT (.v 2) (.cons (.v 4) (.cons (.v 3) .nil))) (.v 1)) .nil)) .nil)) (.cons (.ret (.v 2)) .nil)))
def N__law_turned : List Str := ["table", "rect", "told", "place"]
theorem st__law_turned (x0 : D) (x1 : D) : startD N__law_turned [x0, x1] = [some x0, some x1, none, none] := rfl
def b__law_turned : Ss := (.cons (.asg (.nm 2) (.dnew true)) (.cons (.loop (.nm 3) (.seq (.call "_law_filled" (.cons (.v 1) (.cons (.k (.int 0)) .nil)))) (.cons (.asg (.dsub (.v 2) (.v 3)) (.bin false .Sub (.k (.int 255)) (.dget (.v 0) (.v 3) (.k (.int 0))))) .nil)) (.cons (.ret (.v 2)) .nil)))
def N__law_joined : List Str := ["first", "second", "way", "told", "place", "key", "p", "q"]
theorem st__law_joined (x0 : D) (x1 : D) (x2 : D) : startD N__law_joined [x0, x1, x2] = [some x0, some x1, some x2, none, none, none, none, none] := rfl
def b__law_joined : Ss := (.cons (.asg (.nm 3) (.dnew true)) (.cons (.loop (.nm 4) (.seq (.bin false .Add (.lcd (.v 5) (.nm 5) 0 .nil [5]) (.lcd (.v 5) (.nm 5) 1 .nil [5]))) (.cons (.asg (.nm 6) (.dget (.v 0) (.v 4) (.k (.int 0)))) (.cons (.asg (.nm 7) (.dget (.v 1) (.v 4) (.k (.int 0)))) (.cons (.cond (.cmp .Eq (.v 2) (.k (.str "more"))) (.cons (.asg (.dsub (.v 3) (.v 4)) (.bi false .max (.cons (.v 6) (.cons (.v 7) .nil)))) .nil) .nil) (.cons (.cond (.cmp .Eq (.v 2) (.k (.str "both"))) (.cons (.asg (.dsub (.v 3) (.v 4)) (.bi false .min (.cons (.v 6) (.cons (.v 7) .nil)))) .nil) .nil) (.cons (.cond (.cmp .Eq (.v 2) (.k (.str "less"))) (.cons (.asg (.dsub (.v 3) (.v 4)) (.bi false .min (.cons (.v 6) (.cons (.bin false .Sub (.k (.int 255)) (.v 7)) .nil)))) .nil) .nil) .nil)))))) (.cons (.ret (.v 3)) .nil)))
def N__law_turns : List Str := ["a", "b", "first", "second", "rect", "corner", "due", "neither", "within", "place"]
theorem st__law_turns (x0 : D) (x1 : D) (x2 : D) (x3 : D) (x4 : D) (x5 : D) : startD N__law_turns [x0, x1, x2, x3, x4, x5] = [some x0, some x1, some x2, some x3, some x4, some x5, none, none, none, none] := rfl
def b__law_turns : Ss := (.cons (.asg (.nm 6) (.call "_law_turned" (.cons (.v 2) (.cons (.v 4) .nil)))) (.cons (.cond (.not (.call "_law_told" (.cons (.omth "Coverage" "turned" "Coverage.turned" (.v 0) (.cons (.v 4) .nil)) (.cons (.v 6) (.cons (.v 5) .nil))))) (.cons (.ret (.k (.bl false))) .nil) .nil) (.cons (.cond (.not (.call "_law_is" (.cons (.omth "Coverage" "turned" "Coverage.turned" (.omth "Coverage" "turned" "Coverage.turned" (.v 0) (.cons (.v 4) .nil)) (.cons (.v 4) .nil)) (.cons (.call "_law_turned" (.cons (.v 6) (.cons (.v 4) .nil))) .nil)))) (.cons (.ret (.k (.bl false))) .nil) .nil) (.cons (.asg (.nm 7) (.call "_law_turned" (.cons (.call "_law_joined" (.cons (.v 2) (.cons (.v 3) (.cons (.k (.str "more")) .nil)))) (.cons (.v 4) .nil)))) (.cons (.cond (.or (.not (.call "_law_is" (.cons (.omth "Coverage" "turned" "Coverage.turned" (.obin "Coverage" "Coverage.__or__" .BitOr (.v 0) (.v 1)) (.cons (.v 4) .nil)) (.cons (.v 7) .nil)))) (.not (.call "_law_is" (.cons (.obin "Coverage" "Coverage.__and__" .BitAnd (.omth "Coverage" "turned" "Coverage.turned" (.v 0) (.cons (.v 4) .nil)) (.omth "Coverage" "turned" "Coverage.turned" (.v 1) (.cons (.v 4) .nil))) (.cons (.v 7) .nil))))) (.cons (.ret (.k (.bl false))) .nil) .nil) (.cons (.asg (.nm 8) (.dnew true)) (.cons (.loop (.nm 9) (.seq (.v 6)) (.cons (.asg (.dsub (.v 8) (.v 9)) (.bi false .min (.cons (.dget (.v 2) (.v 9) (.k (.int 0))) (.cons (.bin false .Sub (.k (.int 255)) (.dget (.v 3) (.v 9) (.k (.int 0)))) .nil)))) .nil)) (.cons (.cond (.not (.call "_law_is" (.cons (.obin "Coverage" "Coverage.__and__" .BitAnd (.v 0) (.omth "Coverage" "turned" "Coverage.turned" (.v 1) (.cons (.v 4) .nil))) (.cons (.v 8) .nil)))) (.cons (.ret (.k (.bl false))) .nil) .nil) (.cons (.ret (.call "_law_same" (.cons (.ocmp "Coverage" "Coverage.__eq__" (.obin "Coverage" "Coverage.__sub__" .Sub (.call "Coverage.of_rect" (.cons (.v 4) (.cons (.k (.int 255)) .nil))) (.v 0)) (.omth "Coverage" "turned" "Coverage.turned" (.v 0) (.cons (.v 4) .nil))) (.cons (.k (.bl true)) .nil)))) .nil)))))))))
def N__law_joins : List Str := ["a", "b", "first", "second"]
theorem st__law_joins (x0 : D) (x1 : D) (x2 : D) (x3 : D) : startD N__law_joins [x0, x1, x2, x3] = [some x0, some x1, some x2, some x3] := rfl
def b__law_joins : Ss := (.cons (.cond (.not (.call "_law_is" (.cons (.obin "Coverage" "Coverage.__or__" .BitOr (.v 0) (.v 1)) (.cons (.call "_law_joined" (.cons (.v 2) (.cons (.v 3) (.cons (.k (.str "more")) .nil)))) .nil)))) (.cons (.ret (.k (.bl false))) .nil) .nil) (.cons (.cond (.not (.call "_law_is" (.cons (.obin "Coverage" "Coverage.__or__" .BitOr (.v 1) (.v 0)) (.cons (.call "_law_joined" (.cons (.v 2) (.cons (.v 3) (.cons (.k (.str "more")) .nil)))) .nil)))) (.cons (.ret (.k (.bl false))) .nil) .nil) (.cons (.cond (.not (.call "_law_is" (.cons (.obin "Coverage" "Coverage.__and__" .BitAnd (.v 0) (.v 1)) (.cons (.call "_law_joined" (.cons (.v 2) (.cons (.v 3) (.cons (.k (.str "both")) .nil)))) .nil)))) (.cons (.ret (.k (.bl false))) .nil) .nil) (.cons (.cond (.not (.call "_law_is" (.cons (.obin "Coverage" "Coverage.__and__" .BitAnd (.v 1) (.v 0)) (.cons (.call "_law_joined" (.cons (.v 2) (.cons (.v 3) (.cons (.k (.str "both")) .nil)))) .nil)))) (.cons (.ret (.k (.bl false))) .nil) .nil) (.cons (.cond (.not (.call "_law_is" (.cons (.obin "Coverage" "Coverage.__sub__" .Sub (.v 0) (.v 1)) (.cons (.call "_law_joined" (.cons (.v 2) (.cons (.v 3) (.cons (.k (.str "less")) .nil)))) .nil)))) (.cons (.ret (.k (.bl false))) .nil) .nil) (.cons (.cond (.not (.call "_law_is" (.cons (.obin "Coverage" "Coverage.__sub__" .Sub (.v 1) (.v 0)) (.cons (.call "_law_joined" (.cons (.v 3) (.cons (.v 2) (.cons (.k (.str "less")) .nil)))) .nil)))) (.cons (.ret (.k (.bl false))) .nil) .nil) (.cons (.ret (.and (.call "_law_is" (.cons (.obin "Coverage" "Coverage.__or__" .BitOr (.v 0) (.v 0)) (.cons (.v 2) .nil))) (.and (.call "_law_is" (.cons (.obin "Coverage" "Coverage.__and__" .BitAnd (.v 0) (.v 0)) (.cons (.v 2) .nil))) (.call "_law_is" (.cons (.obin "Coverage" "Coverage.__sub__" .Sub (.v 0) (.v 0)) (.cons (.call "_law_joined" (.cons (.v 2) (.cons (.v 2) (.cons (.k (.str "less")) .nil)))) .nil)))))) .nil)))))))
def N__law_table : List Str := ["rows", "table", "row"]
theorem st__law_table (x0 : D) : startD N__law_table [x0] = [some x0, none, none] := rfl
def b__law_table : Ss := (.cons (.asg (.nm 1) (.dnew true)) (.cons (.loop (.nm 2) (.seq (.v 0)) (.cons (.asg (.dsubT (.v 1) (.cons (.ix (.v 2) (.k (.int 0))) (.cons (.ix (.v 2) (.k (.int 1))) .nil))) (.ix (.v 2) (.k (.int 2)))) .nil)) (.cons (.ret (.v 1)) .nil)))
def N__law_take : List Str := ["pool", "many"]
theorem st__law_take (x0 : D) (x1 : D) : startD N__law_take [x0, x1] = [some x0, some x1] := rfl
def b__law_take : Ss := (.cons (.cond (.cmp .Eq (.bi false .len (.cons (.v 0) .nil)) (.k (.int 0))) (.cons (.ret (.k (.int 0))) .nil) .nil) (.cons (.ret (.bin false .Mod (.bi false .int (.cons (.mth false (.v 0) .pop .nil) .nil)) (.v 1))) .nil))
def N__law_pick : List Str := ["pool", "rows"]
theorem st__law_pick (x0 : D) (x1 : D) : startD N__law_pick [x0, x1] = [some x0, some x1] := rfl
def b__law_pick : Ss := (.cons (.ret (.ix (.v 1) (.call "_law_take" (.cons (.v 0) (.cons (.bi false .len (.cons (.v 1) .nil)) .nil))))) .nil)
def N__law_value : List Str := ["pool"]
theorem st__law_value (x0 : D) : startD N__law_value [x0] = [some x0] := rfl
def b__law_value : Ss := (.cons (.cond (.cmp .Eq (.call "_law_take" (.cons (.v 0) (.cons (.k (.int 2)) .nil))) (.k (.int 0))) (.cons (.ret (.call "_law_pick" (.cons (.v 0) (.cons (.tup (.cons (.k (.int 255)) (.cons (.k (.int 128)) (.cons (.k (.int 1)) (.cons (.k (.int 0)) .nil))))) .nil)))) .nil) .nil) (.cons (.ret (.call "_law_take" (.cons (.v 0) (.cons (.k (.int 256)) .nil)))) .nil))
def N__law_rect : List Str := ["pool", "corner", "x", "y", "wide", "high"]
theorem st__law_rect (x0 : D) (x1 : D) : startD N__law_rect [x0, x1] = [some x0, some x1, none, none, none, none] := rfl
def b__law_rect : Ss := (.cons (.asg (.nm 2) (.bin false .Add (.bin false .Sub (.ix (.v 1) (.k (.int 0))) (.k (.int 1))) (.call "_law_take" (.cons (.v 0) (.cons (.k (.int 9)) .nil))))) (.cons (.asg (.nm 3) (.bin false .Add (.bin false .Sub (.ix (.v 1) (.k (.int 1))) (.k (.int 1))) (.call "_law_take" (.cons (.v 0) (.cons (.k (.int 9)) .nil))))) (.cons (.asg (.nm 4) (.bin false .Add (.k (.int 1)) (.call "_law_take" (.cons (.v 0) (.cons (.k (.int 6)) .nil))))) (.cons (.asg (.nm 5) (.bin false .Add (.k (.int 1)) (.call "_law_take" (.cons (.v 0) (.cons (.k (.int 5)) .nil))))) (.cons (.cond (.cmp .Eq (.call "_law_take" (.cons (.v 0) (.cons (.k (.int 9)) .nil))) (.k (.int 8))) (.cons (.asg (.nm 4) (.bin false .Add (.k (.int 1)) (.call "_law_take" (.cons (.v 0) (.cons (.k (.int 50)) .nil))))) (.cons (.asg (.nm 5) (.bin false .Add (.k (.int 1)) (.call "_law_take" (.cons (.v 0) (.cons (.k (.int 2)) .nil))))) .nil)) .nil) (.cons (.ret (.tup (.cons (.v 2) (.cons (.v 3) (.cons (.bin false .Add (.v 2) (.v 4)) (.cons (.bin false .Add (.v 3) (.v 5)) .nil)))))) .nil))))))
def N__law_rows : List Str := ["pool", "corner", "rows", "p", "q", "j", "held", "k", "place", "value"]
theorem st__law_rows (x0 : D) (x1 : D) : startD N__law_rows [x0, x1] = [some x0, some x1, none, none, none, none, none, none, none, none] := rfl
def b__law_rows : Ss := (.cons (.asg (.nm 2) (.lst true .nil)) (.cons (.cond (.cmp .Eq (.call "_law_take" (.cons (.v 0) (.cons (.k (.int 9)) .nil))) (.k (.int 8))) (.cons (.asg (.nm 3) (.call "_law_take" (.cons (.v 0) (.cons (.k (.int 256)) .nil)))) (.cons (.asg (.nm 4) (.call "_law_take" (.cons (.v 0) (.cons (.k (.int 256)) .nil)))) (.cons (.loop (.nm 5) (.rng1 (.k (.int 64))) (.cons (.ex (.mth false (.v 2) .append (.cons (.tup (.cons (.bin false .Add (.ix (.v 1) (.k (.int 0))) (.bin false .FloorDiv (.v 5) (.k (.int 8)))) (.cons (.bin false .Add (.ix (.v 1) (.k (.int 1))) (.bin false .Mod (.bi false .int (.cons (.v 5) .nil)) (.k (.int 8)))) (.cons (.bin false .Mod (.bi false .int (.cons (.bin false .Add (.bin false .Mult (.v 3) (.v 5)) (.v 4)) .nil)) (.k (.int 256))) .nil)))) .nil))) .nil)) (.cons (.ret (.v 2)) .nil)))) .nil) (.cons (.asg (.nm 6) (.dnew true)) (.cons (.loop (.nm 7) (.rng1 (.call "_law_take" (.cons (.v 0) (.cons (.k (.int 8)) .nil)))) (.cons (.asg (.nm 8) (.tup (.cons (.bin false .Add (.ix (.v 1) (.k (.int 0))) (.call "_law_take" (.cons (.v 0) (.cons (.k (.int 8)) .nil)))) (.cons (.bin false .Add (.ix (.v 1) (.k (.int 1))) (.call "_law_take" (.cons (.v 0) (.cons (.k (.int 8)) .nil)))) .nil)))) (.cons (.asg (.nm 9) (.call "_law_value" (.cons (.v 0) .nil))) (.cons (.cond (.cmp .NotIn (.v 8) (.v 6)) (.cons (.asg (.dsub (.v 6) (.v 8)) (.k (.bl true))) (.cons (.ex (.mth false (.v 2) .append (.cons (.tup (.cons (.ix (.v 8) (.k (.int 0))) (.cons (.ix (.v 8) (.k (.int 1))) (.cons (.v 9) .nil)))) .nil))) .nil)) .nil) .nil)))) (.cons (.ret (.v 2)) .nil)))))
def N__law_corner : List Str := ["script", "pool", "pair", "at", "cell"]
theorem st__law_corner (x0 : D) (x1 : D) : startD N__law_corner [x0, x1] = [some x0, some x1, none, none, none] := rfl
def b__law_corner : Ss := (.cons (.cond (.cmp .Lt (.call "_law_take" (.cons (.v 1) (.cons (.k (.int 3)) .nil))) (.k (.int 2))) (.cons (.ret (.tup (.cons (.neg (.k (.int 2))) (.cons (.neg (.k (.int 2))) .nil)))) .nil) .nil) (.cons (.asg (.nm 2) (.lst true .nil)) (.cons (.loop (.nm 3) (.seq (.tup (.cons (.k (.int 3)) (.cons (.k (.int 4)) .nil)))) (.cons (.asg (.nm 4) (.k (.int 0))) (.cons (.cond (.cmp .Lt (.v 3) (.bi false .len (.cons (.v 0) .nil))) (.cons (.asg (.nm 4) (.bi false .int (.cons (.ix (.v 0) (.v 3)) .nil))) .nil) .nil) (.cons (.ex (.mth false (.v 2) .append (.cons (.bin false .Sub (.bin false .Mod (.bi false .int (.cons (.v 4) .nil)) (.bin false .Add (.bin false .Mult (.k (.int 2)) (.bin false .Pow (.k (.int 10)) (.k (.int 30)))) (.k (.int 1)))) (.bin false .Pow (.k (.int 10)) (.k (.int 30)))) .nil))) .nil)))) (.cons (.ret (.tup (.cons (.ix (.v 2) (.k (.int 0))) (.cons (.ix (.v 2) (.k (.int 1))) .nil)))) .nil))))
def N__law_draws : List Str := ["script", "at", "count", "cell", "rows", "rest", "k", "seed"]
theorem st__law_draws (x0 : D) (x1 : D) (x2 : D) : startD N__law_draws [x0, x1, x2] = [some x0, some x1, some x2, none, none, none, none, none] := rfl
def b__law_draws : Ss := (.cons (.asg (.nm 3) (.k (.int 0))) (.cons (.cond (.cmp .Lt (.v 1) (.bi false .len (.cons (.v 0) .nil))) (.cons (.asg (.nm 3) (.bi false .abs (.cons (.bi false .int (.cons (.ix (.v 0) (.v 1)) .nil)) .nil))) .nil) .nil) (.cons (.asg (.nm 4) (.lst true .nil)) (.cons (.asg (.nm 5) (.v 3)) (.cons (.cond (.cmp .GtE (.v 3) (.bin false .Pow (.k (.int 10)) (.k (.int 18)))) (.cons (.loop (.nm 6) (.rng1 (.v 2)) (.cons (.cond (.cmp .Eq (.v 5) (.k (.int 0))) (.cons .brk .nil) .nil) (.cons (.ex (.mth false (.v 4) .append (.cons (.bin false .Mod (.bi false .int (.cons (.v 5) .nil)) (.k (.int 9973))) .nil))) (.cons (.asg (.nm 5) (.bin false .FloorDiv (.v 5) (.k (.int 9973)))) .nil)))) .nil) .nil) (.cons (.asg (.nm 7) (.bin false .Add (.bin false .Add (.bin false .Mod (.bi false .int (.cons (.v 3) .nil)) (.k (.int 1000003))) (.bin false .Mult (.k (.int 611)) (.v 1))) (.k (.int 17)))) (.cons (.loop (.nm 6) (.rng1 (.bin false .Sub (.v 2) (.bi false .len (.cons (.v 4) .nil)))) (.cons (.asg (.nm 7) (.bin false .Mod (.bi false .int (.cons (.bin false .Add (.bin false .Add (.bin false .Mult (.v 7) (.v 7)) (.bin false .Mult (.k (.int 48271)) (.bin false .Add (.v 6) (.k (.int 1))))) (.k (.int 12345))) .nil)) (.k (.int 999983)))) (.cons (.ex (.mth false (.v 4) .append (.cons (.bin false .Mod (.bi false .int (.cons (.bin false .Add (.bin false .Mod (.bi false .int (.cons (.bin false .Mult (.v 7) (.v 7)) .nil)) (.k (.int 1000003))) (.bin false .Mult (.k (.int 69621)) (.v 6))) .nil)) (.k (.int 9973))) .nil))) .nil))) (.cons (.ret (.v 4)) .nil))))))))
def N__law_pool : List Str := ["script", "cells", "count", "rows", "at"]
theorem st__law_pool (x0 : D) (x1 : D) (x2 : D) : startD N__law_pool [x0, x1, x2] = [some x0, some x1, some x2, none, none] := rfl
def b__law_pool : Ss := (.cons (.asg (.nm 3) (.lst false .nil)) (.cons (.loop (.nm 4) (.rng1 (.v 1)) (.cons (.asg (.nm 3) (.bin false .Add (.v 3) (.call "_law_draws" (.cons (.v 0) (.cons (.v 4) (.cons (.v 2) .nil)))))) .nil)) (.cons (.ret (.rvl true (.v 3))) .nil)))
def N_law : List Str := ["script", "pool", "corner", "rows", "others", "rect", "k", "first", "second", "passed", "a", "b", "worth"]
theorem st_law (x0 : D) : startD N_law [x0] = [some x0, none, none, none, none, none, none, none, none, none, none, none, none] := rfl
def b_law : Ss := (.cons (.asg (.nm 1) (.call "_law_pool" (.cons (.v 0) (.cons (.k (.int 3)) (.cons (.k (.int 40)) .nil))))) (.cons (.asg (.nm 2) (.call "_law_corner" (.cons (.v 0) (.cons (.v 1) .nil)))) (.cons (.asg (.nm 3) (.call "_law_rows" (.cons (.v 1) (.cons (.v 2) .nil)))) (.cons (.asg (.nm 4) (.call "_law_rows" (.cons (.v 1) (.cons (.v 2) .nil)))) (.cons (.cond (.cmp .Eq (.call "_law_take" (.cons (.v 1) (.cons (.k (.int 9)) .nil))) (.k (.int 8))) (.cons (.asg (.nm 4) (.bi false .list (.cons (.v 3) .nil))) .nil) .nil) (.cons (.cond (.cmp .Eq (.call "_law_take" (.cons (.v 1) (.cons (.k (.int 5)) .nil))) (.k (.int 4))) (.cons (.ex (.mth false (.v 3) .append (.cons (.tup (.cons (.bin false .Add (.ix (.v 2) (.k (.int 0))) (.bin false .Pow (.k (.int 10)) (.k (.int 12)))) (.cons (.ix (.v 2) (.k (.int 1))) (.cons (.bin false .Add (.k (.int 1)) (.call "_law_take" (.cons (.v 1) (.cons (.k (.int 255)) .nil)))) .nil)))) .nil))) .nil) .nil) (.cons (.asg (.nm 5) (.call "_law_rect" (.cons (.v 1) (.cons (.v 2) .nil)))) (.cons (.asg (.nm 6) (.call "_law_value" (.cons (.v 1) .nil))) (.cons (.asg (.nm 7) (.call "_law_table" (.cons (.v 3) .nil))) (.cons (.asg (.nm 8) (.call "_law_table" (.cons (.v 4) .nil))) (.cons (.asg (.nm 9) (.bi true .list (.cons (.v 3) .nil))) (.cons (.asg (.nm 10) (.new "Coverage" "Coverage.__init__" (.cons (.v 9) .nil))) (.cons (.asg (.nm 11) (.new "Coverage" "Coverage.__init__" (.cons (.bi false .tuple (.cons (.v 4) .nil)) .nil))) (.cons (.cond (.cmp .NotEq (.v 9) (.v 3)) (.cons (.ret (.k (.bl false))) .nil) .nil) (.cons (.ex (.mth false (.v 9) .append (.cons (.tup (.cons (.ix (.v 2) (.k (.int 0))) (.cons (.bin false .Add (.ix (.v 2) (.k (.int 1))) (.k (.int 9))) (.cons (.k (.int 77)) .nil)))) .nil))) (.cons (.ex (.mth false (.v 9) .reverse .nil)) (.cons (.cond (.or (.not (.call "_law_told" (.cons (.v 10) (.cons (.v 7) (.cons (.v 2) .nil))))) (.not (.call "_law_told" (.cons (.v 11) (.cons (.v 8) (.cons (.v 2) .nil)))))) (.cons (.ret (.k (.bl false))) .nil) .nil) (.cons (.loop (.nm 12) (.seq (.tup (.cons (.v 6) (.cons (.k (.int 0)) (.cons (.k (.int 255)) .nil))))) (.cons (.cond (.not (.call "_law_is" (.cons (.call "Coverage.of_rect" (.cons (.v 5) (.cons (.v 12) .nil))) (.cons (.call "_law_filled" (.cons (.v 5) (.cons (.v 12) .nil))) .nil)))) (.cons (.ret (.k (.bl false))) .nil) .nil) .nil)) (.cons (.cond (.or (.not (.call "_law_joins" (.cons (.v 10) (.cons (.v 11) (.cons (.v 7) (.cons (.v 8) .nil)))))) (.not (.call "_law_turns" (.cons (.v 10) (.cons (.v 11) (.cons (.v 7) (.cons (.v 8) (.cons (.v 5) (.cons (.v 2) .nil))))))))) (.cons (.ret (.k (.bl false))) .nil) .nil) (.cons (.cond (.not (.call "_law_likes" (.cons (.v 10) (.cons (.v 11) (.cons (.v 7) (.cons (.v 8) (.cons (.v 3) .nil))))))) (.cons (.ret (.k (.bl false))) .nil) .nil) (.cons (.ret (.and (.call "_law_told" (.cons (.v 10) (.cons (.v 7) (.cons (.v 2) .nil)))) (.call "_law_told" (.cons (.v 11) (.cons (.v 8) (.cons (.v 2) .nil)))))) .nil)))))))))))))))))))))
/-! plain facts -/
theorem loopL_inv {turn : D → En → MH → (En → MH → Prop) → Prop} {keep : MH → Prop} (I : En → MH → Prop) : ∀ {xs : List D} {σ : En} {H : MH} {Q : En → MH → Prop}, (∀ σ H, I σ H → keep H) →
    (∀ x ∈ xs, ∀ σ H (Q : En → MH → Prop), I σ H → (∀ σ' H', I σ' H' → Q σ' H') → turn x σ H Q) → I σ H → (∀ σ' H', I σ' H' → Q σ' H') → loopL turn keep xs σ H Q
  | [], σ, H, Q, hk, ht, h0, hq => ⟨hk σ H h0, hq σ H h0⟩
  | x :: r, σ, H, Q, hk, ht, h0, hq => ⟨hk σ H h0, ht x List.mem_cons_self σ H _ h0 fun σ' H' h' => loopL_inv I hk (fun y hy => ht y (List.mem_cons_of_mem _ hy)) h' hq⟩
theorem lcL_map {step : D → MH → (Option D → MH → Prop) → Prop} {keep : MH → Prop} {H : MH} (f : D → D) (hk : keep H) : ∀ {xs : List D} {Q : List D → MH → Prop}, (∀ x ∈ xs, ∀ Q : Option D → MH → Prop, Q (some (f x)) H → step x H Q) → Q (xs.map f) H → lcL step keep xs H Q
  | [], Q, hs, q => ⟨hk, q⟩
  | x :: r, Q, hs, q => ⟨hk, hs x List.mem_cons_self _ (lcL_map f hk (fun y hy => hs y (List.mem_cons_of_mem _ hy)) q)⟩
theorem mulOk_of {i j : Int} {a b : Nat} (ha : i.natAbs < 2 ^ a) (hb : j.natAbs < 2 ^ b) (h0 : 0 < a) (h1 : 0 < b) (h : a + b ≤ 50000000) : mulOk i j := by
  have x := PySem.Flt.log2_lt_of h0 ha
  have y := PySem.Flt.log2_lt_of h1 hb
  unfold mulOk
  omega
theorem mulOk_l {i j : Int} (h : -(2 ^ 64) < i ∧ i < 2 ^ 64) : mulOk i j := .inl h
theorem mulOk_r {i j : Int} (h : -(2 ^ 64) < j ∧ j < 2 ^ 64) : mulOk i j := .inr (.inl h)
@[simp] theorem mulOk_lit (n : Nat) [h : OfNat Int n] : True := trivial
theorem pw_add (a c : Nat) : 2 ^ a * 2 ^ c = 2 ^ (a + c) := (Nat.pow_add 2 a c).symm
/-- sizes: below 2 ^ b -/
@[irreducible] def Sz (b : Nat) (i : Int) : Prop := i.natAbs < 2 ^ b
theorem Sz.mono {a b : Nat} {i : Int} (h : Sz a i) (l : a ≤ b) : Sz b i := by
  unfold Sz at *
  exact Nat.lt_of_lt_of_le h (Nat.pow_le_pow_right (by decide) l)
theorem Sz.add {a : Nat} {i j : Int} (h : Sz a i) (g : Sz a j) : Sz (a + 1) (i + j) := by
  unfold Sz at *
  rw [Nat.pow_succ]
  omega
theorem Sz.sub {a : Nat} {i j : Int} (h : Sz a i) (g : Sz a j) : Sz (a + 1) (i - j) := by
  unfold Sz at *
  rw [Nat.pow_succ]
  omega
theorem Sz.mul {a b : Nat} {i j : Int} (h : Sz a i) (g : Sz b j) : Sz (a + b) (i * j) := by
  unfold Sz at *
  rw [Int.natAbs_mul, Nat.pow_add]
  exact Nat.mul_lt_mul'' h g
theorem Sz.lit {n : Int} {b : Nat} (h : n.natAbs < 2 ^ 10) (hb : 10 ≤ b) : Sz b n := by
  unfold Sz
  exact Nat.lt_of_lt_of_le h (Nat.pow_le_pow_right (by decide) hb)
theorem Sz.le {b : Nat} {i j : Int} (h : Sz b j) (l : i.natAbs ≤ j.natAbs) : Sz b i := by
  unfold Sz at *
  exact Nat.lt_of_le_of_lt l h
theorem Sz.absucc {b : Nat} {a : Int} (h : Sz b a) : Sz (b + 1) (1 + if a < 0 then -a else a) := by
  unfold Sz at *
  rw [Nat.pow_succ]
  generalize (2 : Nat) ^ b = w at *
  split <;> omega
theorem Sz.ok {a b : Nat} {i j : Int} (h : Sz a i) (g : Sz b j) (ha : 0 < a) (hb : 0 < b) (l : a + b ≤ 50000000) : mulOk i j := by
  unfold Sz at *
  exact mulOk_of h g ha hb l
theorem div_is {N c t : Int} (hc : 0 < c) (h1 : c * t ≤ N) (h2 : N < c * t + c) : N / c = t := by
  rw [Int.ediv_eq_iff_of_pos hc, Int.mul_comm t c]
  exact ⟨h1, h2⟩
theorem div_small {N c : Int} (hc : 0 < c) : (N / c).natAbs ≤ N.natAbs := by
  have h1 := Int.mul_ediv_self_le (x := N) (k := c) (by omega)
  have h2 := Int.lt_mul_ediv_self_add (x := N) hc
  rcases Int.lt_or_le N 0 with h | h
  · have : N / c < 0 := Int.ediv_neg_of_neg_of_pos h hc
    have h3 : c * (N / c) ≤ 1 * (N / c) := Int.mul_le_mul_of_nonpos_right (by omega) (by omega)
    have h4 : N ≤ N / c := by
      have : N / c * c ≤ N := by rw [Int.mul_comm]; exact h1
      rcases Int.lt_or_le (N / c) N with q | q
      · exfalso
        have e : (N / c + 1) * c ≤ N * 1 := by
          have a1 : (N / c + 1) * c ≤ N * c := Int.mul_le_mul_of_nonneg_right (by omega) (by omega)
          have a2 : N * c ≤ N * 1 := Int.mul_le_mul_of_nonpos_left (by omega) (by omega)
          omega
        rw [Int.add_mul, Int.one_mul, Int.mul_comm (N / c) c] at e
        omega
      · exact q
    omega
  · have h3 : 0 ≤ N / c := Int.ediv_nonneg h (by omega)
    have h4 : 1 * (N / c) ≤ c * (N / c) := Int.mul_le_mul_of_nonneg_right (by omega) h3
    omega
theorem intsD_map : ∀ ns : List Int, intsD (ns.map D.int) = some ns
  | [] => rfl
  | n :: r => by
    rw [List.map_cons]
    unfold intsD
    rw [intsD_map r]; rfl
theorem sort3 {a b c : Int} {ms L : List Int} (hp : ms.Perm [a, b, c]) (hs : ms.Pairwise (· ≤ ·)) (hl : L.Perm [a, b, c]) (hls : L.Pairwise (· ≤ ·)) : ms = L :=
  List.Perm.eq_of_pairwise (fun x y _ _ h1 h2 => by omega) hs hls (hp.trans hl.symm)
theorem loopL_ix {turn : D → En → MH → (En → MH → Prop) → Prop} {keep : MH → Prop} (I : Nat → En → MH → Prop) : ∀ {xs : List D} {σ : En} {H : MH} {Q : En → MH → Prop} (n : Nat), (∀ i σ H, I i σ H → keep H) →
    (∀ i x, xs[i]? = some x → ∀ σ H (Q : En → MH → Prop), I (n + i) σ H → (∀ σ' H', I (n + i + 1) σ' H' → Q σ' H') → turn x σ H Q) → I n σ H → (∀ σ' H', I (n + xs.length) σ' H' → Q σ' H') → loopL turn keep xs σ H Q
  | [], σ, H, Q, n, hk, ht, h0, hq => ⟨hk _ σ H h0, hq σ H h0⟩
  | x :: r, σ, H, Q, n, hk, ht, h0, hq => ⟨hk _ σ H h0, ht 0 x rfl σ H _ h0 fun σ' H' h' => loopL_ix I (n + 1) hk (fun i y hy σ H Q hi hq => ht (i + 1) y hy σ H Q (by rw [show n + (i + 1) = n + 1 + i by omega]; exact hi) (by rw [show n + (i + 1) + 1 = n + 1 + i + 1 by omega]; exact hq)) h' (by rw [List.length_cons, show n + (r.length + 1) = n + 1 + r.length by omega] at hq; exact hq)⟩
/-- with the exit told to the turns (break) -/
theorem loopL_br {turn : D → En → MH → (En → MH → Prop) → Prop} {keep : MH → Prop} (I : Nat → En → MH → Prop) {xs : List D} {σ : En} {H : MH} {Q : En → MH → Prop} (hk : ∀ i σ H, I i σ H → keep H) (h0 : I 0 σ H) (hq : ∀ i σ' H', i ≤ xs.length → I i σ' H' → Q σ' H')
    (ht : (∀ i σ' H', i ≤ xs.length → I i σ' H' → Q σ' H') → ∀ i x, i < xs.length → xs[i]? = some x → ∀ σ H (Q : En → MH → Prop), I i σ H → (∀ σ' H', I (i + 1) σ' H' → Q σ' H') → turn x σ H Q) : loopL turn keep xs σ H Q :=
  loopL_ix I 0 hk (fun i x hx σ H Q hi hq' => ht hq i x (by
    rcases Nat.lt_or_ge i xs.length with h | h
    · exact h
    · rw [List.getElem?_eq_none h] at hx; cases hx) hx σ H Q (by rw [Nat.zero_add] at hi; exact hi) (by rw [Nat.zero_add] at hq'; exact hq')) h0 (fun σ' H' h => hq _ _ _ (Nat.le_refl _) (by rw [Nat.zero_add] at h; exact h))
theorem rng_at {n i : Nat} {lo : Int} {x : D} (h : ((List.range n).map fun (k : Nat) => D.int (lo + (k : Int)))[i]? = some x) : i < n ∧ x = .int (lo + (i : Int)) := by
  rw [List.getElem?_map] at h
  by_cases hi : i < n
  · rw [List.getElem?_range hi] at h
    cases h
    exact ⟨hi, rfl⟩
  · rw [List.getElem?_eq_none (by rw [List.length_range]; omega)] at h; cases h
@[simp] def Ss.tl : Ss → Ss
  | .cons _ r => r
  | .nil => .nil
theorem lstAt_ref {H : MH} {p : Addr} {xs : List D} (h : H p = some (.lst xs)) : lstAt H (.ref p) = some xs := by
  show (match H p with | some (.lst xs) => some xs | _ => none) = some xs
  rw [h]
theorem seqAt_ref {H : MH} {p : Addr} {xs : List D} (h : H p = some (.lst xs)) : seqAt H (.ref p) = some xs := by
  unfold seqAt
  exact lstAt_ref h
theorem updM_idem {H : MH} {p : Addr} {o u : MO} : updM (updM H p o) p u = updM H p u := by
  funext b
  by_cases h : b = p
  · rw [h, updM_same, updM_same]
  · rw [updM_ne h, updM_ne h, updM_ne h]
theorem snoc_int {rs : List Int} {r : Int} : rs.map D.int ++ [D.int r] = (rs ++ [r]).map D.int := by rw [List.map_append]; rfl
theorem snocM {H : MH} {p : Addr} {rs : List Int} {r : Int} : updM H p (.lst (rs.map D.int ++ [D.int r])) p = some (.lst ((rs ++ [r]).map D.int)) := by rw [updM_same, snoc_int]
theorem mem_snoc {α : Type} {P : α → Prop} {rs : List α} {x : α} (hr : ∀ r ∈ rs, P r) (h : P x) : ∀ r ∈ rs ++ [x], P r := fun r hm => by
  rcases List.mem_append.1 hm with m | m
  · exact hr r m
  · rw [List.mem_singleton.1 m]; exact h
theorem len_snoc {α : Type} {rs : List α} {x : α} {n : Nat} (h : rs.length ≤ n) : (rs ++ [x]).length ≤ n + 1 := by
  rw [List.length_append]
  exact Nat.add_le_add h (Nat.le_refl 1)
theorem ix_str {z : Str} {i : Int} {c : Nat} {H : MH} (h0 : 0 ≤ i) (hz : z.length ≤ sizeLine) (h : z.cps.toList[i.toNat]? = some c) : ixD (.str z) (.int i) H = some (.str ⟨#[c]⟩) := by
  have h1 : i.toNat < z.cps.toList.length := by
    rcases Nat.lt_or_ge i.toNat z.cps.toList.length with q | q
    · exact q
    · rw [List.getElem?_eq_none q] at h; cases h
  show (if z.length ≤ sizeLine then (atI z.cps.toList i).map fun c => D.str ⟨#[c]⟩ else none) = _
  rw [if_pos hz]
  unfold atI ixN
  rw [if_pos h0, if_pos (by omega)]
  show (z.cps.toList[i.toNat]?).map _ = _
  rw [h]
  rfl
theorem ix_tup {xs : List D} {i : Int} {x : D} {H : MH} (h0 : 0 ≤ i) (h : xs[i.toNat]? = some x) : ixD (.tup xs) (.int i) H = some x := by
  have h1 : i.toNat < xs.length := by
    rcases Nat.lt_or_ge i.toNat xs.length with q | q
    · exact q
    · rw [List.getElem?_eq_none q] at h; cases h
  show atI xs i = _
  unfold atI ixN
  rw [if_pos h0, if_pos (by omega)]
  exact h
theorem ix_rol {xs : List D} {i : Int} {x : D} {H : MH} (h0 : 0 ≤ i) (h : xs[i.toNat]? = some x) : ixD (.rol xs) (.int i) H = some x := by
  have h1 : i.toNat < xs.length := by
    rcases Nat.lt_or_ge i.toNat xs.length with q | q
    · exact q
    · rw [List.getElem?_eq_none q] at h; cases h
  show atI xs i = _
  unfold atI ixN
  rw [if_pos h0, if_pos (by omega)]
  exact h
theorem ix_ref {H : MH} {p : Addr} {xs : List D} {i : Int} {d : D} (h : H p = some (.lst xs)) (e : atI xs i = some d) : ixD (.ref p) (.int i) H = some d := by
  show (match seqAt H (.ref p) with | some xs => atI xs i | none => (dkAt H (.ref p)).bind fun kvs => valD kvs (.inl i)) = _
  have : seqAt H (.ref p) = some xs := by
    show (match H p with | some (.lst xs) => some xs | _ => none) = _
    rw [h]
  rw [this]
  exact e
/-- a place forgotten -/
def less1 (H : MH) (q : Addr) : MH := fun b => if b = q then none else H b
theorem less1_less {H : MH} {q : Addr} : Less (less1 H q) H := fun b => by
  unfold less1
  split
  · exact .inr rfl
  · exact .inl rfl
theorem less1_ne {H : MH} {q b : Addr} (h : b ≠ q) : less1 H q b = H b := if_neg h
theorem less1_same {H : MH} {q : Addr} : less1 H q q = none := if_pos rfl
theorem ne_at {H : MH} {p q : Addr} {o : MO} (h : H p = some o) (g : H q = none) : p ≠ q := fun e => by rw [e, g] at h; cases h
theorem br_pos {p : Prop} [Decidable p] {A B : Prop} (h : p) (a : A) : br (decide p) A B := by rw [decide_eq_true h]; exact a
theorem br_neg {p : Prop} [Decidable p] {A B : Prop} (h : ¬ p) (b : B) : br (decide p) A B := by rw [decide_eq_false h]; exact b
theorem br_npos {p : Prop} [Decidable p] {A B : Prop} (h : p) (b : B) : br (!decide p) A B := by rw [decide_eq_true h]; exact b
theorem br_nneg {p : Prop} [Decidable p] {A B : Prop} (h : ¬ p) (a : A) : br (!decide p) A B := by rw [decide_eq_false h]; exact a
theorem br_ndec {p : Prop} [Decidable p] {A B : Prop} (h1 : ¬ p → A) (h2 : p → B) : br (!decide p) A B := by
  by_cases h : p
  · exact br_npos h (h2 h)
  · exact br_nneg h (h1 h)

/-! the harness of the newer laws -/
/-- p holds a pool of numbers -/
def Pl (H : MH) (p : Addr) : Prop := ∃ rs : List Int, H p = some (.lst (rs.map D.int))
/-- all but p stands as before -/
def Off (p : Addr) (H H' : MH) : Prop := ∀ b, b ≠ p → H' b = H b
theorem Off.refl {p : Addr} {H : MH} : Off p H H := fun _ _ => rfl
theorem Off.trans {p : Addr} {H H1 H2 : MH} (a : Off p H H1) (b : Off p H1 H2) : Off p H H2 := fun x hx => (b x hx).trans (a x hx)
theorem Off.at_ {p b : Addr} {H H' : MH} (h : Off p H H') (hb : b ≠ p) : H' b = H b := h b hb
theorem Pl.upd {p a : Addr} {H : MH} {o : MO} (h : Pl H p) (hne : p ≠ a) : Pl (updM H a o) p := by
  obtain ⟨rs, h⟩ := h
  exact ⟨rs, by rw [updM_ne hne]; exact h⟩
def c__law_draws : Ctr := fun ds H Q _ => ∃ (ns : List Int) (at' count : Int), ds = [.rol (ns.map D.int), .int at', .int count] ∧ 0 ≤ at' ∧ at' ≤ 1000 ∧ 0 ≤ count ∧ count ≤ 1000 ∧
  ∀ rs : List Int, (∀ r ∈ rs, 0 ≤ r ∧ r < 9973) → rs.length = count.toNat → Q (.rol (rs.map D.int)) H
abbrev c_law : Ctr := lawC
def c__law_take : Ctr := fun ds H Q _ => ∃ (p : Addr) (many : Int), ds = [.ref p, .int many] ∧ Pl H p ∧ 0 < many ∧
  ∀ (r : Int) (H' : MH), 0 ≤ r → r < many → Pl H' p → Off p H H' → Q (.int r) H'
def c__law_pick : Ctr := fun ds H Q _ => ∃ (p : Addr) (xs : List D), ds = [.ref p, .tup xs] ∧ Pl H p ∧ 0 < xs.length ∧
  ∀ (x : D) (H' : MH), x ∈ xs → Pl H' p → Off p H H' → Q x H'
def c__law_pool : Ctr := fun ds H Q _ => ∃ (ns : List Int) (cells count : Int), ds = [.rol (ns.map D.int), .int cells, .int count] ∧ 0 ≤ cells ∧ cells ≤ 100 ∧ 0 ≤ count ∧ count ≤ 1000 ∧
  ∀ (p : Addr) (H' : MH), H p = none → Pl H' p → Off p H H' → Q (.ref p) H'
def isI (H : MH) (d : D) : Option Bool := (isTy d "int" H).bind fun x => (isTy d "bool" H).map fun y => x && !y
def c__law_whole : Ctr := fun ds H Q _ => ∃ (d : D) (b : Bool), ds = [d] ∧ isI H d = some b ∧ Q (.bl b) H
theorem isI_of {H : MH} {d : D} {b : Bool} (h : isI H d = some b) : ∃ x y, isTy d "int" H = some x ∧ isTy d "bool" H = some y ∧ b = (x && !y) := by
  unfold isI at h
  simp only [Option.bind_eq_some_iff, Option.map_eq_some_iff] at h
  obtain ⟨x, hx, y, hy, rfl⟩ := h
  exact ⟨x, y, hx, hy, rfl⟩
def c__law_value : Ctr := fun ds H Q _ => ∃ p : Addr, ds = [.ref p] ∧ Pl H p ∧ ∀ (v : Int) (H' : MH), 0 ≤ v → v ≤ 255 → Pl H' p → Off p H H' → Q (.int v) H'
/-- a pixel's parts -/
def Px (r g b a : Int) : Prop := 0 ≤ r ∧ r ≤ a ∧ 0 ≤ g ∧ g ≤ a ∧ 0 ≤ b ∧ b ≤ a ∧ a ≤ 255
def c__law_pixel : Ctr := fun ds H Q _ => ∃ p : Addr, ds = [.ref p] ∧ Pl H p ∧ ∀ (r g b a : Int) (H' : MH), Px r g b a → Pl H' p → Off p H H' → Q (.tup [.int r, .int g, .int b, .int a]) H'
mutual
/-- a value that _law_same can compare -/
def okD : Nat → D → Bool
  | 0, _ => false
  | n + 1, .tup xs => okDs n xs
  | _ + 1, .int _ => true
  | _ + 1, .bl _ => true
  | _ + 1, .non => true
  | _ + 1, _ => false
def okDs : Nat → List D → Bool
  | _, [] => true
  | n, x :: xs => okD n x && okDs n xs
end
theorem okDs_at {n i : Nat} : ∀ {xs : List D} {x : D}, okDs n xs = true → xs[i]? = some x → okD n x = true := by
  induction i with
  | zero =>
    intro xs x h e
    cases xs with
    | nil => cases e
    | cons y ys =>
      unfold okDs at h
      rw [Bool.and_eq_true] at h
      cases e
      exact h.1
  | succ i ih =>
    intro xs x h e
    cases xs with
    | nil => cases e
    | cons y ys =>
      unfold okDs at h
      rw [Bool.and_eq_true] at h
      exact ih h.2 e
def c__law_same (n : Nat) : Ctr := fun ds H Q _ => ∃ x : D, ds = [x, x] ∧ okD n x = true ∧ Q (.bl true) H
theorem c__law_same_0 : ∀ ds H Q E, ¬ c__law_same 0 ds H Q E := by
  rintro ds H Q E ⟨x, rfl, h, q⟩
  unfold okD at h
  cases h

theorem q_dec {Q : D → MH → Prop} {H : MH} {P R : Prop} [Decidable P] [Decidable R] (q : Q (.bl (decide P)) H) (h : P ↔ R) : Q (.bl (decide R)) H := by
  have e : decide P = decide R := by simp only [h]
  rwa [e] at q
theorem q_f {Q : D → MH → Prop} {H : MH} {P : Prop} [Decidable P] (q : Q (.bl (decide P)) H) (h : ¬ P) : Q (.bl false) H := by
  rwa [decide_eq_false h] at q
theorem q_t {Q : D → MH → Prop} {H : MH} {P : Prop} [Decidable P] (q : Q (.bl (decide P)) H) (h : P) : Q (.bl true) H := by
  rwa [decide_eq_true h] at q
theorem q_i {Q : D → MH → Prop} {H : MH} {i j : Int} (q : Q (.int i) H) (h : i = j) : Q (.int j) H := h ▸ q
theorem q_b {Q : D → MH → Prop} {H : MH} {i j : Bool} (q : Q (.bl i) H) (h : i = j) : Q (.bl j) H := h ▸ q
theorem q_t2 {Q : D → MH → Prop} {H : MH} {P : Prop} [Decidable P] (q : Q (.bl true) H) (h : P) : Q (.bl (decide P)) H := by
  rwa [decide_eq_true h]
theorem ix_ro {ms : List Int} {i : Int} {H : MH} (h0 : 0 ≤ i) (h1 : i < ms.length) : ixD (.rol (ms.map D.int)) (.int i) H = some (.int (ms.getD i.toNat 0)) := by
  have h2 : i.toNat < ms.length := by omega
  show (seqAt H (.rol (ms.map D.int))).bind (fun xs => atI xs i) = _
  show atI (ms.map D.int) i = _
  have h3 : (ms.map D.int)[i.toNat]? = some (.int (ms.getD i.toNat 0)) := by
    rw [List.getElem?_map, List.getElem?_eq_getElem h2, List.getD_eq_getElem?_getD, List.getElem?_eq_getElem h2]
    rfl
  unfold atI ixN
  rw [List.length_map, if_pos h0, if_pos h1]
  exact h3
theorem getD_mem {ms : List Int} {k : Nat} (h : k < ms.length) : ms.getD k 0 ∈ ms := by
  rw [List.getD_eq_getElem?_getD, List.getElem?_eq_getElem h]
  exact List.getElem_mem h
local macro_rules | `(tactic| walk_at "plain") => `(tactic| simp only [Bool.not_eq_true', Bool.not_eq_false', Bool.not_eq_eq_eq_not, Bool.not_true, Bool.not_false, decide_eq_true_eq, decide_eq_false_iff_not, List.any_cons, List.any_nil, eqF, eqD, Option.getD, Bool.or_false, Bool.or_eq_true, Bool.or_eq_false_iff, beq_iff_eq, beq_eq_false_iff_ne, ne_eq] at *)
local macro_rules | `(tactic| walk_at "fin") => `(tactic| first | (refine q_dec (by assumption) ?_; omega) | (refine q_f (by assumption) ?_; omega) | (refine q_t (by assumption) ?_; omega))
local macro_rules | `(tactic| walk_at "side") => `(tactic| first | assumption | omega | (exact rfl) | (exact trivial) | (exact ⟨_, _, rfl, by assumption⟩) | (exact ⟨_, _, rfl, updM_same⟩) | (rw [List.length_map, sizeLine_eq]; omega) | (simp only [List.length_map]; omega) | (exact Nat.le_of_ble_eq_true rfl) | (exact mulOk_l (by omega)) | (exact mulOk_r (by omega)))
local macro_rules | `(tactic| walk_at "step") => `(tactic| (conv => whnf); (first
  | (refine ⟨_, rfl, ?_⟩)
  | (refine ⟨_, _, by assumption, rfl, ?_⟩)
  | (refine ⟨_, by assumption, ?_⟩)
  | (refine ⟨_, updM_same, ?_⟩)
  | (refine ⟨_, ix_ref updM_same rfl, ?_⟩)
  | (refine ⟨_, seqAt_ref (by assumption), ?_⟩)
  | (refine ⟨_, ix_ref (by assumption) rfl, ?_⟩)
  | (refine ⟨_, lstAt_ref (by assumption), ?_⟩)
  | (refine ⟨_, _, rfl, ?_⟩)
  | (refine ⟨_, _, _, rfl, ?_⟩)
  | (refine ⟨_, _, rfl, rfl, ?_⟩)
  | (refine ⟨_, _, _, rfl, rfl, ?_⟩)
  | (refine ⟨_, _, rfl, by assumption, ?_⟩)
  | (refine And.intro (by walk_at "side") ?_)
  | (refine And.intro ?_ ?_)
  | (refine br_pos (by omega) ?_)
  | (refine br_neg (by omega) ?_)
  | (refine br_dec (fun h => ?_) (fun h => ?_))
  | (refine br_npos (by omega) ?_)
  | (refine br_nneg (by omega) ?_)
  | (refine br_ndec (fun h => ?_) (fun h => ?_))
  | (refine br_b (fun h => ?_) (fun h => ?_))
  | (refine Rt.now ?_)))
local macro_rules | `(tactic| walk_at "go") => `(tactic| repeat' (first | assumption | walk_at "step"))
local macro_rules | `(tactic| walk_at "stepN") => `(tactic| (conv => whnf); (first
  | (refine ⟨_, rfl, ?_⟩)
  | (refine ⟨_, _, by assumption, rfl, ?_⟩)
  | (refine ⟨_, by assumption, ?_⟩)
  | (refine ⟨_, updM_same, ?_⟩)
  | (refine ⟨_, ix_ref updM_same rfl, ?_⟩)
  | (refine ⟨_, seqAt_ref (by assumption), ?_⟩)
  | (refine ⟨_, ix_ref (by assumption) rfl, ?_⟩)
  | (refine ⟨_, lstAt_ref (by assumption), ?_⟩)
  | (refine ⟨_, _, rfl, ?_⟩)
  | (refine ⟨_, _, _, rfl, ?_⟩)
  | (refine ⟨_, _, rfl, rfl, ?_⟩)
  | (refine ⟨_, _, _, rfl, rfl, ?_⟩)
  | (refine ⟨_, _, rfl, by assumption, ?_⟩)
  | (refine And.intro (by walk_at "side") ?_)
  | (refine And.intro ?_ ?_)
  | (refine br_pos (by omega) ?_)
  | (refine br_neg (by omega) ?_)
  | (refine br_dec (fun h => ?_) (fun h => ?_))
  | (refine br_npos (by omega) ?_)
  | (refine br_nneg (by omega) ?_)
  | (refine br_ndec (fun h => ?_) (fun h => ?_))
  | (refine br_b (fun h => ?_) (fun h => ?_))))
local macro_rules | `(tactic| walk_at "goN") => `(tactic| repeat' (first | assumption | walk_at "stepN"))
local macro_rules | `(tactic| walk_at "gT") => `(tactic| repeat' (first | assumption | walk_at "stepN" | (refine ⟨_, _, _, _, rfl, ?_⟩) | (refine Rt.now ?_) | (intro _)))
local macro_rules | `(tactic| walk_at "off") => `(tactic| repeat' (first | assumption | (exact Off.refl) | (refine Off.trans ?_ (by assumption))))
local macro_rules | `(tactic| walk_at "ne") => `(tactic| first | assumption | (apply Ne.symm; assumption))
local macro_rules | `(tactic| walk_at "fnd") => `(tactic| first | assumption | exact updM_same | (refine Eq.trans (updM_ne (by walk_at "ne")) ?_; walk_at "fnd") | (refine Eq.trans (Off.at_ (by assumption) (by walk_at "ne")) ?_; walk_at "fnd"))
local macro_rules | `(tactic| walk_at "gF1") => `(tactic| (first | assumption | walk_at "stepN" | (refine ⟨_, by walk_at "fnd", ?_⟩) | (refine ⟨_, seqAt_ref (by walk_at "fnd"), ?_⟩) | (refine ⟨_, _, by walk_at "fnd", ?_⟩) | (refine ⟨_, _, _, _, rfl, ?_⟩) | (exact ⟨_, _, rfl, by walk_at "fnd"⟩) | (exact Pl.upd (by assumption) (by walk_at "ne")) | (refine Rt.now ?_) | (intro _)))
local macro_rules | `(tactic| walk_at "gF") => `(tactic| repeat' walk_at "gF1")

theorem k__law_draws (G : Gm) : ∀ ds H Q E, c__law_draws ds H Q E → wpF G N__law_draws b__law_draws ds H Q E := by
  rintro ds H Q E ⟨ns, at', count, rfl, ha0, ha1, hc0, hc1, q⟩
  have tail : ∀ (p : Addr) (cell rest seed : Int) (kv : Option D) (rs0 : List Int) (H' : MH), 0 ≤ cell → (∀ r ∈ rs0, 0 ≤ r ∧ r < 9973) → rs0.length ≤ count.toNat → H p = none → H' p = some (.lst (rs0.map D.int)) → (∀ b, b ≠ p → H' b = H b) →
      wpSs G (fun _ => Ex E) (Ss.tl (Ss.tl (Ss.tl (Ss.tl (Ss.tl b__law_draws))))) { nx := fun _ H1 => Rt Q .non H1, rt := Rt Q } [some (.rol (ns.map D.int)), some (.int at'), some (.int count), some (.int cell), some (.ref p), some (.int rest), kv, none] H' := by
    intro p cell rest seed kv rs0 H' h0 hr hl hp hp' hoff
    walk_at "goN"
    refine loopL_ix (fun i σ H2 => ∃ (kv : Option D) (sd : Int) (rs : List Int), σ = [some (.rol (ns.map .int)), some (.int at'), some (.int count), some (.int cell), some (.ref p), some (.int rest), kv, some (.int sd)] ∧ 0 ≤ sd ∧ sd ≤ 2000000 ∧ (∀ r ∈ rs, 0 ≤ r ∧ r < 9973) ∧ rs.length = rs0.length + i ∧ H2 p = some (.lst (rs.map D.int)) ∧ ∀ b, b ≠ p → H2 b = H b) 0 (fun _ _ _ _ => trivial) ?_ ⟨_, _, _, rfl, by omega, by omega, hr, rfl, hp', hoff⟩ ?_
    · rintro i x hx σ H2 Q' ⟨kv, sd, rs, rfl, s0, s1, hr, hl2, hp2, hoff⟩ hq
      obtain ⟨hi2, rfl⟩ := rng_at hx
      walk_at "goN"
      exact hq _ _ ⟨_, _, _, rfl, by omega, by omega, mem_snoc hr (by omega), by rw [List.length_append, hl2]; simp; omega, snocM, fun b hb => (updM_ne hb).trans (hoff b hb)⟩
    · rintro σ H2 ⟨kv, sd, rs, rfl, s0, s1, hr, hl2, hp2, hoff⟩
      rw [List.length_map, List.length_range, List.length_map] at hl2
      walk_at "goN"
      refine Rt.rol hp2 (fun b => ?_) hp (q rs hr (by omega))
      by_cases e : b = p
      · rw [e]; exact .inr hp
      · exact .inl (hoff b e).symm
  have tail2 : ∀ (p : Addr) (cell : Int) (H' : MH), 0 ≤ cell → H p = none → H' p = some (.lst (([] : List Int).map D.int)) → (∀ b, b ≠ p → H' b = H b) →
      wpSs G (fun _ => Ex E) (Ss.tl (Ss.tl (Ss.tl b__law_draws))) { nx := fun _ H1 => Rt Q .non H1, rt := Rt Q } [some (.rol (ns.map .int)), some (.int at'), some (.int count), some (.int cell), some (.ref p), none, none, none] H' := by
    intro p cell H' h0 hp hp' hoff
    have cp : CPow 10 18 := ⟨by decide, by decide, by decide⟩
    repeat' (first | (refine tail p cell cell 0 none [] H' h0 (fun _ h => by cases h) (Nat.zero_le _) hp hp' hoff) | assumption | walk_at "stepN")
    · refine loopL_br (fun i σ H2 => ∃ (kv : Option D) (rest : Int) (rs : List Int), σ = [some (.rol (ns.map .int)), some (.int at'), some (.int count), some (.int cell), some (.ref p), some (.int rest), kv, none] ∧ 0 ≤ rest ∧ (∀ r ∈ rs, 0 ≤ r ∧ r < 9973) ∧ rs.length ≤ i ∧ H2 p = some (.lst (rs.map D.int)) ∧ ∀ b, b ≠ p → H2 b = H b) (fun _ _ _ _ => trivial) ⟨_, _, [], rfl, by omega, (fun _ h => by cases h), Nat.le_refl _, hp', hoff⟩ ?_ ?_
      · rintro i σ H2 hi ⟨kv, rest, rs, rfl, s0, hr, hl, hp2, hoff⟩
        rw [List.length_map, List.length_range] at hi
        exact tail p cell rest 0 kv rs H2 h0 hr (by omega) hp hp2 hoff
      · rintro fin i x hi hx σ H2 Q' ⟨kv, rest, rs, rfl, s0, hr, hl, hp2, hoff⟩ hq
        obtain ⟨hi2, rfl⟩ := rng_at hx
        repeat' (first | (refine fin i _ _ (Nat.le_of_lt hi) ⟨_, _, rs, rfl, s0, hr, hl, hp2, hoff⟩) | assumption | walk_at "stepN")
        exact hq _ _ ⟨_, _, _, rfl, by omega, mem_snoc hr (by omega), len_snoc hl, snocM, fun b hb => (updM_ne hb).trans (hoff b hb)⟩
  walk_at "goN"
  · refine ⟨_, ix_ro ha0 (by rename_i h; rw [List.length_map] at h; exact h), ?_⟩
    walk_at "goN"
    intro p hp
    exact tail2 p _ _ (by split <;> omega) hp updM_same (fun b hb => updM_ne hb)
  · intro p hp
    exact tail2 p 0 _ (by omega) hp updM_same (fun b hb => updM_ne hb)
theorem k__law_pool (G : Gm) (g1 : G.fn "_law_draws" = some (3, c__law_draws)) : ∀ ds H Q E, c__law_pool ds H Q E → wpF G N__law_pool b__law_pool ds H Q E := by
  rintro ds H Q E ⟨ns, cells, count, rfl, ha0, ha1, hc0, hc1, q⟩
  walk_at "goN"
  refine loopL_br (fun i σ H2 => ∃ (kv : Option D) (rs : List Int), σ = [some (.rol (ns.map .int)), some (.int cells), some (.int count), some (.rol (rs.map .int)), kv] ∧ H2 = H ∧ rs.length ≤ 2000 * i) (fun _ _ _ _ => trivial) ⟨_, [], rfl, rfl, Nat.zero_le _⟩ ?_ ?_
  · rintro i σ H2 hi ⟨kv, rs, rfl, rfl, hl⟩
    rw [List.length_map, List.length_range] at hi
    walk_at "goN"
    · rw [List.length_reverse, List.length_map, sizeLine_eq]; omega
    · intro p hp
      refine Rt.now ?_
      exact q p _ hp ⟨rs.reverse, by rw [updM_same, List.map_reverse]⟩ fun x hx => updM_ne hx
  · rintro fin i x hi hx σ H2 Q' ⟨kv, rs, rfl, rfl, hl⟩ hq
    obtain ⟨hi2, rfl⟩ := rng_at hx
    walk_at "goN"
    intro rs1 h1 h2
    refine ⟨_, _, rfl, rfl, ?_⟩
    rw [← List.map_append]
    refine ⟨by rw [List.length_map, List.length_append, sizeLine_eq]; omega, ?_⟩
    exact hq _ _ ⟨_, rs ++ rs1, rfl, rfl, by rw [List.length_append]; omega⟩
theorem k__law_take (G : Gm) : ∀ ds H Q E, c__law_take ds H Q E → wpF G N__law_take b__law_take ds H Q E := by
  rintro ds H Q E ⟨p, many, rfl, ⟨rs, hp⟩, hm, q⟩
  walk_at "go"
  · exact q 0 H (Int.le_refl 0) hm ⟨rs, hp⟩ fun _ _ => rfl
  · rename_i h
    rw [List.length_map] at h
    rcases List.eq_nil_or_concat rs with rfl | ⟨rs0, x, rfl⟩
    · exact absurd rfl h
    refine ⟨rs0.map D.int, .int x, by rw [hp, List.concat_eq_append, List.map_append]; rfl, ?_⟩
    walk_at "go"
    exact q _ _ (Int.emod_nonneg _ (by omega)) (Int.emod_lt_of_pos _ hm) ⟨rs0, updM_same⟩ fun b hb => updM_ne hb
theorem k__law_pick (G : Gm) (g1 : G.fn "_law_take" = some (2, c__law_take)) : ∀ ds H Q E, c__law_pick ds H Q E → wpF G N__law_pick b__law_pick ds H Q E := by
  rintro ds H Q E ⟨p, xs, rfl, hp, hx, q⟩
  walk_at "go"
  intro r H' h0 h1 hp' hoff
  have hr : r.toNat < xs.length := by omega
  refine ⟨_, ix_tup h0 (List.getElem?_eq_getElem hr), ?_⟩
  refine Rt.now ?_
  exact q _ H' (List.getElem_mem hr) hp' hoff
theorem k__law_whole (G : Gm) : ∀ ds H Q E, c__law_whole ds H Q E → wpF G N__law_whole b__law_whole ds H Q E := by
  rintro ds H Q E ⟨d, b, rfl, h, q⟩
  obtain ⟨x, y, h1, h2, rfl⟩ := isI_of h
  walk_at "go"
  · rename_i h; subst h; exact q
  · rename_i h; subst h; exact q
theorem k__law_same (n : Nat) (G : Gm) (g1 : G.fn "_law_same" = some (2, c__law_same n)) (g2 : G.fn "_law_whole" = some (1, c__law_whole)) : ∀ ds H Q E, c__law_same (n + 1) ds H Q E → wpF G N__law_same b__law_same ds H Q E := by
  rintro ds H Q E ⟨x, rfl, ho, q⟩
  cases x
  case tup xs =>
    unfold okD at ho
    walk_at "goN"
    · refine loopL_ix (fun i σ H2 => ∃ kv : Option D, σ = [some (.tup xs), some (.tup xs), kv] ∧ H2 = H) 0 (fun _ _ _ _ => trivial) ?_ ⟨_, rfl, rfl⟩ ?_
      · rintro i x hx σ H2 Q' ⟨kv, rfl, rfl⟩ hq
        obtain ⟨hi, rfl⟩ := rng_at hx
        have hi : i < xs.length := by omega
        have i0 : (0 : Int) ≤ 0 + (i : Int) := by omega
        have e0 : ((0 : Int) + (i : Int)).toNat = i := by omega
        have hx := List.getElem?_eq_getElem hi
        have ho1 := okDs_at ho hx
        walk_at "goN"
        refine ⟨_, ix_tup i0 (by rw [e0]; exact hx), ?_⟩
        walk_at "goN"
        refine ⟨_, ix_tup i0 (by rw [e0]; exact hx), ?_⟩
        walk_at "goN"
        exact hq _ _ ⟨_, rfl, rfl⟩
      · rintro σ H2 ⟨kv, rfl, rfl⟩
        walk_at "go"
        try exact Rt.now q
  all_goals (first | (unfold okD at ho; cases ho; done) | skip)
  all_goals walk_at "gF"
  all_goals exact q_t2 q rfl

/-! coverages: spots, tables -/
/-- a spot, by its row first: (y, x, k) -/
abbrev Sp := Int × Int × Int
def spD (s : Sp) : D := .tup [.int s.2.1, .int s.1, .int s.2.2]
def keyP (x y : Int) : List Key := [.inl x, .inl y]
/-- a table with the spots, in this order -/
def tbD (L : List Sp) : List (List Key × D) := L.map fun s => (keyP s.2.1 s.1, .int s.2.2)
def findS (L : List Sp) (x y : Int) : Option Int := (L.find? fun s => decide (s.2.1 = x) && decide (s.1 = y)).map (·.2.2)
def atL (L : List Sp) (x y : Int) : Int := (findS L x y).getD 0
theorem keyP_eq {x y u v : Int} : keyP x y = keyP u v ↔ x = u ∧ y = v := by
  unfold keyP
  constructor
  · intro h
    injection h with h1 h2
    injection h2 with h2 _
    injection h1 with h1
    injection h2 with h2
    exact ⟨h1, h2⟩
  · rintro ⟨rfl, rfl⟩; rfl
theorem val_tb (L : List Sp) (x y : Int) : valD (tbD L) (keyP x y) = (findS L x y).map D.int := by
  unfold valD tbD findS
  rw [List.find?_map, Option.map_map, Option.map_map]
  have e : ((fun kv : List Key × D => decide (kv.1 = keyP x y)) ∘ fun s : Sp => (keyP s.2.1 s.1, D.int s.2.2)) = fun s : Sp => decide (s.2.1 = x) && decide (s.1 = y) := by
    funext s
    show decide (keyP s.2.1 s.1 = keyP x y) = _
    rw [Bool.eq_iff_iff]
    simp [keyP_eq]
  rw [e]
  rfl
theorem get_tb (L : List Sp) (x y : Int) : (valD (tbD L) (keyP x y)).getD (.int 0) = .int (atL L x y) := by
  rw [val_tb]
  unfold atL
  cases findS L x y <;> rfl
/-- the coverage at p holds these spots -/
def CovAt (H : MH) (p : Addr) (L : List Sp) : Prop := ∃ tp, H p = some (.ins "Coverage" ["spots", "_table"] [.tup (L.map spD), .ref tp]) ∧ dtRd H tp = some (tbD L)
def boxL (L : List Sp) : D := match L with
  | [] => .non
  | s :: r => .tup [.int (leastI s.2.1 (r.map (·.2.1))), .int (leastI s.1 (r.map (·.1))), .int (mostI s.2.1 (r.map (·.2.1)) + 1), .int (mostI s.1 (r.map (·.1)) + 1)]
def c_around_places : Ctr := fun ds H Q _ => ∃ L : List Sp, ds = [.tup (L.map spD)] ∧ L.length ≤ 100000 ∧ Q (boxL L) H
def c_Coverage_box : Ctr := fun ds H Q _ => ∃ (p : Addr) (L : List Sp), ds = [.ref p] ∧ CovAt H p L ∧ L.length ≤ 100000 ∧ Q (boxL L) H
def c_Coverage_at : Ctr := fun ds H Q _ => ∃ (p : Addr) (L : List Sp) (x y : Int), ds = [.ref p, .int x, .int y] ∧ CovAt H p L ∧ Q (.int (atL L x y)) H
def c_Coverage___bool__ : Ctr := fun ds H Q _ => ∃ (p : Addr) (L : List Sp), ds = [.ref p] ∧ CovAt H p L ∧ Q (.bl (!L.isEmpty)) H
theorem ins_ref {H : MH} {p : Addr} {nm : Str} {ns : List Str} {xs : List D} (h : H p = some (.ins nm ns xs)) : insAt H (.ref p) = some (nm, ns, xs) := by
  show (match H p with | some (.ins nm ns xs) => some (nm, ns, xs) | _ => none) = _
  rw [h]
theorem dget_at {H : MH} {tp : Addr} {kvs : List (List Key × D)} {x y : Int} (h : dtRd H tp = some kvs) : dgetT H (.ref tp) [.int x, .int y] = some (valD kvs (keyP x y)) := by
  show ((dtRd H tp).bind fun kvs => (keysD [.int x, .int y]).map fun ks => valD kvs ks) = _
  rw [h]; rfl
theorem dtRd_or {H : MH} {p : Addr} {kvs : List (List Key × D)} (h : dtRd H p = some kvs) : H p = some (.dt kvs) ∨ ∃ o us, H p = some (.ldt o us kvs) := by
  unfold dtRd at h
  cases e : H p with
  | none => rw [e] at h; cases h
  | some o =>
    rw [e] at h
    cases o with
    | dt k => cases h; exact .inl rfl
    | ldt o us k => cases h; exact .inr ⟨o, us, rfl⟩
    | _ => cases h
theorem dtRd_dt {H : MH} {p : Addr} {kvs : List (List Key × D)} (h : H p = some (.dt kvs)) : dtRd H p = some kvs := by unfold dtRd; rw [h]
theorem dtRd_ldt {H : MH} {p : Addr} {o : Obj} {us : List (List Key × V)} {kvs : List (List Key × D)} (h : H p = some (.ldt o us kvs)) : dtRd H p = some kvs := by unfold dtRd; rw [h]
theorem isDct_dt {H : MH} {tp : Addr} {kvs : List (List Key × D)} (h : dtRd H tp = some kvs) : isDct H (.ref tp) = true := by
  show (match H tp with | some (.dk _) => true | some (.dt _) => true | some (.ldk _ _ _) => true | some (.ldt _ _ _) => true | _ => false) = true
  rcases dtRd_or h with e | ⟨o, us, e⟩ <;> rw [e]
/-! making one -/
def posS (S : List Sp) : List Sp := S.filter fun s => decide (0 < s.2.2)
def toL (s : Sp) : List Int := [s.1, s.2.1, s.2.2]
/-- L: the spots of S that are above 0, by rows -/
def Canon (S L : List Sp) : Prop := L.Perm (posS S) ∧ L.Pairwise fun a b => HT.lexLt (toL b) (toL a) = false
def place (s : Sp) : Int × Int := (s.2.1, s.1)
/-- no place twice among the spots above 0 -/
def Once (S : List Sp) : Prop := ((posS S).map place).Nodup
def c_Coverage___init__ : Ctr := fun ds H Q _ => ∃ (p : Addr) (sp : D) (S : List Sp), ds = [.ref p, sp] ∧ H p = some (.ins "Coverage" [] []) ∧ seqAt H sp = some (S.map spD) ∧ S.length ≤ 100000 ∧ Once S ∧
  ∀ (L : List Sp) (H' : MH), Canon S L → CovAt H' p L → (∀ x, H x ≠ none → x ≠ p → H' x = H x) → Q .non H'
theorem lcL_fm {step : D → MH → (Option D → MH → Prop) → Prop} {keep : MH → Prop} {H : MH} (f : D → Option D) (hk : keep H) : ∀ {xs : List D} {Q : List D → MH → Prop}, (∀ x ∈ xs, ∀ Q : Option D → MH → Prop, Q (f x) H → step x H Q) → Q (xs.filterMap f) H → lcL step keep xs H Q
  | [], Q, hs, q => ⟨hk, q⟩
  | x :: r, Q, hs, q => ⟨hk, hs x List.mem_cons_self _ (lcL_fm f hk (fun y hy => hs y (List.mem_cons_of_mem _ hy)) (by
      rw [List.filterMap_cons] at q
      cases e : f x with
      | none => rw [e] at q; exact q
      | some y => rw [e] at q; exact q))⟩
theorem itW_seq {H : MH} {x : D} {xs : List D} {Q : List D → (MH → Prop) → MH → Prop} (h : seqAt H x = some xs) (q : Q xs (keepOf H x) H) : itW H x Q := by
  cases x with
  | ref p =>
    rw [itW_ref]
    have h : (match H p with | some (.lst xs) => some xs | _ => none) = some xs := h
    cases e : H p with
    | none => rw [e] at h; cases h
    | some o =>
      rw [e] at h
      cases o with
      | lst ys => cases h; exact q
      | _ => cases h
  | tup ys => exact ⟨xs, h, q⟩
  | rol ys => exact ⟨xs, h, q⟩
  | _ => cases h
theorem keep_self {H : MH} {x : D} : keepOf H x H := by
  cases x <;> first | exact trivial | rfl
def rowD (s : Sp) : D := .tup ((toL s).map .int)
/-- what the comprehension keeps of a spot -/
def rowF : D → Option D
  | .tup [.int x, .int y, .int k] => if 0 < k then some (.tup [.int y, .int x, .int k]) else none
  | _ => none
theorem row_fm (S : List Sp) : (S.map spD).filterMap rowF = (posS S).map rowD := by
  induction S with
  | nil => rfl
  | cons s r ih =>
    have e : rowF (spD s) = if 0 < s.2.2 then some (rowD s) else none := rfl
    rw [List.map_cons, List.filterMap_cons, e, ih]
    unfold posS
    rw [List.filter_cons]
    by_cases h : 0 < s.2.2
    · rw [if_pos h, if_pos (by simpa using h)]; rfl
    · rw [if_neg h, if_neg (by simpa using h)]
theorem tups_rows (F : List Sp) : tupsI (F.map rowD) = some (F.map toL) := by
  induction F with
  | nil => rfl
  | cons s r ih =>
    show ((intsD ((toL s).map D.int)).bind fun x => (tupsI (r.map rowD)).map (x :: ·)) = _
    rw [ih]; rfl
def ofL : List Int → Sp
  | [y, x, k] => (y, x, k)
  | _ => (0, 0, 0)
theorem of_to (s : Sp) : ofL (toL s) = s := rfl
theorem rows_back {F : List Sp} {ms : List (List Int)} (h : ms.Perm (F.map toL)) : ms = (ms.map ofL).map toL ∧ (ms.map ofL).Perm F := by
  constructor
  · have : ∀ t ∈ ms, toL (ofL t) = t := fun t ht => by
      obtain ⟨s, _, rfl⟩ := List.mem_map.1 (h.mem_iff.1 ht)
      rfl
    rw [List.map_map]
    conv => lhs; rw [← List.map_id ms]
    exact List.map_congr_left fun t ht => (this t ht).symm
  · have := h.map ofL
    rw [List.map_map] at this
    have e : F.map (ofL ∘ toL) = F := by
      conv => rhs; rw [← List.map_id F]
      exact List.map_congr_left fun s _ => rfl
    rw [e] at this
    exact this
theorem put_new {L : List Sp} {s : Sp} (h : place s ∉ L.map place) : putD (tbD L) (keyP s.2.1 s.1) (.int s.2.2) = tbD (L ++ [s]) := by
  unfold putD
  have e : ((tbD L).any fun kv => decide (kv.1 = keyP s.2.1 s.1)) = false := by
    rw [List.any_eq_false]
    intro kv hkv
    unfold tbD at hkv
    obtain ⟨t, ht, rfl⟩ := List.mem_map.1 hkv
    simp only [decide_eq_true_eq]
    intro z
    obtain ⟨a, b⟩ := keyP_eq.1 z
    exact h (List.mem_map.2 ⟨t, ht, by unfold place; rw [a, b]⟩)
  rw [e, if_neg (by decide)]
  unfold tbD
  rw [List.map_append]; rfl
theorem whl_of {cond : En → MH → (Bool → MH → Prop) → Prop} {body : En → MH → (En → MH → Prop) → Prop} {Q : En → MH → Prop} (I : Nat → En → MH → Prop)
    (h : ∀ m σ H, I m σ H → ∀ K : En → MH → Prop, (∀ m' σ' H', m' < m → I m' σ' H' → K σ' H') → cond σ H fun b H1 => br b (body σ H1 K) (Q σ H1)) : ∀ (n m : Nat) (σ : En) (H : MH), m ≤ n → I m σ H → whileN cond body (n + 1) σ H Q
  | 0, m, σ, H, hm, h0 => h m σ H h0 _ fun m' σ' H' l _ => absurd l (by omega)
  | n + 1, m, σ, H, hm, h0 => h m σ H h0 _ fun m' σ' H' l h1 => whl_of I h n m' σ' H' (by omega) h1
@[irreducible] def Hold (P : Prop) : Prop := P
theorem hold_lc {step : D → MH → (Option D → MH → Prop) → Prop} {keep : MH → Prop} {xs : List D} {H : MH} {Q : List D → MH → Prop} (h : Hold (lcL step keep xs H Q)) : lcL step keep xs H Q := by unfold Hold at h; exact h
theorem hold_lp {turn : D → En → MH → (En → MH → Prop) → Prop} {keep : MH → Prop} {xs : List D} {σ : En} {H : MH} {Q : En → MH → Prop} (h : Hold (loopL turn keep xs σ H Q)) : loopL turn keep xs σ H Q := by unfold Hold at h; exact h
theorem hold_of {P : Prop} (h : P) : Hold P := by unfold Hold; exact h
def Grow (H H' : MH) : Prop := ∀ x, H x ≠ none → H' x = H x
theorem Grow.refl {H : MH} : Grow H H := fun _ _ => rfl
theorem Grow.trans {H H1 H2 : MH} (a : Grow H H1) (b : Grow H1 H2) : Grow H H2 := fun x hx => (b x (by rw [a x hx]; exact hx)).trans (a x hx)
theorem Grow.new {H H' : MH} {p : Addr} (hp : H p = none) (h : ∀ x, x ≠ p → H' x = H x) : Grow H H' := fun x hx => h x fun e => hx (e ▸ hp)
theorem Grow.new2 {H H' : MH} {p : Addr} {o : MO} (hp : H p = none) (h : ∀ x, x ≠ p → H' x = updM H p o x) : Grow H H' := Grow.new hp fun x hx => (h x hx).trans (updM_ne hx)
theorem Grow.upd {H : MH} {p : Addr} {o : MO} (hp : H p = none) : Grow H (updM H p o) := Grow.new hp fun x hx => updM_ne hx
theorem Grow.less {H H' : MH} (g : Grow H H') : Less H H' := fun a => by
  cases e : H a with
  | none => exact .inr rfl
  | some o => exact .inl (by rw [g a (by rw [e]; simp), e])
/-! statement by statement -/
theorem wp_hold {G : Gm} {X : En → XDK} {s : S} {ss : Ss} {D : Ends'} {σ : En} {H : MH} (h : wpS G X s { D with nx := fun σ1 H1 => Hold (wpSs G X ss D σ1 H1) } σ H) : wpSs G X (.cons s ss) D σ H := by
  have e : (fun σ1 H1 => Hold (wpSs G X ss D σ1 H1)) = fun σ1 H1 => wpSs G X ss D σ1 H1 := by
    funext σ1 H1
    unfold Hold; rfl
  rw [e] at h
  exact h
theorem hold_ss {G : Gm} {X : En → XDK} {ss : Ss} {D : Ends'} {σ σ' : En} {H : MH} (e : σ = σ') (h : wpSs G X ss D σ' H) : Hold (wpSs G X ss D σ H) := hold_of (e ▸ h)
theorem wpF_ss {G : Gm} {N : List Str} {body : Ss} {ds : List D} {H : MH} {Q : DK} {E : XDK} {σ : En} (e : startD N ds = σ) (h : wpSs G (fun _ => Ex E) body { nx := fun _ H1 => Rt Q .non H1, rt := Rt Q } σ H) : wpF G N body ds H Q E := by subst e; exact h
theorem br_tk {b : Bool} {A B : Prop} (h : b = true) (a : A) : br b A B := by subst h; exact a
theorem br_fk {b : Bool} {A B : Prop} (h : b = false) (a : B) : br b A B := by subst h; exact a
theorem lb_nm {G : Gm} {X X' : En → XDK} {i : Nat} {d : D} {σ σ' : En} {H : MH} {s : S} {ss : Ss} {D : Ends'} (e : σ.set i (some d) = σ') (h : wpS G X' s { D with nx := fun σ1 H1 => Hold (wpSs G X' ss D σ1 H1) } σ' H) : wpT G X (.nm i) d σ H (fun σ1 H1 => wpSs G X' (.cons s ss) D σ1 H1) := by subst e; exact wp_hold h
local macro_rules | `(tactic| walk_at "env") => `(tactic| ((try simp only [List.set_cons_zero, List.set_cons_succ, setE]); rfl))
local macro_rules | `(tactic| walk_at "nxt") => `(tactic| ((conv => whnf); refine hold_ss (by walk_at "env") ?_; refine wp_hold ?_))
local macro_rules | `(tactic| walk_at "ns") => `(tactic| (all_goals walk_at "nxt"; all_goals repeat' walk_at "stepN"))
local macro_rules | `(tactic| walk_at "hs") => `(tactic| ((conv => whnf); refine hold_ss (by walk_at "env") ?_))
local macro_rules | `(tactic| walk_at "lb") => `(tactic| refine lb_nm (by walk_at "env") ?_)
theorem k__law_value (G : Gm) (g1 : G.fn "_law_take" = some (2, c__law_take)) (g2 : G.fn "_law_pick" = some (2, c__law_pick)) : ∀ ds H Q E, c__law_value ds H Q E → wpF G N__law_value b__law_value ds H Q E := by
  rintro ds H Q E ⟨p, rfl, hp, q⟩
  walk_at "gF"
  · rename_i x H2 hx hp2 ho2
    simp only [List.mem_cons, List.not_mem_nil, or_false] at hx
    rcases hx with rfl | rfl | rfl | rfl <;> exact q _ _ (by decide) (by decide) hp2 (by walk_at "off")
  · exact q _ _ (by omega) (by omega) (by assumption) (by walk_at "off")
theorem k_Coverage_at (G : Gm) (go : G.ob = obf) : ∀ ds H Q E, c_Coverage_at ds H Q E → wpF G N_Coverage_at b_Coverage_at ds H Q E := by
  rintro ds H Q E ⟨p, L, x, y, rfl, ⟨tp, h1, h2⟩, q⟩
  repeat' (first | (refine ⟨_, _, _, _, _, ins_ref h1, ob_of go rfl, rfl, rfl, ?_⟩) | (refine ⟨isDct_dt h2, ?_⟩) | (refine ⟨_, dget_at h2, ?_⟩) | walk_at "stepN")
  rw [get_tb]
  exact Rt.now q
theorem k_Coverage___bool__ (G : Gm) (go : G.ob = obf) : ∀ ds H Q E, c_Coverage___bool__ ds H Q E → wpF G N_Coverage___bool__ b_Coverage___bool__ ds H Q E := by
  rintro ds H Q E ⟨p, L, rfl, ⟨tp, h1, h2⟩, q⟩
  have e : (L.map spD).isEmpty = L.isEmpty := by cases L <;> rfl
  repeat' (first | (refine ⟨_, _, _, _, _, ins_ref h1, ob_of go rfl, rfl, rfl, ?_⟩) | walk_at "stepN")
  conv => whnf
  rw [← e] at q
  exact Rt.now q
theorem k_Coverage_box (G : Gm) (g1 : G.fn "around_places" = some (1, c_around_places)) (go : G.ob = obf) : ∀ ds H Q E, c_Coverage_box ds H Q E → wpF G N_Coverage_box b_Coverage_box ds H Q E := by
  rintro ds H Q E ⟨p, L, rfl, ⟨tp, h1, h2⟩, hl, q⟩
  repeat' (first | (refine ⟨_, _, _, _, _, ins_ref h1, ob_of go rfl, rfl, rfl, ?_⟩) | (refine ⟨_, _, g1, rfl, L, rfl, hl, ?_⟩) | walk_at "stepN")
  all_goals exact Rt.now q
theorem int_sp (f : Sp → Int) (L : List Sp) : intsD (L.map fun s => D.int (f s)) = some (L.map f) := by
  induction L with
  | nil => rfl
  | cons s r ih =>
    show (intsD (r.map fun s => D.int (f s))).map (f s :: ·) = _
    rw [ih]; rfl
theorem bindI {H : MH} (f : Sp → Int) (L : List Sp) : (seqAt H (.rol (L.map fun s => D.int (f s)))).bind intsD = some (L.map f) := int_sp f L
theorem len0 {L : List Sp} {s : Sp} {r : List Sp} (e : L = s :: r) : eqD (rdL (fun _ => none) (.int ((L.map spD).length : Nat))) (.int 0) = some false := by subst e; rfl
theorem k_around_places (G : Gm) : ∀ ds H Q E, c_around_places ds H Q E → wpF G N_around_places b_around_places ds H Q E := by
  rintro ds H Q E ⟨L, rfl, hl, q⟩
  cases L with
  | nil =>
    repeat' (first | exact Rt.now q | walk_at "stepN")
  | cons s r =>
    have hz : ((s :: r).map spD).length ≤ sizeLine := by rw [List.length_map, sizeLine_eq]; omega
    have e1 : ((s :: r).map spD).map (fun d => match d with | .tup (x :: _) => x | d => d) = (s :: r).map fun s => D.int s.2.1 := by rw [List.map_map]; rfl
    have e2 : ((s :: r).map spD).map (fun d => match d with | .tup (_ :: x :: _) => x | d => d) = (s :: r).map fun s => D.int s.1 := by rw [List.map_map]; rfl
    have z1 : ((s :: r).map fun s => D.int s.2.1).length ≤ sizeLine := by rw [List.length_map, sizeLine_eq]; omega
    have z2 : ((s :: r).map fun s => D.int s.1).length ≤ sizeLine := by rw [List.length_map, sizeLine_eq]; omega
    refine wpF_ss (st_around_places _) (wp_hold ?_)
    repeat' walk_at "stepN"
    walk_at "nxt"
    repeat' (first | (refine hold_lc ?_) | walk_at "stepN")
    refine hold_of (lcL_map (fun d => match d with | .tup (x :: _) => x | d => d) trivial ?_ ?_)
    · intro x hx Q' hq
      obtain ⟨v, hv, rfl⟩ := List.mem_map.1 hx
      walk_at "goN"
    · rw [e1]
      refine ⟨z1, ?_⟩
      repeat' walk_at "stepN"
      walk_at "nxt"
      repeat' (first | (refine hold_lc ?_) | walk_at "stepN")
      refine hold_of (lcL_map (fun d => match d with | .tup (_ :: x :: _) => x | d => d) trivial ?_ ?_)
      · intro x hx Q' hq
        obtain ⟨v, hv, rfl⟩ := List.mem_map.1 hx
        walk_at "goN"
      · rw [e2]
        refine ⟨z2, ?_⟩
        repeat' walk_at "stepN"
        walk_at "nxt"
        repeat' (first | (refine ⟨s.2.1, r.map (·.2.1), bindI (·.2.1) (s :: r), ?_⟩) | (refine ⟨s.1, r.map (·.1), bindI (·.1) (s :: r), ?_⟩) | exact Rt.now q | walk_at "stepN")
theorem updM_two {H : MH} {a : Addr} {u v : MO} : updM (updM H a u) a v = updM H a v := by
  funext b
  unfold updM
  split <;> rfl
def unrow : D → D
  | .tup [y, x, k] => .tup [x, y, k]
  | d => d
theorem unrow_map (L : List Sp) : (L.map rowD).map unrow = L.map spD := by rw [List.map_map]; rfl
theorem k_Coverage___init__ (G : Gm) (go : G.ob = obf) : ∀ ds H Q E, c_Coverage___init__ ds H Q E → wpF G N_Coverage___init__ b_Coverage___init__ ds H Q E := by
  rintro ds H Q E ⟨p, sp, S, rfl, hp, hs, hl, ho, q⟩
  have z0 : (S.map spD).length ≤ sizeLine := by rw [List.length_map, sizeLine_eq]; omega
  have zF : (posS S).length ≤ S.length := List.length_filter_le _ _
  have z1 : ((posS S).map rowD).length ≤ sizeLine := by rw [List.length_map, sizeLine_eq]; omega
  refine wpF_ss (st_Coverage___init__ _ _) (wp_hold ?_)
  repeat' (first | (refine itW_seq hs ⟨z0, ?_⟩) | (refine hold_lc ?_) | walk_at "stepN")
  refine hold_of (lcL_fm rowF keep_self ?_ ?_)
  · intro x hx Q' hq
    obtain ⟨v, hv, rfl⟩ := List.mem_map.1 hx
    by_cases h : 0 < v.2.2
    · rw [show rowF (spD v) = some (rowD v) from if_pos h] at hq
      repeat' (first | exact hq | (refine br_tk (decide_eq_true h) ?_) | walk_at "stepN")
    · rw [show rowF (spD v) = none from if_neg h] at hq
      repeat' (first | exact hq | (refine br_fk (decide_eq_false h) ?_) | walk_at "stepN")
  · rw [row_fm]
    refine ⟨z1, ?_⟩
    repeat' walk_at "stepN"
    refine Or.inr ⟨(posS S).map toL, 3, tups_rows _, by decide, ?_, fun ms hms hpw => ?_⟩
    · intro t ht
      obtain ⟨s, _, rfl⟩ := List.mem_map.1 ht
      rfl
    · obtain ⟨em, pm⟩ := rows_back hms
      generalize ms.map ofL = L at em pm
      subst em
      have hc : Canon S L := ⟨pm, List.pairwise_map.1 hpw⟩
      have hn : (L.map place).Nodup := (pm.map place).nodup_iff.2 ho
      have ll : L.length ≤ S.length := by rw [pm.length_eq]; exact zF
      have er : (L.map toL).map (fun t => D.tup (t.map .int)) = L.map rowD := by rw [List.map_map]; rfl
      rw [er]
      refine ⟨by rw [List.length_map, sizeLine_eq]; omega, ?_⟩
      repeat' walk_at "stepN"
      walk_at "nxt"
      repeat' walk_at "stepN"
      conv => whnf
      intro tp htp
      conv => whnf
      refine hold_ss (by walk_at "env") ?_
      refine wp_hold ?_
      repeat' (first | (refine hold_lp ?_) | walk_at "stepN")
      refine hold_of (loopL_ix (fun i σ H2 => ∃ a b c : Option D, σ = [some (.ref p), some sp, some (.rol (L.map rowD)), a, b, c, some (.ref tp)] ∧ H2 = updM H tp (.dt (tbD (L.take i)))) 0 (fun _ _ _ _ => trivial) ?_ ⟨_, _, _, rfl, rfl⟩ ?_)
      · rintro i x hx σ H2 Q' ⟨a, b, c, rfl, rfl⟩ hq
        rw [List.getElem?_map] at hx
        obtain ⟨v, hv, rfl⟩ := Option.map_eq_some_iff.1 hx
        have hi : i < L.length := (List.getElem?_eq_some_iff.1 hv).1
        have tk : L.take (0 + i + 1) = L.take (0 + i) ++ [v] := by rw [Nat.zero_add, List.take_succ, hv]; rfl
        have nin : place v ∉ (L.take (0 + i)).map place := by
          rw [Nat.zero_add]
          have : ((L.take (i + 1)).map place).Nodup := hn.sublist ((List.take_sublist _ _).map _)
          rw [List.take_succ, hv] at this
          rw [List.map_append, List.nodup_append] at this
          intro hm
          exact this.2.2 _ hm _ (by simp) rfl
        have kl : (tbD (L.take (0 + i))).length < sizeLine := by unfold tbD; rw [List.length_map, List.length_take, sizeLine_eq]; omega
        repeat' (first | (refine ⟨tp, tbD (L.take (0 + i)), keyP v.2.1 v.1, rfl, rfl, updM_same, kl, ?_⟩) | walk_at "stepN")
        refine hq _ _ ⟨_, _, _, rfl, ?_⟩
        rw [tk, ← put_new nin]
        exact updM_two
      · rintro σ H2 ⟨a, b, c, rfl, rfl⟩
        have el : 0 + (L.map rowD).length = L.length := by rw [Nat.zero_add, List.length_map]
        rw [el, List.take_length]
        have ne : p ≠ tp := fun e => by rw [e, htp] at hp; cases hp
        have hp2 : updM H tp (.dt (tbD L)) p = some (.ins "Coverage" [] []) := (updM_ne ne).trans hp
        have hz : (L.map rowD).length ≤ sizeLine := by rw [List.length_map, sizeLine_eq]; omega
        have hz2 : (L.map spD).length ≤ sizeLine := by rw [List.length_map, sizeLine_eq]; omega
        walk_at "nxt"
        repeat' (first | (refine hold_lc ?_) | walk_at "stepN")
        refine hold_of (lcL_map unrow trivial ?_ ?_)
        · intro x hx Q' hq
          obtain ⟨v, hv, rfl⟩ := List.mem_map.1 hx
          walk_at "goN"
        · rw [unrow_map]
          refine ⟨hz2, ?_⟩
          repeat' (first | (refine ⟨p, _, _, _, _, rfl, hp2, ob_of go rfl, rfl, by decide, ?_⟩) | (refine ⟨_, _, _, _, _, rfl, updM_same, ob_of go rfl, rfl, by decide, ?_⟩) | walk_at "stepN")
          walk_at "nxt"
          repeat' (first | (refine ⟨p, _, _, _, _, rfl, updM_same, ob_of go rfl, rfl, by decide, ?_⟩) | walk_at "stepN")
          conv => whnf
          refine hold_of ?_
          conv => whnf
          refine Rt.now (q L _ hc ⟨tp, ?_, ?_⟩ ?_)
          · rw [updM_same]; rfl
          · exact dtRd_dt (by rw [updM_ne (Ne.symm ne), updM_ne (Ne.symm ne), updM_same])
          · intro x hx hxp
            have hxt : x ≠ tp := fun e => hx (e ▸ htp)
            rw [updM_ne hxp, updM_ne hxp, updM_ne hxt]
theorem keep_new {H : MH} {sp : D} {xs : List D} {tp : Addr} {o : MO} (h : seqAt H sp = some xs) (ht : H tp = none) : keepOf H sp (updM H tp o) := by
  cases sp with
  | ref a =>
    have ne : a ≠ tp := fun e => by
      subst e
      have h : (match H a with | some (.lst xs) => some xs | _ => none) = some xs := h
      rw [ht] at h; cases h
    exact updM_ne ne
  | _ => exact trivial
def c__law_table : Ctr := fun ds H Q _ => ∃ (sp : D) (S : List Sp), ds = [sp] ∧ seqAt H sp = some (S.map spD) ∧ S.length ≤ 100000 ∧ (S.map place).Nodup ∧ ∀ (tp : Addr), H tp = none → Q (.ref tp) (updM H tp (.dt (tbD S)))
theorem k__law_table (G : Gm) : ∀ ds H Q E, c__law_table ds H Q E → wpF G N__law_table b__law_table ds H Q E := by
  rintro ds H Q E ⟨sp, S, rfl, hs, hl, hn, q⟩
  refine wpF_ss (st__law_table _) (wp_hold ?_)
  conv => whnf
  intro tp htp
  conv => whnf
  refine hold_ss (by walk_at "env") ?_
  refine wp_hold ?_
  have hs2 : seqAt (updM H tp (.dt [])) sp = some (S.map spD) := by
    cases sp with
    | ref a =>
      have k : updM H tp (.dt []) a = H a := keep_new hs htp
      have h : (match H a with | some (.lst xs) => some xs | _ => none) = some (S.map spD) := hs
      show (match updM H tp (.dt []) a with | some (.lst xs) => some xs | _ => none) = some (S.map spD)
      rw [k]; exact h
    | _ => exact hs
  have hk : ∀ o, keepOf (updM H tp (.dt [])) sp (updM H tp o) := fun o => by
    cases sp with
    | ref a => exact (show updM H tp o a = _ from (keep_new (o := o) hs htp : _ = _)).trans (keep_new (o := .dt []) hs htp : updM H tp (.dt []) a = H a).symm
    | _ => exact trivial
  repeat' (first | (refine itW_seq hs2 ?_) | (refine hold_lp ?_) | walk_at "stepN")
  refine hold_of (loopL_ix (fun i σ H2 => ∃ a : Option D, σ = [some sp, some (.ref tp), a] ∧ H2 = updM H tp (.dt (tbD (S.take i)))) 0 (fun _ _ _ h => by obtain ⟨a, _, rfl⟩ := h; exact hk _) ?_ ⟨_, rfl, rfl⟩ ?_)
  · rintro i x hx σ H2 Q' ⟨a, rfl, rfl⟩ hq
    rw [List.getElem?_map] at hx
    obtain ⟨v, hv, rfl⟩ := Option.map_eq_some_iff.1 hx
    have hi : i < S.length := (List.getElem?_eq_some_iff.1 hv).1
    have tk : S.take (0 + i + 1) = S.take (0 + i) ++ [v] := by rw [Nat.zero_add, List.take_succ, hv]; rfl
    have nin : place v ∉ (S.take (0 + i)).map place := by
      rw [Nat.zero_add]
      have : ((S.take (i + 1)).map place).Nodup := hn.sublist ((List.take_sublist _ _).map _)
      rw [List.take_succ, hv] at this
      rw [List.map_append, List.nodup_append] at this
      intro hm
      exact this.2.2 _ hm _ (by simp) rfl
    have kl : (tbD (S.take (0 + i))).length < sizeLine := by unfold tbD; rw [List.length_map, List.length_take, sizeLine_eq]; omega
    repeat' (first | (refine ⟨tp, tbD (S.take (0 + i)), keyP v.2.1 v.1, rfl, rfl, updM_same, kl, ?_⟩) | walk_at "stepN")
    refine hq _ _ ⟨_, rfl, ?_⟩
    rw [tk, ← put_new nin]
    exact updM_two
  · rintro σ H2 ⟨a, rfl, rfl⟩
    have el : 0 + (S.map spD).length = S.length := by rw [Nat.zero_add, List.length_map]
    rw [el, List.take_length]
    walk_at "nxt"
    repeat' (first | exact Rt.now (q tp htp) | walk_at "stepN")
/-- a new coverage of the spots of S -/
def newCov (H : MH) (S : List Sp) (Q : DK) : Prop := ∀ (p : Addr) (L : List Sp) (H' : MH), H p = none → Canon S L → CovAt H' p L → (∀ x, H x ≠ none → H' x = H x) → Q (.ref p) H'
theorem new_cov {H : MH} {S : List Sp} {Q : DK} {E : XDK} {sp : D} (hs : seqAt H sp = some (S.map spD)) (hl : S.length ≤ 100000) (ho : Once S) (q : newCov H S Q) (p : Addr) (hp : H p = none) :
    c_Coverage___init__ [.ref p, sp] (updM H p (.ins "Coverage" [] [])) (fun v H2 => v = .non ∧ Q (.ref p) H2) E := by
  refine ⟨p, sp, S, rfl, updM_same, ?_, hl, ho, fun L H' hc hv hf => ⟨rfl, q p L H' hp hc hv fun x hx => ?_⟩⟩
  · cases sp with
    | ref a =>
      have k : updM H p (.ins "Coverage" [] []) a = H a := keep_new hs hp
      have h : (match H a with | some (.lst xs) => some xs | _ => none) = some (S.map spD) := hs
      show (match updM H p (.ins "Coverage" [] []) a with | some (.lst xs) => some xs | _ => none) = some (S.map spD)
      rw [k]; exact h
    | _ => exact hs
  · have ne : x ≠ p := fun e => hx (e ▸ hp)
    rw [hf x (by rw [updM_ne ne]; exact hx) ne, updM_ne ne]
def andS (L M : List Sp) : List Sp := L.map fun s => (s.1, s.2.1, if atL M s.2.1 s.1 < s.2.2 then atL M s.2.1 s.1 else s.2.2)
theorem andS_place (L M : List Sp) : (andS L M).map place = L.map place := by unfold andS; rw [List.map_map]; rfl
theorem once_of {S : List Sp} (h : (S.map place).Nodup) : Once S := h.sublist (List.filter_sublist.map _)
def c_Coverage___and__ : Ctr := fun ds H Q _ => ∃ (p r : Addr) (L M : List Sp), ds = [.ref p, .ref r] ∧ CovAt H p L ∧ CovAt H r M ∧ L.length ≤ 100000 ∧ (L.map place).Nodup ∧ newCov H (andS L M) Q
theorem k_Coverage___and__ (G : Gm) (g1 : G.fn "Coverage.at" = some (3, c_Coverage_at)) (g2 : G.fn "Coverage.__init__" = some (2, c_Coverage___init__)) (go : G.ob = obf) : ∀ ds H Q E, c_Coverage___and__ ds H Q E → wpF G N_Coverage___and__ b_Coverage___and__ ds H Q E := by
  rintro ds H Q E ⟨p, r, L, M, rfl, hL, hM, hl, hn, q⟩
  obtain ⟨tp, h1, h2⟩ := id hL
  obtain ⟨tr, h3, h4⟩ := id hM
  have hz : (L.map spD).length ≤ sizeLine := by rw [List.length_map, sizeLine_eq]; omega
  have em : (andS L M).map spD = (L.map spD).map (fun d => match d with | .tup [.int x, .int y, .int k] => .tup [.int x, .int y, .int (if atL M x y < k then atL M x y else k)] | d => d) := by
    unfold andS; rw [List.map_map, List.map_map]; rfl
  have hz2 : ((andS L M).map spD).length ≤ sizeLine := by unfold andS; rw [List.length_map, List.length_map, sizeLine_eq]; omega
  repeat' (first | (refine ⟨_, _, _, _, _, ins_ref h1, ob_of go rfl, rfl, rfl, ?_⟩) | (refine hold_lc ?_) | walk_at "stepN")
  refine hold_of (lcL_map _ trivial ?_ (by
    rw [← em]
    refine ⟨hz2, ?_⟩
    repeat' (first | (refine ⟨_, _, g2, rfl, fun p' hp' => new_cov (sp := .rol ((andS L M).map spD)) rfl (by unfold andS; rw [List.length_map]; exact hl) (once_of (by rw [andS_place]; exact hn)) (fun p2 L2 H2 a b c d => Rt.now (q p2 L2 H2 a b c d)) p' hp'⟩) | walk_at "stepN")))
  · intro x hx Q' hq
    obtain ⟨v, hv, rfl⟩ := List.mem_map.1 hx
    repeat' (first | exact hq | (refine ⟨⟨_, _, ins_ref h3, rfl⟩, ?_⟩) | (refine ⟨_, _, g1, rfl, r, M, _, _, rfl, hM, ?_⟩) | walk_at "stepN")
def subS (L M : List Sp) : List Sp := L.map fun s => (s.1, s.2.1, if 255 - atL M s.2.1 s.1 < s.2.2 then 255 - atL M s.2.1 s.1 else s.2.2)
theorem subS_place (L M : List Sp) : (subS L M).map place = L.map place := by unfold subS; rw [List.map_map]; rfl
def c_Coverage___sub__ : Ctr := fun ds H Q _ => ∃ (p r : Addr) (L M : List Sp), ds = [.ref p, .ref r] ∧ CovAt H p L ∧ CovAt H r M ∧ L.length ≤ 100000 ∧ (L.map place).Nodup ∧ newCov H (subS L M) Q
theorem k_Coverage___sub__ (G : Gm) (g1 : G.fn "Coverage.at" = some (3, c_Coverage_at)) (g2 : G.fn "Coverage.__init__" = some (2, c_Coverage___init__)) (go : G.ob = obf) : ∀ ds H Q E, c_Coverage___sub__ ds H Q E → wpF G N_Coverage___sub__ b_Coverage___sub__ ds H Q E := by
  rintro ds H Q E ⟨p, r, L, M, rfl, hL, hM, hl, hn, q⟩
  obtain ⟨tp, h1, h2⟩ := id hL
  obtain ⟨tr, h3, h4⟩ := id hM
  have hz : (L.map spD).length ≤ sizeLine := by rw [List.length_map, sizeLine_eq]; omega
  have em : (subS L M).map spD = (L.map spD).map (fun d => match d with | .tup [.int x, .int y, .int k] => .tup [.int x, .int y, .int (if 255 - atL M x y < k then 255 - atL M x y else k)] | d => d) := by
    unfold subS; rw [List.map_map, List.map_map]; rfl
  have hz2 : ((subS L M).map spD).length ≤ sizeLine := by unfold subS; rw [List.length_map, List.length_map, sizeLine_eq]; omega
  repeat' (first | (refine ⟨_, _, _, _, _, ins_ref h1, ob_of go rfl, rfl, rfl, ?_⟩) | (refine hold_lc ?_) | walk_at "stepN")
  refine hold_of (lcL_map _ trivial ?_ (by
    rw [← em]
    refine ⟨hz2, ?_⟩
    repeat' (first | (refine ⟨_, _, g2, rfl, fun p' hp' => new_cov (sp := .rol ((subS L M).map spD)) rfl (by unfold subS; rw [List.length_map]; exact hl) (once_of (by rw [subS_place]; exact hn)) (fun p2 L2 H2 a b c d => Rt.now (q p2 L2 H2 a b c d)) p' hp'⟩) | walk_at "stepN")))
  · intro x hx Q' hq
    obtain ⟨v, hv, rfl⟩ := List.mem_map.1 hx
    repeat' (first | exact hq | (refine ⟨⟨_, _, ins_ref h3, rfl⟩, ?_⟩) | (refine ⟨_, _, g1, rfl, r, M, _, _, rfl, hM, ?_⟩) | walk_at "stepN")
theorem lcM_map {step : D → MH → (List D → MH → Prop) → Prop} {keep : MH → Prop} {H : MH} (f : D → List D) (hk : keep H) : ∀ {xs : List D} {Q : List D → MH → Prop}, (∀ x ∈ xs, ∀ Q : List D → MH → Prop, Q (f x) H → step x H Q) → Q (xs.flatMap f) H → lcM step keep xs H Q
  | [], Q, hs, q => ⟨hk, q⟩
  | x :: r, Q, hs, q => ⟨hk, hs x List.mem_cons_self _ (lcM_map f hk (fun y hy => hs y (List.mem_cons_of_mem _ hy)) (by rw [List.flatMap_cons] at q; exact q))⟩
theorem hold_lm {step : D → MH → (List D → MH → Prop) → Prop} {keep : MH → Prop} {xs : List D} {H : MH} {Q : List D → MH → Prop} (h : Hold (lcM step keep xs H Q)) : lcM step keep xs H Q := by unfold Hold at h; exact h
/-- the places of a rect, row by row, with values -/
def rectS (x0 y0 x1 y1 : Int) (f : Int → Int → Int) : List Sp := (List.range (y1 - y0).toNat).flatMap fun (j : Nat) => (List.range (x1 - x0).toNat).map fun (i : Nat) => (y0 + (j : Int), x0 + (i : Int), f (x0 + (i : Int)) (y0 + (j : Int)))
theorem rectS_nodup (x0 y0 x1 y1 : Int) (f : Int → Int → Int) : ((rectS x0 y0 x1 y1 f).map place).Nodup := by
  unfold rectS
  rw [List.map_flatMap]
  unfold List.Nodup
  rw [List.pairwise_flatMap]
  constructor
  · intro j _
    rw [List.map_map, List.pairwise_map]
    refine (List.nodup_range (n := (x1 - x0).toNat)).imp ?_
    intro a b h e
    refine h ?_
    have e1 : x0 + (a : Int) = x0 + (b : Int) := congrArg Prod.fst e
    omega
  · refine (List.nodup_range (n := (y1 - y0).toNat)).imp ?_
    intro a b h u hu v hv e
    refine h ?_
    rw [List.map_map] at hu hv
    obtain ⟨i, _, rfl⟩ := List.mem_map.1 hu
    obtain ⟨i', _, rfl⟩ := List.mem_map.1 hv
    have e1 : y0 + (a : Int) = y0 + (b : Int) := congrArg Prod.snd e
    omega
theorem flatMap_len {α β : Type} (l : List α) (f : α → List β) (n : Nat) (h : ∀ x ∈ l, (f x).length = n) : (l.flatMap f).length = l.length * n := by
  induction l with
  | nil => simp
  | cons x r ih =>
    rw [List.flatMap_cons, List.length_append, ih fun y hy => h y (List.mem_cons_of_mem _ hy), h x List.mem_cons_self, List.length_cons, Nat.add_mul]
    omega
theorem rectS_length (x0 y0 x1 y1 : Int) (f : Int → Int → Int) : (rectS x0 y0 x1 y1 f).length = (y1 - y0).toNat * (x1 - x0).toNat := by
  unfold rectS
  rw [flatMap_len _ _ (x1 - x0).toNat fun j _ => by rw [List.length_map, List.length_range], List.length_range]
def rectD (x0 y0 x1 y1 : Int) : D := .tup [.int x0, .int y0, .int x1, .int y1]
def small (x0 y0 x1 y1 : Int) : Prop := x1 - x0 ≤ 100 ∧ y1 - y0 ≤ 100
def c_Coverage_turned : Ctr := fun ds H Q _ => ∃ (p : Addr) (L : List Sp) (x0 y0 x1 y1 : Int), ds = [.ref p, rectD x0 y0 x1 y1] ∧ CovAt H p L ∧ small x0 y0 x1 y1 ∧ newCov H (rectS x0 y0 x1 y1 fun x y => 255 - atL L x y) Q
theorem rect_spD (x0 y0 x1 y1 : Int) (f : Int → Int → Int) : (rectS x0 y0 x1 y1 f).map spD = ((List.range (y1 - y0).toNat).map fun (n : Nat) => D.int (y0 + (n : Int))).flatMap fun d => match d with
    | .int y => ((List.range (x1 - x0).toNat).map fun (n : Nat) => D.int (x0 + (n : Int))).map fun e => (match e with | .int x => D.tup [.int x, .int y, .int (f x y)] | e => e)
    | _ => [] := by
  unfold rectS
  rw [List.map_flatMap, List.flatMap_map]
  congr 1
  funext j
  rw [List.map_map]
  show List.map _ _ = List.map _ (List.map _ _)
  rw [List.map_map]
  rfl
theorem k_Coverage_turned (G : Gm) (g1 : G.fn "Coverage.at" = some (3, c_Coverage_at)) (g2 : G.fn "Coverage.__init__" = some (2, c_Coverage___init__)) : ∀ ds H Q E, c_Coverage_turned ds H Q E → wpF G N_Coverage_turned b_Coverage_turned ds H Q E := by
  rintro ds H Q E ⟨p, L, x0, y0, x1, y1, rfl, hL, ⟨hx, hy⟩, q⟩
  have hlen : (rectS x0 y0 x1 y1 fun x y => 255 - atL L x y).length ≤ 10000 := by
    rw [rectS_length]
    exact Nat.le_trans (Nat.mul_le_mul (show (y1 - y0).toNat ≤ 100 by omega) (show (x1 - x0).toNat ≤ 100 by omega)) (by decide)
  have hz2 : ((rectS x0 y0 x1 y1 fun x y => 255 - atL L x y).map spD).length ≤ sizeLine := by rw [List.length_map, sizeLine_eq]; omega
  refine wpF_ss (st_Coverage_turned _ _) (wp_hold ?_)
  unfold rectD
  repeat' walk_at "stepN"
  walk_at "nxt"
  repeat' walk_at "stepN"
  refine ⟨100, ?_, ?_⟩
  · rw [List.length_map, List.length_range, sizeLine_eq]; omega
  refine lcM_map (fun d => match d with
    | .int y => ((List.range (x1 - x0).toNat).map fun (n : Nat) => D.int (x0 + (n : Int))).map fun e => (match e with | .int x => D.tup [.int x, .int y, .int (255 - atL L x y)] | e => e)
    | _ => []) trivial ?_ ?_
  · intro x hx2 Q' hq
    obtain ⟨j, _, rfl⟩ := List.mem_map.1 hx2
    repeat' walk_at "stepN"
    · rw [List.length_map, List.length_range]; omega
    · refine lcL_map _ trivial ?_ hq
      intro x hx3 Q2 hq2
      obtain ⟨i, _, rfl⟩ := List.mem_map.1 hx3
      obtain ⟨tp, h1, h2⟩ := id hL
      repeat' (first | exact hq2 | (refine ⟨⟨_, _, ins_ref h1, rfl⟩, ?_⟩) | (refine ⟨_, _, g1, rfl, p, L, _, _, rfl, hL, ?_⟩) | walk_at "stepN")
  · rw [← rect_spD]
    refine ⟨hz2, ?_⟩
    repeat' (first | (refine ⟨_, _, g2, rfl, fun p' hp' => new_cov (sp := .rol ((rectS x0 y0 x1 y1 fun x y => 255 - atL L x y).map spD)) rfl (by omega) (once_of (rectS_nodup _ _ _ _ _)) (fun p2 L2 H2 a b c d => Rt.now (q p2 L2 H2 a b c d)) p' hp'⟩) | walk_at "stepN")
def ofS (x0 y0 x1 y1 k : Int) : List Sp := if k = 0 then [] else rectS x0 y0 x1 y1 fun _ _ => k
def c_Coverage_of_rect : Ctr := fun ds H Q _ => ∃ (x0 y0 x1 y1 k : Int), ds = [rectD x0 y0 x1 y1, .int k] ∧ small x0 y0 x1 y1 ∧ newCov H (ofS x0 y0 x1 y1 k) Q
theorem k_Coverage_of_rect (G : Gm) (g2 : G.fn "Coverage.__init__" = some (2, c_Coverage___init__)) : ∀ ds H Q E, clsC "Coverage" c_Coverage_of_rect ds H Q E → wpF G N_Coverage_of_rect b_Coverage_of_rect ds H Q E := by
  rintro ds H Q E ⟨_, rfl, x0, y0, x1, y1, k, rfl, ⟨hx, hy⟩, q⟩
  refine wpF_ss (st_Coverage_of_rect _ _ _) (wp_hold ?_)
  unfold rectD
  by_cases hk : k = 0
  · subst hk
    unfold ofS at q
    rw [if_pos rfl] at q
    repeat' (first | (refine br_tk rfl ?_) | (refine ⟨_, _, g2, rfl, fun p' hp' => new_cov (sp := .tup []) (S := []) rfl (by simp) (by simp [Once, posS]) (fun p2 L2 H2 a b c d => Rt.now (q p2 L2 H2 a b c d)) p' hp'⟩) | walk_at "stepN")
  · unfold ofS at q
    rw [if_neg hk] at q
    have hlen : (rectS x0 y0 x1 y1 fun _ _ => k).length ≤ 10000 := by
      rw [rectS_length]
      exact Nat.le_trans (Nat.mul_le_mul (show (y1 - y0).toNat ≤ 100 by omega) (show (x1 - x0).toNat ≤ 100 by omega)) (by decide)
    have hz2 : ((rectS x0 y0 x1 y1 fun _ _ => k).map spD).length ≤ sizeLine := by rw [List.length_map, sizeLine_eq]; omega
    have hb : (k == 0) = false := by simpa using hk
    repeat' (first | (refine br_fk hb ?_) | walk_at "stepN")
    walk_at "nxt"
    repeat' walk_at "stepN"
    walk_at "nxt"
    repeat' walk_at "stepN"
    refine ⟨100, ?_, ?_⟩
    · rw [List.length_map, List.length_range, sizeLine_eq]; omega
    refine lcM_map (fun d => match d with
      | .int y => ((List.range (x1 - x0).toNat).map fun (n : Nat) => D.int (x0 + (n : Int))).map fun e => (match e with | .int x => D.tup [.int x, .int y, .int k] | e => e)
      | _ => []) trivial ?_ ?_
    · intro x hx2 Q' hq
      obtain ⟨j, _, rfl⟩ := List.mem_map.1 hx2
      repeat' walk_at "stepN"
      · rw [List.length_map, List.length_range]; omega
      · refine lcL_map _ trivial ?_ hq
        intro x hx3 Q2 hq2
        obtain ⟨i, _, rfl⟩ := List.mem_map.1 hx3
        repeat' (first | exact hq2 | walk_at "stepN")
    · refine Eq.mp (congrArg (fun z => freshL false z H _) (rect_spD x0 y0 x1 y1 fun _ _ => k)) ?_
      refine ⟨hz2, ?_⟩
      repeat' (first | (refine ⟨_, _, g2, rfl, fun p' hp' => new_cov (sp := .rol ((rectS x0 y0 x1 y1 fun _ _ => k).map spD)) rfl (by omega) (once_of (rectS_nodup _ _ _ _ _)) (fun p2 L2 H2 a b c d => Rt.now (q p2 L2 H2 a b c d)) p' hp'⟩) | walk_at "stepN")
def c__law_rect : Ctr := fun ds H Q _ => ∃ (p : Addr) (cx cy : Int), ds = [.ref p, .tup [.int cx, .int cy]] ∧ Pl H p ∧ ∀ (x0 y0 x1 y1 : Int) (H' : MH), small x0 y0 x1 y1 → x0 < x1 → y0 < y1 → Pl H' p → Off p H H' → Q (rectD x0 y0 x1 y1) H'
theorem k__law_rect (G : Gm) (g1 : G.fn "_law_take" = some (2, c__law_take)) : ∀ ds H Q E, c__law_rect ds H Q E → wpF G N__law_rect b__law_rect ds H Q E := by
  rintro ds H Q E ⟨p, cx, cy, rfl, hp, q⟩
  refine wpF_ss (st__law_rect _ _) (wp_hold ?_)
  repeat' (first | (refine ⟨_, _, g1, rfl, p, _, rfl, hp, by decide, fun r1 H1 a1 b1 hp1 o1 => ?_⟩) | walk_at "stepN")
  walk_at "nxt"
  repeat' (first | (refine ⟨_, _, g1, rfl, p, _, rfl, hp1, by decide, fun r2 H2 a2 b2 hp2 o2 => ?_⟩) | walk_at "stepN")
  walk_at "nxt"
  repeat' (first | (refine ⟨_, _, g1, rfl, p, _, rfl, hp2, by decide, fun r3 H3 a3 b3 hp3 o3 => ?_⟩) | walk_at "stepN")
  walk_at "nxt"
  repeat' (first | (refine ⟨_, _, g1, rfl, p, _, rfl, hp3, by decide, fun r4 H4 a4 b4 hp4 o4 => ?_⟩) | walk_at "stepN")
  walk_at "nxt"
  repeat' (first | (refine ⟨_, _, g1, rfl, p, _, rfl, hp4, by decide, fun r5 H5 a5 b5 hp5 o5 => ?_⟩) | walk_at "stepN")
  · have o15 : Off p H H5 := (((o1.trans o2).trans o3).trans o4).trans o5
    repeat' walk_at "stepN"
    intro r6 H6 a6 b6 hp6 o6
    repeat' walk_at "stepN"
    intro r7 H7 a7 b7 hp7 o7
    repeat' walk_at "stepN"
    conv => whnf
    refine hold_ss (by walk_at "env") ?_
    refine wp_hold ?_
    repeat' (first | exact Rt.now (q _ _ _ _ H7 ⟨by omega, by omega⟩ (by omega) (by omega) hp7 ((o15.trans o6).trans o7)) | walk_at "stepN")
  · have o15 : Off p H H5 := (((o1.trans o2).trans o3).trans o4).trans o5
    conv => whnf
    refine hold_ss (by walk_at "env") ?_
    refine wp_hold ?_
    repeat' (first | exact Rt.now (q _ _ _ _ H5 ⟨by omega, by omega⟩ (by omega) (by omega) hp5 o15) | walk_at "stepN")
def spP (s : Sp) : PyData := .tuple [.int s.2.1, .int s.1, .int s.2.2]
theorem py_spots (L : List Sp) : pyDs (L.map spD) = some (L.map spP) := by
  induction L with
  | nil => rfl
  | cons s r ih =>
    show ((pyD (spD s)).bind fun d => (pyDs (r.map spD)).map (d :: ·)) = _
    rw [ih]; rfl
theorem eqv_sp (s t : Sp) : PyData.eqv (spP s) (spP t) = decide (s = t) := by
  obtain ⟨a, b, c⟩ := s
  obtain ⟨a', b', c'⟩ := t
  unfold spP
  simp only [PyData.eqv, PyData.eqvAll, Bool.and_true]
  rw [Bool.eq_iff_iff]
  simp only [Bool.and_eq_true, beq_iff_eq, decide_eq_true_eq, Prod.mk.injEq]
  constructor
  · rintro ⟨rfl, rfl, rfl⟩; exact ⟨rfl, rfl, rfl⟩
  · rintro ⟨rfl, rfl, rfl⟩; exact ⟨rfl, rfl, rfl⟩
theorem eqv_spots : ∀ L M : List Sp, PyData.eqvAll (L.map spP) (M.map spP) = decide (L = M)
  | [], [] => by simp [PyData.eqvAll]
  | [], t :: M => by simp [PyData.eqvAll]
  | s :: L, [] => by simp [PyData.eqvAll]
  | s :: L, t :: M => by
    rw [List.map_cons, List.map_cons]
    unfold PyData.eqvAll
    rw [eqv_sp, eqv_spots L M, Bool.eq_iff_iff]
    simp
theorem dep_spots (L : List Sp) : PyData.depthAll (L.map spP) ≤ 5 := by
  induction L with
  | nil => simp [PyData.depthAll]
  | cons s r ih =>
    rw [List.map_cons]
    unfold PyData.depthAll
    have : (spP s).depth ≤ 5 := by unfold spP; simp [PyData.depth, PyData.depthAll]
    omega
theorem lay_spots (L : List Sp) : PyData.canLayAll0 (L.map spP) = true := by
  induction L with
  | nil => rfl
  | cons s r ih =>
    rw [List.map_cons]
    unfold PyData.canLayAll0
    rw [ih]
    have : (spP s).canLay0 = true := by unfold spP; simp [PyData.canLay0, PyData.canLayAll0]
    rw [this]; rfl
theorem shp_spots (L : List Sp) : SeqAt.shaped (.tuple (L.map spP)) = true := by
  unfold SeqAt.shaped
  rw [Bool.and_eq_true, decide_eq_true_eq]
  refine ⟨?_, ?_⟩
  · unfold PyData.canLay0; exact lay_spots L
  · unfold PyData.depth
    have := dep_spots L
    omega
theorem eq_spots (H : MH) (L M : List Sp) : eqD (rdL H (.tup (L.map spD))) (rdL H (.tup (M.map spD))) = some (decide (L = M)) := by
  have e : ∀ L : List Sp, pyD (.tup (L.map spD)) = some (.tuple (L.map spP)) := fun L => by
    show (pyDs (L.map spD)).map PyData.tuple = _
    rw [py_spots]; rfl
  show ((pyD (.tup (L.map spD))).bind fun d => (pyD (.tup (M.map spD))).bind fun e => if SeqAt.shaped d && SeqAt.shaped e then some (PyData.eqv d e) else none) = _
  rw [e, e]
  show (if SeqAt.shaped (.tuple (L.map spP)) && SeqAt.shaped (.tuple (M.map spP)) then some (PyData.eqv (.tuple (L.map spP)) (.tuple (M.map spP))) else none) = _
  rw [shp_spots, shp_spots, ← eqv_spots]
  simp [PyData.eqv]
theorem isx_ins {cl : Str → Option CI} {ob : Str → Option (List Str)} {H : MH} {p : Addr} {nm : Str} {ns : List Str} {xs : List D} {fs : List Str} {Q : DK} (h : H p = some (.ins nm ns xs)) (ho : ob nm = some fs) (q : Q (.bl true) H) : isxD cl ob H (.ref p) [nm] Q := by
  unfold isxD
  rw [ins_ref h]
  exact ⟨rfl, ⟨fs, ho⟩, q⟩
def c_Coverage___eq__ : Ctr := fun ds H Q _ => ∃ (p : Addr) (L : List Sp), CovAt H p L ∧ ((∃ (r : Addr) (M : List Sp), ds = [.ref p, .ref r] ∧ CovAt H r M ∧ Q (.bl (decide (L = M))) H) ∨ ∃ xs, (ds = [.ref p, .tup xs] ∨ ds = [.ref p, .rol xs]) ∧ Q (.bl false) H)
theorem k_Coverage___eq__ (G : Gm) (gc : G.cl = clf) (go : G.ob = obf) : ∀ ds H Q E, c_Coverage___eq__ ds H Q E → wpF G N_Coverage___eq__ b_Coverage___eq__ ds H Q E := by
  rintro ds H Q E ⟨p, L, ⟨tp, h1, h2⟩, ⟨r, M, rfl, ⟨tr, h3, h4⟩, q⟩ | ⟨xs, rfl | rfl, q⟩⟩
  · repeat' (first | (refine isx_ins h3 (ob_of go rfl) ?_) | (refine ⟨_, _, _, _, _, ins_ref h1, ob_of go rfl, rfl, rfl, ?_⟩) | (refine ⟨_, _, _, _, _, ins_ref h3, ob_of go rfl, rfl, rfl, ?_⟩) | (refine ⟨_, eq_spots H L M, ?_⟩) | exact Rt.now q | walk_at "stepN")
  · repeat' (first | exact Rt.now q | (refine ⟨_, _, rfl, ob_of go rfl, ?_⟩) | walk_at "stepN")
  · repeat' (first | exact Rt.now q | (refine ⟨_, _, rfl, ob_of go rfl, ?_⟩) | walk_at "stepN")
/-! ### values of a coverage or a table, frames -/
abbrev Vf := Int → Int → Int
def Good (L : List Sp) : Prop := (L.Pairwise fun a b => HT.lexLt (toL b) (toL a) = false) ∧ (L.map place).Nodup ∧ ∀ s ∈ L, 0 < s.2.2
/-- the values of L -/
def Val (L : List Sp) (f : Vf) : Prop := ∀ x y, atL L x y = f x y
/-- a table's rows: no place twice, no value out of range -/
def Tt (T : List Sp) : Prop := (T.map place).Nodup ∧ ∀ s ∈ T, 0 ≤ s.2.2 ∧ s.2.2 ≤ 255
theorem find_mem {L : List Sp} {s : Sp} (hn : (L.map place).Nodup) (h : s ∈ L) : findS L s.2.1 s.1 = some s.2.2 := by
  induction L with
  | nil => cases h
  | cons t r ih =>
    rw [List.map_cons, List.nodup_cons] at hn
    unfold findS
    rw [List.find?_cons]
    rcases List.mem_cons.1 h with rfl | h
    · simp
    · have e : (decide (t.2.1 = s.2.1) && decide (t.1 = s.1)) = false := by
        rw [Bool.eq_false_iff]
        intro e
        rw [Bool.and_eq_true, decide_eq_true_eq, decide_eq_true_eq] at e
        exact hn.1 (List.mem_map.2 ⟨s, h, by unfold place; rw [e.1, e.2]⟩)
      rw [e]
      exact ih hn.2 h
theorem find_some {L : List Sp} {x y k : Int} (h : findS L x y = some k) : (y, x, k) ∈ L := by
  unfold findS at h
  obtain ⟨s, hs, rfl⟩ := Option.map_eq_some_iff.1 h
  have e := List.find?_some hs
  have m := List.mem_of_find?_eq_some hs
  rw [Bool.and_eq_true, decide_eq_true_eq, decide_eq_true_eq] at e
  rw [← e.1, ← e.2]
  exact m
theorem at_mem {L : List Sp} {s : Sp} (hn : (L.map place).Nodup) (h : s ∈ L) : atL L s.2.1 s.1 = s.2.2 := by
  unfold atL
  rw [find_mem hn h]; rfl
theorem at_ne {L : List Sp} {x y : Int} (h : atL L x y ≠ 0) : (y, x, atL L x y) ∈ L := by
  unfold atL at h ⊢
  cases e : findS L x y with
  | none => rw [e] at h; exact absurd rfl h
  | some k => exact find_some e
theorem at_out {L : List Sp} {x y : Int} (h : (x, y) ∉ L.map place) : atL L x y = 0 := by
  by_cases e : atL L x y = 0
  · exact e
  · exact absurd (List.mem_map.2 ⟨_, at_ne e, rfl⟩) h
theorem at_pos {L : List Sp} (h : ∀ s ∈ L, 0 ≤ s.2.2) (x y : Int) : 0 ≤ atL L x y := by
  by_cases e : atL L x y = 0
  · omega
  · exact h _ (at_ne e)
theorem at_le {L : List Sp} (h : ∀ s ∈ L, s.2.2 ≤ 255) (x y : Int) : atL L x y ≤ 255 := by
  by_cases e : atL L x y = 0
  · omega
  · exact h _ (at_ne e)
theorem mem_pos {S : List Sp} {s : Sp} : s ∈ posS S ↔ s ∈ S ∧ 0 < s.2.2 := by
  unfold posS
  rw [List.mem_filter, decide_eq_true_eq]
theorem pos_at {S : List Sp} (hn : (S.map place).Nodup) (hp : ∀ s ∈ S, 0 ≤ s.2.2) (x y : Int) : atL (posS S) x y = atL S x y := by
  by_cases h : atL S x y = 0
  · rw [h]
    by_cases e : atL (posS S) x y = 0
    · exact e
    · obtain ⟨a, b⟩ := mem_pos.1 (at_ne e)
      have := at_mem hn a
      rw [h] at this
      exact absurd this.symm e
  · have m := at_ne h
    have m2 : (y, x, atL S x y) ∈ posS S := mem_pos.2 ⟨m, by have := hp _ m; simp only at this ⊢; omega⟩
    exact at_mem (hn.sublist (List.filter_sublist.map _)) m2
theorem at_perm {L M : List Sp} (h : L.Perm M) (hn : (L.map place).Nodup) (x y : Int) : atL L x y = atL M x y := by
  have hm : (M.map place).Nodup := (h.map place).nodup_iff.1 hn
  by_cases e : atL L x y = 0
  · rw [e]
    by_cases e2 : atL M x y = 0
    · exact e2.symm
    · have := at_mem hn (h.mem_iff.2 (at_ne e2))
      rw [e] at this
      exact this
  · exact (at_mem hm (h.mem_iff.1 (at_ne e))).symm
theorem canon_good {S L : List Sp} (hc : Canon S L) (ho : Once S) : Good L :=
  ⟨hc.2, (hc.1.map place).nodup_iff.2 ho, fun s hs => (mem_pos.1 (hc.1.mem_iff.1 hs)).2⟩
theorem canon_at {S L : List Sp} (hc : Canon S L) (hn : (S.map place).Nodup) (hp : ∀ s ∈ S, 0 ≤ s.2.2) (x y : Int) : atL L x y = atL S x y := by
  rw [at_perm hc.1 (canon_good hc (once_of hn)).2.1, pos_at hn hp]
theorem nodup_of_map {α β : Type} (f : α → β) {l : List α} (h : (l.map f).Nodup) : l.Nodup := by
  unfold List.Nodup at *
  exact (List.pairwise_map.1 h).imp fun hab e => hab (by rw [e])
theorem good_mem {L M : List Sp} (hL : Good L) (hM : Good M) (h : ∀ x y, atL L x y = atL M x y) (s : Sp) (hs : s ∈ L) : s ∈ M := by
  have e := at_mem hL.2.1 hs
  have p := hL.2.2 s hs
  rw [h] at e
  have := at_ne (L := M) (x := s.2.1) (y := s.1) (by omega)
  rw [e] at this
  exact this
theorem lex3 {a b : Sp} (h1 : HT.lexLt (toL b) (toL a) = false) (h2 : HT.lexLt (toL a) (toL b) = false) : a = b := by
  obtain ⟨a1, a2, a3⟩ := a
  obtain ⟨b1, b2, b3⟩ := b
  have e : ∀ x1 x2 x3 y1 y2 y3 : Int, HT.lexLt (toL (x1, x2, x3)) (toL (y1, y2, y3)) = if x1 = y1 then (if x2 = y2 then (if x3 = y3 then false else decide (x3 < y3)) else decide (x2 < y2)) else decide (x1 < y1) := fun _ _ _ _ _ _ => rfl
  rw [e] at h1 h2
  by_cases e1 : a1 = b1
  · subst e1
    by_cases e2 : a2 = b2
    · subst e2
      by_cases e3 : a3 = b3
      · subst e3; rfl
      · simp only [if_true, if_neg e3, if_neg (Ne.symm e3), decide_eq_false_iff_not] at h1 h2
        omega
    · simp only [if_true, if_neg e2, if_neg (Ne.symm e2), decide_eq_false_iff_not] at h1 h2
      omega
  · simp only [if_neg e1, if_neg (Ne.symm e1), decide_eq_false_iff_not] at h1 h2
    omega
theorem perm_of_mem {α : Type} [DecidableEq α] {l m : List α} (hl : l.Nodup) (hm : m.Nodup) (h : ∀ x, x ∈ l ↔ x ∈ m) : l.Perm m := by
  rw [List.perm_iff_count]
  intro a
  rw [hl.count, hm.count]
  by_cases e : a ∈ l
  · rw [if_pos e, if_pos ((h a).1 e)]
  · rw [if_neg e, if_neg fun z => e ((h a).2 z)]
theorem good_uniq {L M : List Sp} (hL : Good L) (hM : Good M) (h : ∀ x y, atL L x y = atL M x y) : L = M :=
  List.Perm.eq_of_pairwise (fun a b _ _ h1 h2 => lex3 h1 h2) hL.1 hM.1
    (perm_of_mem (nodup_of_map place hL.2.1) (nodup_of_map place hM.2.1) fun x => ⟨good_mem hL hM h x, good_mem hM hL (fun x y => (h x y).symm) x⟩)
theorem good_perm {L T : List Sp} (hL : Good L) (hT : Tt T) (h : ∀ x y, atL L x y = atL T x y) : L.Perm (posS T) := by
  have hn : ((posS T).map place).Nodup := hT.1.sublist (List.filter_sublist.map _)
  refine perm_of_mem (nodup_of_map place hL.2.1) (nodup_of_map place hn) fun s => ⟨fun hs => ?_, fun hs => ?_⟩
  · have e := at_mem hL.2.1 hs
    have p := hL.2.2 s hs
    rw [h] at e
    have := at_ne (L := T) (x := s.2.1) (y := s.1) (by omega)
    rw [e] at this
    exact mem_pos.2 ⟨this, p⟩
  · obtain ⟨a, b⟩ := mem_pos.1 hs
    have e := at_mem hT.1 a
    rw [← h] at e
    have := at_ne (L := L) (x := s.2.1) (y := s.1) (by omega)
    rw [e] at this
    exact this
theorem leastI_spec : ∀ (ns : List Int) (n : Int), leastI n ns ∈ n :: ns ∧ ∀ m ∈ n :: ns, leastI n ns ≤ m
  | [], n => ⟨List.mem_cons_self, fun m hm => by rw [List.mem_singleton.1 hm]; exact Int.le_refl _⟩
  | k :: r, n => by
    have ih := leastI_spec r (if k < n then k else n)
    show leastI (if k < n then k else n) r ∈ _ ∧ ∀ m ∈ _, leastI (if k < n then k else n) r ≤ m
    generalize leastI (if k < n then k else n) r = z at ih
    constructor
    · have := ih.1
      rcases List.mem_cons.1 this with h | h
      · split at h
        · rw [h]; exact List.mem_cons_of_mem _ List.mem_cons_self
        · rw [h]; exact List.mem_cons_self
      · exact List.mem_cons_of_mem _ (List.mem_cons_of_mem _ h)
    · intro m hm
      have h0 := ih.2 _ List.mem_cons_self
      rcases List.mem_cons.1 hm with rfl | hm
      · split at h0 <;> omega
      · rcases List.mem_cons.1 hm with rfl | hm
        · split at h0 <;> omega
        · exact ih.2 m (List.mem_cons_of_mem _ hm)
theorem mostI_spec : ∀ (ns : List Int) (n : Int), mostI n ns ∈ n :: ns ∧ ∀ m ∈ n :: ns, m ≤ mostI n ns
  | [], n => ⟨List.mem_cons_self, fun m hm => by rw [List.mem_singleton.1 hm]; exact Int.le_refl _⟩
  | k :: r, n => by
    have ih := mostI_spec r (if k > n then k else n)
    show mostI (if k > n then k else n) r ∈ _ ∧ ∀ m ∈ _, m ≤ mostI (if k > n then k else n) r
    generalize mostI (if k > n then k else n) r = z at ih
    constructor
    · have := ih.1
      rcases List.mem_cons.1 this with h | h
      · split at h
        · rw [h]; exact List.mem_cons_of_mem _ List.mem_cons_self
        · rw [h]; exact List.mem_cons_self
      · exact List.mem_cons_of_mem _ (List.mem_cons_of_mem _ h)
    · intro m hm
      have h0 := ih.2 _ List.mem_cons_self
      rcases List.mem_cons.1 hm with rfl | hm
      · split at h0 <;> omega
      · rcases List.mem_cons.1 hm with rfl | hm
        · split at h0 <;> omega
        · exact ih.2 m (List.mem_cons_of_mem _ hm)
theorem least_perm {n m : Int} {ns ms : List Int} (h : (n :: ns).Perm (m :: ms)) : leastI n ns = leastI m ms := by
  have a := leastI_spec ns n
  have b := leastI_spec ms m
  have h1 := a.2 _ (h.mem_iff.2 b.1)
  have h2 := b.2 _ (h.mem_iff.1 a.1)
  omega
theorem most_perm {n m : Int} {ns ms : List Int} (h : (n :: ns).Perm (m :: ms)) : mostI n ns = mostI m ms := by
  have a := mostI_spec ns n
  have b := mostI_spec ms m
  have h1 := a.2 _ (h.mem_iff.2 b.1)
  have h2 := b.2 _ (h.mem_iff.1 a.1)
  omega
theorem box_perm {L M : List Sp} (h : L.Perm M) : boxL L = boxL M := by
  cases L with
  | nil =>
    have := h.length_eq
    cases M with
    | nil => rfl
    | cons t r => simp at this
  | cons s r =>
    cases M with
    | nil => have := h.length_eq; simp at this
    | cons t q =>
      have hx := h.map (·.2.1)
      have hy := h.map (·.1)
      simp only [List.map_cons] at hx hy
      unfold boxL
      simp only
      rw [least_perm hx, least_perm hy, most_perm hx, most_perm hy]
/-! frames: all stands, but dicts may be locked, and new things may stand -/
def Lk (H H' : MH) : Prop := ∀ x, H x ≠ none → H' x = H x ∨ ∃ kvs, (H x = some (.dt kvs) ∨ ∃ o us, H x = some (.ldt o us kvs)) ∧ ∃ o us, H' x = some (.ldt o us kvs)
theorem Lk.refl {H : MH} : Lk H H := fun _ _ => .inl rfl
theorem Lk.trans {H H1 H2 : MH} (a : Lk H H1) (b : Lk H1 H2) : Lk H H2 := fun x hx => by
  rcases a x hx with e | ⟨kvs, c, o, us, e⟩
  · rcases b x (by rw [e]; exact hx) with e2 | ⟨kvs, c, o, us, e2⟩
    · exact .inl (e2.trans e)
    · rw [e] at c
      exact .inr ⟨kvs, c, o, us, e2⟩
  · rcases b x (by rw [e]; simp) with e2 | ⟨kvs2, c2, o2, us2, e2⟩
    · exact .inr ⟨kvs, c, o, us, e2.trans e⟩
    · rcases c2 with c2 | ⟨o3, us3, c2⟩
      · rw [e] at c2; cases c2
      · rw [e] at c2; cases c2
        exact .inr ⟨kvs, c, o2, us2, e2⟩
theorem Lk.new {H : MH} {p : Addr} {o : MO} (h : H p = none) : Lk H (updM H p o) := fun x hx => .inl (updM_ne fun e => hx (e ▸ h))
theorem Lk.grow {H H' : MH} (h : ∀ x, H x ≠ none → H' x = H x) : Lk H H' := fun x hx => .inl (h x hx)
theorem Lk.lock {H : MH} {p : Addr} {o : Obj} {us : List (List Key × V)} {kvs : List (List Key × D)} (h : H p = some (.dt kvs)) : Lk H (updM H p (.ldt o us kvs)) := fun x hx => by
  by_cases e : x = p
  · subst e
    exact .inr ⟨kvs, .inl h, o, us, updM_same⟩
  · exact .inl (updM_ne e)
theorem Lk.rd {H H' : MH} {p : Addr} {kvs : List (List Key × D)} (l : Lk H H') (h : dtRd H p = some kvs) : dtRd H' p = some kvs := by
  unfold dtRd at h
  have hx : H p ≠ none := fun e => by rw [e] at h; cases h
  rcases l p hx with e | ⟨kvs2, c, o, us, e⟩
  · unfold dtRd; rw [e]; exact h
  · unfold dtRd; rw [e]
    rcases c with c | ⟨o2, us2, c⟩
    · rw [c] at h; exact h
    · rw [c] at h; exact h
theorem Lk.at_ {H H' : MH} {p : Addr} {o : MO} (l : Lk H H') (h : H p = some o) (h1 : ∀ kvs, o ≠ .dt kvs := by intro _ z; cases z) (h2 : ∀ o1 us kvs, o ≠ .ldt o1 us kvs := by intro _ _ _ z; cases z) : H' p = some o := by
  rcases l p (by rw [h]; simp) with e | ⟨kvs, c | ⟨o2, us2, c⟩, _⟩
  · rw [e]; exact h
  · rw [h] at c; cases c; exact absurd rfl (h1 _)
  · rw [h] at c; cases c; exact absurd rfl (h2 _ _ _)
theorem Lk.cov {H H' : MH} {p : Addr} {L : List Sp} (l : Lk H H') (h : CovAt H p L) : CovAt H' p L := by
  obtain ⟨tp, a, b⟩ := h
  exact ⟨tp, l.at_ a, l.rd b⟩
/-- a coverage of these values -/
def CovF (n : Nat) (H : MH) (p : Addr) (f : Vf) : Prop := ∃ L, CovAt H p L ∧ L.length ≤ n ∧ Good L ∧ Val L f
/-- a table of these values -/
def TabF (n : Nat) (H : MH) (p : Addr) (f : Vf) : Prop := ∃ T, dtRd H p = some (tbD T) ∧ T.length ≤ n ∧ Tt T ∧ Val T f
/-- values from 0 to 255 -/
def Rg (f : Vf) : Prop := ∀ x y, 0 ≤ f x y ∧ f x y ≤ 255
theorem Lk.covF {n : Nat} {H H' : MH} {p : Addr} {f : Vf} (l : Lk H H') (h : CovF n H p f) : CovF n H' p f := by
  obtain ⟨L, a, b⟩ := h
  exact ⟨L, l.cov a, b⟩
theorem Lk.tabF {n : Nat} {H H' : MH} {p : Addr} {f : Vf} (l : Lk H H') (h : TabF n H p f) : TabF n H' p f := by
  obtain ⟨T, a, b⟩ := h
  exact ⟨T, l.rd a, b⟩
theorem TabF.rg {n : Nat} {H : MH} {p : Addr} {f : Vf} (h : TabF n H p f) : Rg f := by
  obtain ⟨T, _, _, ⟨_, c⟩, v⟩ := h
  exact fun x y => by
    rw [← v]
    exact ⟨at_pos (fun s hs => (c s hs).1) x y, at_le (fun s hs => (c s hs).2) x y⟩
/-- a new coverage, told by its values -/
theorem new_val {S : List Sp} {f : Vf} {n : Nat} {H : MH} {Q : DK} (hn : (S.map place).Nodup) (hp : ∀ s ∈ S, 0 ≤ s.2.2) (hv : ∀ x y, atL S x y = f x y) (hl : S.length ≤ n)
    (q : ∀ p H', H p = none → CovF n H' p f → Lk H H' → Q (.ref p) H') : newCov H S Q := by
  intro p L H' h0 hc hv2 hg
  refine q p H' h0 ⟨L, hv2, ?_, canon_good hc (once_of hn), fun x y => (canon_at hc hn hp x y).trans (hv x y)⟩ (Lk.grow hg)
  rw [hc.1.length_eq]
  exact Nat.le_trans (List.length_filter_le _ _) hl
/-! walking tables -/
def keysOf (kvs : List (List Key × D)) : List D := kvs.map fun kv => .tup (kv.1.map keyE)
theorem itW_tab {H : MH} {p : Addr} {kvs : List (List Key × D)} {Q : List D → (MH → Prop) → MH → Prop} (h : dtRd H p = some kvs)
    (q : ∀ H1, Lk H H1 → (∀ x, x ≠ p → H1 x = H x) → dtRd H1 p = some kvs → Q (keysOf kvs) (fun H' => H' p = H1 p) H1) : itW H (.ref p) Q := by
  rw [itW_ref]
  rcases dtRd_or h with e | ⟨o, us, e⟩
  · rw [e]
    intro o us
    have := q (updM H p (.ldt o us kvs)) (Lk.lock e) (fun x hx => updM_ne hx) (dtRd_ldt updM_same)
    rw [updM_same] at this
    exact this
  · rw [e]
    have := q H Lk.refl (fun _ _ => rfl) h
    rw [e] at this
    exact this
theorem lcd_pure {H : MH} {p : Addr} {kvs : List (List Key × D)} {Q : DK} {run : List D → (MH → Prop) → MH → DK → Prop} (v : D) (h : dtRd H p = some kvs)
    (hr : ∀ H1 (keep : MH → Prop) (Q1 : DK), Lk H H1 → (∀ x, x ≠ p → H1 x = H x) → dtRd H1 p = some kvs → keep H1 → Q1 v H1 → run (keysOf kvs) keep H1 Q1) (q : Q v H) : lcdR H p Q run (H p) := by
  rcases dtRd_or h with e | ⟨o, us, e⟩
  · rw [e]
    intro o us
    refine hr (updM H p (.ldt o us kvs)) _ _ (Lk.lock e) (fun x hx => updM_ne hx) (dtRd_ldt updM_same) updM_same ⟨updM_same, ?_⟩
    have : updM (updM H p (.ldt o us kvs)) p (.dt kvs) = H := by
      rw [updM_two]
      funext b
      by_cases eb : b = p
      · rw [eb, updM_same, e]
      · rw [updM_ne eb]
    rw [this]; exact q
  · rw [e]
    exact hr H _ _ Lk.refl (fun _ _ => rfl) h e q
def maxS (L M : List Sp) : List Sp := L.map fun s => (s.1, s.2.1, if atL M s.2.1 s.1 > s.2.2 then atL M s.2.1 s.1 else s.2.2)
def restS (L M : List Sp) : List Sp := M.filter fun s => decide (atL L s.2.1 s.1 = 0)
def orS (L M : List Sp) : List Sp := maxS L M ++ restS L M
theorem maxS_place (L M : List Sp) : (maxS L M).map place = L.map place := by unfold maxS; rw [List.map_map]; rfl
def c_Coverage___or__ : Ctr := fun ds H Q _ => ∃ (p r : Addr) (L M : List Sp), ds = [.ref p, .ref r] ∧ CovAt H p L ∧ CovAt H r M ∧ L.length ≤ 40000 ∧ M.length ≤ 40000 ∧ ((orS L M).map place).Nodup ∧ newCov H (orS L M) Q
theorem k_Coverage___or__ (G : Gm) (g1 : G.fn "Coverage.at" = some (3, c_Coverage_at)) (g2 : G.fn "Coverage.__init__" = some (2, c_Coverage___init__)) (go : G.ob = obf) : ∀ ds H Q E, c_Coverage___or__ ds H Q E → wpF G N_Coverage___or__ b_Coverage___or__ ds H Q E := by
  rintro ds H Q E ⟨p, r, L, M, rfl, hL, hM, hl, hm, hn, q⟩
  obtain ⟨tp, h1, h2⟩ := id hL
  obtain ⟨tr, h3, h4⟩ := id hM
  have hz : (L.map spD).length ≤ sizeLine := by rw [List.length_map, sizeLine_eq]; omega
  have em : (maxS L M).map spD = (L.map spD).map (fun d => match d with | .tup [.int x, .int y, .int k] => .tup [.int x, .int y, .int (if atL M x y > k then atL M x y else k)] | d => d) := by
    unfold maxS; rw [List.map_map, List.map_map]; rfl
  have hz2 : ((maxS L M).map spD).length ≤ sizeLine := by unfold maxS; rw [List.length_map, List.length_map, sizeLine_eq]; omega
  refine wpF_ss (st_Coverage___or__ _ _) (wp_hold ?_)
  repeat' (first | (refine ⟨_, _, _, _, _, ins_ref h1, ob_of go rfl, rfl, rfl, ?_⟩) | (refine hold_lc ?_) | walk_at "stepN")
  refine hold_of (lcL_map (fun d => match d with | .tup [.int x, .int y, .int k] => .tup [.int x, .int y, .int (if atL M x y > k then atL M x y else k)] | d => d) trivial ?_ ?_)
  · intro x hx Q' hq
    obtain ⟨v, hv, rfl⟩ := List.mem_map.1 hx
    repeat' (first | exact hq | (refine ⟨⟨_, _, ins_ref h3, rfl⟩, ?_⟩) | (refine ⟨_, _, g1, rfl, r, M, _, _, rfl, hM, ?_⟩) | walk_at "stepN")
  · rw [← em]
    refine ⟨hz2, ?_⟩
    intro a ha
    have lk : ∀ o, Lk H (updM H a o) := fun o => Lk.new ha
    walk_at "nxt"
    have h3' : ∀ o, updM H a o r = some (.ins "Coverage" ["spots", "_table"] [.tup (M.map spD), .ref tr]) := fun o => (lk o).at_ h3
    have h1' : ∀ o, updM H a o p = some (.ins "Coverage" ["spots", "_table"] [.tup (L.map spD), .ref tp]) := fun o => (lk o).at_ h1
    repeat' (first | (refine ⟨_, _, _, _, _, ins_ref (h3' _), ob_of go rfl, rfl, rfl, ?_⟩) | (refine hold_lp ?_) | walk_at "stepN")
    refine hold_of (loopL_ix (fun i σ H2 => ∃ x y k : Option D, σ = [some (.ref p), some (.ref r), some (.ref a), x, y, k] ∧ H2 = updM H a (.lst ((maxS L M ++ restS L (M.take i)).map spD))) 0 (fun _ _ _ _ => trivial) ?_ ⟨_, _, _, rfl, ?_⟩ ?_)
    · rintro i x hx σ H2 Q' ⟨x1, y1, k1, rfl, rfl⟩ hq
      rw [List.getElem?_map] at hx
      obtain ⟨v, hv, rfl⟩ := Option.map_eq_some_iff.1 hx
      have hi : i < M.length := (List.getElem?_eq_some_iff.1 hv).1
      have tk : restS L (M.take (0 + i + 1)) = restS L (M.take (0 + i)) ++ if atL L v.2.1 v.1 = 0 then [v] else [] := by
        rw [Nat.zero_add, List.take_succ, hv]
        unfold restS
        rw [List.filter_append]
        congr 1
        show List.filter _ [v] = _
        rw [List.filter_cons]
        by_cases h : atL L v.2.1 v.1 = 0
        · rw [if_pos h, if_pos (decide_eq_true h)]; rfl
        · rw [if_neg h, if_neg (by rw [decide_eq_true_eq]; exact h)]; rfl
      have hc := (lk (.lst ((maxS L M ++ restS L (M.take (0 + i))).map spD))).cov hL
      have hlen : ((maxS L M ++ restS L (M.take (0 + i))).map spD).length < sizeLine := by
        have a1 : (restS L (M.take (0 + i))).length ≤ (M.take (0 + i)).length := List.length_filter_le _ _
        have a2 : (M.take (0 + i)).length ≤ M.length := by rw [List.length_take]; omega
        rw [List.length_map, List.length_append, sizeLine_eq]
        unfold maxS; rw [List.length_map]; omega
      by_cases h : atL L v.2.1 v.1 = 0
      · rw [if_pos h] at tk
        repeat' (first | (refine ⟨⟨_, _, ins_ref (h1' _), rfl⟩, ?_⟩) | (refine ⟨_, _, g1, rfl, p, L, _, _, rfl, hc, ?_⟩) | (refine br_pos h ?_) | (refine ⟨_, updM_same, hlen, ?_⟩) | walk_at "stepN")
        refine hq _ _ ⟨_, _, _, rfl, ?_⟩
        rw [updM_two, tk, ← List.append_assoc]
        simp only [List.map_append]
        rfl
      · rw [if_neg h, List.append_nil] at tk
        repeat' (first | (refine ⟨⟨_, _, ins_ref (h1' _), rfl⟩, ?_⟩) | (refine ⟨_, _, g1, rfl, p, L, _, _, rfl, hc, ?_⟩) | (refine br_neg h ?_) | walk_at "stepN")
        refine hq _ _ ⟨_, _, _, rfl, ?_⟩
        rw [tk]
    · show _ = updM H a (.lst ((maxS L M ++ []).map spD))
      rw [List.append_nil]
    · rintro σ H2 ⟨x1, y1, k1, rfl, rfl⟩
      have el : 0 + (M.map spD).length = M.length := by rw [Nat.zero_add, List.length_map]
      rw [el, List.take_length]
      walk_at "nxt"
      have hsq : seqAt (updM H a (.lst ((orS L M).map spD))) (.ref a) = some ((orS L M).map spD) := seqAt_ref updM_same
      have hlo : (orS L M).length ≤ 100000 := by
        have a1 : (restS L M).length ≤ M.length := List.length_filter_le _ _
        unfold orS; rw [List.length_append]
        unfold maxS; rw [List.length_map]; omega
      repeat' (first | (refine ⟨_, _, g2, rfl, fun p' hp' => new_cov (sp := .ref a) hsq hlo (once_of hn) (fun p2 L2 H2 b1 b2 b3 b4 => Rt.now (q p2 L2 H2 ?_ b2 b3 fun x hx => ?_)) p' hp'⟩) | walk_at "stepN")
      · have ne : p2 ≠ a := fun e => by rw [e, updM_same] at b1; cases b1
        rw [updM_ne ne] at b1; exact b1
      · have ne : x ≠ a := fun e => hx (e ▸ ha)
        rw [b4 x (by rw [updM_ne ne]; exact hx), updM_ne ne]
/-! values of what is made -/
def mapS (h : Int → Int → Int → Int) (L : List Sp) : List Sp := L.map fun s => (s.1, s.2.1, h s.2.1 s.1 s.2.2)
theorem mapS_place (h : Int → Int → Int → Int) (L : List Sp) : (mapS h L).map place = L.map place := by unfold mapS; rw [List.map_map]; rfl
theorem find_mapS (h : Int → Int → Int → Int) (L : List Sp) (x y : Int) : findS (mapS h L) x y = (findS L x y).map (h x y) := by
  induction L with
  | nil => rfl
  | cons s r ih =>
    have e : mapS h (s :: r) = (s.1, s.2.1, h s.2.1 s.1 s.2.2) :: mapS h r := rfl
    rw [e]
    unfold findS at ih ⊢
    rw [List.find?_cons, List.find?_cons]
    simp only
    by_cases c : s.2.1 = x ∧ s.1 = y
    · rw [c.1, c.2]; simp
    · have c : (decide (s.2.1 = x) && decide (s.1 = y)) = false := by simpa using c
      rw [c]
      exact ih
theorem find_app (A B : List Sp) (x y : Int) : findS (A ++ B) x y = (findS A x y).or (findS B x y) := by
  unfold findS
  rw [List.find?_append]
  cases List.find? (fun s : Sp => decide (s.2.1 = x) && decide (s.1 = y)) A <;> rfl
theorem find_rest (L M : List Sp) (x y : Int) : findS (restS L M) x y = if atL L x y = 0 then findS M x y else none := by
  induction M with
  | nil => show none = _; split <;> rfl
  | cons s r ih =>
    have e : restS L (s :: r) = if atL L s.2.1 s.1 = 0 then s :: restS L r else restS L r := by
      unfold restS
      rw [List.filter_cons]
      by_cases h : atL L s.2.1 s.1 = 0
      · rw [if_pos (decide_eq_true h), if_pos h]
      · rw [if_neg (by simpa using h), if_neg h]
    have c2 : ∀ q : List Sp, findS (s :: q) x y = if s.2.1 = x ∧ s.1 = y then some s.2.2 else findS q x y := fun q => by
      unfold findS
      rw [List.find?_cons]
      by_cases c : s.2.1 = x ∧ s.1 = y
      · rw [if_pos c, show (decide (s.2.1 = x) && decide (s.1 = y)) = true by simpa using c]; rfl
      · rw [if_neg c, show (decide (s.2.1 = x) && decide (s.1 = y)) = false by simpa using c]
    rw [e, c2]
    by_cases c : s.2.1 = x ∧ s.1 = y
    · rw [if_pos c, c.1, c.2]
      by_cases h : atL L x y = 0
      · rw [if_pos h, if_pos h, c2, if_pos c]
      · rw [if_neg h, if_neg h, ih, if_neg h]
    · rw [if_neg c]
      split
      · rw [c2, if_neg c, ih]
      · exact ih
theorem find_none {L : List Sp} {x y : Int} (h : findS L x y = none) : (x, y) ∉ L.map place := fun hm => by
  obtain ⟨s, hs, e⟩ := List.mem_map.1 hm
  have e1 : s.2.1 = x := congrArg Prod.fst e
  have e2 : s.1 = y := congrArg Prod.snd e
  unfold findS at h
  rw [Option.map_eq_none_iff, List.find?_eq_none] at h
  have := h s hs
  rw [e1, e2] at this
  simp at this
def maxF (f g : Vf) : Vf := fun x y => if g x y > f x y then g x y else f x y
def minF (f g : Vf) : Vf := fun x y => if g x y < f x y then g x y else f x y
def lessF (f g : Vf) : Vf := fun x y => if 255 - g x y < f x y then 255 - g x y else f x y
theorem Rg.max {f g : Vf} (a : Rg f) (b : Rg g) : Rg (maxF f g) := fun x y => by
  have := a x y; have := b x y; unfold maxF; split <;> omega
theorem Rg.min {f g : Vf} (a : Rg f) (b : Rg g) : Rg (minF f g) := fun x y => by
  have := a x y; have := b x y; unfold minF; split <;> omega
theorem Rg.less {f g : Vf} (a : Rg f) (b : Rg g) : Rg (lessF f g) := fun x y => by
  have := a x y; have := b x y; unfold lessF; split <;> omega
theorem atL_of {L : List Sp} {x y : Int} : atL L x y = (findS L x y).getD 0 := rfl
theorem Good.nn {L : List Sp} (h : Good L) : ∀ s ∈ L, 0 ≤ s.2.2 := fun s hs => Int.le_of_lt (h.2.2 s hs)
section
variable {n m : Nat} {H : MH} {p r : Addr} {f g : Vf} {Q : DK} {E : XDK}
theorem or_val (hL : CovF n H p f) (hM : CovF m H r g) (hn : n ≤ 40000) (hm : m ≤ 40000) (q : ∀ p' H', H p' = none → CovF (n + m) H' p' (maxF f g) → Lk H H' → Q (.ref p') H') : c_Coverage___or__ [.ref p, .ref r] H Q E := by
  obtain ⟨L, a1, a2, a3, a4⟩ := hL
  obtain ⟨M, b1, b2, b3, b4⟩ := hM
  have hnd : ((orS L M).map place).Nodup := by
    unfold orS
    rw [List.map_append, maxS_place, List.nodup_append]
    refine ⟨a3.2.1, b3.2.1.sublist (List.filter_sublist.map _), ?_⟩
    rintro u hu v hv rfl
    obtain ⟨s, hs, rfl⟩ := List.mem_map.1 hu
    obtain ⟨t, ht, e⟩ := List.mem_map.1 hv
    obtain ⟨ht, c⟩ := List.mem_filter.1 ht
    rw [decide_eq_true_eq] at c
    unfold place at e
    have e1 : t.2.1 = s.2.1 := (Prod.mk.inj e).1
    have e2 : t.1 = s.1 := (Prod.mk.inj e).2
    rw [e1, e2, at_mem a3.2.1 hs] at c
    have := a3.2.2 s hs
    omega
  refine ⟨p, r, L, M, rfl, a1, b1, by omega, by omega, hnd, new_val hnd ?_ (fun x y => ?_) ?_ q⟩
  · intro s hs
    unfold orS at hs
    rcases List.mem_append.1 hs with hs | hs
    · unfold maxS at hs
      obtain ⟨t, ht, rfl⟩ := List.mem_map.1 hs
      have := a3.2.2 t ht
      show (0 : Int) ≤ if atL M t.2.1 t.1 > t.2.2 then atL M t.2.1 t.1 else t.2.2
      split <;> omega
    · exact b3.nn s (List.mem_filter.1 hs).1
  · have e : maxS L M = mapS (fun x y k => if atL M x y > k then atL M x y else k) L := rfl
    unfold orS
    rw [atL_of, find_app, e, find_mapS, find_rest]
    unfold maxF
    rw [← a4, ← b4]
    cases c : findS L x y with
    | none =>
      have hz : atL L x y = 0 := by rw [atL_of, c]; rfl
      rw [if_pos hz, hz]
      show (findS M x y).getD 0 = _
      rw [← atL_of]
      have := at_pos b3.nn x y
      split <;> omega
    | some k =>
      have hz : atL L x y = k := by rw [atL_of, c]; rfl
      rw [hz]; rfl
  · have : (restS L M).length ≤ M.length := List.length_filter_le _ _
    unfold orS maxS
    rw [List.length_append, List.length_map]; omega
theorem map_val {S : List Sp} {L : List Sp} {h : Int → Int → Int → Int} {v : Vf} (e : S = mapS h L) (hg : Good L) (hv : Val L f) (hl : L.length ≤ n) (h0 : ∀ x y k, 0 ≤ k → 0 ≤ h x y k) (hz : ∀ x y, f x y = 0 → v x y = 0) (hh : ∀ x y, h x y (f x y) = v x y)
    (q : ∀ p' H', H p' = none → CovF n H' p' v → Lk H H' → Q (.ref p') H') : newCov H S Q := by
  subst e
  refine new_val (by rw [mapS_place]; exact hg.2.1) ?_ (fun x y => ?_) (by unfold mapS; rw [List.length_map]; exact hl) q
  · intro s hs
    obtain ⟨t, ht, rfl⟩ := List.mem_map.1 hs
    exact h0 _ _ _ (hg.nn t ht)
  · rw [atL_of, find_mapS]
    cases c : findS L x y with
    | none =>
      have z : atL L x y = 0 := by rw [atL_of, c]; rfl
      rw [hz x y (by rw [← hv, z])]; rfl
    | some k =>
      have z : atL L x y = k := by rw [atL_of, c]; rfl
      rw [← hh, ← hv, z]; rfl
theorem and_val (hL : CovF n H p f) (hM : CovF m H r g) (hn : n ≤ 100000) (q : ∀ p' H', H p' = none → CovF n H' p' (minF f g) → Lk H H' → Q (.ref p') H') : c_Coverage___and__ [.ref p, .ref r] H Q E := by
  obtain ⟨L, a1, a2, a3, a4⟩ := hL
  obtain ⟨M, b1, b2, b3, b4⟩ := hM
  refine ⟨p, r, L, M, rfl, a1, b1, by omega, a3.2.1, map_val (h := fun x y k => if atL M x y < k then atL M x y else k) rfl a3 a4 a2 ?_ ?_ ?_ q⟩
  · intro x y k hk
    have := at_pos b3.nn x y
    show (0 : Int) ≤ if atL M x y < k then atL M x y else k
    split <;> omega
  · intro x y h
    have := at_pos b3.nn x y
    rw [b4] at this
    unfold minF
    rw [h]
    split <;> omega
  · intro x y
    show (if atL M x y < f x y then atL M x y else f x y) = _
    rw [b4]; rfl
theorem sub_val (hL : CovF n H p f) (hM : CovF m H r g) (hn : n ≤ 100000) (hg : Rg g) (q : ∀ p' H', H p' = none → CovF n H' p' (lessF f g) → Lk H H' → Q (.ref p') H') : c_Coverage___sub__ [.ref p, .ref r] H Q E := by
  obtain ⟨L, a1, a2, a3, a4⟩ := hL
  obtain ⟨M, b1, b2, b3, b4⟩ := hM
  refine ⟨p, r, L, M, rfl, a1, b1, by omega, a3.2.1, map_val (h := fun x y k => if 255 - atL M x y < k then 255 - atL M x y else k) rfl a3 a4 a2 ?_ ?_ ?_ q⟩
  · intro x y k hk
    have := hg x y
    show (0 : Int) ≤ if 255 - atL M x y < k then 255 - atL M x y else k
    rw [b4]
    split <;> omega
  · intro x y h
    have := hg x y
    unfold lessF
    rw [h]
    split <;> omega
  · intro x y
    show (if 255 - atL M x y < f x y then 255 - atL M x y else f x y) = _
    rw [b4]; rfl
end
abbrev inR (x0 y0 x1 y1 x y : Int) : Prop := x0 ≤ x ∧ x < x1 ∧ y0 ≤ y ∧ y < y1
def turnF (x0 y0 x1 y1 : Int) (f : Vf) : Vf := fun x y => if inR x0 y0 x1 y1 x y then 255 - f x y else 0
def rectF (x0 y0 x1 y1 k : Int) : Vf := fun x y => if inR x0 y0 x1 y1 x y then k else 0
theorem Rg.turn {x0 y0 x1 y1 : Int} {f : Vf} (a : Rg f) : Rg (turnF x0 y0 x1 y1 f) := fun x y => by
  have := a x y; unfold turnF; split <;> omega
theorem rect_mem {x0 y0 x1 y1 : Int} {f : Vf} {x y k : Int} : (y, x, k) ∈ rectS x0 y0 x1 y1 f ↔ inR x0 y0 x1 y1 x y ∧ k = f x y := by
  unfold rectS
  rw [List.mem_flatMap]
  constructor
  · rintro ⟨j, hj, h⟩
    obtain ⟨i, hi, e⟩ := List.mem_map.1 h
    rw [List.mem_range] at hj hi
    simp only [Prod.mk.injEq] at e
    obtain ⟨rfl, rfl, rfl⟩ := e
    exact ⟨⟨by omega, by omega, by omega, by omega⟩, rfl⟩
  · rintro ⟨⟨h1, h2, h3, h4⟩, rfl⟩
    refine ⟨(y - y0).toNat, List.mem_range.2 (by omega), List.mem_map.2 ⟨(x - x0).toNat, List.mem_range.2 (by omega), ?_⟩⟩
    have e1 : y0 + ((y - y0).toNat : Int) = y := by omega
    have e2 : x0 + ((x - x0).toNat : Int) = x := by omega
    rw [e1, e2]
theorem rect_at (x0 y0 x1 y1 : Int) (f : Vf) (x y : Int) : atL (rectS x0 y0 x1 y1 f) x y = if inR x0 y0 x1 y1 x y then f x y else 0 := by
  by_cases h : inR x0 y0 x1 y1 x y
  · rw [if_pos h]
    exact at_mem (s := (y, x, f x y)) (rectS_nodup _ _ _ _ _) (rect_mem.2 ⟨h, rfl⟩)
  · rw [if_neg h]
    refine at_out fun hm => h ?_
    obtain ⟨⟨b, a, k⟩, hs, e⟩ := List.mem_map.1 hm
    have e1 : a = x := congrArg Prod.fst e
    have e2 : b = y := congrArg Prod.snd e
    subst e1; subst e2
    exact (rect_mem.1 hs).1
theorem rect_len {x0 y0 x1 y1 : Int} {f : Vf} (h : small x0 y0 x1 y1) : (rectS x0 y0 x1 y1 f).length ≤ 10000 := by
  obtain ⟨hx, hy⟩ := h
  rw [rectS_length]
  exact Nat.le_trans (Nat.mul_le_mul (show (y1 - y0).toNat ≤ 100 by omega) (show (x1 - x0).toNat ≤ 100 by omega)) (by decide)
section
variable {n : Nat} {H : MH} {p : Addr} {f : Vf} {Q : DK} {E : XDK} {x0 y0 x1 y1 : Int}
theorem turn_val (hL : CovF n H p f) (hs : small x0 y0 x1 y1) (hf : Rg f) (q : ∀ p' H', H p' = none → CovF 10000 H' p' (turnF x0 y0 x1 y1 f) → Lk H H' → Q (.ref p') H') : c_Coverage_turned [.ref p, rectD x0 y0 x1 y1] H Q E := by
  obtain ⟨L, a1, a2, a3, a4⟩ := hL
  refine ⟨p, L, x0, y0, x1, y1, rfl, a1, hs, new_val (rectS_nodup _ _ _ _ _) ?_ (fun x y => ?_) (rect_len hs) q⟩
  · rintro ⟨b, a, k⟩ h
    obtain ⟨_, rfl⟩ := rect_mem.1 h
    have := hf a b
    show 0 ≤ 255 - atL L a b
    rw [a4]; omega
  · rw [rect_at, a4]; rfl
theorem of_rect_val {k : Int} (hs : small x0 y0 x1 y1) (hk : 0 ≤ k) (q : ∀ p' H', H p' = none → CovF 10000 H' p' (rectF x0 y0 x1 y1 k) → Lk H H' → Q (.ref p') H') : c_Coverage_of_rect [rectD x0 y0 x1 y1, .int k] H Q E := by
  refine ⟨x0, y0, x1, y1, k, rfl, hs, ?_⟩
  unfold ofS
  by_cases h : k = 0
  · rw [if_pos h]
    refine new_val (f := rectF x0 y0 x1 y1 k) List.nodup_nil (fun s hs => by cases hs) (fun x y => ?_) (Nat.zero_le _) q
    unfold rectF
    rw [h]; split <;> rfl
  · rw [if_neg h]
    refine new_val (rectS_nodup _ _ _ _ _) ?_ (fun x y => ?_) (rect_len hs) q
    · rintro ⟨b, a, k'⟩ h
      obtain ⟨_, rfl⟩ := rect_mem.1 h
      exact hk
    · rw [rect_at]; rfl
theorem at_val {x y : Int} (hL : CovF n H p f) (q : Q (.int (f x y)) H) : c_Coverage_at [.ref p, .int x, .int y] H Q E := by
  obtain ⟨L, a1, a2, a3, a4⟩ := hL
  exact ⟨p, L, x, y, rfl, a1, by rw [a4]; exact q⟩
end
/-! tables that the law makes -/
def Tells (v : Vf) (P : List (Int × Int)) (U : List Sp) : Prop := (U.map place).Nodup ∧ (∀ z, z ∈ U.map place ↔ z ∈ P) ∧ (∀ s ∈ U, s.2.2 = v s.2.1 s.1) ∧ U.length ≤ P.length
theorem tells_nil {v : Vf} : Tells v [] [] := ⟨List.nodup_nil, (fun _ => Iff.rfl), (fun _ h => absurd h List.not_mem_nil), Nat.le_refl _⟩
theorem tells_put {v : Vf} {P : List (Int × Int)} {U : List Sp} {x y : Int} (h : Tells v P U) : ∃ U', putD (tbD U) (keyP x y) (.int (v x y)) = tbD U' ∧ Tells v (P ++ [(x, y)]) U' := by
  obtain ⟨h1, h2, h3, h4⟩ := h
  by_cases c : (x, y) ∈ U.map place
  · refine ⟨U, ?_, h1, fun z => ?_, h3, by rw [List.length_append]; omega⟩
    · unfold putD
      obtain ⟨s, hs, e⟩ := List.mem_map.1 c
      unfold place at e
      obtain ⟨e1, e2⟩ := Prod.mk.inj e
      have ha : ((tbD U).any fun kv => decide (kv.1 = keyP x y)) = true := by
        rw [List.any_eq_true]
        exact ⟨_, List.mem_map.2 ⟨s, hs, rfl⟩, by rw [decide_eq_true_eq, keyP_eq]; exact ⟨e1, e2⟩⟩
      rw [if_pos ha]
      conv => rhs; rw [← List.map_id (tbD U)]
      refine List.map_congr_left fun kv hkv => ?_
      obtain ⟨t, ht, rfl⟩ := List.mem_map.1 hkv
      simp only
      split
      · rename_i hk
        obtain ⟨a, b⟩ := keyP_eq.1 hk
        rw [← a, ← b, ← h3 t ht]; rfl
      · rfl
    · rw [h2, List.mem_append, List.mem_singleton]
      refine ⟨fun m => .inl m, fun m => ?_⟩
      rcases m with m | rfl
      · exact m
      · exact (h2 _).1 c
  · refine ⟨U ++ [(y, x, v x y)], put_new (s := (y, x, v x y)) c, ?_, fun z => ?_, mem_snoc h3 rfl, ?_⟩
    · rw [List.map_append, List.nodup_append]
      refine ⟨h1, by simp, ?_⟩
      rintro a ha b hb rfl
      rw [List.map_cons, List.map_nil, List.mem_singleton] at hb
      rw [hb] at ha
      exact c ha
    · rw [List.map_append, List.mem_append, List.mem_append, h2]; rfl
    · rw [List.length_append, List.length_append]
      exact Nat.add_le_add h4 (Nat.le_refl _)
theorem tells_at {v : Vf} {P : List (Int × Int)} {U : List Sp} (h : Tells v P U) (x y : Int) (hz : (x, y) ∉ P → v x y = 0) : atL U x y = v x y := by
  by_cases c : (x, y) ∈ P
  · obtain ⟨s, hs, e⟩ := List.mem_map.1 ((h.2.1 _).2 c)
    unfold place at e
    obtain ⟨e1, e2⟩ := Prod.mk.inj e
    have := at_mem h.1 hs
    rw [h.2.2.1 s hs, e1, e2] at this
    exact this
  · rw [hz c]
    exact at_out fun m => c ((h.2.1 _).1 m)
theorem tells_tt {v : Vf} {P : List (Int × Int)} {U : List Sp} (h : Tells v P U) (hr : Rg v) : Tt U := ⟨h.1, fun s hs => by rw [h.2.2.1 s hs]; exact hr _ _⟩
def plD (z : Int × Int) : D := .tup [.int z.1, .int z.2]
theorem keys_tb (T : List Sp) : keysOf (tbD T) = (T.map place).map plD := by
  unfold keysOf tbD
  rw [List.map_map, List.map_map]; rfl
theorem dctRd {H : MH} {p : Addr} {T : List Sp} {f : Vf} (h : dtRd H p = some (tbD T)) (hv : Val T f) (x y : Int) : (valD (tbD T) (keyP x y)).getD (.int 0) = .int (f x y) := by
  rw [get_tb, hv]
theorem tb_len {T : List Sp} : (tbD T).length = T.length := by unfold tbD; rw [List.length_map]
def c__law_filled : Ctr := fun ds H Q _ => ∃ (x0 y0 x1 y1 k : Int), ds = [rectD x0 y0 x1 y1, .int k] ∧ small x0 y0 x1 y1 ∧ ∀ tp : Addr, H tp = none → Q (.ref tp) (updM H tp (.dt (tbD (rectS x0 y0 x1 y1 fun _ _ => k))))
theorem place_ne {s : Sp} {L : List Sp} (h : ∀ t ∈ L, t.2.1 = s.2.1 → t.1 = s.1 → False) : place s ∉ L.map place := fun m => by
  obtain ⟨t, ht, e⟩ := List.mem_map.1 m
  unfold place at e
  exact h t ht (Prod.mk.inj e).1 (Prod.mk.inj e).2
theorem k__law_filled (G : Gm) : ∀ ds H Q E, c__law_filled ds H Q E → wpF G N__law_filled b__law_filled ds H Q E := by
  rintro ds H Q E ⟨x0, y0, x1, y1, k, rfl, ⟨hx, hy⟩, q⟩
  refine wpF_ss (st__law_filled _ _) (wp_hold ?_)
  unfold rectD
  conv => whnf
  intro tp htp
  walk_at "nxt"
  repeat' (first | (refine hold_lp ?_) | walk_at "stepN")
  have hw : (x1 - x0).toNat ≤ 100 := by omega
  have hh : (y1 - y0).toNat ≤ 100 := by omega
  refine hold_of (loopL_ix (fun j σ H2 => ∃ a b : Option D, σ = [some (.tup [.int x0, .int y0, .int x1, .int y1]), some (.int k), some (.ref tp), a, b] ∧ H2 = updM H tp (.dt (tbD ((List.range j).flatMap fun (j : Nat) => (List.range (x1 - x0).toNat).map fun (i : Nat) => (y0 + (j : Int), x0 + (i : Int), k))))) 0 (fun _ _ _ _ => trivial) ?_ ⟨_, _, rfl, rfl⟩ ?_)
  · rintro j z hz σ H2 Q' ⟨a, b, rfl, rfl⟩ hq
    obtain ⟨hj2, rfl⟩ := rng_at hz
    rw [Nat.zero_add] at hq ⊢
    repeat' (first | (refine hold_lp ?_) | walk_at "stepN")
    refine hold_of (loopL_ix (fun i σ H2 => ∃ b : Option D, σ = [some (.tup [.int x0, .int y0, .int x1, .int y1]), some (.int k), some (.ref tp), some (.int (y0 + (j : Int))), b] ∧ H2 = updM H tp (.dt (tbD (((List.range j).flatMap fun (j : Nat) => (List.range (x1 - x0).toNat).map fun (i : Nat) => (y0 + (j : Int), x0 + (i : Int), k)) ++ (List.range i).map fun (i : Nat) => (y0 + (j : Int), x0 + (i : Int), k))))) 0 (fun _ _ _ _ => trivial) ?_ ⟨_, rfl, ?_⟩ ?_)
    · rintro i z hz σ H2 Q' ⟨b, rfl, rfl⟩ hq
      obtain ⟨hi2, rfl⟩ := rng_at hz
      rw [Nat.zero_add] at hq ⊢
      have hlen : (tbD (((List.range j).flatMap fun (j : Nat) => (List.range (x1 - x0).toNat).map fun (i : Nat) => (y0 + (j : Int), x0 + (i : Int), k)) ++ (List.range i).map fun (i : Nat) => (y0 + (j : Int), x0 + (i : Int), k))).length < sizeLine := by
        rw [tb_len, List.length_append, flatMap_len _ _ (x1 - x0).toNat fun j _ => by rw [List.length_map, List.length_range], List.length_map, List.length_range, List.length_range, sizeLine_eq]
        have := Nat.mul_le_mul (show j ≤ 100 by omega) hw
        omega
      repeat' (first | (refine ⟨tp, _, keyP (x0 + (i : Int)) (y0 + (j : Int)), rfl, rfl, updM_same, hlen, ?_⟩) | walk_at "stepN")
      refine hq _ _ ⟨_, rfl, ?_⟩
      rw [updM_two]
      have := put_new (L := ((List.range j).flatMap fun (j : Nat) => (List.range (x1 - x0).toNat).map fun (i : Nat) => (y0 + (j : Int), x0 + (i : Int), k)) ++ (List.range i).map fun (i : Nat) => (y0 + (j : Int), x0 + (i : Int), k)) (s := (y0 + (j : Int), x0 + (i : Int), k)) (place_ne ?_)
      · rw [this, List.range_succ, List.map_append, List.append_assoc]; rfl
      · intro t ht e1 e2
        rcases List.mem_append.1 ht with ht | ht
        · obtain ⟨j', hj', ht⟩ := List.mem_flatMap.1 ht
          obtain ⟨i', hi', rfl⟩ := List.mem_map.1 ht
          rw [List.mem_range] at hj'
          simp only at e2
          omega
        · obtain ⟨i', hi', rfl⟩ := List.mem_map.1 ht
          rw [List.mem_range] at hi'
          simp only at e1
          omega
    · show _ = updM H tp (.dt (tbD (_ ++ [])))
      rw [List.append_nil]
    · rintro σ H2 ⟨b, rfl, rfl⟩
      refine hq _ _ ⟨_, _, rfl, ?_⟩
      rw [Nat.zero_add, List.length_map, List.length_range, List.range_succ, List.flatMap_append, List.flatMap_singleton]
  · rintro σ H2 ⟨a, b, rfl, rfl⟩
    rw [Nat.zero_add, List.length_map, List.length_range]
    walk_at "nxt"
    repeat' (first | exact Rt.now (q tp htp) | walk_at "stepN")
theorem Val.out {T : List Sp} {f : Vf} (h : Val T f) {x y : Int} (m : (x, y) ∉ T.map place) : f x y = 0 := by rw [← h]; exact at_out m
theorem rect_place {x0 y0 x1 y1 : Int} {f : Vf} {x y : Int} : (x, y) ∈ (rectS x0 y0 x1 y1 f).map place ↔ inR x0 y0 x1 y1 x y := by
  constructor
  · intro m
    obtain ⟨⟨b, a, k⟩, hs, e⟩ := List.mem_map.1 m
    unfold place at e
    obtain ⟨e1, e2⟩ := Prod.mk.inj e
    simp only at e1 e2
    subst e1; subst e2
    exact (rect_mem.1 hs).1
  · intro h
    exact List.mem_map.2 ⟨(y, x, f x y), rect_mem.2 ⟨h, rfl⟩, rfl⟩
theorem dct_new {H : MH} {a p : Addr} {o : MO} {kvs : List (List Key × D)} (ha : H a = none) (h : dtRd H p = some kvs) : dtRd (updM H a o) p = some kvs := (Lk.new ha).rd h
theorem ne_rd {H : MH} {a p : Addr} {kvs : List (List Key × D)} (ha : H a = none) (h : dtRd H p = some kvs) : p ≠ a := fun e => by
  subst e
  unfold dtRd at h
  rw [ha] at h; cases h
theorem upd_self {H : MH} {a : Addr} {o : MO} (h : H a = some o) : H = updM H a o := by
  funext x
  by_cases e : x = a
  · rw [e, updM_same, h]
  · rw [updM_ne e]
theorem Lk.new2 {H H1 : MH} {a : Addr} {o : MO} (l : Lk H H1) (ha : H a = none) : Lk H (updM H1 a o) := fun x hx => by
  have ne : x ≠ a := fun e => hx (e ▸ ha)
  rw [updM_ne ne]
  exact l x hx
def c__law_turned : Ctr := fun ds H Q _ => ∃ (n : Nat) (tp : Addr) (f : Vf) (x0 y0 x1 y1 : Int), ds = [.ref tp, rectD x0 y0 x1 y1] ∧ TabF n H tp f ∧ small x0 y0 x1 y1 ∧ ∀ (a : Addr) (H' : MH) (T : List Sp), H a = none → dtRd H' a = some (tbD T) → T.length ≤ 10000 → Tt T → Val T (turnF x0 y0 x1 y1 f) → (∀ z, z ∈ T.map place ↔ inR x0 y0 x1 y1 z.1 z.2) → Lk H H' → Q (.ref a) H'
theorem k__law_turned (G : Gm) (g1 : G.fn "_law_filled" = some (2, c__law_filled)) (gw : ∀ i j, G.wt [.inl i, .inl j] = false) : ∀ ds H Q E, c__law_turned ds H Q E → wpF G N__law_turned b__law_turned ds H Q E := by
  rintro ds H Q E ⟨n, tp, f, x0, y0, x1, y1, rfl, hf, hs, q⟩
  have rf := hf.rg
  obtain ⟨T, t1, t2, t3, t4⟩ := hf
  refine wpF_ss (st__law_turned _ _) (wp_hold ?_)
  conv => whnf
  intro a ha
  walk_at "nxt"
  repeat' (first | (refine ⟨_, _, g1, rfl, _, _, _, _, _, rfl, hs, fun b hb => ?_⟩) | walk_at "stepN")
  have hb2 : H b = none := by rw [← updM_ne (H := H) (a := a) (o := .dt []) (fun e => by rw [e, updM_same] at hb; cases hb)]; exact hb
  have nab : a ≠ b := fun e => by rw [← e, updM_same] at hb; cases hb
  refine itW_tab (dtRd_dt updM_same) (fun H1 l1 o1 r1 => ?_)
  have lk : Lk H H1 := ((Lk.new ha).trans (Lk.new hb)).trans l1
  have h1a : H1 a = some (.dt (tbD [])) := by rw [o1 a nab, updM_ne nab, updM_same]; rfl
  rw [keys_tb]
  have nb : b ≠ a := Ne.symm nab
  refine loopL_ix (fun i σ H2 => ∃ (c : Option D) (U : List Sp), σ = [some (.ref tp), some (rectD x0 y0 x1 y1), some (.ref a), c] ∧ H2 = updM H1 a (.dt (tbD U)) ∧ Tells (turnF x0 y0 x1 y1 f) (((rectS x0 y0 x1 y1 fun _ _ => 0).map place).take i) U) 0 (fun _ _ _ h => by obtain ⟨c, U, _, rfl, _⟩ := h; exact updM_ne nb) ?_ ⟨_, [], rfl, ?_, tells_nil⟩ ?_
  · rintro i z hz σ H2 Q' ⟨c, U, rfl, rfl, hU⟩ hq
    rw [List.getElem?_map] at hz
    obtain ⟨⟨x, y⟩, hv, rfl⟩ := Option.map_eq_some_iff.1 hz
    rw [Nat.zero_add] at hq hU
    have hin : inR x0 y0 x1 y1 x y := rect_place.1 (List.mem_of_getElem? hv)
    have hlen : (tbD U).length < sizeLine := by
      have a1 := hU.2.2.2
      rw [List.length_take] at a1
      have a2 := rect_len (f := fun _ _ => 0) hs
      rw [List.length_map] at a1
      rw [tb_len, sizeLine_eq]
      omega
    have hr : dtRd (updM H1 a (.dt (tbD U))) tp = some (tbD T) := by
      have ne : tp ≠ a := ne_rd ha t1
      have := lk.rd t1
      unfold dtRd at this ⊢
      rw [updM_ne ne]; exact this
    obtain ⟨U', e, hU'⟩ := tells_put (x := x) (y := y) hU
    have ev : turnF x0 y0 x1 y1 f x y = 255 - f x y := if_pos hin
    have dv := dctRd t1 t4 x y
    unfold plD
    repeat' (first | (refine ⟨isDct_dt hr, ?_⟩) | (refine ⟨tp, _, keyP x y, rfl, hr, rfl, gw _ _, ?_⟩) | (refine ⟨a, _, keyP x y, rfl, rfl, gw _ _, updM_same, hlen, ?_⟩) | walk_at "stepN")
    rw [dv]
    repeat' (first | (refine ⟨isDct_dt hr, ?_⟩) | (refine ⟨tp, _, keyP x y, rfl, hr, rfl, gw _ _, ?_⟩) | (refine ⟨a, _, keyP x y, rfl, rfl, gw _ _, updM_same, hlen, ?_⟩) | walk_at "stepN")
    refine hq _ _ ⟨_, U', rfl, ?_, ?_⟩
    · rw [updM_two, ← e, ev]
    · rw [List.take_succ, hv]; exact hU'
  · exact upd_self h1a
  · rintro σ H2 ⟨c, U, rfl, rfl, hU⟩
    rw [Nat.zero_add, List.length_map, List.take_length] at hU
    walk_at "nxt"
    have hR : Rg (turnF x0 y0 x1 y1 f) := rf.turn
    have hp : ∀ z, z ∈ U.map place ↔ inR x0 y0 x1 y1 z.1 z.2 := fun z => (hU.2.1 z).trans rect_place
    have hl : U.length ≤ 10000 := by
      have := hU.2.2.2
      rw [List.length_map] at this
      exact Nat.le_trans this (rect_len hs)
    have hq := q a _ U ha (dtRd_dt (H := updM H1 a (.dt (tbD U))) updM_same) hl (tells_tt hU hR) (fun x y => tells_at hU x y fun m => if_neg fun h => m (rect_place.2 h)) hp (lk.new2 ha)
    repeat' (first | exact Rt.now hq | walk_at "stepN")
def c__law_joined : Ctr := fun ds H Q _ => ∃ (n m : Nat) (t1 t2 : Addr) (f g v : Vf) (way : Str), ds = [.ref t1, .ref t2, .str way] ∧ TabF n H t1 f ∧ TabF m H t2 g ∧ n ≤ 40000 ∧ m ≤ 40000 ∧ ((way = "more" ∧ v = maxF f g) ∨ (way = "both" ∧ v = minF f g) ∨ (way = "less" ∧ v = lessF f g)) ∧
  ∀ (a : Addr) (H' : MH), H a = none → TabF (n + m) H' a v → Lk H H' → Q (.ref a) H'
theorem keys_len {T : List Sp} : (keysOf (tbD T)).length = T.length := by rw [keys_tb, List.length_map, List.length_map]
theorem lcL_id {step : D → MH → (Option D → MH → Prop) → Prop} {keep : MH → Prop} {H : MH} (hk : keep H) {xs : List D} {Q : List D → MH → Prop} (h : ∀ x ∈ xs, ∀ Q : Option D → MH → Prop, Q (some x) H → step x H Q) (q : Q xs H) : lcL step keep xs H Q := by
  refine lcL_map (fun d => d) hk h ?_
  rw [List.map_id']; exact q
theorem k__law_joined (G : Gm) (gw : ∀ i j, G.wt [.inl i, .inl j] = false) : ∀ ds H Q E, c__law_joined ds H Q E → wpF G N__law_joined b__law_joined ds H Q E := by
  rintro ds H Q E ⟨n, m, t1, t2, f, g, v, way, rfl, hf, hg, hn, hm, hw, q⟩
  have rf := hf.rg
  have rg := hg.rg
  obtain ⟨T, p1, p2, p3, p4⟩ := hf
  obtain ⟨U, r1, r2, r3, r4⟩ := hg
  have hv : Rg v := by
    rcases hw with ⟨_, rfl⟩ | ⟨_, rfl⟩ | ⟨_, rfl⟩
    · exact rf.max rg
    · exact rf.min rg
    · exact rf.less rg
  have hz : ∀ x y, (x, y) ∉ T.map place ++ U.map place → v x y = 0 := fun x y h => by
    rw [List.mem_append, not_or] at h
    have h1 := p4.out h.1
    have h2 := r4.out h.2
    rcases hw with ⟨_, rfl⟩ | ⟨_, rfl⟩ | ⟨_, rfl⟩
    · unfold maxF; rw [h1, h2]; rfl
    · unfold minF; rw [h1, h2]; rfl
    · unfold lessF; rw [h1, h2]; rfl
  refine wpF_ss (st__law_joined _ _ _) (wp_hold ?_)
  conv => whnf
  intro a ha
  walk_at "nxt"
  have lk : ∀ o, Lk H (updM H a o) := fun o => Lk.new ha
  have q1 := (lk (.dt [])).rd p1
  have q2 := (lk (.dt [])).rd r1
  have z1 : T.length ≤ sizeLine := by rw [sizeLine_eq]; omega
  have z2 : U.length ≤ sizeLine := by rw [sizeLine_eq]; omega
  have z3 : (keysOf (tbD T)).length ≤ sizeLine := by rw [keys_len]; exact z1
  have z4 : (keysOf (tbD U)).length ≤ sizeLine := by rw [keys_len]; exact z2
  have z5 : (keysOf (tbD T) ++ keysOf (tbD U)).length ≤ sizeLine := by rw [List.length_append, keys_len, keys_len, sizeLine_eq]; omega
  conv => whnf
  refine ⟨t1, rfl, lcd_pure (.rol (keysOf (tbD T))) q1 (fun H1 keep Q1 l1 o1 d1 k1 e1 => ⟨z3, lcL_id k1 (fun x hx Q2 hq => ?_) ⟨z3, e1⟩⟩) ?_⟩
  · repeat' (first | exact hq | walk_at "stepN")
  conv => whnf
  refine ⟨t2, rfl, lcd_pure (.rol (keysOf (tbD U))) q2 (fun H1 keep Q1 l1 o1 d1 k1 e1 => ⟨z4, lcL_id k1 (fun x hx Q2 hq => ?_) ⟨z4, e1⟩⟩) ?_⟩
  · repeat' (first | exact hq | walk_at "stepN")
  conv => whnf
  refine ⟨_, _, rfl, rfl, z5, ?_⟩
  refine itW_seq (xs := keysOf (tbD T) ++ keysOf (tbD U)) rfl ?_
  have ek : keysOf (tbD T) ++ keysOf (tbD U) = (T.map place ++ U.map place).map plD := by rw [keys_tb, keys_tb, List.map_append]
  rw [ek]
  refine loopL_ix (fun i σ H2 => ∃ (c d e h : Option D) (W : List Sp), σ = [some (.ref t1), some (.ref t2), some (.str way), some (.ref a), c, d, e, h] ∧ H2 = updM H a (.dt (tbD W)) ∧ Tells v ((T.map place ++ U.map place).take i) W) 0 (fun _ _ _ _ => trivial) ?_ ⟨_, _, _, _, [], rfl, rfl, tells_nil⟩ ?_
  · rintro i z hz σ H2 Q' ⟨c, d, e, h, W, rfl, rfl, hW⟩ hq
    rw [List.getElem?_map] at hz
    obtain ⟨⟨x, y⟩, hv, rfl⟩ := Option.map_eq_some_iff.1 hz
    rw [Nat.zero_add] at hq hW
    have hlen : (tbD W).length < sizeLine := by
      have a1 := hW.2.2.2
      rw [List.length_take, List.length_append, List.length_map, List.length_map] at a1
      rw [tb_len, sizeLine_eq]
      omega
    have d1 := (lk (.dt (tbD W))).rd p1
    have d2 := (lk (.dt (tbD W))).rd r1
    obtain ⟨W', e, hW'⟩ := tells_put (x := x) (y := y) hW
    have dv1 := dctRd p1 p4 x y
    have dv2 := dctRd r1 r4 x y
    unfold plD
    walk_at "lb"
    repeat' (first | (refine ⟨isDct_dt d1, ?_⟩) | (refine ⟨t1, _, keyP x y, rfl, d1, rfl, gw _ _, ?_⟩) | walk_at "stepN")
    rw [dv1]
    walk_at "nxt"
    repeat' (first | (refine ⟨isDct_dt d2, ?_⟩) | (refine ⟨t2, _, keyP x y, rfl, d2, rfl, gw _ _, ?_⟩) | walk_at "stepN")
    rw [dv2]
    walk_at "nxt"
    have fin : ∀ σ, (∃ c d e h : Option D, σ = [some (.ref t1), some (.ref t2), some (.str way), some (.ref a), c, d, e, h]) → Q' σ (updM H a (.dt (tbD W'))) := by
      rintro σ ⟨c, d, e, h, rfl⟩
      refine hq _ _ ⟨_, _, _, _, W', rfl, rfl, ?_⟩
      rw [List.take_succ, hv]; exact hW'
    rw [← e] at fin
    rcases hw with ⟨rfl, rfl⟩ | ⟨rfl, rfl⟩ | ⟨rfl, rfl⟩
    all_goals repeat' (first | (refine br_pos (by decide +kernel) ?_) | (refine br_neg (by decide +kernel) ?_) | (refine ⟨a, _, keyP x y, rfl, rfl, gw _ _, updM_same, hlen, ?_⟩) | walk_at "stepN" | walk_at "nxt" | ((walk_at "hs"); (conv => whnf)) | (rw [updM_two]; exact fin _ ⟨_, _, _, _, rfl⟩) | (exact fin _ ⟨_, _, _, _, rfl⟩))
  · rintro σ H2 ⟨c, d, e, h, W, rfl, rfl, hW⟩
    rw [Nat.zero_add, List.length_map, List.take_length] at hW
    walk_at "nxt"
    have hl : W.length ≤ n + m := by
      have := hW.2.2.2
      rw [List.length_append, List.length_map, List.length_map] at this
      omega
    have hq := q a (updM H a (.dt (tbD W))) ha ⟨W, dtRd_dt updM_same, hl, tells_tt hW hv, fun x y => tells_at hW x y (hz x y)⟩ (lk _)
    repeat' (first | exact Rt.now hq | walk_at "stepN")
/-! the form, the box -/
def pairD (s : Sp) : D := .tup [.int s.1, .int s.2.1]
def prL (s : Sp) : List Int := [s.1, s.2.1]
def formF (T : List Sp) : D → Option D
  | .tup [.int x, .int y] => if 0 < atL T x y then some (.tup [.int y, .int x]) else none
  | _ => none
theorem form_fm {T : List Sp} (ht : Tt T) : ((T.map place).map plD).filterMap (formF T) = (posS T).map pairD := by
  have key : ∀ S : List Sp, (∀ s ∈ S, s ∈ T) → ((S.map place).map plD).filterMap (formF T) = (posS S).map pairD := fun S => by
    induction S with
    | nil => intro _; rfl
    | cons s r ih =>
      intro h
      have e : formF T (plD (place s)) = if 0 < atL T s.2.1 s.1 then some (pairD s) else none := rfl
      rw [List.map_cons, List.map_cons, List.filterMap_cons, e, at_mem ht.1 (h s List.mem_cons_self), ih fun x hx => h x (List.mem_cons_of_mem _ hx)]
      unfold posS
      rw [List.filter_cons]
      by_cases c : 0 < s.2.2
      · rw [if_pos c, if_pos (decide_eq_true c)]; rfl
      · rw [if_neg c, if_neg (by simpa using c)]
  exact key T fun _ h => h
theorem tups_pairs (F : List Sp) : tupsI (F.map pairD) = some (F.map prL) := by
  induction F with
  | nil => rfl
  | cons s r ih =>
    show ((intsD ((prL s).map D.int)).bind fun x => (tupsI (r.map pairD)).map (x :: ·)) = _
    rw [ih]; rfl
theorem lex_pr {a b : Sp} (h : HT.lexLt (toL b) (toL a) = false) : HT.lexLt (prL b) (prL a) = false := by
  obtain ⟨a1, a2, a3⟩ := a
  obtain ⟨b1, b2, b3⟩ := b
  have e : ∀ x1 x2 x3 y1 y2 y3 : Int, HT.lexLt (toL (x1, x2, x3)) (toL (y1, y2, y3)) = if x1 = y1 then (if x2 = y2 then (if x3 = y3 then false else decide (x3 < y3)) else decide (x2 < y2)) else decide (x1 < y1) := fun _ _ _ _ _ _ => rfl
  have e2 : ∀ x1 x2 x3 y1 y2 y3 : Int, HT.lexLt (prL (x1, x2, x3)) (prL (y1, y2, y3)) = if x1 = y1 then (if x2 = y2 then false else decide (x2 < y2)) else decide (x1 < y1) := fun _ _ _ _ _ _ => rfl
  rw [e] at h
  rw [e2]
  by_cases c1 : b1 = a1
  · by_cases c2 : b2 = a2
    · rw [if_pos c1, if_pos c2]
    · rw [if_pos c1, if_neg c2] at h ⊢; exact h
  · rw [if_neg c1] at h ⊢; exact h
theorem lex_pr2 {a b : Sp} (h1 : HT.lexLt (prL b) (prL a) = false) (h2 : HT.lexLt (prL a) (prL b) = false) : prL a = prL b := by
  obtain ⟨a1, a2, a3⟩ := a
  obtain ⟨b1, b2, b3⟩ := b
  have e2 : ∀ x1 x2 x3 y1 y2 y3 : Int, HT.lexLt (prL (x1, x2, x3)) (prL (y1, y2, y3)) = if x1 = y1 then (if x2 = y2 then false else decide (x2 < y2)) else decide (x1 < y1) := fun _ _ _ _ _ _ => rfl
  rw [e2] at h1 h2
  show [a1, a2] = [b1, b2]
  by_cases c1 : b1 = a1
  · by_cases c2 : b2 = a2
    · rw [c1, c2]
    · rw [if_pos c1, if_neg c2, decide_eq_false_iff_not] at h1
      rw [if_pos c1.symm, if_neg (Ne.symm c2), decide_eq_false_iff_not] at h2
      omega
  · rw [if_neg c1, decide_eq_false_iff_not] at h1
    rw [if_neg (Ne.symm c1), decide_eq_false_iff_not] at h2
    omega
def c__law_form : Ctr := fun ds H Q _ => ∃ (n : Nat) (tp : Addr) (f : Vf) (L : List Sp), ds = [.ref tp] ∧ TabF n H tp f ∧ n ≤ 100000 ∧ Good L ∧ Val L f ∧ Q (.tup (L.map spD)) H
theorem val_at {T : List Sp} {x y : Int} (ht : Tt T) {s : Sp} (hs : s ∈ T) : valD (tbD T) (keyP s.2.1 s.1) = some (.int s.2.2) := by
  rw [val_tb, find_mem ht.1 hs]; rfl
theorem k__law_form (G : Gm) (gw : ∀ i j, G.wt [.inl i, .inl j] = false) : ∀ ds H Q E, c__law_form ds H Q E → wpF G N__law_form b__law_form ds H Q E := by
  rintro ds H Q E ⟨n, tp, f, L, rfl, ⟨T, t1, t2, t3, t4⟩, hn, hg, hv, q⟩
  refine wpF_ss (st__law_form _) (wp_hold ?_)
  have z1 : (keysOf (tbD T)).length ≤ sizeLine := by rw [keys_len, sizeLine_eq]; omega
  have zF : (posS T).length ≤ T.length := List.length_filter_le _ _
  have z2 : ((posS T).map pairD).length ≤ sizeLine := by rw [List.length_map, sizeLine_eq]; omega
  have hp : L.Perm (posS T) := good_perm hg t3 fun x y => (hv x y).trans (t4 x y).symm
  have hll : L.length ≤ 100000 := by rw [hp.length_eq]; omega
  conv => whnf
  refine ⟨tp, rfl, lcd_pure (.rol ((posS T).map pairD)) t1 (fun H1 keep Q1 l1 o1 d1 k1 e1 => ⟨z1, lcL_fm (formF T) k1 (fun x hx Q2 hq => ?_) ?_⟩) ?_⟩
  · rw [keys_tb] at hx
    obtain ⟨z, hz, rfl⟩ := List.mem_map.1 hx
    obtain ⟨s, hs, rfl⟩ := List.mem_map.1 hz
    have e : formF T (plD (place s)) = if 0 < atL T s.2.1 s.1 then some (pairD s) else none := rfl
    rw [e, at_mem t3.1 hs] at hq
    have dv := val_at (x := 0) (y := 0) t3 hs
    unfold plD place
    by_cases c : 0 < s.2.2
    · rw [if_pos c] at hq
      repeat' (first | exact hq | (refine ⟨tp, _, keyP s.2.1 s.1, _, rfl, d1, rfl, gw _ _, dv, ?_⟩) | (refine br_tk (decide_eq_true c) ?_) | walk_at "stepN")
    · rw [if_neg c] at hq
      repeat' (first | exact hq | (refine ⟨tp, _, keyP s.2.1 s.1, _, rfl, d1, rfl, gw _ _, dv, ?_⟩) | (refine br_fk (decide_eq_false c) ?_) | walk_at "stepN")
  · rw [keys_tb, form_fm t3]
    exact ⟨z2, e1⟩
  conv => whnf
  refine Or.inr ⟨(posS T).map prL, 2, tups_pairs _, by decide, fun t ht => ?_, fun ms hms hpw => ?_⟩
  · obtain ⟨s, _, rfl⟩ := List.mem_map.1 ht
    rfl
  have em : ms = L.map prL := by
    refine List.Perm.eq_of_pairwise (le := fun a b => HT.lexLt b a = false) ?_ hpw (List.pairwise_map.2 (hg.1.imp lex_pr)) (hms.trans (hp.map prL).symm)
    intro a b ha hb h1 h2
    obtain ⟨s, _, rfl⟩ := List.mem_map.1 (hms.mem_iff.1 ha)
    obtain ⟨t, _, rfl⟩ := List.mem_map.1 hb
    exact lex_pr2 h1 h2
  subst em
  have er : (L.map prL).map (fun t => D.tup (t.map .int)) = L.map pairD := by rw [List.map_map]; rfl
  rw [er]
  have z3 : (L.map pairD).length ≤ sizeLine := by rw [List.length_map, sizeLine_eq]; omega
  have z4 : (L.map spD).length ≤ sizeLine := by rw [List.length_map, sizeLine_eq]; omega
  refine ⟨z3, ?_⟩
  walk_at "nxt"
  have ep : L.map spD = (L.map pairD).map (fun d => match d with | .tup [.int y, .int x] => .tup [.int x, .int y, .int (atL L x y)] | d => d) := by
    rw [List.map_map]
    refine List.map_congr_left fun s hs => ?_
    show spD s = .tup [.int s.2.1, .int s.1, .int (atL L s.2.1 s.1)]
    rw [at_mem hg.2.1 hs]; rfl
  repeat' (first | (refine hold_lc ?_) | walk_at "stepN")
  refine hold_of (lcL_map (fun d => match d with | .tup [.int y, .int x] => .tup [.int x, .int y, .int (atL L x y)] | d => d) trivial ?_ ?_)
  · intro x hx Q2 hq
    obtain ⟨s, hs, rfl⟩ := List.mem_map.1 hx
    have hs2 : s ∈ T := (mem_pos.1 (hp.mem_iff.1 hs)).1
    have dv := val_at (x := 0) (y := 0) t3 hs2
    have hq : Q2 (some (.tup [.int s.2.1, .int s.1, .int s.2.2])) H := by
      have := at_mem hg.2.1 hs
      rw [← this]; exact hq
    unfold pairD
    repeat' (first | exact hq | (refine ⟨tp, _, keyP s.2.1 s.1, _, rfl, t1, rfl, dv, ?_⟩) | walk_at "stepN")
  · rw [← ep]
    refine ⟨z4, ?_⟩
    repeat' (first | exact Rt.now q | walk_at "stepN")
def boxF (T : List Sp) (i : Bool) : D → Option D
  | .tup [.int x, .int y] => if 0 < atL T x y then some (.int (if i then y else x)) else none
  | _ => none
theorem box_fm {T : List Sp} (i : Bool) (ht : Tt T) : ((T.map place).map plD).filterMap (boxF T i) = (posS T).map fun s => D.int (if i then s.1 else s.2.1) := by
  have key : ∀ S : List Sp, (∀ s ∈ S, s ∈ T) → ((S.map place).map plD).filterMap (boxF T i) = (posS S).map fun s => D.int (if i then s.1 else s.2.1) := fun S => by
    induction S with
    | nil => intro _; rfl
    | cons s r ih =>
      intro h
      have e : boxF T i (plD (place s)) = if 0 < atL T s.2.1 s.1 then some (.int (if i then s.1 else s.2.1)) else none := rfl
      rw [List.map_cons, List.map_cons, List.filterMap_cons, e, at_mem ht.1 (h s List.mem_cons_self), ih fun x hx => h x (List.mem_cons_of_mem _ hx)]
      unfold posS
      rw [List.filter_cons]
      by_cases c : 0 < s.2.2
      · rw [if_pos c, if_pos (decide_eq_true c)]; rfl
      · rw [if_neg c, if_neg (by simpa using c)]
  exact key T fun _ h => h
def c__law_box : Ctr := fun ds H Q _ => ∃ (n : Nat) (tp : Addr) (f : Vf) (L : List Sp), ds = [.ref tp] ∧ TabF n H tp f ∧ n ≤ 100000 ∧ Good L ∧ Val L f ∧ ∀ H', Lk H H' → Q (boxL L) H'
theorem k__law_box (G : Gm) (gw : ∀ i j, G.wt [.inl i, .inl j] = false) : ∀ ds H Q E, c__law_box ds H Q E → wpF G N__law_box b__law_box ds H Q E := by
  rintro ds H Q E ⟨n, tp, f, L, rfl, ⟨T, t1, t2, t3, t4⟩, hn, hg, hv, q⟩
  refine wpF_ss (st__law_box _) (wp_hold ?_)
  have zk : ((T.map place).map plD).length ≤ sizeLine := by rw [List.length_map, List.length_map, sizeLine_eq]; omega
  have zF : (posS T).length ≤ T.length := List.length_filter_le _ _
  have hp : L.Perm (posS T) := good_perm hg t3 fun x y => (hv x y).trans (t4 x y).symm
  have z1 : ∀ i : Bool, ((posS T).map fun s => D.int (if i then s.1 else s.2.1)).length ≤ sizeLine := fun i => by rw [List.length_map, sizeLine_eq]; omega
  rw [box_perm hp] at q
  have step : ∀ (i : Bool) (H1 : MH) (d1 : dtRd H1 tp = some (tbD T)) (s : Sp) (hs : s ∈ T) (Q2 : Option D → MH → Prop) (hq : Q2 (boxF T i (plD (place s))) H1), (0 < s.2.2 → Q2 (some (.int (if i then s.1 else s.2.1))) H1) ∧ (¬ 0 < s.2.2 → Q2 none H1) := by
    intro i H1 d1 s hs Q2 hq
    have e : boxF T i (plD (place s)) = if 0 < atL T s.2.1 s.1 then some (.int (if i then s.1 else s.2.1)) else none := rfl
    rw [e, at_mem t3.1 hs] at hq
    exact ⟨fun c => by rw [if_pos c] at hq; exact hq, fun c => by rw [if_neg c] at hq; exact hq⟩
  conv => whnf
  refine ⟨_, rfl, itW_tab t1 (fun H1 l1 o1 d1 => ?_)⟩
  rw [keys_tb]
  refine ⟨zk, lcL_fm (boxF T false) (by rfl) ?_ ?_⟩
  · intro x hx Q2 hq
    obtain ⟨z, hz, rfl⟩ := List.mem_map.1 hx
    obtain ⟨s, hs, rfl⟩ := List.mem_map.1 hz
    obtain ⟨ha, hb⟩ := step false H1 d1 s hs Q2 hq
    have dv := val_at (x := 0) (y := 0) t3 hs
    unfold plD place
    repeat' (first | exact ha (by assumption) | exact hb (by assumption) | (refine ⟨tp, _, keyP s.2.1 s.1, _, rfl, d1, rfl, gw _ _, dv, ?_⟩) | walk_at "stepN")
  rw [box_fm false t3]
  refine ⟨z1 false, ?_⟩
  walk_at "nxt"
  conv => whnf
  refine ⟨_, rfl, itW_tab d1 (fun H2 l2 o2 d2 => ?_)⟩
  rw [keys_tb]
  refine ⟨zk, lcL_fm (boxF T true) (by rfl) ?_ ?_⟩
  · intro x hx Q2 hq
    obtain ⟨z, hz, rfl⟩ := List.mem_map.1 hx
    obtain ⟨s, hs, rfl⟩ := List.mem_map.1 hz
    obtain ⟨ha, hb⟩ := step true H2 d2 s hs Q2 hq
    have dv := val_at (x := 0) (y := 0) t3 hs
    unfold plD place
    repeat' (first | exact ha (by assumption) | exact hb (by assumption) | (refine ⟨tp, _, keyP s.2.1 s.1, _, rfl, d2, rfl, gw _ _, dv, ?_⟩) | walk_at "stepN")
  rw [box_fm true t3]
  refine ⟨z1 true, ?_⟩
  walk_at "nxt"
  have hq := q H2 (l1.trans l2)
  have z1 := z1
  generalize posS T = F at hq z1
  cases F with
  | nil =>
    repeat' (first | exact Rt.now hq | walk_at "stepN")
  | cons s r =>
    repeat' walk_at "stepN"
    walk_at "nxt"
    repeat' (first | (refine ⟨s.2.1, r.map (·.2.1), bindI (·.2.1) (s :: r), ?_⟩) | (refine ⟨s.1, r.map (·.1), bindI (·.1) (s :: r), ?_⟩) | exact Rt.now hq | walk_at "stepN")
/-- all but p stands, new things may -/
def OffG (p : Addr) (H H' : MH) : Prop := ∀ x, x ≠ p → H x ≠ none → H' x = H x
theorem OffG.refl {p : Addr} {H : MH} : OffG p H H := fun _ _ _ => rfl
theorem OffG.trans {p : Addr} {H H1 H2 : MH} (a : OffG p H H1) (b : OffG p H1 H2) : OffG p H H2 := fun x hx hn => (b x hx (by rw [a x hx hn]; exact hn)).trans (a x hx hn)
theorem Off.g {p : Addr} {H H' : MH} (h : Off p H H') : OffG p H H' := fun x hx _ => h x hx
theorem OffG.new {p a : Addr} {H H1 : MH} {o : MO} (l : OffG p H H1) (ha : H a = none) : OffG p H (updM H1 a o) := fun x hx hn => by
  have ne : x ≠ a := fun e => hn (e ▸ ha)
  rw [updM_ne ne]
  exact l x hx hn
theorem pl_ne {H : MH} {p a : Addr} (h : Pl H p) (ha : H a = none) : p ≠ a := fun e => by
  obtain ⟨rs, h⟩ := h
  rw [e, ha] at h; cases h
def c__law_corner : Ctr := fun ds H Q _ => ∃ (ns : List Int) (p : Addr), ds = [.rol (ns.map .int), .ref p] ∧ Pl H p ∧ ∀ (cx cy : Int) (H' : MH), Pl H' p → OffG p H H' → Q (.tup [.int cx, .int cy]) H'
theorem k__law_corner (G : Gm) (g1 : G.fn "_law_take" = some (2, c__law_take)) : ∀ ds H Q E, c__law_corner ds H Q E → wpF G N__law_corner b__law_corner ds H Q E := by
  rintro ds H Q E ⟨ns, p, rfl, hp, q⟩
  have cp : CPow 10 30 := ⟨by decide, by decide, by decide⟩
  refine wpF_ss (st__law_corner _ _) (wp_hold ?_)
  repeat' (first | (refine ⟨_, _, g1, rfl, p, _, rfl, hp, by decide, fun r1 H1 a1 b1 hp1 o1 => ?_⟩) | walk_at "stepN")
  · exact Rt.now (q _ _ H1 hp1 o1.g)
  walk_at "nxt"
  conv => whnf
  refine ⟨Nat.zero_le _, ?_⟩
  intro a ha
  walk_at "nxt"
  have ne : p ≠ a := pl_ne hp1 ha
  have hpu : ∀ o, Pl (updM H1 a o) p := fun o => hp1.upd ne
  have go : ∀ o, OffG p H (updM H1 a o) := fun o x hx hn => by
    have ne2 : x ≠ a := fun e => hn (by rw [← o1 x hx, e]; exact ha)
    rw [updM_ne ne2]
    exact o1 x hx
  have fin : ∀ (σ : En) (u v : Int), σ[2]? = some (some (.ref a)) → Q (.tup [.int u, .int v]) (updM H1 a (.lst [.int u, .int v])) := fun σ u v _ => q u v _ (hpu _) (go _)
  repeat' (first | (refine ⟨_, ix_ro (by decide) (by rename_i h; rw [List.length_map] at h; exact h), ?_⟩) | (refine ⟨cp, ?_⟩) | (exact fun z => absurd z (by decide)) | (rw [updM_two]) | (refine Rt.now (q _ _ _ (hpu _) (go _))) | walk_at "stepN" | walk_at "nxt")
  all_goals decide
/-- rows of a coverage as drawn -/
def RowsOk (cx : Int) (S : List Sp) : Prop := (S.map place).Nodup ∧ ∀ s ∈ S, 0 ≤ s.2.2 ∧ s.2.2 ≤ 255 ∧ cx ≤ s.2.1 ∧ s.2.1 < cx + 8
theorem RowsOk.snoc {cx : Int} {S : List Sp} {s : Sp} (h : RowsOk cx S) (hn : place s ∉ S.map place) (hs : 0 ≤ s.2.2 ∧ s.2.2 ≤ 255 ∧ cx ≤ s.2.1 ∧ s.2.1 < cx + 8) : RowsOk cx (S ++ [s]) := by
  refine ⟨?_, mem_snoc h.2 hs⟩
  rw [List.map_append, List.nodup_append]
  refine ⟨h.1, by simp, ?_⟩
  rintro a ha b hb rfl
  rw [List.map_cons, List.map_nil, List.mem_singleton] at hb
  rw [hb] at ha
  exact hn ha
def c__law_rows : Ctr := fun ds H Q _ => ∃ (p : Addr) (cx cy : Int), ds = [.ref p, .tup [.int cx, .int cy]] ∧ Pl H p ∧ ∀ (a : Addr) (H' : MH) (S : List Sp), H a = none → H' a = some (.lst (S.map spD)) → RowsOk cx S → S.length ≤ 64 → Pl H' p → OffG p H H' → Q (.ref a) H'
/-- a dict of places -/
def heldD (S : List Sp) : List (List Key × D) := S.map fun s => (keyP s.2.1 s.1, .bl true)
theorem held_val (S : List Sp) (x y : Int) : (valD (heldD S) (keyP x y)).isSome = decide ((x, y) ∈ S.map place) := by
  rw [Bool.eq_iff_iff, decide_eq_true_eq]
  unfold valD heldD
  rw [Option.isSome_map, List.find?_isSome, List.mem_map]
  constructor
  · rintro ⟨kv, hkv, e⟩
    obtain ⟨s, hs, rfl⟩ := List.mem_map.1 hkv
    rw [decide_eq_true_eq, keyP_eq] at e
    exact ⟨s, hs, by unfold place; rw [e.1, e.2]⟩
  · rintro ⟨s, hs, e⟩
    unfold place at e
    obtain ⟨e1, e2⟩ := Prod.mk.inj e
    exact ⟨_, List.mem_map.2 ⟨s, hs, rfl⟩, by rw [decide_eq_true_eq, keyP_eq]; exact ⟨e1, e2⟩⟩
theorem held_put {S : List Sp} {x y k : Int} (h : (x, y) ∉ S.map place) : putD (heldD S) (keyP x y) (.bl true) = heldD (S ++ [(y, x, k)]) := by
  unfold putD
  have e : ((heldD S).any fun kv => decide (kv.1 = keyP x y)) = false := by
    rw [List.any_eq_false]
    intro kv hkv
    obtain ⟨t, ht, rfl⟩ := List.mem_map.1 hkv
    simp only [decide_eq_true_eq]
    intro z
    obtain ⟨a, b⟩ := keyP_eq.1 z
    exact h (List.mem_map.2 ⟨t, ht, by unfold place; rw [a, b]⟩)
  rw [e, if_neg (by decide)]
  unfold heldD
  rw [List.map_append]; rfl
theorem cmp_notin {wt : List Key → Bool} {x y : Int} {p : Addr} {H : MH} {kvs : List (List Key × D)} {k : Bool → Prop} (h : dtRd H p = some kvs) (hw : wt [.inl x, .inl y] = false) (q : k ((valD kvs (keyP x y)).isSome != true)) : cmpW wt .NotIn (.tup [.int x, .int y]) (.ref p) H k := by
  have e : dinAt H .NotIn (.tup [.int x, .int y]) (.ref p) = some (kvs, [.int x, .int y], true) := by
    show (dtRd H p).map (fun kvs => (kvs, [D.int x, D.int y], true)) = _
    rw [h]; rfl
  unfold cmpW
  rw [e]
  exact ⟨_, rfl, hw, q⟩
theorem k__law_rows (G : Gm) (g1 : G.fn "_law_take" = some (2, c__law_take)) (g2 : G.fn "_law_value" = some (1, c__law_value)) (gw : ∀ i j, G.wt [.inl i, .inl j] = false) : ∀ ds H Q E, c__law_rows ds H Q E → wpF G N__law_rows b__law_rows ds H Q E := by
  rintro ds H Q E ⟨p, cx, cy, rfl, hp, q⟩
  refine wpF_ss (st__law_rows _ _) (wp_hold ?_)
  conv => whnf
  refine ⟨Nat.zero_le _, ?_⟩
  intro a ha
  have ne : p ≠ a := pl_ne hp ha
  have hp0 : Pl (updM H a (.lst [])) p := hp.upd ne
  walk_at "nxt"
  repeat' (first | (refine ⟨_, _, g1, rfl, p, _, rfl, hp0, by decide, fun r1 H1 a1 b1 hp1 o1 => ?_⟩) | walk_at "stepN")
  · repeat' walk_at "stepN"
    intro r2 H2 a2 b2 hp2 o2
    repeat' walk_at "stepN"
    intro r3 H3 a3 b3 hp3 o3
    have o13 := (o1.trans o2).trans o3
    have ha3 : H3 a = some (.lst []) := by rw [o13 a (Ne.symm ne)]; exact updM_same
    have og : OffG p H H3 := fun x hx hn => by
      have nx : x ≠ a := fun e => hn (e ▸ ha)
      rw [o13 x hx, updM_ne nx]
    repeat' (first | (refine hold_lp ?_) | walk_at "stepN")
    refine hold_of (loopL_ix (fun i σ H2 => ∃ (v : Option D) (S : List Sp), σ = [some (.ref p), some (.tup [.int cx, .int cy]), some (.ref a), some (.int r2), some (.int r3), v, none, none, none, none] ∧ H2 = updM H3 a (.lst (S.map spD)) ∧ RowsOk cx S ∧ S.length = i ∧ ∀ s ∈ S, ∃ j : Nat, j < i ∧ s.1 = cy + (j : Int) % 8 ∧ s.2.1 = cx + (j : Int) / 8) 0 (fun _ _ _ _ => trivial) ?_ ⟨_, [], rfl, upd_self ha3, ⟨List.nodup_nil, fun _ h => absurd h List.not_mem_nil⟩, rfl, fun _ h => absurd h List.not_mem_nil⟩ ?_)
    · rintro i z hz σ H4 Q' ⟨v, S, rfl, rfl, hS, hl, hj⟩ hq
      obtain ⟨hi, rfl⟩ := rng_at hz
      rw [Nat.zero_add] at hl hj hq
      have hi : i < 64 := by simpa using hi
      have hlen : (S.map spD).length < sizeLine := by rw [List.length_map, sizeLine_eq]; omega
      walk_at "lb"
      repeat' (first | (refine ⟨_, updM_same, hlen, ?_⟩) | walk_at "stepN" | ((walk_at "hs"); (conv => whnf)))
      have hsnoc : ∀ k : Int, 0 ≤ k → k ≤ 255 → RowsOk cx (S ++ [(cy + (0 + (i : Int)) % 8, cx + (0 + (i : Int)) / 8, k)]) := fun k k0 k1 => by
        refine hS.snoc (place_ne fun t ht e1 e2 => ?_) ⟨k0, k1, ?_, ?_⟩
        · obtain ⟨j, hj1, hj2, hj3⟩ := hj t ht
          rw [hj3] at e1
          rw [hj2] at e2
          simp only at e1 e2
          omega
        · show cx ≤ cx + (0 + (i : Int)) / 8
          omega
        · show cx + (0 + (i : Int)) / 8 < cx + 8
          omega
      refine hq _ _ ⟨_, S ++ [(cy + (0 + (i : Int)) % 8, cx + (0 + (i : Int)) / 8, (r2 * (0 + (i : Int)) + r3) % 256)], rfl, ?_, hsnoc _ (by omega) (by omega), by rw [List.length_append, hl]; rfl, ?_⟩
      · rw [updM_two, List.map_append]; rfl
      · intro s hs
        rcases List.mem_append.1 hs with hs | hs
        · obtain ⟨j, hj1, hj2, hj3⟩ := hj s hs
          exact ⟨j, by omega, hj2, hj3⟩
        · rw [List.mem_singleton.1 hs]
          exact ⟨i, by omega, by rw [Int.zero_add], by rw [Int.zero_add]⟩
    · rintro σ H4 ⟨v, S, rfl, rfl, hS, hl, hj⟩
      have hl2 : S.length ≤ 64 := by rw [hl, List.length_map, List.length_range]; decide
      repeat' (first | exact Rt.now (q a _ S ha updM_same hS hl2 (hp3.upd ne) (og.new ha)) | walk_at "stepN")
  · walk_at "nxt"
    conv => whnf
    intro h hh
    have ha1 : H1 a = some (.lst []) := by rw [o1 a (Ne.symm ne)]; exact updM_same
    have nha : h ≠ a := fun e => by rw [e, ha1] at hh; cases hh
    have nhp : p ≠ h := pl_ne hp1 hh
    have hp1' : Pl (updM H1 h (.dt [])) p := hp1.upd nhp
    have hh0 : H h = none := by rw [← updM_ne (H := H) (o := .lst []) nha, ← o1 h (Ne.symm nhp)]; exact hh
    walk_at "nxt"
    repeat' walk_at "stepN"
    intro r2 H2 a2 b2 hp2 o2
    repeat' (first | (refine hold_lp ?_) | walk_at "stepN")
    have nah : a ≠ h := Ne.symm nha
    have h2a : H2 a = some (.lst []) := by rw [o2 a (Ne.symm ne), updM_ne nah]; exact ha1
    have h2h : H2 h = some (.dt []) := by rw [o2 h (Ne.symm nhp), updM_same]
    have og : OffG p H H2 := fun x hx hn => by
      have nx : x ≠ a := fun e => hn (e ▸ ha)
      have ny : x ≠ h := fun e => hn (e ▸ hh0)
      rw [o2 x hx, updM_ne ny, o1 x hx, updM_ne nx]
    refine hold_of (loopL_ix (fun i σ H4 => ∃ (kv pl v : Option D) (S : List Sp), σ = [some (.ref p), some (.tup [.int cx, .int cy]), some (.ref a), none, none, none, some (.ref h), kv, pl, v] ∧ H4 a = some (.lst (S.map spD)) ∧ H4 h = some (.dt (heldD S)) ∧ Pl H4 p ∧ OffG p H H4 ∧ RowsOk cx S ∧ S.length ≤ i) 0 (fun _ _ _ _ => trivial) ?_ ⟨_, _, _, [], rfl, h2a, h2h, hp2, og, ⟨List.nodup_nil, fun _ h => absurd h List.not_mem_nil⟩, Nat.le_refl _⟩ ?_)
    · rintro i z hz σ H4 Q' ⟨kv, pl, v, S, rfl, h4a, h4h, hp4, og4, hS, hl⟩ hq
      obtain ⟨hi, rfl⟩ := rng_at hz
      rw [Nat.zero_add] at hl hq
      walk_at "lb"
      repeat' walk_at "stepN"
      intro r3 H5 a3 b3 hp5 o5
      repeat' walk_at "stepN"
      intro r4 H6 a4 b4 hp6 o6
      repeat' walk_at "stepN"
      walk_at "nxt"
      repeat' walk_at "stepN"
      intro w H7 w0 w1 hp7 o7
      repeat' walk_at "stepN"
      walk_at "nxt"
      have o47 := (o5.trans o6).trans o7
      have h7a : H7 a = some (.lst (S.map spD)) := by rw [o47 a (Ne.symm ne)]; exact h4a
      have h7h : H7 h = some (.dt (heldD S)) := by rw [o47 h (Ne.symm nhp)]; exact h4h
      have og7 := og4.trans o47.g
      walk_at "stepN"
      walk_at "stepN"
      refine cmp_notin (dtRd_dt h7h) (gw _ _) ?_
      have hlen : (heldD S).length < sizeLine := by unfold heldD; rw [List.length_map, sizeLine_eq]; omega
      have hlen2 : (S.map spD).length < sizeLine := by rw [List.length_map, sizeLine_eq]; omega
      rw [held_val]
      by_cases c : (cx + r3, cy + r4) ∈ S.map place
      · rw [decide_eq_true c]
        refine br_fk rfl ?_
        repeat' (first | walk_at "stepN" | ((walk_at "hs"); (conv => whnf)))
        exact hq _ _ ⟨_, _, _, S, rfl, h7a, h7h, hp7, og7, hS, by omega⟩
      · rw [decide_eq_false c]
        refine br_tk rfl ?_
        have h8a : updM H7 h (.dt (heldD (S ++ [(cy + r4, cx + r3, w)]))) a = some (.lst (S.map spD)) := (updM_ne nah).trans h7a
        have put := held_put (k := w) c
        repeat' (first | (refine ⟨h, heldD S, keyP (cx + r3) (cy + r4), rfl, rfl, gw _ _, h7h, hlen, ?_⟩) | (rw [put]) | (refine ⟨_, h8a, hlen2, ?_⟩) | (exact ⟨_, _, rfl, h8a⟩) | walk_at "stepN" | ((walk_at "hs"); (conv => whnf)))
        refine hq _ _ ⟨_, _, _, S ++ [(cy + r4, cx + r3, w)], rfl, ?_, ?_, (hp7.upd nhp).upd ne, (og7.new hh0).new ha, hS.snoc c ⟨w0, w1, ?_, ?_⟩, ?_⟩
        · rw [updM_same, List.map_append]; rfl
        · rw [updM_ne (Ne.symm nah), updM_same]
        · show cx ≤ cx + r3; omega
        · show cx + r3 < cx + 8; omega
        · rw [List.length_append]; exact Nat.add_le_add hl (Nat.le_refl 1)
    · rintro σ H4 ⟨kv, pl, v, S, rfl, h4a, h4h, hp4, og4, hS, hl⟩
      have hl2 : S.length ≤ 64 := by rw [List.length_map, List.length_range] at hl; omega
      walk_at "nxt"
      repeat' (first | exact Rt.now (q a _ S ha h4a hS hl2 hp4 og4) | walk_at "stepN")
theorem ok_spots (L : List Sp) : okD 3 (.tup (L.map spD)) = true := by
  have h : okDs 2 (L.map spD) = true := by
    induction L with
    | nil => rfl
    | cons s r ih =>
      rw [List.map_cons]
      unfold okDs
      rw [ih]; rfl
  unfold okD
  exact h
theorem ok_box (L : List Sp) : okD 3 (boxL L) = true := by
  cases L <;> rfl
theorem list_tab {H : MH} {p : Addr} {kvs : List (List Key × D)} (h : dtRd H p = some kvs) : listAt H (.ref p) = some (keysOf kvs) := by
  unfold listAt
  dsimp only
  rcases dtRd_or h with e | ⟨o, us, e⟩ <;> rw [e] <;> rfl
section
variable {n m : Nat} {H : MH} {p tp : Addr} {f : Vf} {L : List Sp} {Q : DK} {E : XDK}
theorem form_use (h : TabF n H tp f) (hn : n ≤ 100000) (hg : Good L) (hv : Val L f) (q : Q (.tup (L.map spD)) H) : c__law_form [.ref tp] H Q E := ⟨n, tp, f, L, rfl, h, hn, hg, hv, q⟩
theorem box_use (h : TabF n H tp f) (hn : n ≤ 100000) (hg : Good L) (hv : Val L f) (q : ∀ H', Lk H H' → Q (boxL L) H') : c__law_box [.ref tp] H Q E := ⟨n, tp, f, L, rfl, h, hn, hg, hv, q⟩
theorem same_use {k : Nat} {x : D} (h : okD k x = true) (q : Q (.bl true) H) : c__law_same k [x, x] H Q E := ⟨x, rfl, h, q⟩
theorem cbox_use (h : CovAt H p L) (hl : L.length ≤ 100000) (q : Q (boxL L) H) : c_Coverage_box [.ref p] H Q E := ⟨p, L, rfl, h, hl, q⟩
theorem cat_use {x y : Int} (h : CovAt H p L) (q : Q (.int (atL L x y)) H) : c_Coverage_at [.ref p, .int x, .int y] H Q E := ⟨p, L, x, y, rfl, h, q⟩
theorem cbool_use (h : CovAt H p L) (q : Q (.bl (!L.isEmpty)) H) : c_Coverage___bool__ [.ref p] H Q E := ⟨p, L, rfl, h, q⟩
end
def c__law_is : Ctr := fun ds H Q _ => ∃ (n m : Nat) (p tp : Addr) (f : Vf), ds = [.ref p, .ref tp] ∧ CovF n H p f ∧ TabF m H tp f ∧ n ≤ 100000 ∧ m ≤ 100000 ∧ ∀ H', Lk H H' → Q (.bl true) H'
theorem keys_mem {T : List Sp} {x : D} (h : x ∈ keysOf (tbD T)) : ∃ s ∈ T, x = plD (place s) := by
  rw [keys_tb] at h
  obtain ⟨z, hz, rfl⟩ := List.mem_map.1 h
  obtain ⟨s, hs, rfl⟩ := List.mem_map.1 hz
  exact ⟨s, hs, rfl⟩
theorem cut_mem {xs : List D} {lo hi : Option Int} {x : D} (h : x ∈ cutD xs lo hi) : x ∈ xs := List.mem_of_mem_drop (List.mem_of_mem_take h)
theorem cut_len {xs : List D} {lo hi : Option Int} : (cutD xs lo hi).length ≤ xs.length := by
  unfold cutD
  rw [List.length_take, List.length_drop]; omega
theorem emp_len (L : List Sp) : decide ((!L.isEmpty) = decide ((0 : Int) < ((L.map spD).length : Nat))) = true := by
  cases L with
  | nil => rfl
  | cons s r =>
    rw [decide_eq_true_eq, List.map_cons, List.length_cons]
    have : (0 : Int) < (((r.map spD).length + 1 : Nat) : Int) := by omega
    rw [decide_eq_true this]; rfl
theorem k__law_is (G : Gm) (g1 : G.fn "_law_form" = some (1, c__law_form)) (g2 : G.fn "_law_same" = some (2, c__law_same 3)) (g3 : G.fn "Coverage.at" = some (3, c_Coverage_at)) (g4 : G.fn "Coverage.box" = some (1, c_Coverage_box)) (g5 : G.fn "_law_box" = some (1, c__law_box)) (g6 : G.fn "Coverage.__bool__" = some (1, c_Coverage___bool__)) (gc : G.cl = clf) (go : G.ob = obf) (gw : ∀ i j, G.wt [.inl i, .inl j] = false) : ∀ ds H Q E, c__law_is ds H Q E → wpF G N__law_is b__law_is ds H Q E := by
  rintro ds H Q E ⟨n, m, p, tp, f, rfl, ⟨L, hL, hl, hg, hv⟩, hT, hn, hm, q⟩
  obtain ⟨T, t1, t2, t3, t4⟩ := id hT
  obtain ⟨tc, h1, h2⟩ := id hL
  have hl : L.length ≤ 100000 := by omega
  have hlT : T.length ≤ 100000 := by omega
  have zk : (keysOf (tbD T)).length ≤ sizeLine := by rw [keys_len, sizeLine_eq]; omega
  have zL : (L.map spD).length ≤ sizeLine := by rw [List.length_map, sizeLine_eq]; omega
  have zc : ∀ lo hi, (cutD (keysOf (tbD T)) lo hi).length ≤ sizeLine := fun lo hi => Nat.le_trans cut_len zk
  have hs := ok_spots L
  have hb := ok_box L
  refine wpF_ss (st__law_is _ _) (wp_hold ?_)
  repeat' (first | (with_reducible refine form_use hT hm hg hv ?_) | (with_reducible refine same_use hs ?_) | (refine isx_ins h1 (ob_of go rfl) ?_) | (refine ⟨_, _, _, _, _, ins_ref h1, ob_of go rfl, rfl, rfl, ?_⟩) | walk_at "stepN")
  walk_at "nxt"
  repeat' (first | (refine hold_lp ?_) | (refine ⟨_, list_tab t1, zk, ?_⟩) | (refine ⟨zc _ _, ?_⟩) | walk_at "stepN")
  refine hold_of (loopL_inv (fun σ H2 => ∃ c : Option D, σ = [some (.ref p), some (.ref tp), c] ∧ H2 = H) (fun _ _ _ => trivial) ?_ ⟨_, rfl, rfl⟩ ?_)
  · rintro x hx σ H2 Q' ⟨c, rfl, rfl⟩ hq
    obtain ⟨s, hs, rfl⟩ := keys_mem (cut_mem hx)
    have dv := val_at (x := 0) (y := 0) t3 hs
    have e : atL L s.2.1 s.1 = s.2.2 := (hv _ _).trans ((t4 _ _).symm.trans (at_mem t3.1 hs))
    have ok : okD 3 (.int s.2.2) = true := rfl
    unfold plD place
    repeat' (first | (with_reducible refine same_use ok ?_) | (with_reducible refine cat_use hL ?_) | (rw [e]) | (refine ⟨⟨_, _, ins_ref h1, rfl⟩, ?_⟩) | (refine ⟨tp, _, keyP s.2.1 s.1, _, rfl, t1, rfl, gw _ _, dv, ?_⟩) | walk_at "stepN")
    exact hq _ _ ⟨_, rfl, rfl⟩
  · rintro σ H2 ⟨c, rfl, rfl⟩
    walk_at "nxt"
    have el := emp_len L
    repeat' (first | (with_reducible refine same_use hb ?_) | (with_reducible refine cbox_use hL hl ?_) | (with_reducible refine box_use hT hm hg hv fun H3 l3 => ?_) | (refine ⟨⟨_, _, ins_ref (l3.at_ h1)⟩, ?_⟩) | (refine ⟨⟨_, _, ins_ref h1, rfl⟩, ?_⟩) | (with_reducible refine cbool_use (l3.cov hL) ?_) | (with_reducible refine form_use (l3.tabF hT) hm hg hv ?_) | (exact Rt.now (q_b (q H3 l3) el.symm)) | walk_at "stepN")
theorem is_use {n m : Nat} {H : MH} {p tp : Addr} {f : Vf} {Q : DK} {E : XDK} (hc : CovF n H p f) (ht : TabF m H tp f) (hn : n ≤ 100000) (hm : m ≤ 100000) (q : ∀ H', Lk H H' → Q (.bl true) H') : c__law_is [.ref p, .ref tp] H Q E := ⟨n, m, p, tp, f, rfl, hc, ht, hn, hm, q⟩
def c__law_told : Ctr := fun ds H Q _ => ∃ (n m : Nat) (p tp : Addr) (f : Vf) (cx cy : Int), ds = [.ref p, .ref tp, .tup [.int cx, .int cy]] ∧ CovF n H p f ∧ TabF m H tp f ∧ n ≤ 100000 ∧ m ≤ 100000 ∧ ∀ H', Lk H H' → Q (.bl true) H'
theorem k__law_told (G : Gm) (g0 : G.fn "_law_is" = some (2, c__law_is)) (g2 : G.fn "_law_same" = some (2, c__law_same 3)) (g3 : G.fn "Coverage.at" = some (3, c_Coverage_at)) (g4 : G.fn "Coverage.box" = some (1, c_Coverage_box)) (g5 : G.fn "_law_box" = some (1, c__law_box)) (g6 : G.fn "Coverage.__bool__" = some (1, c_Coverage___bool__)) (g1 : G.fn "_law_form" = some (1, c__law_form)) (gw : ∀ i j, G.wt [.inl i, .inl j] = false) : ∀ ds H Q E, c__law_told ds H Q E → wpF G N__law_told b__law_told ds H Q E := by
  rintro ds H Q E ⟨n, m, p, tp, f, cx, cy, rfl, hc, hT, hn, hm, q⟩
  refine wpF_ss (st__law_told _ _ _) (wp_hold ?_)
  repeat' (first | (with_reducible refine is_use hc hT hn hm fun H1 l1 => ?_) | walk_at "stepN")
  have hc1 := l1.covF hc
  have hT1 := l1.tabF hT
  obtain ⟨L, hL, hl, hg, hv⟩ := id hc1
  obtain ⟨T, t1, t2, t3, t4⟩ := id hT1
  obtain ⟨tc, h1, h2⟩ := id hL
  have hl : L.length ≤ 100000 := by omega
  have hb := ok_box L
  have zL : (L.map spD).length ≤ sizeLine := by rw [List.length_map, sizeLine_eq]; omega
  have hz : ∀ x y, (valD (tbD T) (keyP x y)).getD (.int 0) = .int (f x y) := dctRd t1 t4
  walk_at "nxt"
  repeat' (first | (refine hold_lp ?_) | walk_at "stepN")
  refine hold_of (loopL_inv (fun σ H2 => ∃ a b c : Option D, σ = [some (.ref p), some (.ref tp), some (.tup [.int cx, .int cy]), a, b, c, none] ∧ H2 = H1) (fun _ _ _ => trivial) ?_ ⟨_, _, _, rfl, rfl⟩ ?_)
  · rintro x hx σ H2 Q' ⟨a, b, c, rfl, rfl⟩ hq
    obtain ⟨j, _, rfl⟩ := List.mem_map.1 hx
    have ok : ∀ x y, okD 3 (.int (f x y)) = true := fun _ _ => rfl
    walk_at "lb"
    repeat' (first | (with_reducible refine same_use (ok _ _) ?_) | (with_reducible refine at_val hc1 ?_) | (refine ⟨isDct_dt t1, ?_⟩) | (refine ⟨_, dget_at t1, ?_⟩) | (rw [hz]) | (refine ⟨⟨_, _, ins_ref h1, rfl⟩, ?_⟩) | walk_at "stepN" | walk_at "nxt" | ((walk_at "hs"); (conv => whnf)))
    all_goals exact hq _ _ ⟨_, _, _, rfl, rfl⟩
  · rintro σ H2 ⟨a, b, c0, rfl, rfl⟩
    walk_at "nxt"
    conv => whnf
    refine ⟨_, rfl, itW_tab t1 (fun H3 l3 o3 d3 => ?_)⟩
    have hc3 := l3.covF hc1
    have h13 := l3.at_ h1
    refine loopL_inv (fun σ H4 => ∃ c : Option D, σ = [some (.ref p), some (.ref tp), some (.tup [.int cx, .int cy]), a, b, c0, c] ∧ H4 = H3) (fun _ _ h => by obtain ⟨_, _, rfl⟩ := h; rfl) ?_ ⟨_, rfl, rfl⟩ ?_
    · rintro x hx σ H2 Q' ⟨c, rfl, rfl⟩ hq
      obtain ⟨s, hs, rfl⟩ := keys_mem hx
      have dv := val_at (x := 0) (y := 0) t3 hs
      have e : f s.2.1 s.1 = s.2.2 := (t4 _ _).symm.trans (at_mem t3.1 hs)
      have ok : okD 3 (.int s.2.2) = true := rfl
      unfold plD place
      walk_at "lb"
      repeat' (first | (with_reducible refine same_use ok ?_) | (with_reducible refine at_val hc3 ?_) | (rw [e]) | (refine ⟨⟨_, _, ins_ref h13, rfl⟩, ?_⟩) | (refine ⟨tp, _, keyP s.2.1 s.1, _, rfl, d3, rfl, gw _ _, dv, ?_⟩) | walk_at "stepN" | walk_at "nxt" | ((walk_at "hs"); (conv => whnf)))
      all_goals exact hq _ _ ⟨_, rfl, rfl⟩
    · rintro σ H2 ⟨c, rfl, rfl⟩
      have hL3 := l3.cov hL
      have hT3 := l3.tabF hT1
      have el := emp_len L
      walk_at "nxt"
      repeat' (first | (with_reducible refine same_use hb ?_) | (with_reducible refine cbox_use hL3 hl ?_) | (with_reducible refine box_use hT3 hm hg hv fun H4 l4 => ?_) | (refine ⟨⟨_, _, ins_ref h13, rfl⟩, ?_⟩) | walk_at "stepN")
      walk_at "nxt"
      have h14 := l4.at_ h13
      repeat' (first | (refine ⟨⟨_, _, ins_ref h14⟩, ?_⟩) | (with_reducible refine cbool_use (l4.cov hL3) ?_) | (with_reducible refine form_use (l4.tabF hT3) hm hg hv ?_) | (exact Rt.now (q_b (q H4 ((l1.trans l3).trans l4)) el.symm)) | walk_at "stepN")
theorem CovF.ins {n : Nat} {H : MH} {p : Addr} {f : Vf} (h : CovF n H p f) : ∃ ns xs, insAt H (.ref p) = some (("Coverage" : Str), ns, xs) := by
  obtain ⟨L, ⟨tp, h1, _⟩, _⟩ := h
  exact ⟨_, _, ins_ref h1⟩
theorem CovF.mono {n m : Nat} {H : MH} {p : Addr} {f : Vf} (h : CovF n H p f) (l : n ≤ m) : CovF m H p f := by
  obtain ⟨L, a, b, c⟩ := h
  exact ⟨L, a, Nat.le_trans b l, c⟩
theorem TabF.mono {n m : Nat} {H : MH} {p : Addr} {f : Vf} (h : TabF n H p f) (l : n ≤ m) : TabF m H p f := by
  obtain ⟨L, a, b, c⟩ := h
  exact ⟨L, a, Nat.le_trans b l, c⟩
theorem max_self (f : Vf) : maxF f f = f := by funext x y; unfold maxF; split <;> rfl
theorem min_self (f : Vf) : minF f f = f := by funext x y; unfold minF; split <;> rfl
theorem max_comm (f g : Vf) : maxF f g = maxF g f := by funext x y; unfold maxF; split <;> split <;> omega
theorem min_comm (f g : Vf) : minF f g = minF g f := by funext x y; unfold minF; split <;> split <;> omega
section
variable {n m : Nat} {H : MH} {t u : Addr} {f g : Vf} {Q : DK} {E : XDK}
theorem more_use (hT : TabF n H t f) (hU : TabF m H u g) (hn : n ≤ 40000) (hm : m ≤ 40000) (q : ∀ a H', TabF (n + m) H' a (maxF f g) → Lk H H' → Q (.ref a) H') : c__law_joined [.ref t, .ref u, .str "more"] H Q E := ⟨n, m, t, u, f, g, _, _, rfl, hT, hU, hn, hm, .inl ⟨rfl, rfl⟩, fun a H' _ h l => q a H' h l⟩
theorem both_use (hT : TabF n H t f) (hU : TabF m H u g) (hn : n ≤ 40000) (hm : m ≤ 40000) (q : ∀ a H', TabF (n + m) H' a (minF f g) → Lk H H' → Q (.ref a) H') : c__law_joined [.ref t, .ref u, .str "both"] H Q E := ⟨n, m, t, u, f, g, _, _, rfl, hT, hU, hn, hm, .inr (.inl ⟨rfl, rfl⟩), fun a H' _ h l => q a H' h l⟩
theorem less_use (hT : TabF n H t f) (hU : TabF m H u g) (hn : n ≤ 40000) (hm : m ≤ 40000) (q : ∀ a H', TabF (n + m) H' a (lessF f g) → Lk H H' → Q (.ref a) H') : c__law_joined [.ref t, .ref u, .str "less"] H Q E := ⟨n, m, t, u, f, g, _, _, rfl, hT, hU, hn, hm, .inr (.inr ⟨rfl, rfl⟩), fun a H' _ h l => q a H' h l⟩
theorem cov_eq (h : f = g) (c : CovF n H t f) : CovF n H t g := h ▸ c
theorem tab_eq (h : f = g) (c : TabF n H t f) : TabF n H t g := h ▸ c
end
def c__law_joins : Ctr := fun ds H Q _ => ∃ (p r t u : Addr) (f g : Vf), ds = [.ref p, .ref r, .ref t, .ref u] ∧ CovF 1000 H p f ∧ CovF 1000 H r g ∧ TabF 1000 H t f ∧ TabF 1000 H u g ∧ ∀ H', Lk H H' → Q (.bl true) H'
theorem k__law_joins (G : Gm) (g1 : G.fn "Coverage.__or__" = some (2, c_Coverage___or__)) (g2 : G.fn "_law_joined" = some (3, c__law_joined)) (g3 : G.fn "_law_is" = some (2, c__law_is)) (g4 : G.fn "Coverage.__and__" = some (2, c_Coverage___and__)) (g5 : G.fn "Coverage.__sub__" = some (2, c_Coverage___sub__)) (go : G.ob = obf) : ∀ ds H Q E, c__law_joins ds H Q E → wpF G N__law_joins b__law_joins ds H Q E := by
  rintro ds H Q E ⟨p, r, t, u, f, g, rfl, ha, hb, hT, hU, q⟩
  have rf := hT.rg
  have rg := hU.rg
  have nk : (1000 : Nat) ≤ 40000 := by decide
  have nk2 : (1000 : Nat) ≤ 100000 := by decide
  have nk3 : (1000 + 1000 : Nat) ≤ 100000 := by decide
  refine wpF_ss (st__law_joins _ _ _ _) (wp_hold ?_)
  repeat' (first | (refine ⟨ha.ins, hb.ins, ⟨_, ob_of go rfl⟩, ?_⟩) | (with_reducible refine or_val ha hb nk nk fun c H1 _ hc l1 => ⟨⟨_, rfl⟩, ?_⟩) | (with_reducible refine more_use (l1.tabF hT) (l1.tabF hU) nk nk fun d H2 hd l2 => ?_) | (with_reducible refine is_use (l2.covF hc) hd nk3 nk3 fun H3 l3 => ?_) | walk_at "stepN")
  have k1 := (l1.trans l2).trans l3
  clear l1 l3
  clear l2 hd
  clear hc
  replace ha := k1.covF ha
  replace hb := k1.covF hb
  replace hT := k1.tabF hT
  replace hU := k1.tabF hU
  walk_at "nxt"
  repeat' (first | (refine ⟨hb.ins, ha.ins, ⟨_, ob_of go rfl⟩, ?_⟩) | (with_reducible refine or_val hb ha nk nk fun c H1 _ hc l1 => ⟨⟨_, rfl⟩, ?_⟩) | (with_reducible refine more_use (l1.tabF hT) (l1.tabF hU) nk nk fun d H2 hd l2 => ?_) | (with_reducible refine is_use (cov_eq (max_comm _ _) (l2.covF hc)) hd nk3 nk3 fun H3 l3 => ?_) | walk_at "stepN")
  have k2 := (l1.trans l2).trans l3
  clear l1 l3
  clear l2 hd
  clear hc
  replace ha := k2.covF ha
  replace hb := k2.covF hb
  replace hT := k2.tabF hT
  replace hU := k2.tabF hU
  replace k2 := k1.trans k2
  clear k1
  walk_at "nxt"
  repeat' (first | (refine ⟨ha.ins, hb.ins, ⟨_, ob_of go rfl⟩, ?_⟩) | (with_reducible refine and_val ha hb nk2 fun c H1 _ hc l1 => ⟨⟨_, rfl⟩, ?_⟩) | (with_reducible refine both_use (l1.tabF hT) (l1.tabF hU) nk nk fun d H2 hd l2 => ?_) | (with_reducible refine is_use (l2.covF hc) hd nk2 nk3 fun H3 l3 => ?_) | walk_at "stepN")
  have k3 := (l1.trans l2).trans l3
  clear l1 l3
  clear l2 hd
  clear hc
  replace ha := k3.covF ha
  replace hb := k3.covF hb
  replace hT := k3.tabF hT
  replace hU := k3.tabF hU
  replace k3 := k2.trans k3
  clear k2
  walk_at "nxt"
  repeat' (first | (refine ⟨hb.ins, ha.ins, ⟨_, ob_of go rfl⟩, ?_⟩) | (with_reducible refine and_val hb ha nk2 fun c H1 _ hc l1 => ⟨⟨_, rfl⟩, ?_⟩) | (with_reducible refine both_use (l1.tabF hT) (l1.tabF hU) nk nk fun d H2 hd l2 => ?_) | (with_reducible refine is_use (cov_eq (min_comm _ _) (l2.covF hc)) hd nk2 nk3 fun H3 l3 => ?_) | walk_at "stepN")
  have k4 := (l1.trans l2).trans l3
  clear l1 l3
  clear l2 hd
  clear hc
  replace ha := k4.covF ha
  replace hb := k4.covF hb
  replace hT := k4.tabF hT
  replace hU := k4.tabF hU
  replace k4 := k3.trans k4
  clear k3
  walk_at "nxt"
  repeat' (first | (refine ⟨ha.ins, hb.ins, ⟨_, ob_of go rfl⟩, ?_⟩) | (with_reducible refine sub_val ha hb nk2 rg fun c H1 _ hc l1 => ⟨⟨_, rfl⟩, ?_⟩) | (with_reducible refine less_use (l1.tabF hT) (l1.tabF hU) nk nk fun d H2 hd l2 => ?_) | (with_reducible refine is_use (l2.covF hc) hd nk2 nk3 fun H3 l3 => ?_) | walk_at "stepN")
  have k5 := (l1.trans l2).trans l3
  clear l1 l3
  clear l2 hd
  clear hc
  replace ha := k5.covF ha
  replace hb := k5.covF hb
  replace hT := k5.tabF hT
  replace hU := k5.tabF hU
  replace k5 := k4.trans k5
  clear k4
  walk_at "nxt"
  repeat' (first | (refine ⟨hb.ins, ha.ins, ⟨_, ob_of go rfl⟩, ?_⟩) | (with_reducible refine sub_val hb ha nk2 rf fun c H1 _ hc l1 => ⟨⟨_, rfl⟩, ?_⟩) | (with_reducible refine less_use (l1.tabF hU) (l1.tabF hT) nk nk fun d H2 hd l2 => ?_) | (with_reducible refine is_use (l2.covF hc) hd nk2 nk3 fun H3 l3 => ?_) | walk_at "stepN")
  have k6 := (l1.trans l2).trans l3
  clear l1 l3
  clear l2 hd
  clear hc
  replace ha := k6.covF ha
  replace hb := k6.covF hb
  replace hT := k6.tabF hT
  replace hU := k6.tabF hU
  replace k6 := k5.trans k6
  clear k5
  walk_at "nxt"
  repeat' (first | (refine ⟨ha.ins, ha.ins, ⟨_, ob_of go rfl⟩, ?_⟩) | (with_reducible refine or_val ha ha nk nk fun c H1 _ hc l1 => ⟨⟨_, rfl⟩, ?_⟩) | (with_reducible refine is_use (cov_eq (max_self _) hc) (l1.tabF hT) nk3 nk2 fun H3 l3 => ?_) | (refine ⟨((l1.trans l3).covF ha).ins, ((l1.trans l3).covF ha).ins, ⟨_, ob_of go rfl⟩, ?_⟩) | (with_reducible refine and_val ((l1.trans l3).covF ha) ((l1.trans l3).covF ha) nk2 fun c2 H4 _ hc2 l4 => ⟨⟨_, rfl⟩, ?_⟩) | (with_reducible refine is_use (cov_eq (min_self _) hc2) (((l1.trans l3).trans l4).tabF hT) nk2 nk2 fun H5 l5 => ?_) | (refine ⟨((((l1.trans l3).trans l4).trans l5).covF ha).ins, ((((l1.trans l3).trans l4).trans l5).covF ha).ins, ⟨_, ob_of go rfl⟩, ?_⟩) | (with_reducible refine sub_val ((((l1.trans l3).trans l4).trans l5).covF ha) ((((l1.trans l3).trans l4).trans l5).covF ha) nk2 rf fun c3 H6 _ hc3 l6 => ⟨⟨_, rfl⟩, ?_⟩) | (with_reducible refine less_use (((((l1.trans l3).trans l4).trans l5).trans l6).tabF hT) (((((l1.trans l3).trans l4).trans l5).trans l6).tabF hT) nk nk fun d H7 hd l7 => ?_) | (with_reducible refine is_use (l7.covF hc3) hd nk2 nk3 fun H8 l8 => ?_) | (exact Rt.now (q _ (k6.trans ((((((l1.trans l3).trans l4).trans l5).trans l6).trans l7).trans l8)))) | walk_at "stepN")
theorem CovF.meth {n : Nat} {H : MH} {p : Addr} {f : Vf} {m : Str} (h : CovF n H p f) (e : (["spots", "_table"] : List Str).contains m = false) : ∃ ns xs, insAt H (.ref p) = some (("Coverage" : Str), ns, xs) ∧ ns.contains m = false := by
  obtain ⟨L, ⟨tp, h1, _⟩, _⟩ := h
  exact ⟨_, _, ins_ref h1, e⟩
theorem eq_true {n m : Nat} {H : MH} {p r : Addr} {f : Vf} {Q : DK} {E : XDK} (h : CovF n H p f) (g : CovF m H r f) (q : Q (.bl true) H) : c_Coverage___eq__ [.ref p, .ref r] H Q E := by
  obtain ⟨L, a1, a2, a3, a4⟩ := h
  obtain ⟨M, b1, b2, b3, b4⟩ := g
  refine ⟨p, L, a1, .inl ⟨r, M, rfl, b1, ?_⟩⟩
  rw [decide_eq_true (good_uniq a3 b3 fun x y => (a4 x y).trans (b4 x y).symm)]
  exact q
theorem eq_false {n m : Nat} {H : MH} {p r : Addr} {f g : Vf} {Q : DK} {E : XDK} (hc : CovF n H p f) (hd : CovF m H r g) (x y : Int) (ne : f x y ≠ g x y) (q : Q (.bl false) H) : c_Coverage___eq__ [.ref p, .ref r] H Q E := by
  obtain ⟨L, a1, a2, a3, a4⟩ := hc
  obtain ⟨M, b1, b2, b3, b4⟩ := hd
  refine ⟨p, L, a1, .inl ⟨r, M, rfl, b1, ?_⟩⟩
  have : L ≠ M := fun e => ne (by rw [← a4, ← b4, e])
  rw [decide_eq_false this]
  exact q
theorem told_use {n m : Nat} {H : MH} {p tp : Addr} {f : Vf} {cx cy : Int} {Q : DK} {E : XDK} (hc : CovF n H p f) (ht : TabF m H tp f) (hn : n ≤ 100000) (hm : m ≤ 100000) (q : ∀ H', Lk H H' → Q (.bl true) H') : c__law_told [.ref p, .ref tp, .tup [.int cx, .int cy]] H Q E := ⟨n, m, p, tp, f, cx, cy, rfl, hc, ht, hn, hm, q⟩
section
variable {n : Nat} {H : MH} {tp : Addr} {f g : Vf} {Q : DK} {E : XDK} {x0 y0 x1 y1 : Int}
theorem turned_use (hT : TabF n H tp f) (hs : small x0 y0 x1 y1) (q : ∀ a H', TabF 10000 H' a (turnF x0 y0 x1 y1 f) → Lk H H' → Q (.ref a) H') : c__law_turned [.ref tp, rectD x0 y0 x1 y1] H Q E :=
  ⟨n, tp, f, x0, y0, x1, y1, rfl, hT, hs, fun a H' T _ h1 h2 h3 h4 _ l => q a H' ⟨T, h1, h2, h3, h4⟩ l⟩
theorem turned_use2 (hT : TabF n H tp f) (hs : small x0 y0 x1 y1) (q : ∀ (a : Addr) (H' : MH) (T : List Sp), dtRd H' a = some (tbD T) → T.length ≤ 10000 → Tt T → Val T (turnF x0 y0 x1 y1 f) → (∀ z, z ∈ T.map place ↔ inR x0 y0 x1 y1 z.1 z.2) → Lk H H' → Q (.ref a) H') : c__law_turned [.ref tp, rectD x0 y0 x1 y1] H Q E :=
  ⟨n, tp, f, x0, y0, x1, y1, rfl, hT, hs, fun a H' T _ h1 h2 h3 h4 h5 l => q a H' T h1 h2 h3 h4 h5 l⟩
def withF (x0 y0 x1 y1 : Int) (f g : Vf) : Vf := fun x y => if inR x0 y0 x1 y1 x y then lessF f g x y else 0
theorem Rg.with_ (a : Rg f) (b : Rg g) : Rg (withF x0 y0 x1 y1 f g) := fun x y => by
  have := a.less b x y; unfold withF; split <;> omega
theorem with_eq (a : Rg f) : minF f (turnF x0 y0 x1 y1 g) = withF x0 y0 x1 y1 f g := by
  funext x y
  have := a x y
  unfold minF turnF withF lessF
  by_cases h : inR x0 y0 x1 y1 x y
  · rw [if_pos h, if_pos h]
  · rw [if_neg h, if_neg h]
    split <;> omega
theorem both_turned : minF (turnF x0 y0 x1 y1 f) (turnF x0 y0 x1 y1 g) = turnF x0 y0 x1 y1 (maxF f g) := by
  funext x y
  unfold minF turnF maxF
  by_cases h : inR x0 y0 x1 y1 x y
  · rw [if_pos h, if_pos h, if_pos h]
    split <;> split <;> omega
  · rw [if_neg h, if_neg h, if_neg h]; rfl
theorem rest_turned (a : Rg f) : lessF (rectF x0 y0 x1 y1 255) f = turnF x0 y0 x1 y1 f := by
  funext x y
  have := a x y
  unfold lessF turnF rectF
  by_cases h : inR x0 y0 x1 y1 x y
  · rw [if_pos h, if_pos h]
    split <;> omega
  · rw [if_neg h, if_neg h]
    split <;> omega
end
def c__law_turns : Ctr := fun ds H Q _ => ∃ (p r t u : Addr) (f g : Vf) (x0 y0 x1 y1 cx cy : Int), ds = [.ref p, .ref r, .ref t, .ref u, rectD x0 y0 x1 y1, .tup [.int cx, .int cy]] ∧ CovF 1000 H p f ∧ CovF 1000 H r g ∧ TabF 1000 H t f ∧ TabF 1000 H u g ∧ small x0 y0 x1 y1 ∧ ∀ H', Lk H H' → Q (.bl true) H'
theorem k__law_turns (G : Gm) (g1 : G.fn "Coverage.__or__" = some (2, c_Coverage___or__)) (g2 : G.fn "_law_joined" = some (3, c__law_joined)) (g3 : G.fn "_law_is" = some (2, c__law_is)) (g4 : G.fn "Coverage.__and__" = some (2, c_Coverage___and__)) (g5 : G.fn "Coverage.__sub__" = some (2, c_Coverage___sub__)) (g6 : G.fn "_law_turned" = some (2, c__law_turned)) (g7 : G.fn "_law_told" = some (3, c__law_told)) (g8 : G.fn "Coverage.turned" = some (2, c_Coverage_turned)) (g9 : G.fn "Coverage.__eq__" = some (2, c_Coverage___eq__)) (g10 : G.fn "Coverage.of_rect" = some (2, c_Coverage_of_rect)) (g11 : G.fn "_law_same" = some (2, c__law_same 3)) (go : G.ob = obf) (gw : ∀ i j, G.wt [.inl i, .inl j] = false) : ∀ ds H Q E, c__law_turns ds H Q E → wpF G N__law_turns b__law_turns ds H Q E := by
  rintro ds H Q E ⟨p, r, t, u, f, g, x0, y0, x1, y1, cx, cy, rfl, ha, hb, hT, hU, hs, q⟩
  have rf := hT.rg
  have rg := hU.rg
  have nk : (1000 : Nat) ≤ 40000 := by decide
  have nk2 : (1000 : Nat) ≤ 100000 := by decide
  have nk3 : (1000 + 1000 : Nat) ≤ 100000 := by decide
  have nk4 : (10000 : Nat) ≤ 100000 := by decide
  refine wpF_ss (st__law_turns _ _ _ _ _ _) (wp_hold ?_)
  repeat' (first | (with_reducible refine turned_use2 hT hs fun d H1 T hd1 hd2 hd3 hd4 hd5 l1 => ?_) | walk_at "stepN")
  have hD : TabF 10000 H1 d _ := ⟨T, hd1, hd2, hd3, hd4⟩
  replace ha := l1.covF ha
  replace hb := l1.covF hb
  replace hT := l1.tabF hT
  replace hU := l1.tabF hU
  walk_at "nxt"
  repeat' (first | (refine ⟨ha.meth rfl, ?_⟩) | (with_reducible refine turn_val ha hs rf fun c H2 _ hc l2 => ?_) | (with_reducible refine told_use hc (l2.tabF hD) nk4 nk4 fun H3 l3 => ?_) | walk_at "stepN")
  have k1 := l2.trans l3
  clear hc l2 l3
  replace ha := k1.covF ha
  replace hb := k1.covF hb
  replace hT := k1.tabF hT
  replace hU := k1.tabF hU
  replace hD := k1.tabF hD
  replace hd1 := k1.rd hd1
  replace k1 := l1.trans k1
  clear l1
  walk_at "nxt"
  repeat' (first | (refine ⟨ha.meth rfl, ?_⟩) | (with_reducible refine turn_val ha hs rf fun c H4 _ hc l4 => ?_) | (refine ⟨hc.meth rfl, ?_⟩) | (with_reducible refine turn_val hc hs rf.turn fun c2 H5 _ hc2 l5 => ?_) | (with_reducible refine turned_use ((l4.trans l5).tabF hD) hs fun e H6 he l6 => ?_) | (with_reducible refine is_use (l6.covF hc2) he nk4 nk4 fun H7 l7 => ?_) | walk_at "stepN")
  have k2 := ((l4.trans l5).trans l6).trans l7
  clear hc hc2 he l4 l5 l6 l7
  replace ha := k2.covF ha
  replace hb := k2.covF hb
  replace hT := k2.tabF hT
  replace hU := k2.tabF hU
  replace hD := k2.tabF hD
  replace hd1 := k2.rd hd1
  replace k1 := k1.trans k2
  clear k2
  walk_at "nxt"
  repeat' (first | (with_reducible refine more_use hT hU nk nk fun e H8 he l8 => ?_) | (with_reducible refine turned_use he hs fun e2 H9 hN l9 => ?_) | walk_at "stepN")
  have k2 := l8.trans l9
  clear he l8 l9
  replace ha := k2.covF ha
  replace hb := k2.covF hb
  replace hT := k2.tabF hT
  replace hU := k2.tabF hU
  replace hD := k2.tabF hD
  replace hd1 := k2.rd hd1
  replace k1 := k1.trans k2
  clear k2
  walk_at "nxt"
  repeat' (first | (refine ⟨ha.ins, hb.ins, ⟨_, ob_of go rfl⟩, ?_⟩) | (with_reducible refine or_val ha hb nk nk fun c H10 _ hc l10 => ⟨⟨_, rfl⟩, ?_⟩) | (refine ⟨hc.meth rfl, ?_⟩) | (with_reducible refine turn_val hc hs (rf.max rg) fun c2 H11 _ hc2 l11 => ?_) | (with_reducible refine is_use hc2 ((l10.trans l11).tabF hN) nk4 nk4 fun H12 l12 => ?_) | (refine ⟨(((l10.trans l11).trans l12).covF ha).meth rfl, ?_⟩) | (with_reducible refine turn_val (((l10.trans l11).trans l12).covF ha) hs rf fun c3 H13 _ hc3 l13 => ?_) | (refine ⟨((((l10.trans l11).trans l12).trans l13).covF hb).meth rfl, ?_⟩) | (with_reducible refine turn_val ((((l10.trans l11).trans l12).trans l13).covF hb) hs rg fun c4 H14 _ hc4 l14 => ?_) | (refine ⟨(l14.covF hc3).ins, hc4.ins, ⟨_, ob_of go rfl⟩, ?_⟩) | (with_reducible refine and_val (l14.covF hc3) hc4 nk4 fun c5 H15 _ hc5 l15 => ⟨⟨_, rfl⟩, ?_⟩) | (with_reducible refine is_use (cov_eq both_turned hc5) ((((((l10.trans l11).trans l12).trans l13).trans l14).trans l15).tabF hN) nk4 nk4 fun H16 l16 => ?_) | walk_at "stepN")
  have k2 := (((((l10.trans l11).trans l12).trans l13).trans l14).trans l15).trans l16
  clear hc hc2 hc3 hc4 hc5 l10 l11 l12 l13 l14 l15 l16 hN
  replace ha := k2.covF ha
  replace hb := k2.covF hb
  replace hT := k2.tabF hT
  replace hU := k2.tabF hU
  replace hd1 := k2.rd hd1
  replace k1 := k1.trans k2
  clear k2 hD
  walk_at "nxt"
  conv => whnf
  intro a ea
  have lk : ∀ o, Lk H16 (updM H16 a o) := fun o => Lk.new ea
  walk_at "nxt"
  conv => whnf
  refine ⟨_, rfl, itW_tab ((lk _).rd hd1) (fun H17 l17 o17 d17 => ?_)⟩
  have nda : d ≠ a := ne_rd ea hd1
  have h17a : H17 a = some (.dt (tbD [])) := by rw [o17 a (Ne.symm nda), updM_same]; rfl
  have l27 : Lk H16 H17 := (lk _).trans l17
  obtain ⟨T1, p1, p2, p3, p4⟩ := id hT
  obtain ⟨U1, r1, r2, r3, r4⟩ := id hU
  have net : t ≠ a := ne_rd ea p1
  have neu : u ≠ a := ne_rd ea r1
  rw [keys_tb]
  refine loopL_ix (fun i σ H2 => ∃ (c : Option D) (W : List Sp), σ = [some (.ref p), some (.ref r), some (.ref t), some (.ref u), some (rectD x0 y0 x1 y1), some (.tup [.int cx, .int cy]), some (.ref d), some (.ref e2), some (.ref a), c] ∧ H2 = updM H17 a (.dt (tbD W)) ∧ Tells (withF x0 y0 x1 y1 f g) ((T.map place).take i) W) 0 (fun _ _ _ h => by obtain ⟨c, U, _, rfl, _⟩ := h; exact updM_ne nda) ?_ ⟨_, [], rfl, upd_self h17a, tells_nil⟩ ?_
  · rintro i z hz σ H2 Q' ⟨c, W, rfl, rfl, hW⟩ hq
    rw [List.getElem?_map] at hz
    obtain ⟨⟨x, y⟩, hv, rfl⟩ := Option.map_eq_some_iff.1 hz
    rw [Nat.zero_add] at hq hW
    have hin : inR x0 y0 x1 y1 x y := (hd5 (x, y)).1 (List.mem_of_getElem? hv)
    have hlen : (tbD W).length < sizeLine := by
      have a1 := hW.2.2.2
      rw [List.length_take, List.length_map] at a1
      rw [tb_len, sizeLine_eq]
      omega
    have e1 := (l27.new2 ea (o := .dt (tbD W))).rd p1
    have e3 := (l27.new2 ea (o := .dt (tbD W))).rd r1
    obtain ⟨W', e, hW'⟩ := tells_put (x := x) (y := y) hW
    have ev : withF x0 y0 x1 y1 f g x y = lessF f g x y := if_pos hin
    have dv1 := dctRd p1 p4 x y
    have dv2 := dctRd r1 r4 x y
    unfold plD
    walk_at "lb"
    repeat' (first | (rw [dv1]) | (rw [dv2]) | (refine ⟨isDct_dt e1, ?_⟩) | (refine ⟨t, _, keyP x y, rfl, e1, rfl, gw _ _, ?_⟩) | (refine ⟨isDct_dt e3, ?_⟩) | (refine ⟨u, _, keyP x y, rfl, e3, rfl, gw _ _, ?_⟩) | walk_at "stepN")
    rw [ev] at e
    repeat' (first | (refine ⟨a, _, keyP x y, rfl, rfl, gw _ _, updM_same, hlen, ?_⟩) | walk_at "stepN" | ((walk_at "hs"); (conv => whnf)))
    refine hq _ _ ⟨_, W', rfl, ?_, ?_⟩
    · rw [updM_two, ← e]; rfl
    · rw [List.take_succ, hv]; exact hW'
  · rintro σ H2 ⟨c, W, rfl, rfl, hW⟩
    rw [Nat.zero_add, List.length_map, List.take_length] at hW
    have k2 : Lk H16 (updM H17 a (.dt (tbD W))) := l27.new2 ea
    have hlW : W.length ≤ 10000 := by
      have := hW.2.2.2
      rw [List.length_map] at this
      omega
    have hWt : TabF 10000 (updM H17 a (.dt (tbD W))) a (withF x0 y0 x1 y1 f g) := ⟨W, dtRd_dt updM_same, hlW, tells_tt hW (rf.with_ rg), fun x y => tells_at hW x y fun m => if_neg fun h => m ((hd5 (x, y)).2 h)⟩
    replace ha := k2.covF ha
    replace hb := k2.covF hb
    replace k1 := k1.trans k2
    clear k2
    generalize updM H17 a (.dt (tbD W)) = H18 at *
    walk_at "nxt"
    repeat' (first | (refine ⟨hb.meth rfl, ?_⟩) | (with_reducible refine turn_val hb hs rg fun c H10 _ hc l10 => ?_) | (refine ⟨(l10.covF ha).ins, hc.ins, ⟨_, ob_of go rfl⟩, ?_⟩) | (with_reducible refine and_val (l10.covF ha) hc nk2 fun c2 H11 _ hc2 l11 => ⟨⟨_, rfl⟩, ?_⟩) | (with_reducible refine is_use (cov_eq (with_eq rf) hc2) ((l10.trans l11).tabF hWt) nk2 nk4 fun H12 l12 => ?_) | walk_at "stepN")
    have k2 := (l10.trans l11).trans l12
    clear hc hc2 l10 l11 l12 hWt
    replace ha := k2.covF ha
    replace k1 := k1.trans k2
    clear k2
    walk_at "nxt"
    have h255 : (0 : Int) ≤ 255 := by decide
    have ok : okD 3 (.bl true) = true := rfl
    repeat' (first | (with_reducible refine of_rect_val hs h255 fun c H13 _ hc l13 => ?_) | (refine ⟨hc.ins, (l13.covF ha).ins, ⟨_, ob_of go rfl⟩, ?_⟩) | (with_reducible refine sub_val hc (l13.covF ha) nk4 rf fun c2 H14 _ hc2 l14 => ⟨⟨_, rfl⟩, ?_⟩) | (refine ⟨((l13.trans l14).covF ha).meth rfl, ?_⟩) | (with_reducible refine turn_val ((l13.trans l14).covF ha) hs rf fun c3 H15 _ hc3 l15 => ?_) | (refine Or.inl ⟨(l15.covF hc2).ins, Or.inr hc3.ins, _, _, g9, rfl, ?_⟩) | (with_reducible refine eq_true (cov_eq (rest_turned rf) (l15.covF hc2)) hc3 ⟨_, rfl, ?_⟩) | (with_reducible refine same_use ok ?_) | (exact Rt.now (q _ (((k1.trans l13).trans l14).trans l15))) | walk_at "stepN")
theorem nd_rev {α : Type} {l : List α} (h : l.Nodup) : l.reverse.Nodup := (List.reverse_perm l).nodup_iff.2 h
theorem Lk.lst {H H' : MH} {p : Addr} {xs : List D} (l : Lk H H') (h : H p = some (.lst xs)) : H' p = some (.lst xs) := l.at_ h
theorem mk_use {H : MH} {sp : D} {S : List Sp} {f : Vf} {R : Addr → DK} {E : XDK} (hs : seqAt H sp = some (S.map spD)) (hl : S.length ≤ 100000) (ho : Once S) (hv : ∀ x y, atL (posS S) x y = f x y)
    (q : ∀ p H', CovF S.length H' p f → Lk H H' → R p .non H') : ∀ p', H p' = none → c_Coverage___init__ [.ref p', sp] (updM H p' (.ins "Coverage" [] [])) (R p') E := fun p' hp' => by
  refine ⟨p', sp, S, rfl, updM_same, ?_, hl, ho, fun L H' hc hv2 hf => ?_⟩
  · cases sp with
    | ref a =>
      have k : updM H p' (.ins "Coverage" [] []) a = H a := keep_new hs hp'
      have h : (match H a with | some (.lst xs) => some xs | _ => none) = some (S.map spD) := hs
      show (match updM H p' (.ins "Coverage" [] []) a with | some (.lst xs) => some xs | _ => none) = some (S.map spD)
      rw [k]; exact h
    | _ => exact hs
  · have gd := canon_good hc ho
    refine q p' H' ⟨L, hv2, ?_, gd, fun x y => (at_perm hc.1 gd.2.1 x y).trans (hv x y)⟩ (Lk.grow fun x hx => ?_)
    · rw [hc.1.length_eq]
      exact List.length_filter_le _ _
    · have ne : x ≠ p' := fun e => hx (e ▸ hp')
      rw [hf x (by rw [updM_ne ne]; exact hx) ne, updM_ne ne]
theorem seq_tup {H : MH} (xs : List D) : seqAt H (.tup xs) = some xs := rfl
def posF : D → Option D
  | .tup [.int x, .int y, .int k] => if 0 < k then some (.tup [.int x, .int y, .int k]) else none
  | _ => none
theorem pos_rev (S : List Sp) : ((S.map spD).reverse).filterMap posF = ((posS S).reverse).map spD := by
  have h : ∀ T : List Sp, (T.map spD).filterMap posF = (posS T).map spD := fun T => by
    induction T with
    | nil => rfl
    | cons s r ih =>
      have e : posF (spD s) = if 0 < s.2.2 then some (spD s) else none := rfl
      rw [List.map_cons, List.filterMap_cons, e, ih]
      unfold posS
      rw [List.filter_cons]
      by_cases h : 0 < s.2.2
      · rw [if_pos h, if_pos (by simpa using h)]; rfl
      · rw [if_neg h, if_neg (by simpa using h)]
  rw [← List.map_reverse, h]
  unfold posS
  rw [List.filter_reverse]
theorem posS_app (A B : List Sp) : posS (A ++ B) = posS A ++ posS B := by unfold posS; rw [List.filter_append]
theorem posS_all {A : List Sp} (h : ∀ s ∈ A, 0 < s.2.2) : posS A = A := by
  unfold posS
  rw [List.filter_eq_self]
  intro s hs
  exact decide_eq_true (h s hs)
/-- the rows that are liked: those above 0, turned round, and one of 0 -/
def likeS (S : List Sp) (x : Int) : List Sp := (posS S).reverse ++ [(7, x, 0)]
theorem like_pos (S : List Sp) (x : Int) : posS (likeS S x) = (posS S).reverse := by
  unfold likeS
  rw [posS_app, posS_all fun s hs => (mem_pos.1 (List.mem_reverse.1 hs)).2]
  show _ ++ [] = _
  rw [List.append_nil]
theorem like_once {S : List Sp} (hS : Tt S) (x : Int) : Once (likeS S x) := by
  unfold Once
  rw [like_pos, List.map_reverse]
  exact nd_rev (hS.1.sublist (List.filter_sublist.map _))
theorem like_val {S : List Sp} {f : Vf} (hS : Tt S) (hv : Val S f) (z : Int) (x y : Int) : atL (posS (likeS S z)) x y = f x y := by
  rw [like_pos, ← hv, ← pos_at hS.1 (fun s hs => (hS.2 s hs).1)]
  refine at_perm (List.reverse_perm _) ?_ x y
  rw [List.map_reverse]
  exact nd_rev (hS.1.sublist (List.filter_sublist.map _))
def incS (s : Sp) : Sp := (s.1, s.2.1, s.2.2 % 255 + 1)
/-- the first one changed -/
theorem other_once {S : List Sp} {x : Int} {s : Sp} {r : List Sp} (hS : Tt S) (e : likeS S x = s :: r) : Once (incS s :: r) := by
  have ho := like_once hS x
  unfold Once at ho ⊢
  rw [e] at ho
  have hp : posS (incS s :: r) = incS s :: posS r := by
    unfold posS
    rw [List.filter_cons, if_pos]
    rw [decide_eq_true_eq]
    show 0 < s.2.2 % 255 + 1
    omega
  rw [hp]
  by_cases c : 0 < s.2.2
  · have hp2 : posS (s :: r) = s :: posS r := by
      unfold posS
      rw [List.filter_cons, if_pos (decide_eq_true c)]
    rw [hp2] at ho
    exact ho
  · have hr : (posS S).reverse = [] := by
      cases h : (posS S).reverse with
      | nil => rfl
      | cons t q =>
        have : likeS S x = t :: (q ++ [(7, x, 0)]) := by unfold likeS; rw [h]; rfl
        rw [e] at this
        injection this with h1 h2
        have m : t ∈ posS S := List.mem_reverse.1 (by rw [h]; exact List.mem_cons_self)
        rw [h1] at c
        exact absurd (mem_pos.1 m).2 c
    have : likeS S x = [(7, x, 0)] := by unfold likeS; rw [hr]; rfl
    rw [e] at this
    injection this with h1 h2
    rw [h2]
    show ([place (incS s)] : List _).Nodup
    simp
theorem other_ne {S : List Sp} {f : Vf} {x : Int} {s : Sp} {r : List Sp} (hS : Tt S) (hv : Val S f) (e : likeS S x = s :: r) : f s.2.1 s.1 ≠ atL (posS (incS s :: r)) s.2.1 s.1 := by
  have hm : incS s ∈ posS (incS s :: r) := mem_pos.2 ⟨List.mem_cons_self, by show 0 < s.2.2 % 255 + 1; omega⟩
  have h1 : atL (posS (incS s :: r)) s.2.1 s.1 = s.2.2 % 255 + 1 := at_mem (s := incS s) (other_once hS e) hm
  rw [h1, ← like_val hS hv x, like_pos]
  have hn : ((posS S).reverse.map place).Nodup := by
    rw [List.map_reverse]
    exact nd_rev (hS.1.sublist (List.filter_sublist.map _))
  cases h : (posS S).reverse with
  | nil => show (0 : Int) ≠ _; have : likeS S x = [(7, x, 0)] := by unfold likeS; rw [h]; rfl
           rw [e] at this
           injection this with h1 h2
           rw [h1]; show (0 : Int) ≠ (0 : Int) % 255 + 1; omega
  | cons t q =>
    have : likeS S x = t :: (q ++ [(7, x, 0)]) := by unfold likeS; rw [h]; rfl
    rw [e] at this
    injection this with h2 h3
    subst h2
    have m : s ∈ posS S := List.mem_reverse.1 (by rw [h]; exact List.mem_cons_self)
    obtain ⟨m1, m2⟩ := mem_pos.1 m
    have m3 := (hS.2 s m1).2
    rw [h] at hn
    rw [at_mem hn List.mem_cons_self]
    omega
theorem like_len (S : List Sp) (x : Int) : (likeS S x).length ≤ S.length + 1 := by
  have : (posS S).length ≤ S.length := List.length_filter_le _ _
  unfold likeS
  rw [List.length_append, List.length_reverse]
  exact Nat.add_le_add this (Nat.le_refl _)
theorem ixN0 {n : Nat} : ixN (n + 1) 0 = some 0 := by
  unfold ixN
  rw [if_pos (by decide), if_pos (by omega)]; rfl
theorem at0 {x : D} {xs : List D} : atI (x :: xs) 0 = some x := by
  unfold atI
  rw [List.length_cons, ixN0]; rfl
theorem eq_use {H : MH} {p r : Addr} {L M : List Sp} {Q : DK} {E : XDK} (h : CovAt H p L) (g : CovAt H r M) (q : Q (.bl (decide (L = M))) H) : c_Coverage___eq__ [.ref p, .ref r] H Q E := ⟨p, L, h, .inl ⟨r, M, rfl, g, q⟩⟩
theorem eq_tup {H : MH} {p : Addr} {L : List Sp} {xs : List D} {Q : DK} {E : XDK} (h : CovAt H p L) (q : Q (.bl false) H) : c_Coverage___eq__ [.ref p, .tup xs] H Q E := ⟨p, L, h, .inr ⟨xs, .inl rfl, q⟩⟩
theorem eq_rol {H : MH} {p : Addr} {L : List Sp} {xs : List D} {Q : DK} {E : XDK} (h : CovAt H p L) (q : Q (.bl false) H) : c_Coverage___eq__ [.ref p, .rol xs] H Q E := ⟨p, L, h, .inr ⟨xs, .inr rfl, q⟩⟩
def c__law_likes : Ctr := fun ds H Q _ => ∃ (p r t u rw : Addr) (f g : Vf) (S : List Sp), ds = [.ref p, .ref r, .ref t, .ref u, .ref rw] ∧ CovF 1000 H p f ∧ CovF 1000 H r g ∧ TabF 1000 H t f ∧ TabF 1000 H u g ∧ H rw = some (.lst (S.map spD)) ∧ S.length ≤ 1000 ∧ Tt S ∧ Val S f ∧ ∀ H', Lk H H' → Q (.bl true) H'
theorem k__law_likes (G : Gm) (g1 : G.fn "Coverage.__init__" = some (2, c_Coverage___init__)) (g2 : G.fn "Coverage.__eq__" = some (2, c_Coverage___eq__)) (g3 : G.fn "_law_same" = some (2, c__law_same 3)) (g4 : G.fn "_law_form" = some (1, c__law_form)) : ∀ ds H Q E, c__law_likes ds H Q E → wpF G N__law_likes b__law_likes ds H Q E := by
  rintro ds H Q E ⟨p, r, t, u, rw, f, g, S, rfl, ha, hb, hT, hU, hw, hl, hS, hv, q⟩
  have nk2 : (1000 : Nat) ≤ 100000 := by decide
  have z1 : ((S.map spD).reverse).length ≤ sizeLine := by rw [List.length_reverse, List.length_map, sizeLine_eq]; omega
  have zp : (posS S).length ≤ S.length := List.length_filter_le _ _
  have z2 : (((posS S).reverse).map spD).length ≤ sizeLine := by rw [List.length_map, List.length_reverse, sizeLine_eq]; omega
  have z3 : (((posS S).reverse).map spD).length < sizeLine := by rw [List.length_map, List.length_reverse, sizeLine_eq]; omega
  refine wpF_ss (st__law_likes _ _ _ _ _) (wp_hold ?_)
  repeat' (first | (refine ⟨_, seqAt_ref hw, ?_⟩) | (refine ⟨z1, ?_⟩) | (refine hold_lc ?_) | walk_at "stepN")
  refine hold_of (lcL_fm posF (by rfl) ?_ ?_)
  · intro x hx Q2 hq
    obtain ⟨s, hs, rfl⟩ := List.mem_map.1 (List.mem_reverse.1 hx)
    have e : posF (spD s) = if 0 < s.2.2 then some (spD s) else none := rfl
    rw [e] at hq
    by_cases c : 0 < s.2.2
    · rw [if_pos c] at hq
      repeat' (first | exact hq | (refine br_tk (decide_eq_true c) ?_) | walk_at "stepN")
    · rw [if_neg c] at hq
      repeat' (first | exact hq | (refine br_fk (decide_eq_false c) ?_) | walk_at "stepN")
  rw [pos_rev]
  refine ⟨z2, ?_⟩
  intro k hk
  have lk : ∀ o, Lk H (updM H k o) := fun o => Lk.new hk
  have nwk : rw ≠ k := ne_at hw hk
  have hw1 : ∀ o, updM H k o rw = some (.lst (S.map spD)) := fun o => (updM_ne nwk).trans hw
  have tail : ∀ x : Int, wpSs G (fun _ => Ex E) (Ss.tl (Ss.tl b__law_likes)) { nx := fun _ H1 => Rt Q .non H1, rt := Rt Q } [some (.ref p), some (.ref r), some (.ref t), some (.ref u), some (.ref rw), some (.ref k), none, none] (updM H k (.lst ((likeS S x).map spD))) := by
    intro x
    have hk1 : updM H k (.lst ((likeS S x).map spD)) k = some (.lst ((likeS S x).map spD)) := updM_same
    have l0 := lk (.lst ((likeS S x).map spD))
    have hw2 := hw1 (.lst ((likeS S x).map spD))
    generalize updM H k (.lst ((likeS S x).map spD)) = H0 at hk1 l0 hw2
    replace ha := l0.covF ha
    replace hb := l0.covF hb
    replace hT := l0.tabF hT
    replace hU := l0.tabF hU
    have ok : ∀ b, okD 3 (.bl b) = true := fun _ => rfl
    have zl : (likeS S x).length ≤ 100000 := by have := like_len S x; omega
    have zs : ((likeS S x).map spD).length ≤ sizeLine := by rw [List.length_map, sizeLine_eq]; have := like_len S x; omega
    refine wp_hold ?_
    repeat' (first | (refine ⟨_, seqAt_ref hk1, ?_⟩) | (with_reducible refine mk_use (seq_tup _) zl (like_once hS x) (like_val hS hv x) fun c H1 hc l1 => ⟨rfl, ?_⟩) | (refine Or.inl ⟨(l1.covF ha).ins, Or.inr hc.ins, _, _, g2, rfl, ?_⟩) | (with_reducible refine eq_true (l1.covF ha) hc ⟨_, rfl, ?_⟩) | (with_reducible refine same_use (ok _) ?_) | (with_reducible refine mk_use (seqAt_ref (l1.lst hk1)) zl (like_once hS x) (like_val hS hv x) fun c2 H2 hc2 l2 => ⟨rfl, ?_⟩) | (refine Or.inl ⟨hc2.ins, Or.inr ((l1.trans l2).covF ha).ins, _, _, g2, rfl, ?_⟩) | (with_reducible refine eq_true hc2 ((l1.trans l2).covF ha) ⟨_, rfl, ?_⟩) | walk_at "stepN")
    have l3 := l1.trans l2
    clear hc hc2
    replace ha := l3.covF ha
    replace hb := l3.covF hb
    replace hT := l3.tabF hT
    replace hU := l3.tabF hU
    replace hk1 := l3.at_ hk1
    replace hw2 := l3.at_ hw2
    replace l0 := l0.trans l3
    clear l1 l2 l3
    walk_at "nxt"
    have lat : listAt H2 (.ref k) = some ((likeS S x).map spD) := by
      unfold listAt
      dsimp only
      rw [hk1]
    repeat' (first | (refine ⟨_, lat, zs, ?_⟩) | walk_at "stepN")
    intro o ho
    have nko : k ≠ o := ne_at hk1 ho
    have nwo : rw ≠ o := ne_at hw2 ho
    have hk3 : ∀ z, updM H2 o z k = some (.lst ((likeS S x).map spD)) := fun z => (updM_ne nko).trans hk1
    have hw3 : ∀ z, updM H2 o z rw = some (.lst (S.map spD)) := fun z => (updM_ne nwo).trans hw2
    walk_at "nxt"
    generalize hls : likeS S x = ls at *
    cases ls with
    | nil =>
      have : (likeS S x).length = 0 := by rw [hls]; rfl
      unfold likeS at this
      rw [List.length_append] at this
      simp at this
    | cons s rr =>
    have zo : (incS s :: rr).length ≤ 100000 := by
      have := like_len S x
      rw [hls] at this
      rw [List.length_cons] at this ⊢
      omega
    have oo := other_once hS hls
    have on := other_ne hS hv hls
    repeat' (first | (refine ⟨_, ix_ref (hk3 _) at0, ?_⟩) | (refine ⟨o, _, _, _, rfl, rfl, updM_same, ixN0, ?_⟩) | walk_at "stepN")
    have l3 : ∀ y z, Lk H2 (updM (updM H2 o y) o z) := fun y z => (Lk.new ho).new2 ho
    walk_at "nxt"
    have ho3 : ∀ y, updM (updM H2 o y) o (.lst (((s :: rr).map spD).set 0 (.tup [.int s.2.1, .int s.1, .int (s.2.2 % 255 + 1)]))) o = some (.lst ((incS s :: rr).map spD)) := fun y => updM_same
    have l4 := l3 (.lst ((s :: rr).map spD)) (.lst (((s :: rr).map spD).set 0 (.tup [.int s.2.1, .int s.1, .int (s.2.2 % 255 + 1)])))
    have ho4 := ho3 (.lst ((s :: rr).map spD))
    show wpS _ _ _ _ _ (updM (updM H2 o (.lst ((s :: rr).map spD))) o (.lst (((s :: rr).map spD).set 0 (.tup [.int s.2.1, .int s.1, .int (s.2.2 % 255 + 1)]))))
    generalize updM (updM H2 o (.lst ((s :: rr).map spD))) o (.lst (((s :: rr).map spD).set 0 (.tup [.int s.2.1, .int s.1, .int (s.2.2 % 255 + 1)]))) = H3 at l4 ho4
    replace ha := l4.covF ha
    replace hb := l4.covF hb
    replace hT := l4.tabF hT
    replace hU := l4.tabF hU
    replace hw2 := l4.lst hw2
    replace l0 := l0.trans l4
    clear l4 l3 ho3 hk3 hw3
    repeat' (first | (with_reducible refine mk_use (seqAt_ref ho4) zo oo (fun _ _ => rfl) fun c H4 hc l4 => ⟨rfl, ?_⟩) | (refine Or.inl ⟨(l4.covF ha).ins, Or.inr hc.ins, _, _, g2, rfl, ?_⟩) | (with_reducible refine eq_false (l4.covF ha) hc s.2.1 s.1 on ⟨_, rfl, ?_⟩) | (with_reducible refine same_use (ok _) ?_) | (with_reducible refine mk_use (seqAt_ref (l4.lst ho4)) zo oo (fun _ _ => rfl) fun c2 H5 hc2 l5 => ⟨rfl, ?_⟩) | (refine Or.inl ⟨hc2.ins, Or.inr ((l4.trans l5).covF ha).ins, _, _, g2, rfl, ?_⟩) | (with_reducible refine eq_false hc2 ((l4.trans l5).covF ha) s.2.1 s.1 (Ne.symm on) ⟨_, rfl, ?_⟩) | walk_at "stepN")
    have l6 := l4.trans l5
    clear hc hc2
    replace ha := l6.covF ha
    replace hb := l6.covF hb
    replace hT := l6.tabF hT
    replace hU := l6.tabF hU
    replace hw2 := l6.lst hw2
    replace l0 := l0.trans l6
    clear l4 l5 l6
    walk_at "nxt"
    obtain ⟨L, a1, a2, a3, a4⟩ := id ha
    obtain ⟨M, b1, b2, b3, b4⟩ := id hb
    have zw : (S.map spD).length ≤ sizeLine := by rw [List.length_map, sizeLine_eq]; omega
    have lat2 : listAt H5 (.ref rw) = some (S.map spD) := by
      unfold listAt
      dsimp only
      rw [hw2]
    repeat' (first | (refine Or.inl ⟨ha.ins, Or.inr hb.ins, _, _, g2, rfl, ?_⟩) | (with_reducible refine eq_use a1 b1 ⟨_, rfl, ?_⟩) | (with_reducible refine form_use hT nk2 a3 a4 ?_) | (with_reducible refine form_use hU nk2 b3 b4 ?_) | (refine ⟨_, eq_spots H5 L M, ?_⟩) | (with_reducible refine same_use (ok _) ?_) | walk_at "stepN")
    walk_at "nxt"
    repeat' (first | (with_reducible refine form_use hT nk2 a3 a4 ?_) | (refine Or.inl ⟨ha.ins, Or.inl rfl, _, _, g2, rfl, ?_⟩) | (with_reducible refine eq_tup a1 ⟨_, rfl, ?_⟩) | (with_reducible refine eq_rol a1 ⟨_, rfl, ?_⟩) | (refine ⟨_, lat2, zw, ?_⟩) | (with_reducible refine same_use (ok _) ?_) | exact Rt.now (q _ l0) | walk_at "stepN")
  have app : ∀ x : Int, updM (updM H k (.lst (((posS S).reverse).map spD))) k (.lst (((posS S).reverse).map spD ++ [.tup [.int x, .int 7, .int 0]])) = updM H k (.lst ((likeS S x).map spD)) := fun x => by
    rw [updM_two]
    unfold likeS
    rw [List.map_append]; rfl
  have hw4 := hw1 (.lst (((posS S).reverse).map spD))
  have hk4 : updM H k (.lst (((posS S).reverse).map spD)) k = some (.lst (((posS S).reverse).map spD)) := updM_same
  have zw : ((S.map spD).length : Int) = (S.length : Int) := by rw [List.length_map]
  cases hSc : S with
  | nil =>
    have hwn : updM H k (.lst (((posS S).reverse).map spD)) rw = some (.lst []) := by rw [hw4, hSc]; rfl
    subst hSc
    walk_at "nxt"
    repeat' (first | (refine ⟨_, seqAt_ref hwn, ?_⟩) | (refine br_neg (by decide) ?_) | (refine ⟨_, updM_same, z3, ?_⟩) | walk_at "stepN")
    walk_at "hs"
    rw [app 0]
    exact tail 0
  | cons s0 r0 =>
    have hwn : updM H k (.lst (((posS S).reverse).map spD)) rw = some (.lst (spD s0 :: r0.map spD)) := by rw [hw4, hSc]; rfl
    rw [← hSc]
    walk_at "nxt"
    repeat' (first | (refine ⟨_, seqAt_ref hwn, ?_⟩) | (refine br_pos (by rw [List.length_cons]; omega) ?_) | (refine ⟨_, ix_ref hwn at0, ?_⟩) | (refine ⟨_, updM_same, z3, ?_⟩) | walk_at "stepN")
    walk_at "hs"
    rw [app (s0.2.1 + 99)]
    exact tail (s0.2.1 + 99)
theorem filled_use {H : MH} {x0 y0 x1 y1 k : Int} {Q : DK} {E : XDK} (hs : small x0 y0 x1 y1) (k0 : 0 ≤ k) (k1 : k ≤ 255) (q : ∀ a H', TabF 10000 H' a (rectF x0 y0 x1 y1 k) → Lk H H' → Q (.ref a) H') : c__law_filled [rectD x0 y0 x1 y1, .int k] H Q E := by
  refine ⟨x0, y0, x1, y1, k, rfl, hs, fun tp htp => q tp _ ⟨_, dtRd_dt updM_same, rect_len hs, ⟨rectS_nodup _ _ _ _ _, ?_⟩, fun x y => ?_⟩ (Lk.new htp)⟩
  · rintro ⟨b, a, k'⟩ h
    obtain ⟨_, rfl⟩ := rect_mem.1 h
    exact ⟨k0, k1⟩
  · rw [rect_at]; rfl
theorem table_use {H : MH} {sp : D} {S : List Sp} {Q : DK} {E : XDK} (hs : seqAt H sp = some (S.map spD)) (hl : S.length ≤ 1000) (ht : Tt S) (q : ∀ a H', TabF 1000 H' a (atL S) → Lk H H' → Q (.ref a) H') : c__law_table [sp] H Q E :=
  ⟨sp, S, rfl, hs, by omega, ht.1, fun tp htp => q tp _ ⟨S, dtRd_dt updM_same, hl, ht, fun _ _ => rfl⟩ (Lk.new htp)⟩
theorem eq_rols (H : MH) (p r : Addr) (L : List Sp) (hp : H p = some (.lst (L.map spD))) (hr : H r = some (.lst (L.map spD))) : eqD (rdL H (.ref p)) (rdL H (.ref r)) = some true := by
  have e1 : ∀ p, H p = some (.lst (L.map spD)) → rdL H (.ref p) = .rol (L.map spD) := fun p hp => by
    unfold rdL
    rw [lstAt_ref hp]
  rw [e1 p hp, e1 r hr]
  have e : pyD (.rol (L.map spD)) = some (.list (L.map spP)) := by
    show (pyDs (L.map spD)).map PyData.list = _
    rw [py_spots]; rfl
  show ((pyD (.rol (L.map spD))).bind fun d => (pyD (.rol (L.map spD))).bind fun e => if SeqAt.shaped d && SeqAt.shaped e then some (PyData.eqv d e) else none) = _
  rw [e]
  have sh : SeqAt.shaped (.list (L.map spP)) = true := by
    unfold SeqAt.shaped
    rw [Bool.and_eq_true, decide_eq_true_eq]
    refine ⟨?_, ?_⟩
    · unfold PyData.canLay0; exact lay_spots L
    · unfold PyData.depth
      have := dep_spots L
      omega
  show (if SeqAt.shaped (.list (L.map spP)) && SeqAt.shaped (.list (L.map spP)) then some (PyData.eqv (.list (L.map spP)) (.list (L.map spP))) else none) = _
  rw [sh]
  show some (PyData.eqv _ _) = _
  have := eqv_spots L L
  simp only [PyData.eqv, this, decide_true]
theorem upd_covF {n : Nat} {H : MH} {p s : Addr} {f : Vf} {xs : List D} {o : MO} (hs : H s = some (.lst xs)) (h : CovF n H p f) : CovF n (updM H s o) p f := by
  obtain ⟨L, ⟨tp, h1, h2⟩, b⟩ := h
  have n1 : p ≠ s := fun e => by rw [e, hs] at h1; cases h1
  have n2 : tp ≠ s := fun e => by
    unfold dtRd at h2
    rw [e, hs] at h2; cases h2
  refine ⟨L, ⟨tp, (updM_ne n1).trans h1, ?_⟩, b⟩
  unfold dtRd at h2 ⊢
  rw [updM_ne n2]; exact h2
theorem upd_tabF {n : Nat} {H : MH} {p s : Addr} {f : Vf} {xs : List D} {o : MO} (hs : H s = some (.lst xs)) (h : TabF n H p f) : TabF n (updM H s o) p f := by
  obtain ⟨T, h2, b⟩ := h
  have n2 : p ≠ s := fun e => by
    unfold dtRd at h2
    rw [e, hs] at h2; cases h2
  refine ⟨T, ?_, b⟩
  unfold dtRd at h2 ⊢
  rw [updM_ne n2]; exact h2
theorem OffG.lst {p a : Addr} {H H' : MH} {xs : List D} (l : OffG p H H') (ne : a ≠ p) (h : H a = some (.lst xs)) : H' a = some (.lst xs) := (l a ne (by rw [h]; simp)).trans h
/-- a list, tracked (not at p) or not -/
def SeqP (p : Addr) (H : MH) (d : D) (xs : List D) : Prop := (d = .rol xs) ∨ ∃ a, a ≠ p ∧ d = .ref a ∧ H a = some (.lst xs)
theorem SeqP.off {p : Addr} {H H' : MH} {d : D} {xs : List D} (h : SeqP p H d xs) (l : OffG p H H') : SeqP p H' d xs := by
  rcases h with h | ⟨a, ne, e, h⟩
  · exact .inl h
  · exact .inr ⟨a, ne, e, l.lst ne h⟩
theorem SeqP.lk {p : Addr} {H H' : MH} {d : D} {xs : List D} (h : SeqP p H d xs) (l : Lk H H') : SeqP p H' d xs := by
  rcases h with h | ⟨a, ne, e, h⟩
  · exact .inl h
  · exact .inr ⟨a, ne, e, l.lst h⟩
theorem SeqP.at_ {p : Addr} {H : MH} {d : D} {xs : List D} (h : SeqP p H d xs) : seqAt H d = some xs := by
  rcases h with rfl | ⟨a, ne, rfl, h⟩
  · rfl
  · exact seqAt_ref h
theorem RowsOk.tt {cx : Int} {S : List Sp} (h : RowsOk cx S) : Tt S := ⟨h.1, fun s hs => ⟨(h.2 s hs).1, (h.2 s hs).2.1⟩⟩
theorem Tt.once {S : List Sp} (h : Tt S) : Once S := once_of h.1
theorem Tt.val {S : List Sp} (h : Tt S) (x y : Int) : atL (posS S) x y = atL S x y := pos_at h.1 (fun s hs => (h.2 s hs).1) x y
section
variable {H : MH} {p r t u : Addr} {f g : Vf} {Q : DK} {E : XDK}
theorem joins_use (ha : CovF 1000 H p f) (hb : CovF 1000 H r g) (hT : TabF 1000 H t f) (hU : TabF 1000 H u g) (q : ∀ H', Lk H H' → Q (.bl true) H') : c__law_joins [.ref p, .ref r, .ref t, .ref u] H Q E := ⟨p, r, t, u, f, g, rfl, ha, hb, hT, hU, q⟩
theorem turns_use {x0 y0 x1 y1 cx cy : Int} (ha : CovF 1000 H p f) (hb : CovF 1000 H r g) (hT : TabF 1000 H t f) (hU : TabF 1000 H u g) (hs : small x0 y0 x1 y1) (q : ∀ H', Lk H H' → Q (.bl true) H') : c__law_turns [.ref p, .ref r, .ref t, .ref u, rectD x0 y0 x1 y1, .tup [.int cx, .int cy]] H Q E := ⟨p, r, t, u, f, g, x0, y0, x1, y1, cx, cy, rfl, ha, hb, hT, hU, hs, q⟩
theorem likes_use {w : Addr} {S : List Sp} (ha : CovF 1000 H p (atL S)) (hb : CovF 1000 H r g) (hT : TabF 1000 H t (atL S)) (hU : TabF 1000 H u g) (hw : H w = some (.lst (S.map spD))) (hl : S.length ≤ 1000) (hS : Tt S) (q : ∀ H', Lk H H' → Q (.bl true) H') : c__law_likes [.ref p, .ref r, .ref t, .ref u, .ref w] H Q E := ⟨p, r, t, u, w, _, g, S, rfl, ha, hb, hT, hU, hw, hl, hS, fun _ _ => rfl, q⟩
end
theorem law_tail (G : Gm) (g1 : G.fn "_law_rect" = some (2, c__law_rect)) (g2 : G.fn "_law_value" = some (1, c__law_value)) (g3 : G.fn "_law_table" = some (1, c__law_table)) (g4 : G.fn "Coverage.__init__" = some (2, c_Coverage___init__)) (g5 : G.fn "_law_told" = some (3, c__law_told)) (g6 : G.fn "_law_is" = some (2, c__law_is)) (g7 : G.fn "Coverage.of_rect" = some (2, c_Coverage_of_rect)) (g8 : G.fn "_law_filled" = some (2, c__law_filled)) (g9 : G.fn "_law_joins" = some (4, c__law_joins)) (g10 : G.fn "_law_turns" = some (6, c__law_turns)) (g11 : G.fn "_law_likes" = some (5, c__law_likes))
    (Q : DK) (E : XDK) (sd : D) (p a1 : Addr) (cx cy : Int) (od : D) (S1 S2 : List Sp) (H : MH) (hp : Pl H p) (hw : H a1 = some (.lst (S1.map spD))) (ne : a1 ≠ p) (t1 : Tt S1) (t2 : Tt S2) (l1 : S1.length ≤ 999) (l2 : S2.length ≤ 999) (ho : SeqP p H od (S2.map spD)) (q : ∀ H', Q (.bl true) H') :
    wpSs G (fun _ => Ex E) (Ss.tl (Ss.tl (Ss.tl (Ss.tl (Ss.tl (Ss.tl b_law)))))) { nx := fun _ H1 => Rt Q .non H1, rt := Rt Q } [some sd, some (.ref p), some (.tup [.int cx, .int cy]), some (.ref a1), some od, none, none, none, none, none, none, none, none] H := by
  have z1 : (S1.map spD).length ≤ sizeLine := by rw [List.length_map, sizeLine_eq]; omega
  have z1' : (S1.map spD).length < sizeLine := by rw [List.length_map, sizeLine_eq]; omega
  have z2 : (S2.map spD).length ≤ sizeLine := by rw [List.length_map, sizeLine_eq]; omega
  have n1 : S1.length ≤ 1000 := by omega
  have n2 : S2.length ≤ 1000 := by omega
  have m1 : S1.length ≤ 100000 := by omega
  have m2 : S2.length ≤ 100000 := by omega
  refine wp_hold ?_
  repeat' walk_at "stepN"
  intro x0 y0 x1 y1 H1 hs hx hy hp1 o1
  walk_at "nxt"
  repeat' walk_at "stepN"
  intro k H2 k0 k1 hp2 o2
  have og := (o1.trans o2).g
  replace hw := og.lst ne hw
  replace ho := ho.off og
  clear o1 o2 og hp hp1
  walk_at "nxt"
  repeat' (first | (with_reducible refine table_use (seqAt_ref hw) n1 t1 fun c1 H3 hc1 l3 => ?_) | walk_at "stepN")
  replace hw := l3.lst hw
  replace ho := ho.lk l3
  clear l3
  walk_at "nxt"
  repeat' (first | (with_reducible refine table_use ho.at_ n2 t2 fun c2 H4 hc2 l4 => ?_) | walk_at "stepN")
  replace hw := l4.lst hw
  replace ho := ho.lk l4
  replace hc1 := l4.tabF hc1
  clear l4
  walk_at "nxt"
  have lat : listAt H4 (.ref a1) = some (S1.map spD) := by
    unfold listAt
    dsimp only
    rw [hw]
  repeat' (first | (refine ⟨_, lat, z1, ?_⟩) | walk_at "stepN")
  intro s hs0
  have nsa : a1 ≠ s := ne_at hw hs0
  have lk : Lk H4 (updM H4 s (.lst (S1.map spD))) := Lk.new hs0
  walk_at "nxt"
  have hss : updM H4 s (.lst (S1.map spD)) s = some (.lst (S1.map spD)) := updM_same
  replace hw := lk.lst hw
  replace ho := ho.lk lk
  replace hc1 := lk.tabF hc1
  replace hc2 := lk.tabF hc2
  clear lk lat
  generalize updM H4 s (.lst (S1.map spD)) = H5 at *
  repeat' (first | (with_reducible refine mk_use (seqAt_ref hss) m1 t1.once t1.val fun a H6 ha l6 => ⟨rfl, ?_⟩) | walk_at "stepN")
  replace hw := l6.lst hw
  replace hss := l6.lst hss
  replace ho := ho.lk l6
  replace hc1 := l6.tabF hc1
  replace hc2 := l6.tabF hc2
  clear l6
  walk_at "nxt"
  have hoa := ho.at_
  repeat' (first | (refine ⟨_, hoa, ?_⟩) | (with_reducible refine mk_use (seq_tup _) m2 t2.once t2.val fun b H7 hb l7 => ⟨rfl, ?_⟩) | walk_at "stepN")
  replace hw := l7.lst hw
  replace hss := l7.lst hss
  replace hc1 := (l7.tabF hc1)
  replace hc2 := (l7.tabF hc2)
  replace ha := (l7.covF ha).mono n1
  replace hb := hb.mono n2
  clear l7 hoa ho
  walk_at "nxt"
  have eqs := eq_rols H7 s a1 S1 hss hw
  repeat' (first | (refine ⟨_, congrArg (Option.map (!·)) eqs, ?_⟩) | walk_at "stepN")
  walk_at "nxt"
  repeat' (first | (exact ⟨_, _, rfl, hss⟩) | (refine ⟨_, hss, z1', ?_⟩) | walk_at "stepN")
  walk_at "nxt"
  repeat' (first | (exact ⟨_, _, rfl, updM_same⟩) | (refine ⟨_, updM_same, ?_⟩) | walk_at "stepN")
  walk_at "nxt"
  rw [updM_two]
  replace hw := (updM_ne (H := H7) (o := .lst (S1.map spD ++ [D.tup [.int cx, .int (cy + 9), .int 77]]).reverse) nsa).trans hw
  replace hc1 := upd_tabF (o := .lst (S1.map spD ++ [D.tup [.int cx, .int (cy + 9), .int 77]]).reverse) hss hc1
  replace hc2 := upd_tabF (o := .lst (S1.map spD ++ [D.tup [.int cx, .int (cy + 9), .int 77]]).reverse) hss hc2
  replace ha := upd_covF (o := .lst (S1.map spD ++ [D.tup [.int cx, .int (cy + 9), .int 77]]).reverse) hss ha
  replace hb := upd_covF (o := .lst (S1.map spD ++ [D.tup [.int cx, .int (cy + 9), .int 77]]).reverse) hss hb
  clear eqs hss
  show wpS _ _ _ _ _ (updM H7 s (.lst (S1.map spD ++ [D.tup [.int cx, .int (cy + 9), .int 77]]).reverse))
  generalize updM H7 s (.lst (S1.map spD ++ [D.tup [.int cx, .int (cy + 9), .int 77]]).reverse) = H8 at *
  have nk2 : (1000 : Nat) ≤ 100000 := by decide
  have nk4 : (10000 : Nat) ≤ 100000 := by decide
  repeat' (first | (with_reducible refine told_use ha hc1 nk2 nk2 fun H9 l9 => ?_) | (with_reducible refine told_use (l9.covF hb) (l9.tabF hc2) nk2 nk2 fun H10 l10 => ?_) | walk_at "stepN")
  have lA := l9.trans l10
  clear l9 l10
  replace hw := lA.lst hw
  replace hc1 := lA.tabF hc1
  replace hc2 := lA.tabF hc2
  replace ha := lA.covF ha
  replace hb := lA.covF hb
  clear lA
  walk_at "nxt"
  repeat' (first | (refine hold_lp ?_) | walk_at "stepN")
  refine hold_of (loopL_inv (fun σ H2 => ∃ c : Option D, σ = [some sd, some (.ref p), some (.tup [.int cx, .int cy]), some (.ref a1), some od, some (rectD x0 y0 x1 y1), some (.int k), some (.ref c1), some (.ref c2), some (.ref s), some (.ref a), some (.ref b), c] ∧ Lk H10 H2) (fun _ _ _ => trivial) ?_ ⟨_, rfl, Lk.refl⟩ ?_)
  · rintro x hx σ H2 Q' ⟨c, rfl, lk⟩ hq
    have : ∃ w : Int, x = .int w ∧ 0 ≤ w ∧ w ≤ 255 := by
      simp only [List.mem_cons, List.not_mem_nil, or_false] at hx
      rcases hx with rfl | rfl | rfl
      · exact ⟨_, rfl, k0, k1⟩
      · exact ⟨0, rfl, by decide, by decide⟩
      · exact ⟨255, rfl, by decide, by decide⟩
    obtain ⟨w, rfl, w0, w1⟩ := this
    walk_at "lb"
    repeat' (first | (with_reducible refine of_rect_val hs w0 fun e H11 _ he l11 => ?_) | (with_reducible refine filled_use hs w0 w1 fun d H12 hd l12 => ?_) | (with_reducible refine is_use (l12.covF he) hd nk4 nk4 fun H13 l13 => ?_) | walk_at "stepN" | ((walk_at "hs"); (conv => whnf)))
    exact hq _ _ ⟨_, rfl, ((lk.trans l11).trans l12).trans l13⟩
  · rintro σ H11 ⟨c, rfl, lk⟩
    replace hw := lk.lst hw
    replace hc1 := lk.tabF hc1
    replace hc2 := lk.tabF hc2
    replace ha := lk.covF ha
    replace hb := lk.covF hb
    clear lk
    walk_at "nxt"
    repeat' (first | (with_reducible refine joins_use ha hb hc1 hc2 fun H12 l12 => ?_) | (with_reducible refine turns_use (l12.covF ha) (l12.covF hb) (l12.tabF hc1) (l12.tabF hc2) hs fun H13 l13 => ?_) | walk_at "stepN")
    have lA := l12.trans l13
    clear l12 l13
    replace hw := lA.lst hw
    replace hc1 := lA.tabF hc1
    replace hc2 := lA.tabF hc2
    replace ha := lA.covF ha
    replace hb := lA.covF hb
    clear lA
    walk_at "nxt"
    repeat' (first | (with_reducible refine likes_use ha hb hc1 hc2 hw n1 t1 fun H14 l14 => ?_) | walk_at "stepN")
    replace hc1 := l14.tabF hc1
    replace hc2 := l14.tabF hc2
    replace ha := l14.covF ha
    replace hb := l14.covF hb
    walk_at "nxt"
    repeat' (first | (with_reducible refine told_use ha hc1 nk2 nk2 fun H15 l15 => ?_) | (with_reducible refine told_use (l15.covF hb) (l15.tabF hc2) nk2 nk2 fun H16 l16 => ?_) | exact Rt.now (q _) | walk_at "stepN")
theorem k_law (G : Gm) (g1 : G.fn "_law_rect" = some (2, c__law_rect)) (g2 : G.fn "_law_value" = some (1, c__law_value)) (g3 : G.fn "_law_table" = some (1, c__law_table)) (g4 : G.fn "Coverage.__init__" = some (2, c_Coverage___init__)) (g5 : G.fn "_law_told" = some (3, c__law_told)) (g6 : G.fn "_law_is" = some (2, c__law_is)) (g7 : G.fn "Coverage.of_rect" = some (2, c_Coverage_of_rect)) (g8 : G.fn "_law_filled" = some (2, c__law_filled)) (g9 : G.fn "_law_joins" = some (4, c__law_joins)) (g10 : G.fn "_law_turns" = some (6, c__law_turns)) (g11 : G.fn "_law_likes" = some (5, c__law_likes))
    (g12 : G.fn "_law_pool" = some (3, c__law_pool)) (g13 : G.fn "_law_corner" = some (2, c__law_corner)) (g14 : G.fn "_law_rows" = some (2, c__law_rows)) (g15 : G.fn "_law_take" = some (2, c__law_take)) : ∀ ds H Q E, c_law ds H Q E → wpF G N_law b_law ds H Q E := by
  rintro ds H Q E ⟨ns, rfl, hlen, _, q⟩
  refine wpF_ss (st_law _) (wp_hold ?_)
  repeat' walk_at "stepN"
  intro p H1 h0 hp1 o1
  walk_at "nxt"
  repeat' walk_at "stepN"
  intro cx cy H2 hp2 o2
  walk_at "nxt"
  repeat' walk_at "stepN"
  intro a1 H3 S1 ha1 hw hS1 hl1 hp3 o3
  have ne : a1 ≠ p := Ne.symm (pl_ne hp2 ha1)
  walk_at "nxt"
  repeat' walk_at "stepN"
  intro a2 H4 S2 ha2 hw2 hS2 hl2 hp4 o4
  have ne2 : a2 ≠ p := Ne.symm (pl_ne hp3 ha2)
  have hw3 := hw
  replace hw := o4.lst ne hw
  have z1 : (S1.map spD).length ≤ sizeLine := by rw [List.length_map, sizeLine_eq]; omega
  have z1' : (S1.map spD).length < sizeLine := by rw [List.length_map, sizeLine_eq]; omega
  have e12 : (10 : Int) ^ Int.toNat 12 = 1000000000000 := by decide
  have cp : CPow 10 12 := ⟨by decide, by decide, by decide⟩
  have t5 : ∀ (H5 : MH) (od : D) (S2 : List Sp), Pl H5 p → H5 a1 = some (.lst (S1.map spD)) → Tt S2 → S2.length ≤ 64 → SeqP p H5 od (S2.map spD) → od ≠ .ref a1 →
      wpSs G (fun _ => Ex E) (Ss.tl (Ss.tl (Ss.tl (Ss.tl (Ss.tl b_law))))) { nx := fun _ H1 => Rt Q .non H1, rt := Rt Q } [some (.rol (ns.map .int)), some (.ref p), some (.tup [.int cx, .int cy]), some (.ref a1), some od, none, none, none, none, none, none, none, none] H5 := by
    intro H5 od S2 hp5 hw5 t2 l2 ho hod
    refine wp_hold ?_
    repeat' (first | (refine ⟨_, _, g15, rfl, p, _, rfl, hp5, by decide, fun r1 H6 r10 r11 hp6 o6 => ?_⟩) | walk_at "stepN")
    · exact ⟨_, _, rfl, o6.g.lst ne hw5⟩
    · have hw6 := o6.g.lst ne hw5
      have ho6 := ho.off o6.g
      intro r2 H7 r20 r21 hp7 o7
      have hw7 := o7.g.lst ne hw6
      have ho7 := ho6.off o7.g
      repeat' (first | (refine ⟨_, hw7, z1', ?_⟩) | walk_at "stepN")
      walk_at "hs"
      have hok : RowsOk cx S1 := hS1
      have t1 : Tt (S1 ++ [(cy, cx + 10 ^ Int.toNat 12, 1 + r2)]) := by
        refine ⟨?_, mem_snoc (fun s hs => (hok.tt.2 s hs)) ⟨by show 0 ≤ 1 + r2; omega, by show 1 + r2 ≤ 255; omega⟩⟩
        rw [List.map_append, List.nodup_append]
        refine ⟨hok.1, by simp, ?_⟩
        rintro u hu v hv rfl
        rw [List.map_cons, List.map_nil, List.mem_singleton] at hv
        rw [hv] at hu
        refine place_ne (fun t ht e1 e2 => ?_) hu
        have := (hok.2 t ht).2.2.2
        simp only at e1
        rw [e12] at e1
        omega
      have hw8 : updM H7 a1 (.lst (S1.map spD ++ [spD (cy, cx + 10 ^ Int.toNat 12, 1 + r2)])) a1 = some (.lst ((S1 ++ [(cy, cx + 10 ^ Int.toNat 12, 1 + r2)]).map spD)) := by rw [updM_same, List.map_append]; rfl
      have ho8 : SeqP p (updM H7 a1 (.lst (S1.map spD ++ [spD (cy, cx + 10 ^ Int.toNat 12, 1 + r2)]))) od (S2.map spD) := by
        rcases ho7 with h | ⟨a, na, rfl, h⟩
        · exact .inl h
        · have nb : a ≠ a1 := fun e => hod (by rw [e])
          exact .inr ⟨a, na, rfl, (updM_ne nb).trans h⟩
      exact law_tail G g1 g2 g3 g4 g5 g6 g7 g8 g9 g10 g11 Q E _ p a1 cx cy od _ S2 _ (hp7.upd (Ne.symm ne)) hw8 ne t1 t2 (by rw [List.length_append]; show S1.length + 1 ≤ 999; omega) (by omega) ho8 q
    · have hw6 := o6.g.lst ne hw5
      have ho6 := ho.off o6.g
      walk_at "hs"
      exact law_tail G g1 g2 g3 g4 g5 g6 g7 g8 g9 g10 g11 Q E _ p a1 cx cy od _ S2 _ hp6 hw6 ne hS1.tt t2 (by omega) (by omega) ho6 q
  walk_at "nxt"
  repeat' (first | (refine ⟨_, _, g15, rfl, p, _, rfl, hp4, by decide, fun r1 H6 r10 r11 hp6 o6 => ?_⟩) | walk_at "stepN")
  · have hw6 := o6.g.lst ne hw
    have lat : listAt H6 (.ref a1) = some (S1.map spD) := by
      unfold listAt
      dsimp only
      rw [hw6]
    repeat' (first | (refine ⟨_, lat, z1, ?_⟩) | walk_at "stepN")
    walk_at "hs"
    exact t5 H6 _ S1 hp6 hw6 hS1.tt hl1 (.inl rfl) (fun e => by cases e)
  · have hw6 := o6.g.lst ne hw
    walk_at "hs"
    exact t5 H6 _ S2 hp6 hw6 hS2.tt hl2 (.inr ⟨a2, ne2, rfl, o6.g.lst ne2 hw2⟩) (fun e => by
      injection e with e
      rw [e] at ha2
      rw [hw3] at ha2
      cases ha2)
def topS (i : Nat) : Stmt := PySem.Challenge.pw_easelwork_k08_coverage_lattice.main.body.getD i (.Pass ⟨0, 0, 0, 0⟩)
abbrev s_Coverage___bool__ : Stmt := inClass (topS 4) 7
abbrev s__law_form : Stmt := topS 17
abbrev s__law_whole : Stmt := topS 10
abbrev s__law_same : Stmt := topS 11
abbrev s__law_box : Stmt := topS 18
abbrev s_around_places : Stmt := topS 2
abbrev s_Coverage_box : Stmt := inClass (topS 4) 9
abbrev s_Coverage_at : Stmt := inClass (topS 4) 8
abbrev s__law_is : Stmt := topS 22
abbrev s__law_told : Stmt := topS 23
abbrev s_Coverage___eq__ : Stmt := inClass (topS 4) 6
abbrev s_Coverage___init__ : Stmt := inClass (topS 4) 0
abbrev s__law_likes : Stmt := topS 26
abbrev s_Coverage___sub__ : Stmt := inClass (topS 4) 5
abbrev s_Coverage_of_rect : Stmt := inClass (topS 4) 1
abbrev s_Coverage_turned : Stmt := inClass (topS 4) 11
abbrev s_Coverage___and__ : Stmt := inClass (topS 4) 4
abbrev s_Coverage___or__ : Stmt := inClass (topS 4) 3
abbrev s__law_filled : Stmt := topS 20
abbrev s__law_turned : Stmt := topS 21
abbrev s__law_joined : Stmt := topS 19
abbrev s__law_turns : Stmt := topS 25
abbrev s__law_joins : Stmt := topS 24
abbrev s__law_table : Stmt := topS 16
abbrev s__law_take : Stmt := topS 8
abbrev s__law_pick : Stmt := topS 9
abbrev s__law_value : Stmt := topS 13
abbrev s__law_rect : Stmt := topS 15
abbrev s__law_rows : Stmt := topS 14
abbrev s__law_corner : Stmt := topS 12
abbrev s__law_draws : Stmt := topS 6
abbrev s__law_pool : Stmt := topS 7
abbrev s_law : Stmt := topS 27
def Bn : List Str := ["abs", "bool", "classmethod", "int", "isinstance", "len", "list", "max", "min", "range", "reversed", "sorted", "tuple"]
theorem sc_Coverage___bool__ : scopeC N_Coverage___bool__ ["self"] (defScope s_Coverage___bool__) = true := by decide +kernel
theorem cp_Coverage___bool__ : compSs ⟨N_Coverage___bool__, Bn, [], [(50, 20)], [], pCn, pRn, [], false, ⟨[], [], [], []⟩⟩ 200 (defScope s_Coverage___bool__) (defBody s_Coverage___bool__) = some b_Coverage___bool__ := by kernel_rfl
theorem sc__law_form : scopeC N__law_form ["table"] (defScope s__law_form) = true := by decide +kernel
theorem cp__law_form : compSs ⟨N__law_form, Bn, [], [(165, 53)], [], pCn, pRn, [], false, ⟨[(("Coverage", "__bool__"), ("Coverage.__bool__", false))], [], [], []⟩⟩ 200 (defScope s__law_form) (defBody s__law_form) = some b__law_form := by kernel_rfl
theorem sc__law_whole : scopeC N__law_whole ["got"] (defScope s__law_whole) = true := by decide +kernel
theorem cp__law_whole : compSs ⟨N__law_whole, Bn, ["_law_form"], [], [], pCn, pRn, [], false, ⟨[(("Coverage", "__bool__"), ("Coverage.__bool__", false))], [], [], []⟩⟩ 200 (defScope s__law_whole) (defBody s__law_whole) = some b__law_whole := by kernel_rfl
theorem sc__law_same : scopeC N__law_same ["got", "due"] (defScope s__law_same) = true := by decide +kernel
theorem cp__law_same : compSs ⟨N__law_same, Bn, ["_law_same", "_law_whole", "_law_form"], [], [], pCn, pRn, [], false, ⟨[], [], [], []⟩⟩ 200 (defScope s__law_same) (defBody s__law_same) = some b__law_same := by kernel_rfl
theorem sc__law_box : scopeC N__law_box ["table"] (defScope s__law_box) = true := by decide +kernel
theorem cp__law_box : compSs ⟨N__law_box, Bn, ["_law_same", "_law_whole", "_law_form"], [], [], pCn, pRn, [], false, ⟨[(("Coverage", "__bool__"), ("Coverage.__bool__", false))], [], [], []⟩⟩ 200 (defScope s__law_box) (defBody s__law_box) = some b__law_box := by kernel_rfl
theorem sc_around_places : scopeC N_around_places ["places"] (defScope s_around_places) = true := by decide +kernel
theorem cp_around_places : compSs ⟨N_around_places, Bn, ["_law_box", "_law_same", "_law_whole", "_law_form"], [], [], pCn, pRn, [], false, ⟨[(("Coverage", "__bool__"), ("Coverage.__bool__", false))], [], [], []⟩⟩ 200 (defScope s_around_places) (defBody s_around_places) = some b_around_places := by kernel_rfl
theorem sc_Coverage_box : scopeC N_Coverage_box ["self"] (defScope s_Coverage_box) = true := by decide +kernel
theorem cp_Coverage_box : compSs ⟨N_Coverage_box, Bn, ["around_places", "_law_box", "_law_same", "_law_whole", "_law_form"], [(56, 29)], [], pCn, pRn, [], false, ⟨[(("Coverage", "__bool__"), ("Coverage.__bool__", false))], [], [], []⟩⟩ 200 (defScope s_Coverage_box) (defBody s_Coverage_box) = some b_Coverage_box := by kernel_rfl
theorem sc_Coverage_at : scopeC N_Coverage_at ["self", "x", "y"] (defScope s_Coverage_at) = true := by decide +kernel
theorem cp_Coverage_at : compSs ⟨N_Coverage_at, Bn, ["around_places", "_law_box", "_law_same", "_law_whole", "_law_form"], [(53, 15)], [], pCn, pRn, [], false, ⟨[(("Coverage", "box"), ("Coverage.box", false)), (("Coverage", "__bool__"), ("Coverage.__bool__", false))], [], [], []⟩⟩ 200 (defScope s_Coverage_at) (defBody s_Coverage_at) = some b_Coverage_at := by kernel_rfl
theorem sc__law_is : scopeC N__law_is ["cover", "table"] (defScope s__law_is) = true := by decide +kernel
theorem cp__law_is : compSs ⟨N__law_is, Bn, ["around_places", "_law_box", "_law_same", "_law_whole", "_law_form"], [(197, 56)], [], pCn, pRn, [], false, ⟨[(("Coverage", "at"), ("Coverage.at", false)), (("Coverage", "box"), ("Coverage.box", false)), (("Coverage", "__bool__"), ("Coverage.__bool__", false))], [], [((200, 25), "Coverage"), ((202, 21), "Coverage"), ((202, 55), "Coverage")], []⟩⟩ 200 (defScope s__law_is) (defBody s__law_is) = some b__law_is := by kernel_rfl
theorem sc__law_told : scopeC N__law_told ["cover", "table", "corner"] (defScope s__law_told) = true := by decide +kernel
theorem cp__law_told : compSs ⟨N__law_told, Bn, ["_law_is", "around_places", "_law_box", "_law_same", "_law_whole", "_law_form"], [], [], pCn, pRn, [], false, ⟨[(("Coverage", "at"), ("Coverage.at", false)), (("Coverage", "box"), ("Coverage.box", false)), (("Coverage", "__bool__"), ("Coverage.__bool__", false))], [], [((209, 25), "Coverage"), ((212, 25), "Coverage"), ((214, 21), "Coverage"), ((216, 11), "Coverage")], []⟩⟩ 200 (defScope s__law_told) (defBody s__law_told) = some b__law_told := by kernel_rfl
theorem sc_Coverage___eq__ : scopeC N_Coverage___eq__ ["self", "other"] (defScope s_Coverage___eq__) = true := by decide +kernel
theorem cp_Coverage___eq__ : compSs ⟨N_Coverage___eq__, Bn, ["_law_told", "_law_is", "around_places", "_law_box", "_law_same", "_law_whole", "_law_form"], [(47, 47), (47, 61)], [], pCn, pRn, [], false, ⟨[(("Coverage", "at"), ("Coverage.at", false)), (("Coverage", "box"), ("Coverage.box", false)), (("Coverage", "__bool__"), ("Coverage.__bool__", false))], [], [], []⟩⟩ 200 (defScope s_Coverage___eq__) (defBody s_Coverage___eq__) = some b_Coverage___eq__ := by kernel_rfl
theorem sc_Coverage___init__ : scopeC N_Coverage___init__ ["self", "spots"] (defScope s_Coverage___init__) = true := by decide +kernel
theorem cp_Coverage___init__ : compSs ⟨N_Coverage___init__, Bn, ["_law_told", "_law_is", "around_places", "_law_box", "_law_same", "_law_whole", "_law_form"], [(16, 16)], [], pCn, pRn, [], false, ⟨[(("Coverage", "__eq__"), ("Coverage.__eq__", false)), (("Coverage", "at"), ("Coverage.at", false)), (("Coverage", "box"), ("Coverage.box", false)), (("Coverage", "__bool__"), ("Coverage.__bool__", false))], [], [], []⟩⟩ 200 (defScope s_Coverage___init__) (defBody s_Coverage___init__) = some b_Coverage___init__ := by kernel_rfl
theorem sc__law_likes : scopeC N__law_likes ["a", "b", "first", "second", "rows"] (defScope s__law_likes) = true := by decide +kernel
theorem cp__law_likes : compSs ⟨N__law_likes, Bn, ["_law_told", "_law_is", "around_places", "_law_box", "_law_same", "_law_whole", "_law_form"], [(247, 12), (251, 13)], [], pCn, pRn, [], false, ⟨[(("Coverage", "__eq__"), ("Coverage.__eq__", false)), (("Coverage", "at"), ("Coverage.at", false)), (("Coverage", "box"), ("Coverage.box", false)), (("Coverage", "__bool__"), ("Coverage.__bool__", false))], [("Coverage", "Coverage.__init__")], [], [((249, 21), "Coverage"), ((249, 73), "Coverage"), ((253, 21), "Coverage"), ((253, 68), "Coverage"), ((255, 21), "Coverage"), ((257, 21), "Coverage"), ((257, 65), "Coverage")]⟩⟩ 200 (defScope s__law_likes) (defBody s__law_likes) = some b__law_likes := by kernel_rfl
theorem sc_Coverage___sub__ : scopeC N_Coverage___sub__ ["self", "other"] (defScope s_Coverage___sub__) = true := by decide +kernel
theorem cp_Coverage___sub__ : compSs ⟨N_Coverage___sub__, Bn, ["_law_likes", "_law_told", "_law_is", "around_places", "_law_box", "_law_same", "_law_whole", "_law_form"], [(44, 77)], [], pCn, pRn, [], false, ⟨[(("Coverage", "__eq__"), ("Coverage.__eq__", false)), (("Coverage", "at"), ("Coverage.at", false)), (("Coverage", "box"), ("Coverage.box", false)), (("Coverage", "__bool__"), ("Coverage.__bool__", false))], [("Coverage", "Coverage.__init__")], [((44, 45), "Coverage")], []⟩⟩ 200 (defScope s_Coverage___sub__) (defBody s_Coverage___sub__) = some b_Coverage___sub__ := by kernel_rfl
theorem sc_Coverage_of_rect : scopeC N_Coverage_of_rect ["cls", "rect", "k"] (defScope s_Coverage_of_rect) = true := by decide +kernel
theorem cp_Coverage_of_rect : compSs ⟨N_Coverage_of_rect, Bn, ["_law_likes", "_law_told", "_law_is", "around_places", "_law_box", "_law_same", "_law_whole", "_law_form"], [], [], pCn, pRn, [], false, ⟨[(("Coverage", "__sub__"), ("Coverage.__sub__", false)), (("Coverage", "__eq__"), ("Coverage.__eq__", false)), (("Coverage", "at"), ("Coverage.at", false)), (("Coverage", "box"), ("Coverage.box", false)), (("Coverage", "__bool__"), ("Coverage.__bool__", false))], [("Coverage", "Coverage.__init__")], [((25, 19), "Coverage"), ((27, 15), "Coverage")], []⟩⟩ 200 (defScope s_Coverage_of_rect) (defBody s_Coverage_of_rect) = some b_Coverage_of_rect := by kernel_rfl
theorem sc_Coverage_turned : scopeC N_Coverage_turned ["self", "rect"] (defScope s_Coverage_turned) = true := by decide +kernel
theorem cp_Coverage_turned : compSs ⟨N_Coverage_turned, Bn, ["_law_likes", "_law_told", "_law_is", "around_places", "_law_box", "_law_same", "_law_whole", "_law_form"], [], [], pCn, pRn, [], false, ⟨[(("Coverage", "of_rect"), ("Coverage.of_rect", true)), (("Coverage", "__sub__"), ("Coverage.__sub__", false)), (("Coverage", "__eq__"), ("Coverage.__eq__", false)), (("Coverage", "at"), ("Coverage.at", false)), (("Coverage", "box"), ("Coverage.box", false)), (("Coverage", "__bool__"), ("Coverage.__bool__", false))], [("Coverage", "Coverage.__init__")], [((63, 38), "Coverage")], []⟩⟩ 200 (defScope s_Coverage_turned) (defBody s_Coverage_turned) = some b_Coverage_turned := by kernel_rfl
theorem sc_Coverage___and__ : scopeC N_Coverage___and__ ["self", "other"] (defScope s_Coverage___and__) = true := by decide +kernel
theorem cp_Coverage___and__ : compSs ⟨N_Coverage___and__, Bn, ["_law_likes", "_law_told", "_law_is", "around_places", "_law_box", "_law_same", "_law_whole", "_law_form"], [(41, 71)], [], pCn, pRn, [], false, ⟨[(("Coverage", "turned"), ("Coverage.turned", false)), (("Coverage", "of_rect"), ("Coverage.of_rect", true)), (("Coverage", "__sub__"), ("Coverage.__sub__", false)), (("Coverage", "__eq__"), ("Coverage.__eq__", false)), (("Coverage", "at"), ("Coverage.at", false)), (("Coverage", "box"), ("Coverage.box", false)), (("Coverage", "__bool__"), ("Coverage.__bool__", false))], [("Coverage", "Coverage.__init__")], [((41, 39), "Coverage")], []⟩⟩ 200 (defScope s_Coverage___and__) (defBody s_Coverage___and__) = some b_Coverage___and__ := by kernel_rfl
theorem sc_Coverage___or__ : scopeC N_Coverage___or__ ["self", "other"] (defScope s_Coverage___or__) = true := by decide +kernel
theorem cp_Coverage___or__ : compSs ⟨N_Coverage___or__, Bn, ["_law_likes", "_law_told", "_law_is", "around_places", "_law_box", "_law_same", "_law_whole", "_law_form"], [(34, 16), (34, 63), (35, 23)], [], pCn, pRn, [], false, ⟨[(("Coverage", "__and__"), ("Coverage.__and__", false)), (("Coverage", "turned"), ("Coverage.turned", false)), (("Coverage", "of_rect"), ("Coverage.of_rect", true)), (("Coverage", "__sub__"), ("Coverage.__sub__", false)), (("Coverage", "__eq__"), ("Coverage.__eq__", false)), (("Coverage", "at"), ("Coverage.at", false)), (("Coverage", "box"), ("Coverage.box", false)), (("Coverage", "__bool__"), ("Coverage.__bool__", false))], [("Coverage", "Coverage.__init__")], [((34, 31), "Coverage"), ((36, 15), "Coverage")], []⟩⟩ 200 (defScope s_Coverage___or__) (defBody s_Coverage___or__) = some b_Coverage___or__ := by kernel_rfl
theorem sc__law_filled : scopeC N__law_filled ["rect", "k"] (defScope s__law_filled) = true := by decide +kernel
theorem cp__law_filled : compSs ⟨N__law_filled, Bn, ["_law_likes", "_law_told", "_law_is", "around_places", "_law_box", "_law_same", "_law_whole", "_law_form"], [(186, 11)], [], pCn, pRn, [], false, ⟨[(("Coverage", "__or__"), ("Coverage.__or__", false)), (("Coverage", "__and__"), ("Coverage.__and__", false)), (("Coverage", "turned"), ("Coverage.turned", false)), (("Coverage", "of_rect"), ("Coverage.of_rect", true)), (("Coverage", "__sub__"), ("Coverage.__sub__", false)), (("Coverage", "__eq__"), ("Coverage.__eq__", false)), (("Coverage", "at"), ("Coverage.at", false)), (("Coverage", "box"), ("Coverage.box", false)), (("Coverage", "__bool__"), ("Coverage.__bool__", false))], [("Coverage", "Coverage.__init__")], [], []⟩⟩ 200 (defScope s__law_filled) (defBody s__law_filled) = some b__law_filled := by kernel_rfl
theorem sc__law_turned : scopeC N__law_turned ["table", "rect"] (defScope s__law_turned) = true := by decide +kernel
theorem cp__law_turned : compSs ⟨N__law_turned, Bn, ["_law_filled", "_law_likes", "_law_told", "_law_is", "around_places", "_law_box", "_law_same", "_law_whole", "_law_form"], [(192, 11), (194, 8)], [], pCn, pRn, [], false, ⟨[(("Coverage", "__or__"), ("Coverage.__or__", false)), (("Coverage", "__and__"), ("Coverage.__and__", false)), (("Coverage", "turned"), ("Coverage.turned", false)), (("Coverage", "of_rect"), ("Coverage.of_rect", true)), (("Coverage", "__sub__"), ("Coverage.__sub__", false)), (("Coverage", "__eq__"), ("Coverage.__eq__", false)), (("Coverage", "at"), ("Coverage.at", false)), (("Coverage", "box"), ("Coverage.box", false)), (("Coverage", "__bool__"), ("Coverage.__bool__", false))], [("Coverage", "Coverage.__init__")], [], []⟩⟩ 200 (defScope s__law_turned) (defBody s__law_turned) = some b__law_turned := by kernel_rfl
theorem sc__law_joined : scopeC N__law_joined ["first", "second", "way"] (defScope s__law_joined) = true := by decide +kernel
theorem cp__law_joined : compSs ⟨N__law_joined, Bn, ["_law_turned", "_law_filled", "_law_likes", "_law_told", "_law_is", "around_places", "_law_box", "_law_same", "_law_whole", "_law_form"], [(174, 11), (175, 33), (175, 58), (179, 12), (181, 12), (183, 12)], [], pCn, pRn, [], false, ⟨[(("Coverage", "__or__"), ("Coverage.__or__", false)), (("Coverage", "__and__"), ("Coverage.__and__", false)), (("Coverage", "turned"), ("Coverage.turned", false)), (("Coverage", "of_rect"), ("Coverage.of_rect", true)), (("Coverage", "__sub__"), ("Coverage.__sub__", false)), (("Coverage", "__eq__"), ("Coverage.__eq__", false)), (("Coverage", "at"), ("Coverage.at", false)), (("Coverage", "box"), ("Coverage.box", false)), (("Coverage", "__bool__"), ("Coverage.__bool__", false))], [("Coverage", "Coverage.__init__")], [], []⟩⟩ 200 (defScope s__law_joined) (defBody s__law_joined) = some b__law_joined := by kernel_rfl
theorem sc__law_turns : scopeC N__law_turns ["a", "b", "first", "second", "rect", "corner"] (defScope s__law_turns) = true := by decide +kernel
theorem cp__law_turns : compSs ⟨N__law_turns, Bn, ["_law_joined", "_law_turned", "_law_filled", "_law_likes", "_law_told", "_law_is", "around_places", "_law_box", "_law_same", "_law_whole", "_law_form"], [(240, 13), (242, 8)], [], pCn, pRn, [], false, ⟨[(("Coverage", "__or__"), ("Coverage.__or__", false)), (("Coverage", "__and__"), ("Coverage.__and__", false)), (("Coverage", "turned"), ("Coverage.turned", false)), (("Coverage", "of_rect"), ("Coverage.of_rect", true)), (("Coverage", "__sub__"), ("Coverage.__sub__", false)), (("Coverage", "__eq__"), ("Coverage.__eq__", false)), (("Coverage", "at"), ("Coverage.at", false)), (("Coverage", "box"), ("Coverage.box", false)), (("Coverage", "__bool__"), ("Coverage.__bool__", false))], [("Coverage", "Coverage.__init__")], [((233, 21), "Coverage"), ((235, 19), "Coverage"), ((238, 19), "Coverage"), ((238, 65), "Coverage"), ((238, 82), "Coverage"), ((243, 23), "Coverage"), ((245, 56), "Coverage")], [((238, 20), "Coverage"), ((238, 65), "Coverage"), ((243, 19), "Coverage"), ((245, 21), "Coverage")]⟩⟩ 200 (defScope s__law_turns) (defBody s__law_turns) = some b__law_turns := by kernel_rfl
theorem sc__law_joins : scopeC N__law_joins ["a", "b", "first", "second"] (defScope s__law_joins) = true := by decide +kernel
theorem cp__law_joins : compSs ⟨N__law_joins, Bn, ["_law_turns", "_law_joined", "_law_turned", "_law_filled", "_law_likes", "_law_told", "_law_is", "around_places", "_law_box", "_law_same", "_law_whole", "_law_form"], [], [], pCn, pRn, [], false, ⟨[(("Coverage", "__or__"), ("Coverage.__or__", false)), (("Coverage", "__and__"), ("Coverage.__and__", false)), (("Coverage", "turned"), ("Coverage.turned", false)), (("Coverage", "of_rect"), ("Coverage.of_rect", true)), (("Coverage", "__sub__"), ("Coverage.__sub__", false)), (("Coverage", "__eq__"), ("Coverage.__eq__", false)), (("Coverage", "at"), ("Coverage.at", false)), (("Coverage", "box"), ("Coverage.box", false)), (("Coverage", "__bool__"), ("Coverage.__bool__", false))], [("Coverage", "Coverage.__init__")], [], [((218, 19), "Coverage"), ((220, 19), "Coverage"), ((222, 19), "Coverage"), ((224, 19), "Coverage"), ((226, 19), "Coverage"), ((228, 19), "Coverage"), ((230, 19), "Coverage"), ((230, 45), "Coverage"), ((230, 71), "Coverage")]⟩⟩ 200 (defScope s__law_joins) (defBody s__law_joins) = some b__law_joins := by kernel_rfl
theorem sc__law_table : scopeC N__law_table ["rows"] (defScope s__law_table) = true := by decide +kernel
theorem cp__law_table : compSs ⟨N__law_table, Bn, ["_law_joins", "_law_turns", "_law_joined", "_law_turned", "_law_filled", "_law_likes", "_law_told", "_law_is", "around_places", "_law_box", "_law_same", "_law_whole", "_law_form"], [(160, 12)], [], pCn, pRn, [], false, ⟨[(("Coverage", "__or__"), ("Coverage.__or__", false)), (("Coverage", "__and__"), ("Coverage.__and__", false)), (("Coverage", "turned"), ("Coverage.turned", false)), (("Coverage", "of_rect"), ("Coverage.of_rect", true)), (("Coverage", "__sub__"), ("Coverage.__sub__", false)), (("Coverage", "__eq__"), ("Coverage.__eq__", false)), (("Coverage", "at"), ("Coverage.at", false)), (("Coverage", "box"), ("Coverage.box", false)), (("Coverage", "__bool__"), ("Coverage.__bool__", false))], [("Coverage", "Coverage.__init__")], [], []⟩⟩ 200 (defScope s__law_table) (defBody s__law_table) = some b__law_table := by kernel_rfl
theorem sc__law_take : scopeC N__law_take ["pool", "many"] (defScope s__law_take) = true := by decide +kernel
theorem cp__law_take : compSs ⟨N__law_take, Bn, ["_law_table", "_law_joins", "_law_turns", "_law_joined", "_law_turned", "_law_filled", "_law_likes", "_law_told", "_law_is", "around_places", "_law_box", "_law_same", "_law_whole", "_law_form"], [], [], pCn, pRn, [], false, ⟨[(("Coverage", "__or__"), ("Coverage.__or__", false)), (("Coverage", "__and__"), ("Coverage.__and__", false)), (("Coverage", "turned"), ("Coverage.turned", false)), (("Coverage", "of_rect"), ("Coverage.of_rect", true)), (("Coverage", "__sub__"), ("Coverage.__sub__", false)), (("Coverage", "__eq__"), ("Coverage.__eq__", false)), (("Coverage", "at"), ("Coverage.at", false)), (("Coverage", "box"), ("Coverage.box", false)), (("Coverage", "__bool__"), ("Coverage.__bool__", false))], [("Coverage", "Coverage.__init__")], [], []⟩⟩ 200 (defScope s__law_take) (defBody s__law_take) = some b__law_take := by kernel_rfl
theorem sc__law_pick : scopeC N__law_pick ["pool", "rows"] (defScope s__law_pick) = true := by decide +kernel
theorem cp__law_pick : compSs ⟨N__law_pick, Bn, ["_law_take", "_law_table", "_law_joins", "_law_turns", "_law_joined", "_law_turned", "_law_filled", "_law_likes", "_law_told", "_law_is", "around_places", "_law_box", "_law_same", "_law_whole", "_law_form"], [], [], pCn, pRn, [], false, ⟨[(("Coverage", "__or__"), ("Coverage.__or__", false)), (("Coverage", "__and__"), ("Coverage.__and__", false)), (("Coverage", "turned"), ("Coverage.turned", false)), (("Coverage", "of_rect"), ("Coverage.of_rect", true)), (("Coverage", "__sub__"), ("Coverage.__sub__", false)), (("Coverage", "__eq__"), ("Coverage.__eq__", false)), (("Coverage", "at"), ("Coverage.at", false)), (("Coverage", "box"), ("Coverage.box", false)), (("Coverage", "__bool__"), ("Coverage.__bool__", false))], [("Coverage", "Coverage.__init__")], [], []⟩⟩ 200 (defScope s__law_pick) (defBody s__law_pick) = some b__law_pick := by kernel_rfl
theorem sc__law_value : scopeC N__law_value ["pool"] (defScope s__law_value) = true := by decide +kernel
theorem cp__law_value : compSs ⟨N__law_value, Bn, ["_law_pick", "_law_take", "_law_table", "_law_joins", "_law_turns", "_law_joined", "_law_turned", "_law_filled", "_law_likes", "_law_told", "_law_is", "around_places", "_law_box", "_law_same", "_law_whole", "_law_form"], [], [], pCn, pRn, [], false, ⟨[(("Coverage", "__or__"), ("Coverage.__or__", false)), (("Coverage", "__and__"), ("Coverage.__and__", false)), (("Coverage", "turned"), ("Coverage.turned", false)), (("Coverage", "of_rect"), ("Coverage.of_rect", true)), (("Coverage", "__sub__"), ("Coverage.__sub__", false)), (("Coverage", "__eq__"), ("Coverage.__eq__", false)), (("Coverage", "at"), ("Coverage.at", false)), (("Coverage", "box"), ("Coverage.box", false)), (("Coverage", "__bool__"), ("Coverage.__bool__", false))], [("Coverage", "Coverage.__init__")], [], []⟩⟩ 200 (defScope s__law_value) (defBody s__law_value) = some b__law_value := by kernel_rfl
theorem sc__law_rect : scopeC N__law_rect ["pool", "corner"] (defScope s__law_rect) = true := by decide +kernel
theorem cp__law_rect : compSs ⟨N__law_rect, Bn, ["_law_value", "_law_pick", "_law_take", "_law_table", "_law_joins", "_law_turns", "_law_joined", "_law_turned", "_law_filled", "_law_likes", "_law_told", "_law_is", "around_places", "_law_box", "_law_same", "_law_whole", "_law_form"], [], [], pCn, pRn, [], false, ⟨[(("Coverage", "__or__"), ("Coverage.__or__", false)), (("Coverage", "__and__"), ("Coverage.__and__", false)), (("Coverage", "turned"), ("Coverage.turned", false)), (("Coverage", "of_rect"), ("Coverage.of_rect", true)), (("Coverage", "__sub__"), ("Coverage.__sub__", false)), (("Coverage", "__eq__"), ("Coverage.__eq__", false)), (("Coverage", "at"), ("Coverage.at", false)), (("Coverage", "box"), ("Coverage.box", false)), (("Coverage", "__bool__"), ("Coverage.__bool__", false))], [("Coverage", "Coverage.__init__")], [], []⟩⟩ 200 (defScope s__law_rect) (defBody s__law_rect) = some b__law_rect := by kernel_rfl
theorem sc__law_rows : scopeC N__law_rows ["pool", "corner"] (defScope s__law_rows) = true := by decide +kernel
theorem cp__law_rows : compSs ⟨N__law_rows, Bn, ["_law_rect", "_law_value", "_law_pick", "_law_take", "_law_table", "_law_joins", "_law_turns", "_law_joined", "_law_turned", "_law_filled", "_law_likes", "_law_told", "_law_is", "around_places", "_law_box", "_law_same", "_law_whole", "_law_form"], [(135, 11), (142, 11), (147, 12)], [], pCn, pRn, [], false, ⟨[(("Coverage", "__or__"), ("Coverage.__or__", false)), (("Coverage", "__and__"), ("Coverage.__and__", false)), (("Coverage", "turned"), ("Coverage.turned", false)), (("Coverage", "of_rect"), ("Coverage.of_rect", true)), (("Coverage", "__sub__"), ("Coverage.__sub__", false)), (("Coverage", "__eq__"), ("Coverage.__eq__", false)), (("Coverage", "at"), ("Coverage.at", false)), (("Coverage", "box"), ("Coverage.box", false)), (("Coverage", "__bool__"), ("Coverage.__bool__", false))], [("Coverage", "Coverage.__init__")], [], []⟩⟩ 200 (defScope s__law_rows) (defBody s__law_rows) = some b__law_rows := by kernel_rfl
theorem sc__law_corner : scopeC N__law_corner ["script", "pool"] (defScope s__law_corner) = true := by decide +kernel
theorem cp__law_corner : compSs ⟨N__law_corner, Bn, ["_law_rows", "_law_rect", "_law_value", "_law_pick", "_law_take", "_law_table", "_law_joins", "_law_turns", "_law_joined", "_law_turned", "_law_filled", "_law_likes", "_law_told", "_law_is", "around_places", "_law_box", "_law_same", "_law_whole", "_law_form"], [(123, 11)], [], pCn, pRn, [], false, ⟨[(("Coverage", "__or__"), ("Coverage.__or__", false)), (("Coverage", "__and__"), ("Coverage.__and__", false)), (("Coverage", "turned"), ("Coverage.turned", false)), (("Coverage", "of_rect"), ("Coverage.of_rect", true)), (("Coverage", "__sub__"), ("Coverage.__sub__", false)), (("Coverage", "__eq__"), ("Coverage.__eq__", false)), (("Coverage", "at"), ("Coverage.at", false)), (("Coverage", "box"), ("Coverage.box", false)), (("Coverage", "__bool__"), ("Coverage.__bool__", false))], [("Coverage", "Coverage.__init__")], [], []⟩⟩ 200 (defScope s__law_corner) (defBody s__law_corner) = some b__law_corner := by kernel_rfl
theorem sc__law_draws : scopeC N__law_draws ["script", "at", "count"] (defScope s__law_draws) = true := by decide +kernel
theorem cp__law_draws : compSs ⟨N__law_draws, Bn, ["_law_corner", "_law_rows", "_law_rect", "_law_value", "_law_pick", "_law_take", "_law_table", "_law_joins", "_law_turns", "_law_joined", "_law_turned", "_law_filled", "_law_likes", "_law_told", "_law_is", "around_places", "_law_box", "_law_same", "_law_whole", "_law_form"], [(81, 11)], [], pCn, pRn, [], false, ⟨[(("Coverage", "__or__"), ("Coverage.__or__", false)), (("Coverage", "__and__"), ("Coverage.__and__", false)), (("Coverage", "turned"), ("Coverage.turned", false)), (("Coverage", "of_rect"), ("Coverage.of_rect", true)), (("Coverage", "__sub__"), ("Coverage.__sub__", false)), (("Coverage", "__eq__"), ("Coverage.__eq__", false)), (("Coverage", "at"), ("Coverage.at", false)), (("Coverage", "box"), ("Coverage.box", false)), (("Coverage", "__bool__"), ("Coverage.__bool__", false))], [("Coverage", "Coverage.__init__")], [], []⟩⟩ 200 (defScope s__law_draws) (defBody s__law_draws) = some b__law_draws := by kernel_rfl
theorem sc__law_pool : scopeC N__law_pool ["script", "cells", "count"] (defScope s__law_pool) = true := by decide +kernel
theorem cp__law_pool : compSs ⟨N__law_pool, Bn, ["_law_draws", "_law_corner", "_law_rows", "_law_rect", "_law_value", "_law_pick", "_law_take", "_law_table", "_law_joins", "_law_turns", "_law_joined", "_law_turned", "_law_filled", "_law_likes", "_law_told", "_law_is", "around_places", "_law_box", "_law_same", "_law_whole", "_law_form"], [(98, 11)], [], pCn, pRn, [], false, ⟨[(("Coverage", "__or__"), ("Coverage.__or__", false)), (("Coverage", "__and__"), ("Coverage.__and__", false)), (("Coverage", "turned"), ("Coverage.turned", false)), (("Coverage", "of_rect"), ("Coverage.of_rect", true)), (("Coverage", "__sub__"), ("Coverage.__sub__", false)), (("Coverage", "__eq__"), ("Coverage.__eq__", false)), (("Coverage", "at"), ("Coverage.at", false)), (("Coverage", "box"), ("Coverage.box", false)), (("Coverage", "__bool__"), ("Coverage.__bool__", false))], [("Coverage", "Coverage.__init__")], [], []⟩⟩ 200 (defScope s__law_pool) (defBody s__law_pool) = some b__law_pool := by kernel_rfl
theorem sc_law : scopeC N_law ["script"] (defScope s_law) = true := by decide +kernel
theorem cp_law : compSs ⟨N_law, Bn, ["_law_pool", "_law_draws", "_law_corner", "_law_rows", "_law_rect", "_law_value", "_law_pick", "_law_take", "_law_table", "_law_joins", "_law_turns", "_law_joined", "_law_turned", "_law_filled", "_law_likes", "_law_told", "_law_is", "around_places", "_law_box", "_law_same", "_law_whole", "_law_form"], [(261, 11), (271, 13)], [], pCn, pRn, [], false, ⟨[(("Coverage", "__or__"), ("Coverage.__or__", false)), (("Coverage", "__and__"), ("Coverage.__and__", false)), (("Coverage", "turned"), ("Coverage.turned", false)), (("Coverage", "of_rect"), ("Coverage.of_rect", true)), (("Coverage", "__sub__"), ("Coverage.__sub__", false)), (("Coverage", "__eq__"), ("Coverage.__eq__", false)), (("Coverage", "at"), ("Coverage.at", false)), (("Coverage", "box"), ("Coverage.box", false)), (("Coverage", "__bool__"), ("Coverage.__bool__", false))], [("Coverage", "Coverage.__init__")], [], []⟩⟩ 200 (defScope s_law) (defBody s_law) = some b_law := by kernel_rfl
def tab : List (Str × Nat × Ctr) := [(("Coverage.__bool__" : Str), (1 : Nat), (c_Coverage___bool__ : Ctr)), (("_law_form" : Str), (1 : Nat), (c__law_form : Ctr)), (("_law_whole" : Str), (1 : Nat), (c__law_whole : Ctr)), (("_law_same" : Str), (2 : Nat), (c__law_same 3 : Ctr)), (("_law_box" : Str), (1 : Nat), (c__law_box : Ctr)), (("around_places" : Str), (1 : Nat), (c_around_places : Ctr)), (("Coverage.box" : Str), (1 : Nat), (c_Coverage_box : Ctr)), (("Coverage.at" : Str), (3 : Nat), (c_Coverage_at : Ctr)), (("_law_is" : Str), (2 : Nat), (c__law_is : Ctr)), (("_law_told" : Str), (3 : Nat), (c__law_told : Ctr)), (("Coverage.__eq__" : Str), (2 : Nat), (c_Coverage___eq__ : Ctr)), (("Coverage.__init__" : Str), (2 : Nat), (c_Coverage___init__ : Ctr)), (("_law_likes" : Str), (5 : Nat), (c__law_likes : Ctr)), (("Coverage.__sub__" : Str), (2 : Nat), (c_Coverage___sub__ : Ctr)), (("Coverage.of_rect" : Str), (2 : Nat), (c_Coverage_of_rect : Ctr)), (("Coverage.turned" : Str), (2 : Nat), (c_Coverage_turned : Ctr)), (("Coverage.__and__" : Str), (2 : Nat), (c_Coverage___and__ : Ctr)), (("Coverage.__or__" : Str), (2 : Nat), (c_Coverage___or__ : Ctr)), (("_law_filled" : Str), (2 : Nat), (c__law_filled : Ctr)), (("_law_turned" : Str), (2 : Nat), (c__law_turned : Ctr)), (("_law_joined" : Str), (3 : Nat), (c__law_joined : Ctr)), (("_law_turns" : Str), (6 : Nat), (c__law_turns : Ctr)), (("_law_joins" : Str), (4 : Nat), (c__law_joins : Ctr)), (("_law_table" : Str), (1 : Nat), (c__law_table : Ctr)), (("_law_take" : Str), (2 : Nat), (c__law_take : Ctr)), (("_law_pick" : Str), (2 : Nat), (c__law_pick : Ctr)), (("_law_value" : Str), (1 : Nat), (c__law_value : Ctr)), (("_law_rect" : Str), (2 : Nat), (c__law_rect : Ctr)), (("_law_rows" : Str), (2 : Nat), (c__law_rows : Ctr)), (("_law_corner" : Str), (2 : Nat), (c__law_corner : Ctr)), (("_law_draws" : Str), (3 : Nat), (c__law_draws : Ctr)), (("_law_pool" : Str), (3 : Nat), (c__law_pool : Ctr)), (("law" : Str), (1 : Nat), (c_law : Ctr))]
def gtab : List (Str × D) := []
def gvs : Str → Option D := fun x => gtab.lookup x
def wtf : List Key → Bool := wtPair
def Gl0 : Gm := ⟨fun x => tab.lookup x, gvs, clf, obf, wtf⟩
theorem g_Coverage___bool__ : Gl0.fn "Coverage.__bool__" = some (1, c_Coverage___bool__) := by rfl
theorem g__law_form : Gl0.fn "_law_form" = some (1, c__law_form) := by rfl
theorem g__law_whole : Gl0.fn "_law_whole" = some (1, c__law_whole) := by rfl
theorem g__law_same : Gl0.fn "_law_same" = some (2, c__law_same 3) := by rfl
theorem g__law_box : Gl0.fn "_law_box" = some (1, c__law_box) := by rfl
theorem g_around_places : Gl0.fn "around_places" = some (1, c_around_places) := by rfl
theorem g_Coverage_box : Gl0.fn "Coverage.box" = some (1, c_Coverage_box) := by rfl
theorem g_Coverage_at : Gl0.fn "Coverage.at" = some (3, c_Coverage_at) := by rfl
theorem g__law_is : Gl0.fn "_law_is" = some (2, c__law_is) := by rfl
theorem g__law_told : Gl0.fn "_law_told" = some (3, c__law_told) := by rfl
theorem g_Coverage___eq__ : Gl0.fn "Coverage.__eq__" = some (2, c_Coverage___eq__) := by rfl
theorem g_Coverage___init__ : Gl0.fn "Coverage.__init__" = some (2, c_Coverage___init__) := by rfl
theorem g__law_likes : Gl0.fn "_law_likes" = some (5, c__law_likes) := by rfl
theorem g_Coverage___sub__ : Gl0.fn "Coverage.__sub__" = some (2, c_Coverage___sub__) := by rfl
theorem g_Coverage_of_rect : Gl0.fn "Coverage.of_rect" = some (2, c_Coverage_of_rect) := by rfl
theorem g_Coverage_turned : Gl0.fn "Coverage.turned" = some (2, c_Coverage_turned) := by rfl
theorem g_Coverage___and__ : Gl0.fn "Coverage.__and__" = some (2, c_Coverage___and__) := by rfl
theorem g_Coverage___or__ : Gl0.fn "Coverage.__or__" = some (2, c_Coverage___or__) := by rfl
theorem g__law_filled : Gl0.fn "_law_filled" = some (2, c__law_filled) := by rfl
theorem g__law_turned : Gl0.fn "_law_turned" = some (2, c__law_turned) := by rfl
theorem g__law_joined : Gl0.fn "_law_joined" = some (3, c__law_joined) := by rfl
theorem g__law_turns : Gl0.fn "_law_turns" = some (6, c__law_turns) := by rfl
theorem g__law_joins : Gl0.fn "_law_joins" = some (4, c__law_joins) := by rfl
theorem g__law_table : Gl0.fn "_law_table" = some (1, c__law_table) := by rfl
theorem g__law_take : Gl0.fn "_law_take" = some (2, c__law_take) := by rfl
theorem g__law_pick : Gl0.fn "_law_pick" = some (2, c__law_pick) := by rfl
theorem g__law_value : Gl0.fn "_law_value" = some (1, c__law_value) := by rfl
theorem g__law_rect : Gl0.fn "_law_rect" = some (2, c__law_rect) := by rfl
theorem g__law_rows : Gl0.fn "_law_rows" = some (2, c__law_rows) := by rfl
theorem g__law_corner : Gl0.fn "_law_corner" = some (2, c__law_corner) := by rfl
theorem g__law_draws : Gl0.fn "_law_draws" = some (3, c__law_draws) := by rfl
theorem g__law_pool : Gl0.fn "_law_pool" = some (3, c__law_pool) := by rfl
theorem g_law : Gl0.fn "law" = some (1, c_law) := by rfl
theorem all_fn {P : Program} {w : World} {K : PySem.W.Frag} {mg : Str → Option Value} {base : Heap} (X : K.In base) (hns : base.Ns mainGlobals mg) (M : Mo P w K mg base Bn gvs pCn pRn clf obf wtf) (f_Coverage___bool__ : MtK K "Coverage" "__bool__" "Coverage.__bool__" s_Coverage___bool__) (f__law_form : FnK K "_law_form" s__law_form) (f__law_whole : FnK K "_law_whole" s__law_whole) (f__law_same : FnK K "_law_same" s__law_same) (f__law_box : FnK K "_law_box" s__law_box) (f_around_places : FnK K "around_places" s_around_places) (f_Coverage_box : MtK K "Coverage" "box" "Coverage.box" s_Coverage_box) (f_Coverage_at : MtK K "Coverage" "at" "Coverage.at" s_Coverage_at) (f__law_is : FnK K "_law_is" s__law_is) (f__law_told : FnK K "_law_told" s__law_told) (f_Coverage___eq__ : MtK K "Coverage" "__eq__" "Coverage.__eq__" s_Coverage___eq__) (f_Coverage___init__ : NwK K "Coverage" "Coverage.__init__" s_Coverage___init__) (f__law_likes : FnK K "_law_likes" s__law_likes) (f_Coverage___sub__ : MtK K "Coverage" "__sub__" "Coverage.__sub__" s_Coverage___sub__) (f_Coverage_of_rect : CmK K "Coverage" "of_rect" "Coverage.of_rect" s_Coverage_of_rect) (f_Coverage_turned : MtK K "Coverage" "turned" "Coverage.turned" s_Coverage_turned) (f_Coverage___and__ : MtK K "Coverage" "__and__" "Coverage.__and__" s_Coverage___and__) (f_Coverage___or__ : MtK K "Coverage" "__or__" "Coverage.__or__" s_Coverage___or__) (f__law_filled : FnK K "_law_filled" s__law_filled) (f__law_turned : FnK K "_law_turned" s__law_turned) (f__law_joined : FnK K "_law_joined" s__law_joined) (f__law_turns : FnK K "_law_turns" s__law_turns) (f__law_joins : FnK K "_law_joins" s__law_joins) (f__law_table : FnK K "_law_table" s__law_table) (f__law_take : FnK K "_law_take" s__law_take) (f__law_pick : FnK K "_law_pick" s__law_pick) (f__law_value : FnK K "_law_value" s__law_value) (f__law_rect : FnK K "_law_rect" s__law_rect) (f__law_rows : FnK K "_law_rows" s__law_rows) (f__law_corner : FnK K "_law_corner" s__law_corner) (f__law_draws : FnK K "_law_draws" s__law_draws) (f__law_pool : FnK K "_law_pool" s__law_pool) : Prev P w K mg base Gl0 84 ["_law_pool", "_law_draws", "_law_corner", "_law_rows", "_law_rect", "_law_value", "_law_pick", "_law_take", "_law_table", "_law_joins", "_law_turns", "_law_joined", "_law_turned", "_law_filled", "_law_likes", "_law_told", "_law_is", "around_places", "_law_box", "_law_same", "_law_whole", "_law_form"] ∧ PrevQ P w K mg base Gl0 84 [] ∧ PrevM P w K mg base Gl0 84 [(("Coverage", "__or__"), ("Coverage.__or__", false)), (("Coverage", "__and__"), ("Coverage.__and__", false)), (("Coverage", "turned"), ("Coverage.turned", false)), (("Coverage", "of_rect"), ("Coverage.of_rect", true)), (("Coverage", "__sub__"), ("Coverage.__sub__", false)), (("Coverage", "__eq__"), ("Coverage.__eq__", false)), (("Coverage", "at"), ("Coverage.at", false)), (("Coverage", "box"), ("Coverage.box", false)), (("Coverage", "__bool__"), ("Coverage.__bool__", false))] ∧ PrevN P w K mg base Gl0 84 [("Coverage", "Coverage.__init__")] := by
  have p0 : Prev P w K mg base Gl0 40 [] := prev_nil
  have q0 : PrevQ P w K mg base Gl0 40 [] := prevq_nil
  have m0 : PrevM P w K mg base Gl0 40 [] := prevm_nil
  have w0 : PrevN P w K mg base Gl0 40 [] := prevn_nil
  have n1 : MtAt P w K mg base 42 "Coverage" "__bool__" 1 c_Coverage___bool__ := mt_step (G := Gl0) (k := 40) (N := N_Coverage___bool__) (B := Bn) (F := []) (mu := [(50, 20)]) (o := ⟨[], [], [], []⟩) (ps := ["self"]) (n := 200) (body := b_Coverage___bool__) M f_Coverage___bool__ (fun _ _ _ _ _ _ us hl => match us, hl with | [_], _ => rfl) sc_Coverage___bool__ cp_Coverage___bool__ (by decide) (prev_up p0 (by decide)) (prevq_up q0 (by decide)) (prevm_up m0 (by decide)) (prevn_up w0 (by decide)) (k_Coverage___bool__ Gl0 (by rfl))
  have m1 := prevm_add m0 (by decide) g_Coverage___bool__ n1
  have n2 : FnAt P w K mg base 43 "_law_form" 1 c__law_form := fn_step (G := Gl0) (k := 42) (N := N__law_form) (B := Bn) (F := []) (mu := [(165, 53)]) (o := ⟨[(("Coverage", "__bool__"), ("Coverage.__bool__", false))], [], [], []⟩) (ps := ["table"]) (n := 200) (body := b__law_form) X hns M f__law_form (fun _ _ _ _ _ _ us hl => match us, hl with | [_], _ => rfl) sc__law_form cp__law_form (by decide) (prev_up p0 (by decide)) (prevq_up q0 (by decide)) (prevm_up m1 (by decide)) (prevn_up w0 (by decide)) (k__law_form Gl0 (fun _ _ => rfl))
  have p1 := prev_add p0 (by decide) g__law_form n2
  have n3 : FnAt P w K mg base 44 "_law_whole" 1 c__law_whole := fn_step (G := Gl0) (k := 43) (N := N__law_whole) (B := Bn) (F := ["_law_form"]) (mu := []) (o := ⟨[(("Coverage", "__bool__"), ("Coverage.__bool__", false))], [], [], []⟩) (ps := ["got"]) (n := 200) (body := b__law_whole) X hns M f__law_whole (fun _ _ _ _ _ _ us hl => match us, hl with | [_], _ => rfl) sc__law_whole cp__law_whole (by decide) (prev_up p1 (by decide)) (prevq_up q0 (by decide)) (prevm_up m1 (by decide)) (prevn_up w0 (by decide)) (k__law_whole Gl0)
  have p2 := prev_add p1 (by decide) g__law_whole n3
  have n4 : FnAt P w K mg base 48 "_law_same" 2 (c__law_same 3) := (fn_rec (G := Gl0) (N := N__law_same) (B := Bn) (F := ["_law_whole", "_law_form"]) (mu := []) (ps := ["got", "due"]) (n := 200) (body := b__law_same) (c := c__law_same) X hns M f__law_same (fun _ _ _ _ _ _ us hl => match us, hl with | [_, _], _ => rfl) sc__law_same cp__law_same (by decide) (prev_up p2 (by decide)) (prevq_up q0 (by decide)) (by decide) (by decide) c__law_same_0 (fun d => k__law_same d (Gl0.ovr "_law_same" 2 (c__law_same d)) (by first | exact Gm.ovr_same | exact (Gm.ovr_ne (by decide)).trans g__law_whole) (by first | exact Gm.ovr_same | exact (Gm.ovr_ne (by decide)).trans g__law_whole)) 3)
  have p3 := prev_add p2 (by decide) g__law_same n4
  have n5 : FnAt P w K mg base 49 "_law_box" 1 c__law_box := fn_step (G := Gl0) (k := 48) (N := N__law_box) (B := Bn) (F := ["_law_same", "_law_whole", "_law_form"]) (mu := []) (o := ⟨[(("Coverage", "__bool__"), ("Coverage.__bool__", false))], [], [], []⟩) (ps := ["table"]) (n := 200) (body := b__law_box) X hns M f__law_box (fun _ _ _ _ _ _ us hl => match us, hl with | [_], _ => rfl) sc__law_box cp__law_box (by decide) (prev_up p3 (by decide)) (prevq_up q0 (by decide)) (prevm_up m1 (by decide)) (prevn_up w0 (by decide)) (k__law_box Gl0 (fun _ _ => rfl))
  have p4 := prev_add p3 (by decide) g__law_box n5
  have n6 : FnAt P w K mg base 50 "around_places" 1 c_around_places := fn_step (G := Gl0) (k := 49) (N := N_around_places) (B := Bn) (F := ["_law_box", "_law_same", "_law_whole", "_law_form"]) (mu := []) (o := ⟨[(("Coverage", "__bool__"), ("Coverage.__bool__", false))], [], [], []⟩) (ps := ["places"]) (n := 200) (body := b_around_places) X hns M f_around_places (fun _ _ _ _ _ _ us hl => match us, hl with | [_], _ => rfl) sc_around_places cp_around_places (by decide) (prev_up p4 (by decide)) (prevq_up q0 (by decide)) (prevm_up m1 (by decide)) (prevn_up w0 (by decide)) (k_around_places Gl0)
  have p5 := prev_add p4 (by decide) g_around_places n6
  have n7 : MtAt P w K mg base 52 "Coverage" "box" 1 c_Coverage_box := mt_step (G := Gl0) (k := 50) (N := N_Coverage_box) (B := Bn) (F := ["around_places", "_law_box", "_law_same", "_law_whole", "_law_form"]) (mu := [(56, 29)]) (o := ⟨[(("Coverage", "__bool__"), ("Coverage.__bool__", false))], [], [], []⟩) (ps := ["self"]) (n := 200) (body := b_Coverage_box) M f_Coverage_box (fun _ _ _ _ _ _ us hl => match us, hl with | [_], _ => rfl) sc_Coverage_box cp_Coverage_box (by decide) (prev_up p5 (by decide)) (prevq_up q0 (by decide)) (prevm_up m1 (by decide)) (prevn_up w0 (by decide)) (k_Coverage_box Gl0 (by first | exact g_around_places) (by rfl))
  have m2 := prevm_add m1 (by decide) g_Coverage_box n7
  have n8 : MtAt P w K mg base 54 "Coverage" "at" 3 c_Coverage_at := mt_step (G := Gl0) (k := 52) (N := N_Coverage_at) (B := Bn) (F := ["around_places", "_law_box", "_law_same", "_law_whole", "_law_form"]) (mu := [(53, 15)]) (o := ⟨[(("Coverage", "box"), ("Coverage.box", false)), (("Coverage", "__bool__"), ("Coverage.__bool__", false))], [], [], []⟩) (ps := ["self", "x", "y"]) (n := 200) (body := b_Coverage_at) M f_Coverage_at (fun _ _ _ _ _ _ us hl => match us, hl with | [_, _, _], _ => rfl) sc_Coverage_at cp_Coverage_at (by decide) (prev_up p5 (by decide)) (prevq_up q0 (by decide)) (prevm_up m2 (by decide)) (prevn_up w0 (by decide)) (k_Coverage_at Gl0 (by rfl))
  have m3 := prevm_add m2 (by decide) g_Coverage_at n8
  have n9 : FnAt P w K mg base 55 "_law_is" 2 c__law_is := fn_step (G := Gl0) (k := 54) (N := N__law_is) (B := Bn) (F := ["around_places", "_law_box", "_law_same", "_law_whole", "_law_form"]) (mu := [(197, 56)]) (o := ⟨[(("Coverage", "at"), ("Coverage.at", false)), (("Coverage", "box"), ("Coverage.box", false)), (("Coverage", "__bool__"), ("Coverage.__bool__", false))], [], [((200, 25), "Coverage"), ((202, 21), "Coverage"), ((202, 55), "Coverage")], []⟩) (ps := ["cover", "table"]) (n := 200) (body := b__law_is) X hns M f__law_is (fun _ _ _ _ _ _ us hl => match us, hl with | [_, _], _ => rfl) sc__law_is cp__law_is (by decide) (prev_up p5 (by decide)) (prevq_up q0 (by decide)) (prevm_up m3 (by decide)) (prevn_up w0 (by decide)) (k__law_is Gl0 (by first | exact g_Coverage___bool__ | exact g__law_form | exact g__law_same | exact g__law_box | exact g_Coverage_box | exact g_Coverage_at) (by first | exact g_Coverage___bool__ | exact g__law_form | exact g__law_same | exact g__law_box | exact g_Coverage_box | exact g_Coverage_at) (by first | exact g_Coverage___bool__ | exact g__law_form | exact g__law_same | exact g__law_box | exact g_Coverage_box | exact g_Coverage_at) (by first | exact g_Coverage___bool__ | exact g__law_form | exact g__law_same | exact g__law_box | exact g_Coverage_box | exact g_Coverage_at) (by first | exact g_Coverage___bool__ | exact g__law_form | exact g__law_same | exact g__law_box | exact g_Coverage_box | exact g_Coverage_at) (by first | exact g_Coverage___bool__ | exact g__law_form | exact g__law_same | exact g__law_box | exact g_Coverage_box | exact g_Coverage_at) (by rfl) (by rfl) (fun _ _ => rfl))
  have p6 := prev_add p5 (by decide) g__law_is n9
  have n10 : FnAt P w K mg base 56 "_law_told" 3 c__law_told := fn_step (G := Gl0) (k := 55) (N := N__law_told) (B := Bn) (F := ["_law_is", "around_places", "_law_box", "_law_same", "_law_whole", "_law_form"]) (mu := []) (o := ⟨[(("Coverage", "at"), ("Coverage.at", false)), (("Coverage", "box"), ("Coverage.box", false)), (("Coverage", "__bool__"), ("Coverage.__bool__", false))], [], [((209, 25), "Coverage"), ((212, 25), "Coverage"), ((214, 21), "Coverage"), ((216, 11), "Coverage")], []⟩) (ps := ["cover", "table", "corner"]) (n := 200) (body := b__law_told) X hns M f__law_told (fun _ _ _ _ _ _ us hl => match us, hl with | [_, _, _], _ => rfl) sc__law_told cp__law_told (by decide) (prev_up p6 (by decide)) (prevq_up q0 (by decide)) (prevm_up m3 (by decide)) (prevn_up w0 (by decide)) (k__law_told Gl0 (by first | exact g_Coverage___bool__ | exact g__law_form | exact g__law_same | exact g__law_box | exact g_Coverage_box | exact g_Coverage_at | exact g__law_is) (by first | exact g_Coverage___bool__ | exact g__law_form | exact g__law_same | exact g__law_box | exact g_Coverage_box | exact g_Coverage_at | exact g__law_is) (by first | exact g_Coverage___bool__ | exact g__law_form | exact g__law_same | exact g__law_box | exact g_Coverage_box | exact g_Coverage_at | exact g__law_is) (by first | exact g_Coverage___bool__ | exact g__law_form | exact g__law_same | exact g__law_box | exact g_Coverage_box | exact g_Coverage_at | exact g__law_is) (by first | exact g_Coverage___bool__ | exact g__law_form | exact g__law_same | exact g__law_box | exact g_Coverage_box | exact g_Coverage_at | exact g__law_is) (by first | exact g_Coverage___bool__ | exact g__law_form | exact g__law_same | exact g__law_box | exact g_Coverage_box | exact g_Coverage_at | exact g__law_is) (by first | exact g_Coverage___bool__ | exact g__law_form | exact g__law_same | exact g__law_box | exact g_Coverage_box | exact g_Coverage_at | exact g__law_is) (fun _ _ => rfl))
  have p7 := prev_add p6 (by decide) g__law_told n10
  have n11 : MtAt P w K mg base 58 "Coverage" "__eq__" 2 c_Coverage___eq__ := mt_step (G := Gl0) (k := 56) (N := N_Coverage___eq__) (B := Bn) (F := ["_law_told", "_law_is", "around_places", "_law_box", "_law_same", "_law_whole", "_law_form"]) (mu := [(47, 47), (47, 61)]) (o := ⟨[(("Coverage", "at"), ("Coverage.at", false)), (("Coverage", "box"), ("Coverage.box", false)), (("Coverage", "__bool__"), ("Coverage.__bool__", false))], [], [], []⟩) (ps := ["self", "other"]) (n := 200) (body := b_Coverage___eq__) M f_Coverage___eq__ (fun _ _ _ _ _ _ us hl => match us, hl with | [_, _], _ => rfl) sc_Coverage___eq__ cp_Coverage___eq__ (by decide) (prev_up p7 (by decide)) (prevq_up q0 (by decide)) (prevm_up m3 (by decide)) (prevn_up w0 (by decide)) (k_Coverage___eq__ Gl0 (by rfl) (by rfl))
  have m4 := prevm_add m3 (by decide) g_Coverage___eq__ n11
  have n12 : NwAt P w K mg base 60 "Coverage" 2 c_Coverage___init__ := nw_step (G := Gl0) (k := 58) (N := N_Coverage___init__) (B := Bn) (F := ["_law_told", "_law_is", "around_places", "_law_box", "_law_same", "_law_whole", "_law_form"]) (mu := [(16, 16)]) (o := ⟨[(("Coverage", "__eq__"), ("Coverage.__eq__", false)), (("Coverage", "at"), ("Coverage.at", false)), (("Coverage", "box"), ("Coverage.box", false)), (("Coverage", "__bool__"), ("Coverage.__bool__", false))], [], [], []⟩) (ps := ["self", "spots"]) (n := 200) (body := b_Coverage___init__) X hns M f_Coverage___init__ (fun _ _ _ _ _ _ us hl => match us, hl with | [_, _], _ => rfl) sc_Coverage___init__ cp_Coverage___init__ (by decide) (prev_up p7 (by decide)) (prevq_up q0 (by decide)) (prevm_up m4 (by decide)) (prevn_up w0 (by decide)) (k_Coverage___init__ Gl0 (by rfl))
  have w1 := prevn_add w0 (by decide) g_Coverage___init__ n12
  have n13 : FnAt P w K mg base 61 "_law_likes" 5 c__law_likes := fn_step (G := Gl0) (k := 60) (N := N__law_likes) (B := Bn) (F := ["_law_told", "_law_is", "around_places", "_law_box", "_law_same", "_law_whole", "_law_form"]) (mu := [(247, 12), (251, 13)]) (o := ⟨[(("Coverage", "__eq__"), ("Coverage.__eq__", false)), (("Coverage", "at"), ("Coverage.at", false)), (("Coverage", "box"), ("Coverage.box", false)), (("Coverage", "__bool__"), ("Coverage.__bool__", false))], [("Coverage", "Coverage.__init__")], [], [((249, 21), "Coverage"), ((249, 73), "Coverage"), ((253, 21), "Coverage"), ((253, 68), "Coverage"), ((255, 21), "Coverage"), ((257, 21), "Coverage"), ((257, 65), "Coverage")]⟩) (ps := ["a", "b", "first", "second", "rows"]) (n := 200) (body := b__law_likes) X hns M f__law_likes (fun _ _ _ _ _ _ us hl => match us, hl with | [_, _, _, _, _], _ => rfl) sc__law_likes cp__law_likes (by decide) (prev_up p7 (by decide)) (prevq_up q0 (by decide)) (prevm_up m4 (by decide)) (prevn_up w1 (by decide)) (k__law_likes Gl0 (by first | exact g__law_same | exact g_Coverage___eq__ | exact g__law_form | exact g_Coverage___init__) (by first | exact g__law_same | exact g_Coverage___eq__ | exact g__law_form | exact g_Coverage___init__) (by first | exact g__law_same | exact g_Coverage___eq__ | exact g__law_form | exact g_Coverage___init__) (by first | exact g__law_same | exact g_Coverage___eq__ | exact g__law_form | exact g_Coverage___init__))
  have p8 := prev_add p7 (by decide) g__law_likes n13
  have n14 : MtAt P w K mg base 63 "Coverage" "__sub__" 2 c_Coverage___sub__ := mt_step (G := Gl0) (k := 61) (N := N_Coverage___sub__) (B := Bn) (F := ["_law_likes", "_law_told", "_law_is", "around_places", "_law_box", "_law_same", "_law_whole", "_law_form"]) (mu := [(44, 77)]) (o := ⟨[(("Coverage", "__eq__"), ("Coverage.__eq__", false)), (("Coverage", "at"), ("Coverage.at", false)), (("Coverage", "box"), ("Coverage.box", false)), (("Coverage", "__bool__"), ("Coverage.__bool__", false))], [("Coverage", "Coverage.__init__")], [((44, 45), "Coverage")], []⟩) (ps := ["self", "other"]) (n := 200) (body := b_Coverage___sub__) M f_Coverage___sub__ (fun _ _ _ _ _ _ us hl => match us, hl with | [_, _], _ => rfl) sc_Coverage___sub__ cp_Coverage___sub__ (by decide) (prev_up p8 (by decide)) (prevq_up q0 (by decide)) (prevm_up m4 (by decide)) (prevn_up w1 (by decide)) (k_Coverage___sub__ Gl0 (by first | exact g_Coverage___init__ | exact g_Coverage_at) (by first | exact g_Coverage___init__ | exact g_Coverage_at) (by rfl))
  have m5 := prevm_add m4 (by decide) g_Coverage___sub__ n14
  have n15 : StAt P w K mg base 64 "Coverage" "of_rect" 2 c_Coverage_of_rect := cm_step (G := Gl0) (k := 63) (N := N_Coverage_of_rect) (B := Bn) (F := ["_law_likes", "_law_told", "_law_is", "around_places", "_law_box", "_law_same", "_law_whole", "_law_form"]) (mu := []) (o := ⟨[(("Coverage", "__sub__"), ("Coverage.__sub__", false)), (("Coverage", "__eq__"), ("Coverage.__eq__", false)), (("Coverage", "at"), ("Coverage.at", false)), (("Coverage", "box"), ("Coverage.box", false)), (("Coverage", "__bool__"), ("Coverage.__bool__", false))], [("Coverage", "Coverage.__init__")], [((25, 19), "Coverage"), ((27, 15), "Coverage")], []⟩) (ps := ["cls", "rect", "k"]) (n := 200) (body := b_Coverage_of_rect) M X hns f_Coverage_of_rect (by decide) (fun _ _ _ _ _ _ us hl => match us, hl with | [_, _, _], _ => rfl) sc_Coverage_of_rect cp_Coverage_of_rect (by decide) (prev_up p8 (by decide)) (prevq_up q0 (by decide)) (prevm_up m5 (by decide)) (prevn_up w1 (by decide)) (k_Coverage_of_rect Gl0 (by first | exact g_Coverage___init__))
  have m6 := prevm_adds m5 (by decide) g_Coverage_of_rect n15
  have n16 : MtAt P w K mg base 66 "Coverage" "turned" 2 c_Coverage_turned := mt_step (G := Gl0) (k := 64) (N := N_Coverage_turned) (B := Bn) (F := ["_law_likes", "_law_told", "_law_is", "around_places", "_law_box", "_law_same", "_law_whole", "_law_form"]) (mu := []) (o := ⟨[(("Coverage", "of_rect"), ("Coverage.of_rect", true)), (("Coverage", "__sub__"), ("Coverage.__sub__", false)), (("Coverage", "__eq__"), ("Coverage.__eq__", false)), (("Coverage", "at"), ("Coverage.at", false)), (("Coverage", "box"), ("Coverage.box", false)), (("Coverage", "__bool__"), ("Coverage.__bool__", false))], [("Coverage", "Coverage.__init__")], [((63, 38), "Coverage")], []⟩) (ps := ["self", "rect"]) (n := 200) (body := b_Coverage_turned) M f_Coverage_turned (fun _ _ _ _ _ _ us hl => match us, hl with | [_, _], _ => rfl) sc_Coverage_turned cp_Coverage_turned (by decide) (prev_up p8 (by decide)) (prevq_up q0 (by decide)) (prevm_up m6 (by decide)) (prevn_up w1 (by decide)) (k_Coverage_turned Gl0 (by first | exact g_Coverage___init__ | exact g_Coverage_at) (by first | exact g_Coverage___init__ | exact g_Coverage_at))
  have m7 := prevm_add m6 (by decide) g_Coverage_turned n16
  have n17 : MtAt P w K mg base 68 "Coverage" "__and__" 2 c_Coverage___and__ := mt_step (G := Gl0) (k := 66) (N := N_Coverage___and__) (B := Bn) (F := ["_law_likes", "_law_told", "_law_is", "around_places", "_law_box", "_law_same", "_law_whole", "_law_form"]) (mu := [(41, 71)]) (o := ⟨[(("Coverage", "turned"), ("Coverage.turned", false)), (("Coverage", "of_rect"), ("Coverage.of_rect", true)), (("Coverage", "__sub__"), ("Coverage.__sub__", false)), (("Coverage", "__eq__"), ("Coverage.__eq__", false)), (("Coverage", "at"), ("Coverage.at", false)), (("Coverage", "box"), ("Coverage.box", false)), (("Coverage", "__bool__"), ("Coverage.__bool__", false))], [("Coverage", "Coverage.__init__")], [((41, 39), "Coverage")], []⟩) (ps := ["self", "other"]) (n := 200) (body := b_Coverage___and__) M f_Coverage___and__ (fun _ _ _ _ _ _ us hl => match us, hl with | [_, _], _ => rfl) sc_Coverage___and__ cp_Coverage___and__ (by decide) (prev_up p8 (by decide)) (prevq_up q0 (by decide)) (prevm_up m7 (by decide)) (prevn_up w1 (by decide)) (k_Coverage___and__ Gl0 (by first | exact g_Coverage___init__ | exact g_Coverage_at) (by first | exact g_Coverage___init__ | exact g_Coverage_at) (by rfl))
  have m8 := prevm_add m7 (by decide) g_Coverage___and__ n17
  have n18 : MtAt P w K mg base 70 "Coverage" "__or__" 2 c_Coverage___or__ := mt_step (G := Gl0) (k := 68) (N := N_Coverage___or__) (B := Bn) (F := ["_law_likes", "_law_told", "_law_is", "around_places", "_law_box", "_law_same", "_law_whole", "_law_form"]) (mu := [(34, 16), (34, 63), (35, 23)]) (o := ⟨[(("Coverage", "__and__"), ("Coverage.__and__", false)), (("Coverage", "turned"), ("Coverage.turned", false)), (("Coverage", "of_rect"), ("Coverage.of_rect", true)), (("Coverage", "__sub__"), ("Coverage.__sub__", false)), (("Coverage", "__eq__"), ("Coverage.__eq__", false)), (("Coverage", "at"), ("Coverage.at", false)), (("Coverage", "box"), ("Coverage.box", false)), (("Coverage", "__bool__"), ("Coverage.__bool__", false))], [("Coverage", "Coverage.__init__")], [((34, 31), "Coverage"), ((36, 15), "Coverage")], []⟩) (ps := ["self", "other"]) (n := 200) (body := b_Coverage___or__) M f_Coverage___or__ (fun _ _ _ _ _ _ us hl => match us, hl with | [_, _], _ => rfl) sc_Coverage___or__ cp_Coverage___or__ (by decide) (prev_up p8 (by decide)) (prevq_up q0 (by decide)) (prevm_up m8 (by decide)) (prevn_up w1 (by decide)) (k_Coverage___or__ Gl0 (by first | exact g_Coverage___init__ | exact g_Coverage_at) (by first | exact g_Coverage___init__ | exact g_Coverage_at) (by rfl))
  have m9 := prevm_add m8 (by decide) g_Coverage___or__ n18
  have n19 : FnAt P w K mg base 71 "_law_filled" 2 c__law_filled := fn_step (G := Gl0) (k := 70) (N := N__law_filled) (B := Bn) (F := ["_law_likes", "_law_told", "_law_is", "around_places", "_law_box", "_law_same", "_law_whole", "_law_form"]) (mu := [(186, 11)]) (o := ⟨[(("Coverage", "__or__"), ("Coverage.__or__", false)), (("Coverage", "__and__"), ("Coverage.__and__", false)), (("Coverage", "turned"), ("Coverage.turned", false)), (("Coverage", "of_rect"), ("Coverage.of_rect", true)), (("Coverage", "__sub__"), ("Coverage.__sub__", false)), (("Coverage", "__eq__"), ("Coverage.__eq__", false)), (("Coverage", "at"), ("Coverage.at", false)), (("Coverage", "box"), ("Coverage.box", false)), (("Coverage", "__bool__"), ("Coverage.__bool__", false))], [("Coverage", "Coverage.__init__")], [], []⟩) (ps := ["rect", "k"]) (n := 200) (body := b__law_filled) X hns M f__law_filled (fun _ _ _ _ _ _ us hl => match us, hl with | [_, _], _ => rfl) sc__law_filled cp__law_filled (by decide) (prev_up p8 (by decide)) (prevq_up q0 (by decide)) (prevm_up m9 (by decide)) (prevn_up w1 (by decide)) (k__law_filled Gl0)
  have p9 := prev_add p8 (by decide) g__law_filled n19
  have n20 : FnAt P w K mg base 72 "_law_turned" 2 c__law_turned := fn_step (G := Gl0) (k := 71) (N := N__law_turned) (B := Bn) (F := ["_law_filled", "_law_likes", "_law_told", "_law_is", "around_places", "_law_box", "_law_same", "_law_whole", "_law_form"]) (mu := [(192, 11), (194, 8)]) (o := ⟨[(("Coverage", "__or__"), ("Coverage.__or__", false)), (("Coverage", "__and__"), ("Coverage.__and__", false)), (("Coverage", "turned"), ("Coverage.turned", false)), (("Coverage", "of_rect"), ("Coverage.of_rect", true)), (("Coverage", "__sub__"), ("Coverage.__sub__", false)), (("Coverage", "__eq__"), ("Coverage.__eq__", false)), (("Coverage", "at"), ("Coverage.at", false)), (("Coverage", "box"), ("Coverage.box", false)), (("Coverage", "__bool__"), ("Coverage.__bool__", false))], [("Coverage", "Coverage.__init__")], [], []⟩) (ps := ["table", "rect"]) (n := 200) (body := b__law_turned) X hns M f__law_turned (fun _ _ _ _ _ _ us hl => match us, hl with | [_, _], _ => rfl) sc__law_turned cp__law_turned (by decide) (prev_up p9 (by decide)) (prevq_up q0 (by decide)) (prevm_up m9 (by decide)) (prevn_up w1 (by decide)) (k__law_turned Gl0 (by first | exact g__law_filled) (fun _ _ => rfl))
  have p10 := prev_add p9 (by decide) g__law_turned n20
  have n21 : FnAt P w K mg base 73 "_law_joined" 3 c__law_joined := fn_step (G := Gl0) (k := 72) (N := N__law_joined) (B := Bn) (F := ["_law_turned", "_law_filled", "_law_likes", "_law_told", "_law_is", "around_places", "_law_box", "_law_same", "_law_whole", "_law_form"]) (mu := [(174, 11), (175, 33), (175, 58), (179, 12), (181, 12), (183, 12)]) (o := ⟨[(("Coverage", "__or__"), ("Coverage.__or__", false)), (("Coverage", "__and__"), ("Coverage.__and__", false)), (("Coverage", "turned"), ("Coverage.turned", false)), (("Coverage", "of_rect"), ("Coverage.of_rect", true)), (("Coverage", "__sub__"), ("Coverage.__sub__", false)), (("Coverage", "__eq__"), ("Coverage.__eq__", false)), (("Coverage", "at"), ("Coverage.at", false)), (("Coverage", "box"), ("Coverage.box", false)), (("Coverage", "__bool__"), ("Coverage.__bool__", false))], [("Coverage", "Coverage.__init__")], [], []⟩) (ps := ["first", "second", "way"]) (n := 200) (body := b__law_joined) X hns M f__law_joined (fun _ _ _ _ _ _ us hl => match us, hl with | [_, _, _], _ => rfl) sc__law_joined cp__law_joined (by decide) (prev_up p10 (by decide)) (prevq_up q0 (by decide)) (prevm_up m9 (by decide)) (prevn_up w1 (by decide)) (k__law_joined Gl0 (fun _ _ => rfl))
  have p11 := prev_add p10 (by decide) g__law_joined n21
  have n22 : FnAt P w K mg base 74 "_law_turns" 6 c__law_turns := fn_step (G := Gl0) (k := 73) (N := N__law_turns) (B := Bn) (F := ["_law_joined", "_law_turned", "_law_filled", "_law_likes", "_law_told", "_law_is", "around_places", "_law_box", "_law_same", "_law_whole", "_law_form"]) (mu := [(240, 13), (242, 8)]) (o := ⟨[(("Coverage", "__or__"), ("Coverage.__or__", false)), (("Coverage", "__and__"), ("Coverage.__and__", false)), (("Coverage", "turned"), ("Coverage.turned", false)), (("Coverage", "of_rect"), ("Coverage.of_rect", true)), (("Coverage", "__sub__"), ("Coverage.__sub__", false)), (("Coverage", "__eq__"), ("Coverage.__eq__", false)), (("Coverage", "at"), ("Coverage.at", false)), (("Coverage", "box"), ("Coverage.box", false)), (("Coverage", "__bool__"), ("Coverage.__bool__", false))], [("Coverage", "Coverage.__init__")], [((233, 21), "Coverage"), ((235, 19), "Coverage"), ((238, 19), "Coverage"), ((238, 65), "Coverage"), ((238, 82), "Coverage"), ((243, 23), "Coverage"), ((245, 56), "Coverage")], [((238, 20), "Coverage"), ((238, 65), "Coverage"), ((243, 19), "Coverage"), ((245, 21), "Coverage")]⟩) (ps := ["a", "b", "first", "second", "rect", "corner"]) (n := 200) (body := b__law_turns) X hns M f__law_turns (fun _ _ _ _ _ _ us hl => match us, hl with | [_, _, _, _, _, _], _ => rfl) sc__law_turns cp__law_turns (by decide) (prev_up p11 (by decide)) (prevq_up q0 (by decide)) (prevm_up m9 (by decide)) (prevn_up w1 (by decide)) (k__law_turns Gl0 (by first | exact g__law_same | exact g_Coverage___eq__ | exact g_Coverage___sub__ | exact g_Coverage_of_rect | exact g_Coverage_turned | exact g__law_is | exact g_Coverage___and__ | exact g_Coverage___or__ | exact g__law_turned | exact g__law_joined | exact g__law_told) (by first | exact g__law_same | exact g_Coverage___eq__ | exact g_Coverage___sub__ | exact g_Coverage_of_rect | exact g_Coverage_turned | exact g__law_is | exact g_Coverage___and__ | exact g_Coverage___or__ | exact g__law_turned | exact g__law_joined | exact g__law_told) (by first | exact g__law_same | exact g_Coverage___eq__ | exact g_Coverage___sub__ | exact g_Coverage_of_rect | exact g_Coverage_turned | exact g__law_is | exact g_Coverage___and__ | exact g_Coverage___or__ | exact g__law_turned | exact g__law_joined | exact g__law_told) (by first | exact g__law_same | exact g_Coverage___eq__ | exact g_Coverage___sub__ | exact g_Coverage_of_rect | exact g_Coverage_turned | exact g__law_is | exact g_Coverage___and__ | exact g_Coverage___or__ | exact g__law_turned | exact g__law_joined | exact g__law_told) (by first | exact g__law_same | exact g_Coverage___eq__ | exact g_Coverage___sub__ | exact g_Coverage_of_rect | exact g_Coverage_turned | exact g__law_is | exact g_Coverage___and__ | exact g_Coverage___or__ | exact g__law_turned | exact g__law_joined | exact g__law_told) (by first | exact g__law_same | exact g_Coverage___eq__ | exact g_Coverage___sub__ | exact g_Coverage_of_rect | exact g_Coverage_turned | exact g__law_is | exact g_Coverage___and__ | exact g_Coverage___or__ | exact g__law_turned | exact g__law_joined | exact g__law_told) (by first | exact g__law_same | exact g_Coverage___eq__ | exact g_Coverage___sub__ | exact g_Coverage_of_rect | exact g_Coverage_turned | exact g__law_is | exact g_Coverage___and__ | exact g_Coverage___or__ | exact g__law_turned | exact g__law_joined | exact g__law_told) (by first | exact g__law_same | exact g_Coverage___eq__ | exact g_Coverage___sub__ | exact g_Coverage_of_rect | exact g_Coverage_turned | exact g__law_is | exact g_Coverage___and__ | exact g_Coverage___or__ | exact g__law_turned | exact g__law_joined | exact g__law_told) (by first | exact g__law_same | exact g_Coverage___eq__ | exact g_Coverage___sub__ | exact g_Coverage_of_rect | exact g_Coverage_turned | exact g__law_is | exact g_Coverage___and__ | exact g_Coverage___or__ | exact g__law_turned | exact g__law_joined | exact g__law_told) (by first | exact g__law_same | exact g_Coverage___eq__ | exact g_Coverage___sub__ | exact g_Coverage_of_rect | exact g_Coverage_turned | exact g__law_is | exact g_Coverage___and__ | exact g_Coverage___or__ | exact g__law_turned | exact g__law_joined | exact g__law_told) (by first | exact g__law_same | exact g_Coverage___eq__ | exact g_Coverage___sub__ | exact g_Coverage_of_rect | exact g_Coverage_turned | exact g__law_is | exact g_Coverage___and__ | exact g_Coverage___or__ | exact g__law_turned | exact g__law_joined | exact g__law_told) (by rfl) (fun _ _ => rfl))
  have p12 := prev_add p11 (by decide) g__law_turns n22
  have n23 : FnAt P w K mg base 75 "_law_joins" 4 c__law_joins := fn_step (G := Gl0) (k := 74) (N := N__law_joins) (B := Bn) (F := ["_law_turns", "_law_joined", "_law_turned", "_law_filled", "_law_likes", "_law_told", "_law_is", "around_places", "_law_box", "_law_same", "_law_whole", "_law_form"]) (mu := []) (o := ⟨[(("Coverage", "__or__"), ("Coverage.__or__", false)), (("Coverage", "__and__"), ("Coverage.__and__", false)), (("Coverage", "turned"), ("Coverage.turned", false)), (("Coverage", "of_rect"), ("Coverage.of_rect", true)), (("Coverage", "__sub__"), ("Coverage.__sub__", false)), (("Coverage", "__eq__"), ("Coverage.__eq__", false)), (("Coverage", "at"), ("Coverage.at", false)), (("Coverage", "box"), ("Coverage.box", false)), (("Coverage", "__bool__"), ("Coverage.__bool__", false))], [("Coverage", "Coverage.__init__")], [], [((218, 19), "Coverage"), ((220, 19), "Coverage"), ((222, 19), "Coverage"), ((224, 19), "Coverage"), ((226, 19), "Coverage"), ((228, 19), "Coverage"), ((230, 19), "Coverage"), ((230, 45), "Coverage"), ((230, 71), "Coverage")]⟩) (ps := ["a", "b", "first", "second"]) (n := 200) (body := b__law_joins) X hns M f__law_joins (fun _ _ _ _ _ _ us hl => match us, hl with | [_, _, _, _], _ => rfl) sc__law_joins cp__law_joins (by decide) (prev_up p12 (by decide)) (prevq_up q0 (by decide)) (prevm_up m9 (by decide)) (prevn_up w1 (by decide)) (k__law_joins Gl0 (by first | exact g__law_is | exact g__law_joined | exact g_Coverage___sub__ | exact g_Coverage___and__ | exact g_Coverage___or__) (by first | exact g__law_is | exact g__law_joined | exact g_Coverage___sub__ | exact g_Coverage___and__ | exact g_Coverage___or__) (by first | exact g__law_is | exact g__law_joined | exact g_Coverage___sub__ | exact g_Coverage___and__ | exact g_Coverage___or__) (by first | exact g__law_is | exact g__law_joined | exact g_Coverage___sub__ | exact g_Coverage___and__ | exact g_Coverage___or__) (by first | exact g__law_is | exact g__law_joined | exact g_Coverage___sub__ | exact g_Coverage___and__ | exact g_Coverage___or__) (by rfl))
  have p13 := prev_add p12 (by decide) g__law_joins n23
  have n24 : FnAt P w K mg base 76 "_law_table" 1 c__law_table := fn_step (G := Gl0) (k := 75) (N := N__law_table) (B := Bn) (F := ["_law_joins", "_law_turns", "_law_joined", "_law_turned", "_law_filled", "_law_likes", "_law_told", "_law_is", "around_places", "_law_box", "_law_same", "_law_whole", "_law_form"]) (mu := [(160, 12)]) (o := ⟨[(("Coverage", "__or__"), ("Coverage.__or__", false)), (("Coverage", "__and__"), ("Coverage.__and__", false)), (("Coverage", "turned"), ("Coverage.turned", false)), (("Coverage", "of_rect"), ("Coverage.of_rect", true)), (("Coverage", "__sub__"), ("Coverage.__sub__", false)), (("Coverage", "__eq__"), ("Coverage.__eq__", false)), (("Coverage", "at"), ("Coverage.at", false)), (("Coverage", "box"), ("Coverage.box", false)), (("Coverage", "__bool__"), ("Coverage.__bool__", false))], [("Coverage", "Coverage.__init__")], [], []⟩) (ps := ["rows"]) (n := 200) (body := b__law_table) X hns M f__law_table (fun _ _ _ _ _ _ us hl => match us, hl with | [_], _ => rfl) sc__law_table cp__law_table (by decide) (prev_up p13 (by decide)) (prevq_up q0 (by decide)) (prevm_up m9 (by decide)) (prevn_up w1 (by decide)) (k__law_table Gl0)
  have p14 := prev_add p13 (by decide) g__law_table n24
  have n25 : FnAt P w K mg base 77 "_law_take" 2 c__law_take := fn_step (G := Gl0) (k := 76) (N := N__law_take) (B := Bn) (F := ["_law_table", "_law_joins", "_law_turns", "_law_joined", "_law_turned", "_law_filled", "_law_likes", "_law_told", "_law_is", "around_places", "_law_box", "_law_same", "_law_whole", "_law_form"]) (mu := []) (o := ⟨[(("Coverage", "__or__"), ("Coverage.__or__", false)), (("Coverage", "__and__"), ("Coverage.__and__", false)), (("Coverage", "turned"), ("Coverage.turned", false)), (("Coverage", "of_rect"), ("Coverage.of_rect", true)), (("Coverage", "__sub__"), ("Coverage.__sub__", false)), (("Coverage", "__eq__"), ("Coverage.__eq__", false)), (("Coverage", "at"), ("Coverage.at", false)), (("Coverage", "box"), ("Coverage.box", false)), (("Coverage", "__bool__"), ("Coverage.__bool__", false))], [("Coverage", "Coverage.__init__")], [], []⟩) (ps := ["pool", "many"]) (n := 200) (body := b__law_take) X hns M f__law_take (fun _ _ _ _ _ _ us hl => match us, hl with | [_, _], _ => rfl) sc__law_take cp__law_take (by decide) (prev_up p14 (by decide)) (prevq_up q0 (by decide)) (prevm_up m9 (by decide)) (prevn_up w1 (by decide)) (k__law_take Gl0)
  have p15 := prev_add p14 (by decide) g__law_take n25
  have n26 : FnAt P w K mg base 78 "_law_pick" 2 c__law_pick := fn_step (G := Gl0) (k := 77) (N := N__law_pick) (B := Bn) (F := ["_law_take", "_law_table", "_law_joins", "_law_turns", "_law_joined", "_law_turned", "_law_filled", "_law_likes", "_law_told", "_law_is", "around_places", "_law_box", "_law_same", "_law_whole", "_law_form"]) (mu := []) (o := ⟨[(("Coverage", "__or__"), ("Coverage.__or__", false)), (("Coverage", "__and__"), ("Coverage.__and__", false)), (("Coverage", "turned"), ("Coverage.turned", false)), (("Coverage", "of_rect"), ("Coverage.of_rect", true)), (("Coverage", "__sub__"), ("Coverage.__sub__", false)), (("Coverage", "__eq__"), ("Coverage.__eq__", false)), (("Coverage", "at"), ("Coverage.at", false)), (("Coverage", "box"), ("Coverage.box", false)), (("Coverage", "__bool__"), ("Coverage.__bool__", false))], [("Coverage", "Coverage.__init__")], [], []⟩) (ps := ["pool", "rows"]) (n := 200) (body := b__law_pick) X hns M f__law_pick (fun _ _ _ _ _ _ us hl => match us, hl with | [_, _], _ => rfl) sc__law_pick cp__law_pick (by decide) (prev_up p15 (by decide)) (prevq_up q0 (by decide)) (prevm_up m9 (by decide)) (prevn_up w1 (by decide)) (k__law_pick Gl0 (by first | exact g__law_take))
  have p16 := prev_add p15 (by decide) g__law_pick n26
  have n27 : FnAt P w K mg base 79 "_law_value" 1 c__law_value := fn_step (G := Gl0) (k := 78) (N := N__law_value) (B := Bn) (F := ["_law_pick", "_law_take", "_law_table", "_law_joins", "_law_turns", "_law_joined", "_law_turned", "_law_filled", "_law_likes", "_law_told", "_law_is", "around_places", "_law_box", "_law_same", "_law_whole", "_law_form"]) (mu := []) (o := ⟨[(("Coverage", "__or__"), ("Coverage.__or__", false)), (("Coverage", "__and__"), ("Coverage.__and__", false)), (("Coverage", "turned"), ("Coverage.turned", false)), (("Coverage", "of_rect"), ("Coverage.of_rect", true)), (("Coverage", "__sub__"), ("Coverage.__sub__", false)), (("Coverage", "__eq__"), ("Coverage.__eq__", false)), (("Coverage", "at"), ("Coverage.at", false)), (("Coverage", "box"), ("Coverage.box", false)), (("Coverage", "__bool__"), ("Coverage.__bool__", false))], [("Coverage", "Coverage.__init__")], [], []⟩) (ps := ["pool"]) (n := 200) (body := b__law_value) X hns M f__law_value (fun _ _ _ _ _ _ us hl => match us, hl with | [_], _ => rfl) sc__law_value cp__law_value (by decide) (prev_up p16 (by decide)) (prevq_up q0 (by decide)) (prevm_up m9 (by decide)) (prevn_up w1 (by decide)) (k__law_value Gl0 (by first | exact g__law_take | exact g__law_pick) (by first | exact g__law_take | exact g__law_pick))
  have p17 := prev_add p16 (by decide) g__law_value n27
  have n28 : FnAt P w K mg base 80 "_law_rect" 2 c__law_rect := fn_step (G := Gl0) (k := 79) (N := N__law_rect) (B := Bn) (F := ["_law_value", "_law_pick", "_law_take", "_law_table", "_law_joins", "_law_turns", "_law_joined", "_law_turned", "_law_filled", "_law_likes", "_law_told", "_law_is", "around_places", "_law_box", "_law_same", "_law_whole", "_law_form"]) (mu := []) (o := ⟨[(("Coverage", "__or__"), ("Coverage.__or__", false)), (("Coverage", "__and__"), ("Coverage.__and__", false)), (("Coverage", "turned"), ("Coverage.turned", false)), (("Coverage", "of_rect"), ("Coverage.of_rect", true)), (("Coverage", "__sub__"), ("Coverage.__sub__", false)), (("Coverage", "__eq__"), ("Coverage.__eq__", false)), (("Coverage", "at"), ("Coverage.at", false)), (("Coverage", "box"), ("Coverage.box", false)), (("Coverage", "__bool__"), ("Coverage.__bool__", false))], [("Coverage", "Coverage.__init__")], [], []⟩) (ps := ["pool", "corner"]) (n := 200) (body := b__law_rect) X hns M f__law_rect (fun _ _ _ _ _ _ us hl => match us, hl with | [_, _], _ => rfl) sc__law_rect cp__law_rect (by decide) (prev_up p17 (by decide)) (prevq_up q0 (by decide)) (prevm_up m9 (by decide)) (prevn_up w1 (by decide)) (k__law_rect Gl0 (by first | exact g__law_take))
  have p18 := prev_add p17 (by decide) g__law_rect n28
  have n29 : FnAt P w K mg base 81 "_law_rows" 2 c__law_rows := fn_step (G := Gl0) (k := 80) (N := N__law_rows) (B := Bn) (F := ["_law_rect", "_law_value", "_law_pick", "_law_take", "_law_table", "_law_joins", "_law_turns", "_law_joined", "_law_turned", "_law_filled", "_law_likes", "_law_told", "_law_is", "around_places", "_law_box", "_law_same", "_law_whole", "_law_form"]) (mu := [(135, 11), (142, 11), (147, 12)]) (o := ⟨[(("Coverage", "__or__"), ("Coverage.__or__", false)), (("Coverage", "__and__"), ("Coverage.__and__", false)), (("Coverage", "turned"), ("Coverage.turned", false)), (("Coverage", "of_rect"), ("Coverage.of_rect", true)), (("Coverage", "__sub__"), ("Coverage.__sub__", false)), (("Coverage", "__eq__"), ("Coverage.__eq__", false)), (("Coverage", "at"), ("Coverage.at", false)), (("Coverage", "box"), ("Coverage.box", false)), (("Coverage", "__bool__"), ("Coverage.__bool__", false))], [("Coverage", "Coverage.__init__")], [], []⟩) (ps := ["pool", "corner"]) (n := 200) (body := b__law_rows) X hns M f__law_rows (fun _ _ _ _ _ _ us hl => match us, hl with | [_, _], _ => rfl) sc__law_rows cp__law_rows (by decide) (prev_up p18 (by decide)) (prevq_up q0 (by decide)) (prevm_up m9 (by decide)) (prevn_up w1 (by decide)) (k__law_rows Gl0 (by first | exact g__law_take | exact g__law_value) (by first | exact g__law_take | exact g__law_value) (fun _ _ => rfl))
  have p19 := prev_add p18 (by decide) g__law_rows n29
  have n30 : FnAt P w K mg base 82 "_law_corner" 2 c__law_corner := fn_step (G := Gl0) (k := 81) (N := N__law_corner) (B := Bn) (F := ["_law_rows", "_law_rect", "_law_value", "_law_pick", "_law_take", "_law_table", "_law_joins", "_law_turns", "_law_joined", "_law_turned", "_law_filled", "_law_likes", "_law_told", "_law_is", "around_places", "_law_box", "_law_same", "_law_whole", "_law_form"]) (mu := [(123, 11)]) (o := ⟨[(("Coverage", "__or__"), ("Coverage.__or__", false)), (("Coverage", "__and__"), ("Coverage.__and__", false)), (("Coverage", "turned"), ("Coverage.turned", false)), (("Coverage", "of_rect"), ("Coverage.of_rect", true)), (("Coverage", "__sub__"), ("Coverage.__sub__", false)), (("Coverage", "__eq__"), ("Coverage.__eq__", false)), (("Coverage", "at"), ("Coverage.at", false)), (("Coverage", "box"), ("Coverage.box", false)), (("Coverage", "__bool__"), ("Coverage.__bool__", false))], [("Coverage", "Coverage.__init__")], [], []⟩) (ps := ["script", "pool"]) (n := 200) (body := b__law_corner) X hns M f__law_corner (fun _ _ _ _ _ _ us hl => match us, hl with | [_, _], _ => rfl) sc__law_corner cp__law_corner (by decide) (prev_up p19 (by decide)) (prevq_up q0 (by decide)) (prevm_up m9 (by decide)) (prevn_up w1 (by decide)) (k__law_corner Gl0 (by first | exact g__law_take))
  have p20 := prev_add p19 (by decide) g__law_corner n30
  have n31 : FnAt P w K mg base 83 "_law_draws" 3 c__law_draws := fn_step (G := Gl0) (k := 82) (N := N__law_draws) (B := Bn) (F := ["_law_corner", "_law_rows", "_law_rect", "_law_value", "_law_pick", "_law_take", "_law_table", "_law_joins", "_law_turns", "_law_joined", "_law_turned", "_law_filled", "_law_likes", "_law_told", "_law_is", "around_places", "_law_box", "_law_same", "_law_whole", "_law_form"]) (mu := [(81, 11)]) (o := ⟨[(("Coverage", "__or__"), ("Coverage.__or__", false)), (("Coverage", "__and__"), ("Coverage.__and__", false)), (("Coverage", "turned"), ("Coverage.turned", false)), (("Coverage", "of_rect"), ("Coverage.of_rect", true)), (("Coverage", "__sub__"), ("Coverage.__sub__", false)), (("Coverage", "__eq__"), ("Coverage.__eq__", false)), (("Coverage", "at"), ("Coverage.at", false)), (("Coverage", "box"), ("Coverage.box", false)), (("Coverage", "__bool__"), ("Coverage.__bool__", false))], [("Coverage", "Coverage.__init__")], [], []⟩) (ps := ["script", "at", "count"]) (n := 200) (body := b__law_draws) X hns M f__law_draws (fun _ _ _ _ _ _ us hl => match us, hl with | [_, _, _], _ => rfl) sc__law_draws cp__law_draws (by decide) (prev_up p20 (by decide)) (prevq_up q0 (by decide)) (prevm_up m9 (by decide)) (prevn_up w1 (by decide)) (k__law_draws Gl0)
  have p21 := prev_add p20 (by decide) g__law_draws n31
  have n32 : FnAt P w K mg base 84 "_law_pool" 3 c__law_pool := fn_step (G := Gl0) (k := 83) (N := N__law_pool) (B := Bn) (F := ["_law_draws", "_law_corner", "_law_rows", "_law_rect", "_law_value", "_law_pick", "_law_take", "_law_table", "_law_joins", "_law_turns", "_law_joined", "_law_turned", "_law_filled", "_law_likes", "_law_told", "_law_is", "around_places", "_law_box", "_law_same", "_law_whole", "_law_form"]) (mu := [(98, 11)]) (o := ⟨[(("Coverage", "__or__"), ("Coverage.__or__", false)), (("Coverage", "__and__"), ("Coverage.__and__", false)), (("Coverage", "turned"), ("Coverage.turned", false)), (("Coverage", "of_rect"), ("Coverage.of_rect", true)), (("Coverage", "__sub__"), ("Coverage.__sub__", false)), (("Coverage", "__eq__"), ("Coverage.__eq__", false)), (("Coverage", "at"), ("Coverage.at", false)), (("Coverage", "box"), ("Coverage.box", false)), (("Coverage", "__bool__"), ("Coverage.__bool__", false))], [("Coverage", "Coverage.__init__")], [], []⟩) (ps := ["script", "cells", "count"]) (n := 200) (body := b__law_pool) X hns M f__law_pool (fun _ _ _ _ _ _ us hl => match us, hl with | [_, _, _], _ => rfl) sc__law_pool cp__law_pool (by decide) (prev_up p21 (by decide)) (prevq_up q0 (by decide)) (prevm_up m9 (by decide)) (prevn_up w1 (by decide)) (k__law_pool Gl0 (by first | exact g__law_draws))
  have p22 := prev_add p21 (by decide) g__law_pool n32
  exact ⟨prev_up p22 (by decide), prevq_up q0 (by decide), prevm_up m9 (by decide), prevn_up w1 (by decide)⟩
theorem bl_of {K : PySem.W.Frag} {mg : Str → Option Value} {h : Heap} (X : K.In h) (hns : h.Ns mainGlobals mg) (z0 : PySem.W.nsIn K mainGlobals "abs" = some none) (z1 : PySem.W.nsIn K mainGlobals "bool" = some none) (z2 : PySem.W.nsIn K mainGlobals "classmethod" = some none) (z3 : PySem.W.nsIn K mainGlobals "int" = some none) (z4 : PySem.W.nsIn K mainGlobals "isinstance" = some none) (z5 : PySem.W.nsIn K mainGlobals "len" = some none) (z6 : PySem.W.nsIn K mainGlobals "list" = some none) (z7 : PySem.W.nsIn K mainGlobals "max" = some none) (z8 : PySem.W.nsIn K mainGlobals "min" = some none) (z9 : PySem.W.nsIn K mainGlobals "range" = some none) (z10 : PySem.W.nsIn K mainGlobals "reversed" = some none) (z11 : PySem.W.nsIn K mainGlobals "sorted" = some none) (z12 : PySem.W.nsIn K mainGlobals "tuple" = some none) : ∀ x, Bn.contains x = true → BlF mg x := by
  intro x hx
  have hx : x ∈ Bn := by simpa using hx
  simp only [Bn, List.mem_cons, List.not_mem_nil, or_false] at hx
  rcases hx with rfl | rfl | rfl | rfl | rfl | rfl | rfl | rfl | rfl | rfl | rfl | rfl | rfl
  · exact ⟨fun _ => PySem.W.mg_none_of X hns z0, fun h => absurd h (by decide)⟩
  · exact ⟨fun _ => PySem.W.mg_none_of X hns z1, fun h => absurd h (by decide)⟩
  · exact ⟨fun _ => PySem.W.mg_none_of X hns z2, fun h => absurd h (by decide)⟩
  · exact ⟨fun _ => PySem.W.mg_none_of X hns z3, fun h => absurd h (by decide)⟩
  · exact ⟨fun _ => PySem.W.mg_none_of X hns z4, fun h => absurd h (by decide)⟩
  · exact ⟨fun _ => PySem.W.mg_none_of X hns z5, fun h => absurd h (by decide)⟩
  · exact ⟨fun _ => PySem.W.mg_none_of X hns z6, fun h => absurd h (by decide)⟩
  · exact ⟨fun _ => PySem.W.mg_none_of X hns z7, fun h => absurd h (by decide)⟩
  · exact ⟨fun _ => PySem.W.mg_none_of X hns z8, fun h => absurd h (by decide)⟩
  · exact ⟨fun _ => PySem.W.mg_none_of X hns z9, fun h => absurd h (by decide)⟩
  · exact ⟨fun _ => PySem.W.mg_none_of X hns z10, fun h => absurd h (by decide)⟩
  · exact ⟨fun _ => PySem.W.mg_none_of X hns z11, fun h => absurd h (by decide)⟩
  · exact ⟨fun _ => PySem.W.mg_none_of X hns z12, fun h => absurd h (by decide)⟩
theorem finish {P : Program} {w : World} {K : PySem.W.Frag} {mg : Str → Option Value} {h : Heap} {fa : Addr} (ht : P.given.tree = none) (hwt : WtOk K wtf)  {v0 : Value} (nm0 : NamK K "Coverage" v0)  (ob0 : ObF K "Coverage" ["spots", "_table"]) (X : K.In h) (hns : h.Ns mainGlobals mg) (hmg : mg "law" = some (.ref fa)) (f_Coverage___bool__ : MtK K "Coverage" "__bool__" "Coverage.__bool__" s_Coverage___bool__) (f__law_form : FnK K "_law_form" s__law_form) (f__law_whole : FnK K "_law_whole" s__law_whole) (f__law_same : FnK K "_law_same" s__law_same) (f__law_box : FnK K "_law_box" s__law_box) (f_around_places : FnK K "around_places" s_around_places) (f_Coverage_box : MtK K "Coverage" "box" "Coverage.box" s_Coverage_box) (f_Coverage_at : MtK K "Coverage" "at" "Coverage.at" s_Coverage_at) (f__law_is : FnK K "_law_is" s__law_is) (f__law_told : FnK K "_law_told" s__law_told) (f_Coverage___eq__ : MtK K "Coverage" "__eq__" "Coverage.__eq__" s_Coverage___eq__) (f_Coverage___init__ : NwK K "Coverage" "Coverage.__init__" s_Coverage___init__) (f__law_likes : FnK K "_law_likes" s__law_likes) (f_Coverage___sub__ : MtK K "Coverage" "__sub__" "Coverage.__sub__" s_Coverage___sub__) (f_Coverage_of_rect : CmK K "Coverage" "of_rect" "Coverage.of_rect" s_Coverage_of_rect) (f_Coverage_turned : MtK K "Coverage" "turned" "Coverage.turned" s_Coverage_turned) (f_Coverage___and__ : MtK K "Coverage" "__and__" "Coverage.__and__" s_Coverage___and__) (f_Coverage___or__ : MtK K "Coverage" "__or__" "Coverage.__or__" s_Coverage___or__) (f__law_filled : FnK K "_law_filled" s__law_filled) (f__law_turned : FnK K "_law_turned" s__law_turned) (f__law_joined : FnK K "_law_joined" s__law_joined) (f__law_turns : FnK K "_law_turns" s__law_turns) (f__law_joins : FnK K "_law_joins" s__law_joins) (f__law_table : FnK K "_law_table" s__law_table) (f__law_take : FnK K "_law_take" s__law_take) (f__law_pick : FnK K "_law_pick" s__law_pick) (f__law_value : FnK K "_law_value" s__law_value) (f__law_rect : FnK K "_law_rect" s__law_rect) (f__law_rows : FnK K "_law_rows" s__law_rows) (f__law_corner : FnK K "_law_corner" s__law_corner) (f__law_draws : FnK K "_law_draws" s__law_draws) (f__law_pool : FnK K "_law_pool" s__law_pool) (f_law : FnK K "law" s_law) (z0 : PySem.W.nsIn K mainGlobals "abs" = some none) (z1 : PySem.W.nsIn K mainGlobals "bool" = some none) (z2 : PySem.W.nsIn K mainGlobals "classmethod" = some none) (z3 : PySem.W.nsIn K mainGlobals "int" = some none) (z4 : PySem.W.nsIn K mainGlobals "isinstance" = some none) (z5 : PySem.W.nsIn K mainGlobals "len" = some none) (z6 : PySem.W.nsIn K mainGlobals "list" = some none) (z7 : PySem.W.nsIn K mainGlobals "max" = some none) (z8 : PySem.W.nsIn K mainGlobals "min" = some none) (z9 : PySem.W.nsIn K mainGlobals "range" = some none) (z10 : PySem.W.nsIn K mainGlobals "reversed" = some none) (z11 : PySem.W.nsIn K mainGlobals "sorted" = some none) (z12 : PySem.W.nsIn K mainGlobals "tuple" = some none) : ∃ fd : FuncData, (∀ (s : Shared) (u : Value), BindsTo s fd ⟨[u], []⟩ [("script", u)]) ∧ ∀ base : Heap, K.In base → base.Ns mainGlobals mg → base.NoSeer → FnOk P w K mg base (L2.CX P w) 85 fa fd ["script"] (Cl K 1 lawC) :=
  law_fin (G := Gl0) (N := N_law) (B := Bn) (mu := [(261, 11), (271, 13)]) (o := ⟨[(("Coverage", "__or__"), ("Coverage.__or__", false)), (("Coverage", "__and__"), ("Coverage.__and__", false)), (("Coverage", "turned"), ("Coverage.turned", false)), (("Coverage", "of_rect"), ("Coverage.of_rect", true)), (("Coverage", "__sub__"), ("Coverage.__sub__", false)), (("Coverage", "__eq__"), ("Coverage.__eq__", false)), (("Coverage", "at"), ("Coverage.at", false)), (("Coverage", "box"), ("Coverage.box", false)), (("Coverage", "__bool__"), ("Coverage.__bool__", false))], [("Coverage", "Coverage.__init__")], [], []⟩) (n := 200) (body := b_law) X hns hmg f_law (fun _ _ _ _ _ _ _ => rfl) sc_law cp_law (by decide) (k_law Gl0 (by first | exact g__law_told | exact g__law_likes | exact g__law_turns | exact g__law_joins | exact g__law_is | exact g__law_filled | exact g_Coverage_of_rect | exact g_Coverage___init__ | exact g__law_table | exact g__law_value | exact g__law_rect | exact g__law_take | exact g__law_rows | exact g__law_corner | exact g__law_pool) (by first | exact g__law_told | exact g__law_likes | exact g__law_turns | exact g__law_joins | exact g__law_is | exact g__law_filled | exact g_Coverage_of_rect | exact g_Coverage___init__ | exact g__law_table | exact g__law_value | exact g__law_rect | exact g__law_take | exact g__law_rows | exact g__law_corner | exact g__law_pool) (by first | exact g__law_told | exact g__law_likes | exact g__law_turns | exact g__law_joins | exact g__law_is | exact g__law_filled | exact g_Coverage_of_rect | exact g_Coverage___init__ | exact g__law_table | exact g__law_value | exact g__law_rect | exact g__law_take | exact g__law_rows | exact g__law_corner | exact g__law_pool) (by first | exact g__law_told | exact g__law_likes | exact g__law_turns | exact g__law_joins | exact g__law_is | exact g__law_filled | exact g_Coverage_of_rect | exact g_Coverage___init__ | exact g__law_table | exact g__law_value | exact g__law_rect | exact g__law_take | exact g__law_rows | exact g__law_corner | exact g__law_pool) (by first | exact g__law_told | exact g__law_likes | exact g__law_turns | exact g__law_joins | exact g__law_is | exact g__law_filled | exact g_Coverage_of_rect | exact g_Coverage___init__ | exact g__law_table | exact g__law_value | exact g__law_rect | exact g__law_take | exact g__law_rows | exact g__law_corner | exact g__law_pool) (by first | exact g__law_told | exact g__law_likes | exact g__law_turns | exact g__law_joins | exact g__law_is | exact g__law_filled | exact g_Coverage_of_rect | exact g_Coverage___init__ | exact g__law_table | exact g__law_value | exact g__law_rect | exact g__law_take | exact g__law_rows | exact g__law_corner | exact g__law_pool) (by first | exact g__law_told | exact g__law_likes | exact g__law_turns | exact g__law_joins | exact g__law_is | exact g__law_filled | exact g_Coverage_of_rect | exact g_Coverage___init__ | exact g__law_table | exact g__law_value | exact g__law_rect | exact g__law_take | exact g__law_rows | exact g__law_corner | exact g__law_pool) (by first | exact g__law_told | exact g__law_likes | exact g__law_turns | exact g__law_joins | exact g__law_is | exact g__law_filled | exact g_Coverage_of_rect | exact g_Coverage___init__ | exact g__law_table | exact g__law_value | exact g__law_rect | exact g__law_take | exact g__law_rows | exact g__law_corner | exact g__law_pool) (by first | exact g__law_told | exact g__law_likes | exact g__law_turns | exact g__law_joins | exact g__law_is | exact g__law_filled | exact g_Coverage_of_rect | exact g_Coverage___init__ | exact g__law_table | exact g__law_value | exact g__law_rect | exact g__law_take | exact g__law_rows | exact g__law_corner | exact g__law_pool) (by first | exact g__law_told | exact g__law_likes | exact g__law_turns | exact g__law_joins | exact g__law_is | exact g__law_filled | exact g_Coverage_of_rect | exact g_Coverage___init__ | exact g__law_table | exact g__law_value | exact g__law_rect | exact g__law_take | exact g__law_rows | exact g__law_corner | exact g__law_pool) (by first | exact g__law_told | exact g__law_likes | exact g__law_turns | exact g__law_joins | exact g__law_is | exact g__law_filled | exact g_Coverage_of_rect | exact g_Coverage___init__ | exact g__law_table | exact g__law_value | exact g__law_rect | exact g__law_take | exact g__law_rows | exact g__law_corner | exact g__law_pool) (by first | exact g__law_told | exact g__law_likes | exact g__law_turns | exact g__law_joins | exact g__law_is | exact g__law_filled | exact g_Coverage_of_rect | exact g_Coverage___init__ | exact g__law_table | exact g__law_value | exact g__law_rect | exact g__law_take | exact g__law_rows | exact g__law_corner | exact g__law_pool) (by first | exact g__law_told | exact g__law_likes | exact g__law_turns | exact g__law_joins | exact g__law_is | exact g__law_filled | exact g_Coverage_of_rect | exact g_Coverage___init__ | exact g__law_table | exact g__law_value | exact g__law_rect | exact g__law_take | exact g__law_rows | exact g__law_corner | exact g__law_pool) (by first | exact g__law_told | exact g__law_likes | exact g__law_turns | exact g__law_joins | exact g__law_is | exact g__law_filled | exact g_Coverage_of_rect | exact g_Coverage___init__ | exact g__law_table | exact g__law_value | exact g__law_rect | exact g__law_take | exact g__law_rows | exact g__law_corner | exact g__law_pool) (by first | exact g__law_told | exact g__law_likes | exact g__law_turns | exact g__law_joins | exact g__law_is | exact g__law_filled | exact g_Coverage_of_rect | exact g_Coverage___init__ | exact g__law_table | exact g__law_value | exact g__law_rect | exact g__law_take | exact g__law_rows | exact g__law_corner | exact g__law_pool)) fun base hX hN hS =>
    have M : Mo P w K mg base Bn gvs pCn pRn clf obf wtf := mo_mk (ct := ctab) (ot := otab) hX hN hS ht (bl_of hX hN z0 z1 z2 z3 z4 z5 z6 z7 z8 z9 z10 z11 z12) gvs_nil (naml_cons nm0 naml_nil) clhs_nil (obs_cons ob0 obs_nil) hwt
    have A := all_fn hX hN M f_Coverage___bool__ f__law_form f__law_whole f__law_same f__law_box f_around_places f_Coverage_box f_Coverage_at f__law_is f__law_told f_Coverage___eq__ f_Coverage___init__ f__law_likes f_Coverage___sub__ f_Coverage_of_rect f_Coverage_turned f_Coverage___and__ f_Coverage___or__ f__law_filled f__law_turned f__law_joined f__law_turns f__law_joins f__law_table f__law_take f__law_pick f__law_value f__law_rect f__law_rows f__law_corner f__law_draws f__law_pool
    ⟨M, A.1, A.2.1, A.2.2.1, A.2.2.2⟩
end DL
section
open PySem PySem.W PyProof.Rows L2
set_option maxRecDepth 100000 in
set_option maxHeartbeats 0 in
theorem PySem.Challenge.cw_easelwork_k08_coverage_lattice_holds : PySem.Challenge.rw_easelwork_k08_coverage_lattice.Holds := by
  w_on; o_law; k_head; (case hw => w_witness2)
  k_fill
  refine DL.law_end (l := PySem.Challenge.rw_easelwork_k08_coverage_lattice) (k := 85) (x := "script") rfl (by decide +kernel) rfl ⟨rfl, by decide, by decide⟩ (fun w h Y => PySem.W.kIn_of Y) ?F
  case F =>
    intro w mg fa h KX GX hmg
    have f_Coverage___bool__ := by
      refine' DL.mtk_mk (cn := "Coverage") (m := "__bool__") (q := "Coverage.__bool__") (st := DL.s_Coverage___bool__) KX ?aC ?pg ?hd ?po ?sa ?a ?i ?k ?l ?c
      (case aC => k_is); (case pg => k_is); (case hd => k_is); (case po => k_is); (case sa => k_is); (case a => k_is); (case i => k_is); (case k => k_is); (case l => k_is); (case c => k_is)
    have f__law_form := by
      refine' DL.fnk_mk (x := "_law_form") (st := DL.s__law_form) KX ?a ?l ?c ?k
      (case a => k_is); (case l => k_is); (case c => k_is); (case k => k_is)
    have f__law_whole := by
      refine' DL.fnk_mk (x := "_law_whole") (st := DL.s__law_whole) KX ?a ?l ?c ?k
      (case a => k_is); (case l => k_is); (case c => k_is); (case k => k_is)
    have f__law_same := by
      refine' DL.fnk_mk (x := "_law_same") (st := DL.s__law_same) KX ?a ?l ?c ?k
      (case a => k_is); (case l => k_is); (case c => k_is); (case k => k_is)
    have f__law_box := by
      refine' DL.fnk_mk (x := "_law_box") (st := DL.s__law_box) KX ?a ?l ?c ?k
      (case a => k_is); (case l => k_is); (case c => k_is); (case k => k_is)
    have f_around_places := by
      refine' DL.fnk_mk (x := "around_places") (st := DL.s_around_places) KX ?a ?l ?c ?k
      (case a => k_is); (case l => k_is); (case c => k_is); (case k => k_is)
    have f_Coverage_box := by
      refine' DL.mtk_mk (cn := "Coverage") (m := "box") (q := "Coverage.box") (st := DL.s_Coverage_box) KX ?aC ?pg ?hd ?po ?sa ?a ?i ?k ?l ?c
      (case aC => k_is); (case pg => k_is); (case hd => k_is); (case po => k_is); (case sa => k_is); (case a => k_is); (case i => k_is); (case k => k_is); (case l => k_is); (case c => k_is)
    have f_Coverage_at := by
      refine' DL.mtk_mk (cn := "Coverage") (m := "at") (q := "Coverage.at") (st := DL.s_Coverage_at) KX ?aC ?pg ?hd ?po ?sa ?a ?i ?k ?l ?c
      (case aC => k_is); (case pg => k_is); (case hd => k_is); (case po => k_is); (case sa => k_is); (case a => k_is); (case i => k_is); (case k => k_is); (case l => k_is); (case c => k_is)
    have f__law_is := by
      refine' DL.fnk_mk (x := "_law_is") (st := DL.s__law_is) KX ?a ?l ?c ?k
      (case a => k_is); (case l => k_is); (case c => k_is); (case k => k_is)
    have f__law_told := by
      refine' DL.fnk_mk (x := "_law_told") (st := DL.s__law_told) KX ?a ?l ?c ?k
      (case a => k_is); (case l => k_is); (case c => k_is); (case k => k_is)
    have f_Coverage___eq__ := by
      refine' DL.mtk_mk (cn := "Coverage") (m := "__eq__") (q := "Coverage.__eq__") (st := DL.s_Coverage___eq__) KX ?aC ?pg ?hd ?po ?sa ?a ?i ?k ?l ?c
      (case aC => k_is); (case pg => k_is); (case hd => k_is); (case po => k_is); (case sa => k_is); (case a => k_is); (case i => k_is); (case k => k_is); (case l => k_is); (case c => k_is)
    have f_Coverage___init__ := by
      refine' DL.nwk_mk (cn := "Coverage") (q := "Coverage.__init__") (st := DL.s_Coverage___init__) KX ?aC ?mk ?kc ?a ?i ?k ?l ?c
      (case aC => k_is); (case mk => k_is); (case kc => k_is); (case a => k_is); (case i => k_is); (case k => k_is); (case l => k_is); (case c => k_is)
    have f__law_likes := by
      refine' DL.fnk_mk (x := "_law_likes") (st := DL.s__law_likes) KX ?a ?l ?c ?k
      (case a => k_is); (case l => k_is); (case c => k_is); (case k => k_is)
    have f_Coverage___sub__ := by
      refine' DL.mtk_mk (cn := "Coverage") (m := "__sub__") (q := "Coverage.__sub__") (st := DL.s_Coverage___sub__) KX ?aC ?pg ?hd ?po ?sa ?a ?i ?k ?l ?c
      (case aC => k_is); (case pg => k_is); (case hd => k_is); (case po => k_is); (case sa => k_is); (case a => k_is); (case i => k_is); (case k => k_is); (case l => k_is); (case c => k_is)
    have f_Coverage_of_rect := by
      refine' DL.cmk_mk (cn := "Coverage") (m := "of_rect") (q := "Coverage.of_rect") (st := DL.s_Coverage_of_rect) KX ?aC ?ga ?ty ?rd ?a ?i ?rc ?k ?l ?c
      (case aC => k_is); (case ga => k_is); (case ty => k_is); (case rd => k_is); (case a => k_is); (case rc => k_is); (case i => k_is); (case k => k_is); (case l => k_is); (case c => k_is)
    have f_Coverage_turned := by
      refine' DL.mtk_mk (cn := "Coverage") (m := "turned") (q := "Coverage.turned") (st := DL.s_Coverage_turned) KX ?aC ?pg ?hd ?po ?sa ?a ?i ?k ?l ?c
      (case aC => k_is); (case pg => k_is); (case hd => k_is); (case po => k_is); (case sa => k_is); (case a => k_is); (case i => k_is); (case k => k_is); (case l => k_is); (case c => k_is)
    have f_Coverage___and__ := by
      refine' DL.mtk_mk (cn := "Coverage") (m := "__and__") (q := "Coverage.__and__") (st := DL.s_Coverage___and__) KX ?aC ?pg ?hd ?po ?sa ?a ?i ?k ?l ?c
      (case aC => k_is); (case pg => k_is); (case hd => k_is); (case po => k_is); (case sa => k_is); (case a => k_is); (case i => k_is); (case k => k_is); (case l => k_is); (case c => k_is)
    have f_Coverage___or__ := by
      refine' DL.mtk_mk (cn := "Coverage") (m := "__or__") (q := "Coverage.__or__") (st := DL.s_Coverage___or__) KX ?aC ?pg ?hd ?po ?sa ?a ?i ?k ?l ?c
      (case aC => k_is); (case pg => k_is); (case hd => k_is); (case po => k_is); (case sa => k_is); (case a => k_is); (case i => k_is); (case k => k_is); (case l => k_is); (case c => k_is)
    have f__law_filled := by
      refine' DL.fnk_mk (x := "_law_filled") (st := DL.s__law_filled) KX ?a ?l ?c ?k
      (case a => k_is); (case l => k_is); (case c => k_is); (case k => k_is)
    have f__law_turned := by
      refine' DL.fnk_mk (x := "_law_turned") (st := DL.s__law_turned) KX ?a ?l ?c ?k
      (case a => k_is); (case l => k_is); (case c => k_is); (case k => k_is)
    have f__law_joined := by
      refine' DL.fnk_mk (x := "_law_joined") (st := DL.s__law_joined) KX ?a ?l ?c ?k
      (case a => k_is); (case l => k_is); (case c => k_is); (case k => k_is)
    have f__law_turns := by
      refine' DL.fnk_mk (x := "_law_turns") (st := DL.s__law_turns) KX ?a ?l ?c ?k
      (case a => k_is); (case l => k_is); (case c => k_is); (case k => k_is)
    have f__law_joins := by
      refine' DL.fnk_mk (x := "_law_joins") (st := DL.s__law_joins) KX ?a ?l ?c ?k
      (case a => k_is); (case l => k_is); (case c => k_is); (case k => k_is)
    have f__law_table := by
      refine' DL.fnk_mk (x := "_law_table") (st := DL.s__law_table) KX ?a ?l ?c ?k
      (case a => k_is); (case l => k_is); (case c => k_is); (case k => k_is)
    have f__law_take := by
      refine' DL.fnk_mk (x := "_law_take") (st := DL.s__law_take) KX ?a ?l ?c ?k
      (case a => k_is); (case l => k_is); (case c => k_is); (case k => k_is)
    have f__law_pick := by
      refine' DL.fnk_mk (x := "_law_pick") (st := DL.s__law_pick) KX ?a ?l ?c ?k
      (case a => k_is); (case l => k_is); (case c => k_is); (case k => k_is)
    have f__law_value := by
      refine' DL.fnk_mk (x := "_law_value") (st := DL.s__law_value) KX ?a ?l ?c ?k
      (case a => k_is); (case l => k_is); (case c => k_is); (case k => k_is)
    have f__law_rect := by
      refine' DL.fnk_mk (x := "_law_rect") (st := DL.s__law_rect) KX ?a ?l ?c ?k
      (case a => k_is); (case l => k_is); (case c => k_is); (case k => k_is)
    have f__law_rows := by
      refine' DL.fnk_mk (x := "_law_rows") (st := DL.s__law_rows) KX ?a ?l ?c ?k
      (case a => k_is); (case l => k_is); (case c => k_is); (case k => k_is)
    have f__law_corner := by
      refine' DL.fnk_mk (x := "_law_corner") (st := DL.s__law_corner) KX ?a ?l ?c ?k
      (case a => k_is); (case l => k_is); (case c => k_is); (case k => k_is)
    have f__law_draws := by
      refine' DL.fnk_mk (x := "_law_draws") (st := DL.s__law_draws) KX ?a ?l ?c ?k
      (case a => k_is); (case l => k_is); (case c => k_is); (case k => k_is)
    have f__law_pool := by
      refine' DL.fnk_mk (x := "_law_pool") (st := DL.s__law_pool) KX ?a ?l ?c ?k
      (case a => k_is); (case l => k_is); (case c => k_is); (case k => k_is)
    have f_law := by
      refine' DL.fnk_mk (x := "law") (st := DL.s_law) KX ?a ?l ?c ?k
      (case a => k_is); (case l => k_is); (case c => k_is); (case k => k_is)
    have ob0 := by
      refine' DL.obk_mk (cn := "Coverage") (fs := ["spots", "_table"]) KX ?aC ?pg ?hd ?po ?sa ⟨?n0, ?n1, trivial⟩ ?i5 ?i1 ?i2 ?i3 ?i4 ?i6 ?i7
      (case aC => k_is); (case pg => k_is); (case hd => k_is); (case po => k_is); (case sa => k_is); (case i5 => k_is); (case i1 => k_is); (case i2 => k_is); (case i3 => k_is); (case i4 => k_is); (case i6 => kernel_rfl); (case i7 => kernel_rfl); (case n0 => k_is); (case n1 => k_is)
    have z0 := DL.nsk KX (x := "abs") (by k_is)
    have z1 := DL.nsk KX (x := "bool") (by k_is)
    have z2 := DL.nsk KX (x := "classmethod") (by k_is)
    have z3 := DL.nsk KX (x := "int") (by k_is)
    have z4 := DL.nsk KX (x := "isinstance") (by k_is)
    have z5 := DL.nsk KX (x := "len") (by k_is)
    have z6 := DL.nsk KX (x := "list") (by k_is)
    have z7 := DL.nsk KX (x := "max") (by k_is)
    have z8 := DL.nsk KX (x := "min") (by k_is)
    have z9 := DL.nsk KX (x := "range") (by k_is)
    have z10 := DL.nsk KX (x := "reversed") (by k_is)
    have z11 := DL.nsk KX (x := "sorted") (by k_is)
    have z12 := DL.nsk KX (x := "tuple") (by k_is)
    have nm0 := by
      refine' DL.namk_own (c := "Coverage") KX ?a ?d
      (case a => k_is); (case d => decide)
    exact DL.finish rfl (by exact DL.wt_pair (by kernel_rfl)) nm0 ob0 KX GX hmg f_Coverage___bool__ f__law_form f__law_whole f__law_same f__law_box f_around_places f_Coverage_box f_Coverage_at f__law_is f__law_told f_Coverage___eq__ f_Coverage___init__ f__law_likes f_Coverage___sub__ f_Coverage_of_rect f_Coverage_turned f_Coverage___and__ f_Coverage___or__ f__law_filled f__law_turned f__law_joined f__law_turns f__law_joins f__law_table f__law_take f__law_pick f__law_value f__law_rect f__law_rows f__law_corner f__law_draws f__law_pool f_law z0 z1 z2 z3 z4 z5 z6 z7 z8 z9 z10 z11 z12
end
